import PyProof.Rows.All
import Wide.All
import OpenK.AllK
import Wide.FinOn
import OpenK.XSeg
import HandS.GenList
import KE.KSuper
import HandS.ForMost
import HandS.Property
import HandS.Defaults
import HandS.MakeKw
import HandS.ClsMeth
import PyProof.GenRules
import PyProof.ForAny
import PyProof.ZipIter
import HandS.RepeatKit
import HandS.GenOver
import HandS.Style
import HandS.IsInst
import HandS.Wide
import HandS.MakeKwOnly
import KE.GoesMore
import PyProof.MaxThree
import HandS.DictComp
import PyProof.InstNe
import HandS.SlotsOwn
import HandS.OwnEq
import KE.KExcInit
import KE.KTryMore
import KE.KIsAll
import HandS.ExcInit
import HandS.ExcIs
import HandS.ExcField
import HandS.CallSlots
import HandS.WordsExc
import PyProof.ReprRoads
import PyProof.FitsInt
import PyProof.Rows.RegStrFacts
import HandS.SortInts
import HandS.Conv
import KE.KStateDown
import HandS.HeadHook1
import HandS.HeadHook2
import HandS.Head0
import HandS.Head1
import HandS.Head2
import HandS.Ends
import PySem.Challenge.RW_triplefree_k22_whole_shifted_sequences
/-! ## TfGens -/
set_option Elab.async false
set_option linter.all false
set_option maxRecDepth 100000
set_option maxHeartbeats 4000000
/-! A run that cannot wake a sleeping generator leaves its entry as it is. -/
namespace Tf
open PySem
open PyProof.Rows (AllBare)
open Sem (wp)

/-- a wake-up that leads nowhere -/
def nowhere : Resume → Sem Fin := fun _ => .unsupported "asleep"
def lull : GenState → GenState
  | .suspended _ l c p fs cl => .suspended nowhere l c p fs cl
  | .fresh c => .fresh c
  | .running => .running
  | .finished => .finished
/-- x is y, or y put to sleep -/
def Twin (x y : GenState) : Prop :=
  (x = y ∧ ∀ k l c p fs cl, y = .suspended k l c p fs cl → splitAtGen fs = none) ∨
    ∃ k l c p fs cl, y = .suspended k l c p fs cl ∧ x = .suspended nowhere l c p fs cl
structure Twins (a G : Array GenState) : Prop where
  size : G.size = a.size
  each : ∀ (i : Nat) (x y : GenState), a[i]? = some x → G[i]? = some y → Twin x y
def Lulled (x : GenState) : Prop := ∃ l c p fs cl, x = .suspended nowhere l c p fs cl
/-- the entries that sleep in a are left alone -/
def Left (a G a' G' : Array GenState) : Prop := ∀ (i : Nat) (x : GenState), a[i]? = some x → Lulled x → a'[i]? = a[i]? ∧ G'[i]? = G[i]?

theorem Left.refl (a G : Array GenState) : Left a G a G := fun _ _ _ _ => ⟨rfl, rfl⟩
theorem Left.trans {a G a1 G1 a2 G2 : Array GenState} (x : Left a G a1 G1) (y : Left a1 G1 a2 G2) : Left a G a2 G2 := fun i z hz hl => by
  obtain ⟨h1, h2⟩ := x i z hz hl
  obtain ⟨h3, h4⟩ := y i z (h1.trans hz) hl
  exact ⟨h3.trans h1, h4.trans h2⟩
theorem Twin.seen {x y : GenState} (h : Twin x y) : x.seen = y.seen := by
  rcases h with ⟨rfl, _⟩ | ⟨k, l, c, p, fs, cl, rfl, rfl⟩ <;> rfl
theorem Twin.bare {x y : GenState} (h : Twin x y) : x.bare = y.bare := by
  rcases h with ⟨rfl, _⟩ | ⟨k, l, c, p, fs, cl, rfl, rfl⟩ <;> rfl
theorem Twins.there {a G : Array GenState} (t : Twins a G) {i : Nat} {x : GenState} (h : a[i]? = some x) : ∃ y, G[i]? = some y ∧ Twin x y := by
  have hi : i < a.size := (Array.getElem?_eq_some_iff.mp h).1
  have hi' : i < G.size := by rw [t.size]; exact hi
  exact ⟨G[i], Array.getElem?_eq_getElem hi', t.each i x _ h (Array.getElem?_eq_getElem hi')⟩
theorem Twins.put {a G : Array GenState} (t : Twins a G) (g : Nat) {x y : GenState} (h : Twin x y) : Twins (a.setIfInBounds g x) (G.setIfInBounds g y) where
  size := by simp [t.size]
  each := fun i u v hu hv => by
    by_cases e : g = i
    · subst e
      have hi : g < a.size := by have := (Array.getElem?_eq_some_iff.mp hu).1; simpa using this
      have hi' : g < G.size := by rw [t.size]; exact hi
      rw [Array.getElem?_setIfInBounds_self_of_lt hi] at hu
      rw [Array.getElem?_setIfInBounds_self_of_lt hi'] at hv
      cases hu; cases hv
      exact h
    · rw [Array.getElem?_setIfInBounds_ne e] at hu hv
      exact t.each i u v hu hv
theorem Twins.push {a G : Array GenState} (t : Twins a G) (c : Code) : Twins (a.push (.fresh c)) (G.push (.fresh c)) where
  size := by simp [t.size]
  each := fun i u v hu hv => by
    rw [Array.getElem?_push] at hu hv
    rw [t.size] at hv
    split at hu
    · rename_i e
      rw [if_pos e] at hv
      cases hu; cases hv
      exact .inl ⟨rfl, fun _ _ _ _ _ _ z => nomatch z⟩
    · rename_i e
      rw [if_neg e] at hv
      exact t.each i u v hu hv
theorem Left.put {a G : Array GenState} {g : Nat} {x y z : GenState} (h : a[g]? = some z) (hz : ¬ Lulled z) : Left a G (a.setIfInBounds g x) (G.setIfInBounds g y) := fun i u hu hl => by
  have e : g ≠ i := fun e => by subst e; rw [h] at hu; cases hu; exact hz hl
  rw [Array.getElem?_setIfInBounds_ne e, Array.getElem?_setIfInBounds_ne e]
  exact ⟨rfl, rfl⟩
theorem Left.push {a G : Array GenState} (t : Twins a G) (c : Code) : Left a G (a.push (.fresh c)) (G.push (.fresh c)) := fun i u hu hl => by
  have hi : i < a.size := (Array.getElem?_eq_some_iff.mp hu).1
  have e : i ≠ a.size := Nat.ne_of_lt hi
  rw [Array.getElem?_push, Array.getElem?_push, if_neg e, if_neg (by rw [t.size]; exact e)]
  exact ⟨rfl, rfl⟩

theorem Left.wake {a G a1 G1 a2 G2 : Array GenState} {g : Nat} {x y u v z : GenState} (h : a[g]? = some z) (hz : ¬ Lulled z)
    (L1 : Left (a.setIfInBounds g x) (G.setIfInBounds g y) a1 G1) (L2 : Left (a1.setIfInBounds g u) (G1.setIfInBounds g v) a2 G2) : Left a G a2 G2 := fun i w hw hl => by
  have e : g ≠ i := fun e => by subst e; rw [h] at hw; cases hw; exact hz hl
  obtain ⟨h1, h2⟩ := L1 i w (by rw [Array.getElem?_setIfInBounds_ne e]; exact hw) hl
  rw [Array.getElem?_setIfInBounds_ne e] at h1 h2
  obtain ⟨h3, h4⟩ := L2 i w (by rw [Array.getElem?_setIfInBounds_ne e]; exact h1.trans hw) hl
  rw [Array.getElem?_setIfInBounds_ne e] at h3 h4
  exact ⟨h3.trans h1, h4.trans h2⟩

/-- nothing runs from there -/
theorem no_run {M : Model} {Γ : Ctx} {p : Pos} {t : Sem Fin} {fs : List Frame} {s s' : Shared} {e : End} (h : Runs M Γ p t fs s e s') : ∀ w, t ≠ .unsupported w := by
  induction h <;> intro w hw <;> first
    | (cases hw; done)
    | (rename_i ih _; exact ih w hw)
    | (rename_i ih; exact ih w hw)

theorem fresh_not {c : Code} : ¬ Lulled (.fresh c) := fun ⟨_, _, _, _, _, z⟩ => nomatch z
theorem run_not {M : Model} {Γ : Ctx} {p p0 : Pos} {k : Resume → Sem Fin} {r : Resume} {l : List Value} {c : Code} {fs fs0 : List Frame} {cl : Bool} {s s' : Shared} {e : End} (h : Runs M Γ p (k r) fs s e s') : ¬ Lulled (.suspended k l c p0 fs0 cl) := fun ⟨_, _, _, _, _, z⟩ => by
  injection z with z1
  rw [z1] at h
  exact no_run h _ rfl
theorem Twin.fresh {c : Code} {y : GenState} (t : Twin (.fresh c) y) : y = .fresh c := by
  rcases t with ⟨z, _⟩ | ⟨_, _, _, _, _, _, _, z⟩
  · exact z.symm
  · cases z
theorem Twin.running {y : GenState} (t : Twin .running y) : y = .running := by
  rcases t with ⟨z, _⟩ | ⟨_, _, _, _, _, _, _, z⟩
  · exact z.symm
  · cases z
theorem Twin.finished {y : GenState} (t : Twin .finished y) : y = .finished := by
  rcases t with ⟨z, _⟩ | ⟨_, _, _, _, _, _, _, z⟩
  · exact z.symm
  · cases z

theorem split_ret {k h g l c p kp fs} : splitAtGen (.ret k h g l c p kp :: fs) = none ↔ splitAtGen fs = none := by
  show (splitAtGen fs).map _ = none ↔ _
  cases splitAtGen fs <;> simp
theorem split_append : ∀ {a b : List Frame}, splitAtGen a = none → splitAtGen b = none → splitAtGen (a ++ b) = none
  | [], _, _, h => h
  | .gen .. :: _, _, h, _ => by cases h
  | .ret .. :: a, b, h, h' => split_ret.mpr (split_append (split_ret.mp h) h')
def EndOk (e : End) : Prop := ∀ v g l k c p fs, e = .susp v g l k c p fs → splitAtGen fs = none
theorem EndOk.twin {e : End} (h : EndOk e) : Twin e.genState e.genState := .inl ⟨rfl, fun k l c p fs cl z => by
  cases e with
  | ret r => cases z
  | susp v g l0 k0 c0 p0 fs0 =>
    cases z
    exact h _ _ _ _ _ _ _ rfl⟩
theorem EndOk.ret {r : Result} : EndOk (.ret r) := fun _ _ _ _ _ _ _ z => nomatch z

/-- the state with other entries -/
abbrev re (s : Shared) (G : Array GenState) : Shared := { s with gens := G }

theorem runs_lull {M : Model} {Γ : Ctx} {p : Pos} {t : Sem Fin} {fs : List Frame} {a a' : Shared} {e : End} (h : Runs M Γ p t fs a e a') :
    splitAtGen fs = none → ∀ G, Twins a.gens G → ∃ G', Runs M Γ p t fs (re a G) e (re a' G') ∧ Twins a'.gens G' ∧ Left a.gens G a'.gens G' ∧ EndOk e := by
  induction h with
  | done => intro _ G T; exact ⟨G, .done, T, .refl _ _, .ret⟩
  | raise => intro _ G T; exact ⟨G, .raise, T, .refl _ _, .ret⟩
  | again hq _ ih => intro hs G T; obtain ⟨G', r, q⟩ := ih hs G T; exact ⟨G', .again hq r, q⟩
  | rule _ ih => intro hs G T; obtain ⟨G', r, q⟩ := ih hs G T; exact ⟨G', .rule r, q⟩
  | «at» _ ih => intro hs G T; obtain ⟨G', r, q⟩ := ih hs G T; exact ⟨G', .at r, q⟩
  | load ho _ ih => intro hs G T; obtain ⟨G', r, q⟩ := ih hs G T; exact ⟨G', .load ho r, q⟩
  | update ho _ ih => intro hs G T; obtain ⟨G', r, q⟩ := ih hs G T; exact ⟨G', .update ho r, q⟩
  | loadIfAlive _ ih => intro hs G T; obtain ⟨G', r, q⟩ := ih hs G T; exact ⟨G', .loadIfAlive r, q⟩
  | point _ ih => intro hs G T; obtain ⟨G', r, q⟩ := ih hs G T; exact ⟨G', .point r, q⟩
  | alloc _ ih => intro hs G T; obtain ⟨G', r, q⟩ := ih hs G T; exact ⟨G', .alloc r, q⟩
  | fresh _ ih => intro hs G T; obtain ⟨G', r, q⟩ := ih hs G T; exact ⟨G', .fresh r, q⟩
  | ask _ ih => intro hs G T; obtain ⟨G', r, q⟩ := ih hs G T; exact ⟨G', .ask r, q⟩
  | choose hn _ ih => intro hs G T; obtain ⟨G', r, q⟩ := ih hs G T; exact ⟨G', .choose hn r, q⟩
  | os _ ih => intro hs G T; obtain ⟨G', r, q⟩ := ih hs G T; exact ⟨G', .os r, q⟩
  | handled _ ih => intro hs G T; obtain ⟨G', r, q⟩ := ih hs G T; exact ⟨G', .handled r, q⟩
  | stack _ ih => intro hs G T; obtain ⟨G', r, q⟩ := ih hs G T; exact ⟨G', .stack r, q⟩
  | thread _ ih => intro hs G T; obtain ⟨G', r, q⟩ := ih hs G T; exact ⟨G', .thread r, q⟩
  | genState hg _ ih =>
    intro hs G T
    obtain ⟨y, hy, tw⟩ := T.there hg
    obtain ⟨G', r, q⟩ := ih hs G T
    rw [tw.seen] at r
    exact ⟨G', .genState hy r, q⟩
  | newGen _ ih =>
    intro hs G T
    obtain ⟨G', r, T', L', q⟩ := ih hs _ (T.push _)
    refine ⟨G', .newGen ?_, T', (Left.push T _).trans L', q⟩
    rw [T.size]
    exact r
  | call _ _ ih1 ih2 =>
    intro hs G T
    obtain ⟨G1, r1, T1, L1, _⟩ := ih1 rfl G T
    obtain ⟨G2, r2, T2, L2, q⟩ := ih2 hs G1 T1
    exact ⟨G2, .call r1 r2, T2, L1.trans L2, q⟩
  | callSusp _ ih =>
    intro hs G T
    obtain ⟨G1, r1, T1, L1, q⟩ := ih rfl G T
    refine ⟨G1, .callSusp r1, T1, L1, fun v g l k c p fs z => ?_⟩
    cases z
    exact split_append (q _ _ _ _ _ _ _ rfl) (split_ret.mpr rfl)
  | yield => intro hs G T; exact ⟨G, .yield, T, .refl _ _, fun v g l k c p fs z => by cases z; rfl⟩
  | resumeFresh hg _ hq _ ih1 ih2 =>
    intro hs G T
    obtain ⟨y, hy, tw⟩ := T.there hg
    have ey := tw.fresh
    obtain ⟨G1, r1, T1, L1, q1⟩ := ih1 rfl _ (T.put _ (x := .running) (y := .running) (.inl ⟨rfl, fun _ _ _ _ _ _ z => nomatch z⟩))
    obtain ⟨G2, r2, T2, L2, q2⟩ := ih2 hs _ (T1.put _ q1.twin)
    exact ⟨G2, .resumeFresh (hy.trans (by rw [ey])) r1 hq r2, T2, Left.wake hg fresh_not L1 L2, q2⟩
  | resumeSuspended hg hr hq _ ih1 ih2 =>
    intro hs G T
    obtain ⟨y, hy, tw⟩ := T.there hg
    rcases tw with ⟨z, zs⟩ | ⟨_, _, _, _, _, _, _, z⟩
    · subst z
      obtain ⟨G1, r1, T1, L1, q1⟩ := ih1 (zs _ _ _ _ _ _ rfl) _ (T.put _ (x := .running) (y := .running) (.inl ⟨rfl, fun _ _ _ _ _ _ z => nomatch z⟩))
      obtain ⟨G2, r2, T2, L2, q2⟩ := ih2 hs _ (T1.put _ q1.twin)
      exact ⟨G2, .resumeSuspended hy r1 hq r2, T2, Left.wake hg (run_not hr) L1 L2, q2⟩
    · cases z
      exact (no_run hr _ rfl).elim
  | resumeJustStarted hg hv _ ih =>
    intro hs G T
    obtain ⟨y, hy, tw⟩ := T.there hg
    have ey := tw.fresh
    obtain ⟨G', r, q⟩ := ih hs G T
    exact ⟨G', .resumeJustStarted (hy.trans (by rw [ey])) hv r, q⟩
  | resumeThrowFresh hg _ ih =>
    intro hs G T
    obtain ⟨y, hy, tw⟩ := T.there hg
    have ey := tw.fresh
    obtain ⟨G', r, T', L', q⟩ := ih hs _ (T.put _ (x := .finished) (y := .finished) (.inl ⟨rfl, fun _ _ _ _ _ _ z => nomatch z⟩))
    exact ⟨G', .resumeThrowFresh (hy.trans (by rw [ey])) r, T', (Left.put hg fresh_not).trans L', q⟩
  | resumeRunning hg _ ih =>
    intro hs G T
    obtain ⟨y, hy, tw⟩ := T.there hg
    have ey := tw.running
    obtain ⟨G', r, q⟩ := ih hs G T
    exact ⟨G', .resumeRunning (hy.trans (by rw [ey])) r, q⟩
  | resumeFinished hg _ ih =>
    intro hs G T
    obtain ⟨y, hy, tw⟩ := T.there hg
    have ey := tw.finished
    obtain ⟨G', r, q⟩ := ih hs G T
    exact ⟨G', .resumeFinished (hy.trans (by rw [ey])) r, q⟩
  | segRet _ _ ih1 ih2 =>
    intro hs G T
    obtain ⟨G1, r1, T1, L1, _⟩ := ih1 rfl G T
    obtain ⟨G2, r2, T2, L2, q⟩ := ih2 (split_ret.mp hs) G1 T1
    exact ⟨G2, .segRet r1 r2, T2, L1.trans L2, q⟩
  | segGen _ _ _ _ => intro hs; cases hs
  | segSuspOut hf _ ih =>
    intro hs G T
    obtain ⟨G1, r1, T1, L1, q⟩ := ih rfl G T
    refine ⟨G1, .segSuspOut hf r1, T1, L1, fun v g l k c p fs z => ?_⟩
    cases z
    exact split_append (q _ _ _ _ _ _ _ rfl) hs
  | segSuspGen hf _ _ _ _ _ => intro hs; rw [hf] at hs; cases hs

theorem wakes_lull {M : Model} {Γ : Ctx} {p : Pos} {g : Nat} {r : Resume} {a a' : Shared} {res : GenResult} (h : Wakes M Γ p g r a res a') {G : Array GenState} (T : Twins a.gens G) :
    ∃ G', Wakes M Γ p g r (re a G) res (re a' G') ∧ Twins a'.gens G' ∧ Left a.gens G a'.gens G' := by
  have run1 : ∀ {x : GenState}, x = .running ∨ x = .finished → Twin x x := fun h => by
    rcases h with rfl | rfl <;> exact .inl ⟨rfl, fun _ _ _ _ _ _ z => nomatch z⟩
  have same : ∀ {res1 : GenResult}, (res = res1 ∧ a' = a) → (∀ b, (res = res1 ∧ b = re a G) → Wakes M Γ p g r (re a G) res b) → ∃ G', Wakes M Γ p g r (re a G) res (re a' G') ∧ Twins a'.gens G' ∧ Left a.gens G a'.gens G' := fun ⟨h1, h2⟩ k =>
    ⟨G, k _ ⟨h1, by rw [h2]⟩, by rw [h2]; exact T, by rw [h2]; exact .refl _ _⟩
  cases hx : a.gens[g]? with
  | none => unfold Wakes at h; rw [hx] at h; exact h.elim
  | some x =>
    obtain ⟨y, hy, tw⟩ := T.there hx
    unfold Wakes at h
    rw [hx] at h
    cases x with
    | running =>
      refine same h fun b hb => ?_
      unfold Wakes
      rw [show (re a G).gens[g]? = some .running from hy.trans (by rw [tw.running])]
      exact hb
    | finished =>
      refine same h fun b hb => ?_
      unfold Wakes
      rw [show (re a G).gens[g]? = some .finished from hy.trans (by rw [tw.finished])]
      exact hb
    | fresh c =>
      have e1 : (re a G).gens[g]? = some (.fresh c) := hy.trans (by rw [tw.fresh])
      cases r with
      | throw z =>
        obtain ⟨h1, h2⟩ := h
        refine ⟨G.setIfInBounds g .finished, ?_, by rw [h2]; exact T.put g (run1 (.inr rfl)), by rw [h2]; exact Left.put hx fresh_not⟩
        unfold Wakes
        rw [e1]
        exact ⟨h1, by rw [h2]; rfl⟩
      | send v =>
        cases v with
        | none =>
          obtain ⟨e1', s1, hr, hq, h1, h2⟩ := h
          obtain ⟨G1, r1, T1, L1, q1⟩ := runs_lull hr rfl _ (T.put g (run1 (.inl rfl)))
          refine ⟨G1.setIfInBounds g e1'.genState, ?_, by rw [h2]; exact T1.put g q1.twin, by rw [h2]; exact Left.wake hx fresh_not L1 (.refl _ _)⟩
          unfold Wakes
          rw [e1]
          exact ⟨_, _, r1, hq, h1, by rw [h2]; rfl⟩
        | _ =>
          refine same h fun b hb => ?_
          unfold Wakes
          rw [e1]
          exact hb
    | suspended k0 l0 c0 p0 fs0 cl0 =>
      obtain ⟨e1', s1, hr, hq, h1, h2⟩ := h
      rcases tw with ⟨z, zs⟩ | ⟨_, _, _, _, _, _, _, z⟩
      · subst z
        obtain ⟨G1, r1, T1, L1, q1⟩ := runs_lull hr (zs _ _ _ _ _ _ rfl) _ (T.put g (run1 (.inl rfl)))
        refine ⟨G1.setIfInBounds g e1'.genState, ?_, by rw [h2]; exact T1.put g q1.twin, by rw [h2]; exact Left.wake hx (run_not hr) L1 (.refl _ _)⟩
        unfold Wakes
        rw [show (re a G).gens[g]? = some _ from hy]
        exact ⟨_, _, r1, hq, h1, by rw [h2]; rfl⟩
      · injection z with z1
        rw [z1] at hr
        exact (no_run hr _ rfl).elim

theorem wp_lull {α : Type} (M : Model) (Γ : Ctx) (t : Sem α) : ∀ (Q : α → Pos → Shared → Prop) (E : Value → Pos → Shared → Prop) (p : Pos) (a : Shared) (G : Array GenState), Twins a.gens G → wp M Γ t Q E p a →
    wp M Γ t (fun r p' s' => ∃ a', s' = re a' s'.gens ∧ Twins a'.gens s'.gens ∧ Left a.gens G a'.gens s'.gens ∧ Q r p' a') (fun r p' s' => ∃ a', s' = re a' s'.gens ∧ Twins a'.gens s'.gens ∧ Left a.gens G a'.gens s'.gens ∧ E r p' a') p (re a G) := by
  induction t with
  | pure a => intro Q E p s G T h; exact ⟨s, rfl, T, .refl _ _, h⟩
  | raise e => intro Q E p s G T h; exact ⟨s, rfl, T, .refl _ _, h⟩
  | unsupported _ => intro Q E p s G T h; exact h
  | finish _ => intro Q E p s G T h; exact h
  | rule _ k ih => intro Q E p s G T h; exact ih () Q E p s G T h
  | «at» p' k ih => intro Q E p s G T h; exact ih () Q E p' s G T h
  | load a _ k ih => intro Q E p s G T h; obtain ⟨o, ho, h⟩ := h; exact ⟨o, ho, ih o Q E p s G T h⟩
  | update a _ f k ih => intro Q E p s G T h; exact ⟨h.1, ih () Q E p { s with heap := s.heap.update a f } G T h.2⟩
  | loadIfAlive a k ih => intro Q E p s G T h; exact ih _ Q E p s G T h
  | point _ k ih => intro Q E p s G T h; exact ih () Q E p s G T h
  | register _ _ => intro Q E p s G T h; exact h
  | alloc o k ih => intro Q E p s G T h; exact ih _ Q E p { s with heap := s.heap.push o } G T h
  | fresh k ih => intro Q E p s G T h; exact ih _ Q E p { s with toks := s.toks + 1 } G T h
  | ask k ih => intro Q E p s G T h; exact ih _ Q E p s G T h
  | choose src m k ih => intro Q E p s G T h; exact ⟨h.1, ih _ Q E p { s with drawn := s.drawn.bump src } G T h.2⟩
  | os q _ k ih => intro Q E p s G T h; exact ih _ Q E p { s with os := (Os.step s.os q).1 } G T h
  | call c hd _ _ k ih =>
    intro Q E p s G T h
    obtain ⟨r, s', hr, h⟩ := h
    obtain ⟨G1, r1, T1, L1, _⟩ := runs_lull hr rfl G T
    refine ⟨r, _, r1, ?_⟩
    have x := ih r Q E p s' G1 T1 h
    refine Sem.wp_mono M Γ _ (fun r p' s2 z => ?_) (fun r p' s2 z => ?_) _ _ x
    · obtain ⟨a', e, T', L', q⟩ := z; exact ⟨a', e, T', L1.trans L', q⟩
    · obtain ⟨a', e, T', L', q⟩ := z; exact ⟨a', e, T', L1.trans L', q⟩
  | handled own k ih => intro Q E p s G T h; exact ih _ Q E p s G T h
  | genState g k ih =>
    intro Q E p s G T h
    obtain ⟨st, hs, h⟩ := h
    obtain ⟨y, hy, tw⟩ := T.there hs
    refine ⟨y, hy, ?_⟩
    rw [← tw.seen]
    exact ih _ Q E p s G T h
  | newGen c k ih =>
    intro Q E p s G T h
    have x := ih _ Q E p { s with gens := s.gens.push (.fresh c) } _ (T.push c) h
    show wp M Γ (k G.size) _ _ p _
    rw [T.size]
    refine Sem.wp_mono M Γ _ (fun r p' s2 z => ?_) (fun r p' s2 z => ?_) _ _ x
    · obtain ⟨a', e, T', L', q⟩ := z; exact ⟨a', e, T', (Left.push T c).trans L', q⟩
    · obtain ⟨a', e, T', L', q⟩ := z; exact ⟨a', e, T', (Left.push T c).trans L', q⟩
  | resume g r _ k ih =>
    intro Q E p s G T h
    obtain ⟨res, s', hw, h⟩ := h
    obtain ⟨G1, w1, T1, L1⟩ := wakes_lull hw T
    refine ⟨res, _, w1, ?_⟩
    have x := ih res Q E p s' G1 T1 h
    refine Sem.wp_mono M Γ _ (fun r p' s2 z => ?_) (fun r p' s2 z => ?_) _ _ x
    · obtain ⟨a', e, T', L', q⟩ := z; exact ⟨a', e, T', L1.trans L', q⟩
    · obtain ⟨a', e, T', L', q⟩ := z; exact ⟨a', e, T', L1.trans L', q⟩
  | yield _ _ _ _ => intro Q E p s G T h; exact h
  | stack k ih => intro Q E p s G T h; exact ih _ Q E p s G T h
  | fork _ _ => intro Q E p s G T h; exact h
  | thread k ih => intro Q E p s G T h; exact ih _ Q E p s G T h
  | await _ _ _ _ _ => intro Q E p s G T h; exact h

theorem twin_lull (y : GenState) : Twin (lull y) y := by
  cases y with
  | suspended k l c p fs cl => exact .inr ⟨k, l, c, p, fs, cl, rfl, rfl⟩
  | fresh c => exact .inl ⟨rfl, fun _ _ _ _ _ _ z => nomatch z⟩
  | running => exact .inl ⟨rfl, fun _ _ _ _ _ _ z => nomatch z⟩
  | finished => exact .inl ⟨rfl, fun _ _ _ _ _ _ z => nomatch z⟩
theorem twins_lull (G : Array GenState) : Twins (G.map lull) G where
  size := by simp
  each := fun i x y hx hy => by
    rw [Array.getElem?_map, hy] at hx
    cases hx
    exact twin_lull y
theorem AllBare.twins {a G : Array GenState} (T : Twins a G) (h : AllBare a) : AllBare G := fun y hy => by
  obtain ⟨i, hi, e⟩ := Array.mem_iff_getElem.mp hy
  have hi' : i < a.size := by rw [← T.size]; exact hi
  have t := T.each i a[i] y (Array.getElem?_eq_getElem hi') (by rw [Array.getElem?_eq_getElem hi, e])
  rw [← t.bare]
  exact h _ (Array.getElem_mem hi')
theorem AllBare.lull {G : Array GenState} (h : AllBare G) : AllBare (G.map lull) := fun x hx => by
  obtain ⟨y, hy, e⟩ := Array.mem_map.mp hx
  rw [← e, (twin_lull y).bare]
  exact h y hy
/-- the sleepers of G are in G' as they were -/
def Asleep (G G' : Array GenState) : Prop := ∀ (i : Nat) k l c p fs cl, G[i]? = some (.suspended k l c p fs cl) → G'[i]? = G[i]?
theorem Asleep.refl (G : Array GenState) : Asleep G G := fun _ _ _ _ _ _ _ _ => rfl
theorem Asleep.trans {a b c : Array GenState} (x : Asleep a b) (y : Asleep b c) : Asleep a c := fun i k l c p fs cl h =>
  (y i k l c p fs cl ((x i k l c p fs cl h).trans h)).trans (x i k l c p fs cl h)
/-- THE LEMMA: what runs while the sleepers cannot be woken runs so in truth, and leaves them alone -/
theorem wpAny_asleep {α : Type} {M : Model} {A : Around} {t : Sem α} {Q : α → Shared → Prop} {E : Value → Shared → Prop} {s : Shared} (h : wpAny M A t Q E (re s (s.gens.map lull))) :
    wpAny M A t (fun r s' => ∃ a', s' = re a' s'.gens ∧ Twins a'.gens s'.gens ∧ Asleep s.gens s'.gens ∧ Q r a') (fun r s' => ∃ a', s' = re a' s'.gens ∧ Twins a'.gens s'.gens ∧ Asleep s.gens s'.gens ∧ E r a') s := by
  intro Γ p hΓ
  have x := wp_lull M Γ t _ _ p _ s.gens (twins_lull s.gens) (h Γ p hΓ)
  have fin : ∀ {a' G' : Array GenState}, Left (s.gens.map lull) s.gens a' G' → Asleep s.gens G' := fun {a' G'} L i k l c p fs cl hi => by
    refine (L i (.suspended nowhere l c p fs cl) ?_ ⟨_, _, _, _, _, rfl⟩).2
    rw [Array.getElem?_map, hi]
    rfl
  refine Sem.wp_mono M Γ _ (fun r p' s2 z => ?_) (fun r p' s2 z => ?_) _ _ x
  · obtain ⟨a', e, T', L', q⟩ := z; exact ⟨a', e, T', fin L', q⟩
  · obtain ⟨a', e, T', L', q⟩ := z; exact ⟨a', e, T', fin L', q⟩
end Tf

/-! ## TfKit -/
set_option Elab.async false
set_option linter.all false
set_option maxRecDepth 100000
set_option maxHeartbeats 4000000
/-! Names for callees; defs that close over their class; super(). -/
namespace Tf
open PySem PySem.Spec PyProof.Rows L2

/-! ### callees by name -/
section
variable (P : Program) (w : World) (K : PySem.W.Frag) (mg : Str → Option Value) (base : Heap)
/-- a def under a global name; dv: the values of the parameters that a call leaves out -/
def Fn (x : Str) (k : Nat) (ps : List Str) (dv : List V) (sp : Sp) : Prop :=
  ∃ (f : Addr) (fd : FuncData) (ds : List Value), mg x = some (.ref f) ∧ PySem.W.keepIn K (.ref f) = true ∧ FnOk P w K mg base CX0 k f fd ps sp ∧ Vals dv ds ∧ Binds K fd ps ds
/-- a method of the class at C -/
def Mt (C : Addr) (m : Str) (k : Nat) (ps : List Str) (dv : List V) (sp : Sp) : Prop :=
  Cls K C ∧ ∃ (f : Addr) (fd : FuncData) (ds : List Value), Meth K C m f ∧ FnOk P w K mg base CX0 k f fd ps sp ∧ Vals dv ds ∧ Binds K fd ps ds
/-- a property of the class at C -/
def Pr (C : Addr) (f : Str) (k : Nat) (sp : Sp) : Prop :=
  Cls K C ∧ ∃ (p g : Addr) (fd : FuncData), PropOf K C f p g ∧ FnOk P w K mg base CX0 k g fd ["self"] sp ∧ Binds K fd ["self"] []
end
section
variable {X : Cx} {k : Nat} {C : Addr} {ps : List Str} {dv : List V} {sp : Sp} {x m f : Str} {p pos apos : Pos} {e o : Expr} {es : List Expr} {ta : TE} {t : TA}
theorem pe_fn (F : Fn X.prog X.w X.K X.mg X.base x k ps dv sp) (hr : Room k X.A) (hg : Gl X x) (ha : PA X (e :: es) t) (hdb : (x == ("__debug__" : Str)) = false := by decide)
    (he : starEach (e :: es) X.env = (false, eval e X.env) :: starEach es X.env := by rfl) (hpl : (backTo pos (starEach es X.env)).any (·.1) = false := by rfl) : PE X (.Call (.Name x p) (e :: es) [] pos) (tCall sp dv E0 t) := by
  obtain ⟨fa, fd, ds, hm, hk, G, hv, hb⟩ := F
  exact pe_call G hr hg hm hk hb hv pass0 ha hdb he hpl
theorem pe_mt {pl : Sem Bool} (he : PE X o ta) (F : Mt X.prog X.w X.K X.mg X.base C m k ps dv sp) (hr : Room k X.A) (ha : PA X (e :: es) t)
    (hst : starEach (e :: es) X.env = (false, eval e X.env) :: starEach es X.env := by rfl) (hpl : (backTo pos (starEach es X.env)).any (·.1) = false := by rfl)
    (ht : eval (.Call (.Attribute o m apos) (e :: es) [] pos) X.env = (do
      let ov ← eval o X.env
      standAt apos.atName
      let (f, first) ← holding [ov] (getMethod ov m pl)
      callWith pos f first (backTo pos (starEach (e :: es) X.env)) (backToKw pos (keywordEach [] X.env))) := by rfl) :
    PE X (.Call (.Attribute o m apos) (e :: es) [] pos) (tMeth C m sp dv E0 ta t) := by
  obtain ⟨c, fa, fd, ds, hm, G, hv, hb⟩ := F
  exact pe_meth he c hm G hr hb hv pass0 ha hst hpl ht
theorem pe_mt0 {pl : Sem Bool} (he : PE X o ta) (F : Mt X.prog X.w X.K X.mg X.base C m k ps dv sp) (hr : Room k X.A)
    (ht : eval (.Call (.Attribute o m apos) [] [] pos) X.env = (do
      let ov ← eval o X.env
      standAt apos.atName
      let (f, first) ← holding [ov] (getMethod ov m pl)
      callWith pos f first (backTo pos (starEach [] X.env)) (backToKw pos (keywordEach [] X.env))) := by rfl) :
    PE X (.Call (.Attribute o m apos) [] [] pos) (tMeth C m sp dv E0 ta tNil) := by
  obtain ⟨c, fa, fd, ds, hm, G, hv, hb⟩ := F
  exact pe_meth0 he c hm G hr hb hv pass0 ht
theorem pass0n {X : Cx} : Passes CX0 X.nox E0 := fun _ _ _ _ _ _ _ h => h.elim
theorem pe_pr (he : PE X e ta) (F : Pr X.prog X.w X.K X.mg X.base C f k sp) (hr : Room (k + 1) X.A) (hab : attributeBase e f X.env (eval e X.env) = eval e X.env := by rfl) : PE X (.Attribute e f pos) (tProp C sp [] E0 ta) := by
  obtain ⟨c, pa, g, fd, hp, G, hb⟩ := F
  exact pe_prop he c hp G hr hb .nil pass0n hab
end

/-! ### defs that close over the class they stand in -/
abbrev clEnv (qual : Str) (scope : Scope) (L f : Addr) (cda cc : Addr) : Env := PySem.W.envX qual scope L f (.ref cda) [("__class__", cc)]
/-- the def st of the class D as it stands behind the top -/
structure FunS (P : Program) (K : PySem.W.Frag) (x qual : Str) (st : Stmt) (D : Addr) (f : Addr) (fd : FuncData) (cda cc : Addr) : Prop where
  ex : ∃ (oc : Value) (od : Option Addr) (dV kV doc pm : Value) (an : Option Addr) (ct : Value) (osl : Array (Option Value)),
    fd = PySem.W.fnX x qual (defArgs st) (defBody st) (defScope st) [("__class__", cc)] dV kV doc pm an (.ref cda) ct ∧ K.lookup f = some ⟨oc, od, .func fd, osl⟩
  cd : PySem.W.codeIn K (.ref cda) qual = true
  fl : ∃ (c : Value) (d : Option Addr) (vs : Array Value) (sl : Array (Option Value)) (file : Str) (t : Tok), K.lookup cda = some ⟨c, d, .fields vs, sl⟩ ∧ vs[2]? = some (.str file t) ∧ ((P.main.file : Str) == file) = true
  cl : ∃ (c : Value) (d : Option Addr) (sl : Array (Option Value)), K.lookup cc = some ⟨c, d, .cell (some (.ref D)), sl⟩
  kp : PySem.W.keepIn K (.ref f) = true
/-- names: the parameters first; no cells, nothing free but the class -/
structure ScS (N P : List Str) (sc : Scope) : Prop where
  kind : sc.kind = .function
  co : sc.isCoroutine = false
  nd : N.Nodup
  pre : N.take P.length = P
  par : ∀ x ∈ P, sc.names.lookup x = some .local
  nocell : ∀ y ∈ sc.names, y.2 ≠ .cell
  free : ∀ y ∈ sc.names, y.2 = .free → y.1 = ("__class__" : Str)
/-- the context of such a def's body -/
def cxS (P : Program) (w : World) (K : PySem.W.Frag) (mg : Str → Option Value) (base : Heap) (N : List Str) (env : Env) (A : Around) (outer : List Env) (s : Shared) (H : Hp) : Cx where
  prog := P
  w := w
  K := K
  mg := mg
  base := base
  A := A.deeper env
  N := N
  s_0 := s
  H_0 := H
  env := env
  outer := outer
  stack := env :: outer
  ex := []
  calm := true
  fn := fun _ => false
  pn := []
  xe := fun _ _ => False

theorem no_mem {α : Type} {b : α} {p : Prop} (h : b ∈ ([] : List α)) : p := absurd h (by simp)
theorem inv_startS {P : Program} {w : World} {K : PySem.W.Frag} {mg : Str → Option Value} {base : Heap} {N ps : List Str} {env : Env} {A : Around} {outer : List Env} {s : Shared} {H : Hp} {us : List Value} {vs : List V} {h1 : Heap} {tk : Nat} {cl : List (Str × Addr)}
    (S : ScS N ps env.scope) (hL : env.locals = s.heap.objs.size) (hfr : env.frame = some env.locals) (hgl : env.globals = mainGlobals) (hbl : env.builtins = builtinsNs) (hce : env.cells = cl)
    (hcl : cl = [] ∧ (∀ y ∈ env.scope.names, y.2 ≠ .free) ∨ ∃ (cc : Addr) (v : Option Value), cl = ([("__class__", cc)] : List (Str × Addr)) ∧ s.heap.IsCell cc v ∧ H cc = none ∧ cc < s.heap.objs.size)
    (hd : A.handled = none) (e0 : Env0 P w K mg base A outer s H) (hl : vs.length = ps.length) (r : Vals vs us) (hn : h1.Ns s.heap.objs.size (fun y => (ps.zip us).reverse.lookup y)) (hk : ∀ b o, s.heap.get? b = some o → h1.get? b = some o) :
    Inv (cxS P w K mg base N env A outer s H) [] (L2.start N vs) H { s with heap := h1, toks := tk } := by
  have hpl : ps.length ≤ N.length := by have := congrArg List.length S.pre; rw [List.length_take] at this; omega
  have cells : ∀ {y c}, env.cells.lookup y = some c → y = ("__class__" : Str) ∧ ∃ v, s.heap.IsCell c v ∧ H c = none ∧ c < s.heap.objs.size := fun {y c} h => by
    rw [hce] at h
    rcases hcl with ⟨e, _⟩ | ⟨cc, v, e, z1, z2, z3⟩
    · rw [e] at h; cases h
    · rw [e, List.lookup_cons] at h
      cases hb : (y == ("__class__" : Str)) with
      | false => rw [hb] at h; cases h
      | true => rw [hb] at h; cases h; exact ⟨by simpa using hb, v, z1, z2, z3⟩
  have hLs : s.heap.objs.size ≤ env.locals := Nat.le_of_eq hL.symm
  refine ⟨⟨e0.mod, S.kind, hgl, hbl, hLs, fun y z c h1 h2 => (cells h1).1.trans (cells h2).1.symm, fun y hy => ?_, fun y c z _ => Bool.noConfusion z, fun _ => hd, Around.frames_deeper e0.frames, .inr ⟨rfl, hfr⟩, fun b z => no_mem z, e0.bs, e0.bsz, fun b _ _ z => no_mem z, fun b z => no_mem z, e0.funs, e0.frf⟩,
    rfl, e0.bare, Un.kept hk, ⟨_, by rw [← hL] at hn; exact hn, fun i y v e1 e2 e3 => ?_⟩, fun y c h => ?_, ?_, fun y c h => ?_, fun p hp => no_mem hp, e0.hok.kept hk, ?_⟩
  · have hy : env.scope.names.lookup y = some .cell ∨ env.scope.names.lookup y = some .free := hy
    rcases hy with hy | hy
    · exact absurd rfl (S.nocell _ (PySem.mem_of_lookup hy))
    · have ey := S.free _ (PySem.mem_of_lookup hy) rfl
      have ey : y = ("__class__" : Str) := ey
      rcases hcl with ⟨_, e⟩ | ⟨cc, v, e, _⟩
      · exact absurd rfl (e _ (PySem.mem_of_lookup hy))
      · refine ⟨cc, ?_⟩
        show env.cells.lookup y = some cc
        rw [hce, e, ey, List.lookup_cons, beq_self_eq_true]
  · have hi : i < vs.length := by
      unfold L2.start at e2
      by_cases hi : i < vs.length
      · exact hi
      · rw [List.getElem?_append_right (by simpa using hi), List.getElem?_replicate] at e2
        split at e2 <;> cases e2
    have ha : vs[i]? = some v := by
      unfold L2.start at e2
      rw [List.getElem?_append_left (by simpa using hi), List.getElem?_map] at e2
      cases e : vs[i]? with
      | none => rw [e] at e2; cases e2
      | some a => rw [e] at e2; cases e2; rfl
    obtain ⟨u, hu, rv⟩ := r.get ha
    have hp : ps[i]? = some y := by
      rw [← S.pre, List.getElem?_take_of_lt (by omega)]; exact e1
    have ndP : ps.Nodup := by rw [← S.pre]; exact S.nd.sublist (List.take_sublist _ _)
    refine ⟨u, rv, .inl ⟨S.par y (List.mem_of_getElem? hp), ?_⟩⟩
    have key : ∀ {ps : List Str} {us : List Value} {i : Nat}, ps.Nodup → ps[i]? = some y → us[i]? = some u → (ps.zip us).reverse.lookup y = some u := by
      intro ps
      induction ps with
      | nil => intro us i _ h; simp at h
      | cons p ps ih =>
        intro us i nd hp hu
        cases us with
        | nil => simp at hu
        | cons u0 us =>
          have app : ∀ {a b : List (Str × Value)}, (a ++ b).lookup y = (a.lookup y).or (b.lookup y) := fun {a b} => List.lookup_append
          rw [List.zip_cons_cons, List.reverse_cons, app]
          cases i with
          | zero =>
            simp at hp hu
            subst hp hu
            have : ((ps.zip us).reverse).lookup p = none := by
              rw [List.lookup_eq_none_iff]
              intro q hq
              have hq' := List.of_mem_zip (List.mem_reverse.mp hq)
              have : p ≠ q.1 := fun e => (List.nodup_cons.mp nd).1 (e ▸ hq'.1)
              simpa using this
            rw [this]
            simp
          | succ i =>
            rw [ih (List.nodup_cons.mp nd).2 (by simpa using hp) (by simpa using hu)]
            rfl
    exact key ndP hp hu
  · obtain ⟨_, v, z, _⟩ := cells h
    exact ⟨v, z.keeps hk⟩
  · show H env.locals = none
    rw [hL]; exact e0.hok.fresh (Nat.le_refl _)
  · exact (cells h).2.elim fun _ z => z.2.1
  · unfold L2.start
    show _ = N.length
    rw [List.length_append, List.length_map, List.length_replicate]
    omega

/-! ### judgements at the def's own code (super() looks at it) -/
structure PEA (X : Cx) (c : Code) (e : Expr) (t : TE) : Prop where
  run : ∀ (pins : List (Addr × Obj)) (s : Shared) (σ : L2.St) (H : Hp) (Q : VK), Inv X pins σ H s → t σ H Q → PySem.wpAt (model X.prog X.w) X.A c (eval e X.env) (EP X pins σ Q) X.xe s
structure PSA (X : Cx) (c : Code) (st : Stmt) (t : TS) : Prop where
  run : ∀ (pins : List (Addr × Obj)) (s : Shared) (σ : L2.St) (H : Hp) (D : Ends), Inv X pins σ H s → t D σ H → PySem.wpAt (model X.prog X.w) X.A c (exec st X.env) (SP X pins D) X.xe s
structure PSsA (X : Cx) (c : Code) (st : List Stmt) (t : TS) : Prop where
  run : ∀ (pins : List (Addr × Obj)) (s : Shared) (σ : L2.St) (H : Hp) (D : Ends), Inv X pins σ H s → t D σ H → PySem.wpAt (model X.prog X.w) X.A c (execs st X.env) (SP X pins D) X.xe s
section
variable {X : Cx} {c : Code} {e a b : Expr} {st : Stmt} {rest : List Stmt} {te ta tb : TE} {t u : TS} {pos pos' : Pos}
theorem wpAt_thn {α : Type} {M : Model} {A : Around} {c : Code} {t : Sem α} {Q Q' : α → Shared → Prop} {E : Value → Shared → Prop} {s : Shared} (h : PySem.wpAt M A c t Q E s) (hQ : ∀ a s, Q a s → Q' a s) : PySem.wpAt M A c t Q' E s := PySem.wpAt_mono h hQ fun _ _ z => z
theorem pea_of (h : PE X e te) : PEA X c e te := ⟨fun pins s σ H Q I q => PySem.wpAt_of_wpAny (h.run pins s σ H Q I q)⟩
theorem psa_of (h : PS X st t) : PSA X c st t := ⟨fun pins s σ H D I q => PySem.wpAt_of_wpAny (h.run pins s σ H D I q)⟩
theorem pssa_of (h : PSs X rest t) : PSsA X c rest t := ⟨fun pins s σ H D I q => PySem.wpAt_of_wpAny (h.run pins s σ H D I q)⟩
theorem pea_op {op : Operator} {r : V → V → Hp → VK → Prop} (ho : OpR X (binaryOp op) r) (ha : PEA X c a ta) (hb : PE X b tb) : PEA X c (.BinOp a op b pos) (tOp r ta tb) := by
  refine ⟨fun pins s σ H Q I h => ?_⟩
  refine PySem.ks_wpAt_BinOp (wpAt_thn (ha.run pins s σ H _ I h) fun v s1 ⟨x, H1, I1, r1, q1⟩ => ?_)
  exact thn (hb.run pins s1 σ H1 _ I1 q1) fun u s2 ⟨y, H2, I2, r2, q2⟩ => ho pins s2 σ H2 x y v u Q I2 r1 r2 q2
theorem psa_expr (he : PEA X c e te) (hq : interactive X.env = false) (hs : swapsWith e none pos.line X.env = pure false := by rfl) : PSA X c (.Expr e pos) (tDrop te) := by
  refine ⟨fun pins s σ H D I h => ?_⟩
  exact PySem.ks_wpAt_Expr_any (wpAt_thn (he.run pins s σ H _ I h) fun v s1 ⟨x, H1, I1, r1, q1⟩ => ⟨σ, H1, I1, q1⟩) hq hs
theorem pssa_cons (h1 : PSA X c st t) (h2 : PSsA X c rest u) : PSsA X c (st :: rest) (tSeq t u) := by
  refine ⟨fun pins s σ H D I h => ?_⟩
  rw [execs_cons]
  refine PySem.wpAt_bind (wpAt_thn (h1.run pins s σ H { D with nx := u D } I h) fun f s1 q => ?_)
  cases f with
  | next =>
    obtain ⟨σ', H', I', q⟩ := q
    exact h2.run pins s1 σ' H' D I' q
  | ret v => exact PySem.wpAt_of_wpAny (wpAny_pure q)
  | brk => exact PySem.wpAt_of_wpAny (wpAny_pure q)
  | cont => exact PySem.wpAt_of_wpAny (wpAny_pure q)
theorem pssa_one (h1 : PSA X c st t) : PSsA X c [st] t := by
  refine ⟨fun pins s σ H D I h => ?_⟩
  rw [execs_cons]
  refine PySem.wpAt_bind (wpAt_thn (h1.run pins s σ H D I h) fun f s1 q => ?_)
  cases f with
  | next => exact PySem.wpAt_of_wpAny (wpAny_execs_nil q)
  | ret v => exact PySem.wpAt_of_wpAny (wpAny_pure q)
  | brk => exact PySem.wpAt_of_wpAny (wpAny_pure q)
  | cont => exact PySem.wpAt_of_wpAny (wpAny_pure q)
end
section
variable {P : Program} {w : World} {K : PySem.W.Frag} {mg : Str → Option Value} {base : Heap}
/-- THE RULE for such a def -/
theorem FunS.ok {x qual : Str} {st : Stmt} {D f cda cc : Addr} {fd : FuncData} {N ps : List Str} {k : Nat} {sp : Sp} (F : FunS P K x qual st D f fd cda cc) (S : ScS N ps (defScope st)) (hgen : (defScope st).isGenerator = false) (len : ∀ vs H Q E, sp vs H Q E → vs.length = ps.length)
    (hbody : ∀ (A : Around) (outer : List Env) (s : Shared) (H : Hp) (vs : List V) (Q : VK) (E : XK), Room k (A.deeper (clEnv qual (defScope st) s.heap.objs.size f cda cc)) → sp vs H Q E →
      ∃ t, PSsA (cxS P w K mg base N (clEnv qual (defScope st) s.heap.objs.size f cda cc) A outer s H) (.func (defBody st) (clEnv qual (defScope st) s.heap.objs.size f cda cc)) (defBody st) t ∧ t { nx := fun _ H' => Q .non H', rt := Q } (L2.start N vs) H) :
    FnOk P w K mg base CX0 (k + 1) f fd ps sp := by
  refine ⟨len, fun A outer s H args us vs Q E hr e0 hb r hsp => ?_⟩
  have hl := len _ _ _ _ hsp
  have KX : K.In s.heap := e0.mod.kin.keeps fun b o e => (e0.bs b o e).1
  have lim : s.heap.NoLimit := e0.mod.nolimit.keeps fun b o e => (e0.bs b o e).1
  obtain ⟨oc, od, dV, kV, doc, pm, an, ct, osl, rfl, lk⟩ := F.ex
  obtain ⟨c1, d1, sl1, hcc⟩ := F.cl
  obtain ⟨t, ht, hq⟩ := hbody A outer s H vs Q E (hr.deeper _) hsp
  refine PySem.ks_codeAny_call_defAt hr.depth (KX _ _ lk) rfl lim (PySem.W.codeRec_of KX F.cd) rfl hb S.nocell (fun y hy => S.par _ (List.of_mem_zip hy).1) (fun h1 hn hk => ?_) S.co hgen S.kind
  have I : Inv (cxS P w K mg base N (clEnv qual (defScope st) s.heap.objs.size f cda cc) A outer s H) [] (L2.start N vs) H { s with heap := h1, toks := s.toks + (ps.zip us).length } :=
    inv_startS (env := clEnv qual (defScope st) s.heap.objs.size f cda cc) S rfl rfl rfl rfl rfl (.inr ⟨cc, _, rfl, ⟨_, KX _ _ hcc, rfl⟩, (e0.bs _ _ (e0.mod.kin _ _ hcc)).2, Heap.lt_size (KX _ _ hcc)⟩) hr.hd e0 hl r hn hk
  refine PySem.wpAt_mono (ht.run [] _ (L2.start N vs) H _ I hq) (fun fl s' hs => ?_) fun e s' z => False.elim z
  have fin : ∀ {σ' : L2.St} {H' : Hp} {v : V} {u : Value}, Inv (cxS P w K mg base N (clEnv qual (defScope st) s.heap.objs.size f cda cc) A outer s H) [] σ' H' s' → RelV v u → Q v H' → CE outer P w H s Q u s' :=
    fun {σ' H' v u} J rv q => ⟨v, H', J.os, J.bare, J.base, J.hok, rv, q⟩
  cases fl with
  | ret u =>
    obtain ⟨v, σ', H', J, rv, q⟩ := hs
    exact fin J rv q
  | next =>
    obtain ⟨σ', H', J, q⟩ := hs
    exact fin (v := V.non) (u := Value.none) J rfl q
  | brk => obtain ⟨_, _, _, q⟩ := hs; exact False.elim q
  | cont => obtain ⟨_, _, _, q⟩ := hs; exact False.elim q
end

/-! ### super().m(..) -/
/-- behind D in the order of C's classes m is the def at g -/
structure SupC (K : PySem.W.Frag) (C D : Addr) (m : Str) (g : Addr) : Prop where
  at_ : PySem.W.ks_superIn K C D m = some (some (.ref g))
  ty : PySem.W.typeIn K (.ref g) = some (.type "function")
  fi : PySem.W.fnIn K g = true
  sub : PySem.W.mroIn K C (.ref D) = some true
  isD : (PySem.W.clsIn K D).isSome = true
  st : PySem.W.nsIn K cStatics "thirdparty.any" = some none
/-- how the body sees itself -/
structure SupT (P : Program) (mg : Str → Option Value) (st : Stmt) (N : List Str) : Prop where
  self : ∃ ar : Arg, ((defArgs st).posonlyargs ++ (defArgs st).args).head? = some ar ∧ N[0]? = some ar.arg ∧ (defScope st).names.lookup ar.arg = some .local
  kind : (defScope st).kind = .function
  sup : (defScope st).names.lookup ("super" : Str) = some .globalImplicit
  cls : (defScope st).names.lookup ("__class__" : Str) = some .free
  no : mg "super" = none
  top : (P.main.scope.names.lookup ("super" : Str)).isSome = false
def tSuper (C : Addr) (sp : Sp) (dv : List V) (t : TA) : TE := fun σ H Q => ∃ a dx fs, σ[0]? = some (some (.ref a)) ∧ H a = some (.ins C dx fs) ∧ t σ H fun vs H1 => sp (.ref a :: (vs ++ dv)) H1 Q E0
section
variable {P : Program} {w : World} {K : PySem.W.Frag} {mg : Str → Option Value} {base : Heap} {x qual : Str} {st : Stmt} {D C f g cda cc L : Addr} {fd : FuncData} {N : List Str} {A : Around} {outer : List Env} {s0 : Shared} {H0 : Hp}
theorem boot_super : bootBuiltins "super" = some (.type "super") := by decide +kernel
/-- the bound method that super().m is -/
theorem sup_bound {pins : List (Addr × Obj)} {σ : L2.St} {H : Hp} {s : Shared} {m : Str} {p0 p1 : Pos} {body : List Stmt} {a dx : Addr} {fs : List (Str × V)} {whole : Sem Value} {pl : Sem Bool} {Q : Value × List Value → Shared → Prop} {E : Value → Shared → Prop}
    (F : FunS P K x qual st D f fd cda cc) (T : SupT P mg st N) (S : SupC K C D m g) (hmc : (m == ("__class__" : Str)) = false)
    (I : Inv (cxS P w K mg base N (clEnv qual (defScope st) L f cda cc) A outer s0 H0) pins σ H s) (hs : σ[0]? = some (some (.ref a))) (ha : H a = some (.ins C dx fs))
    (h : ∀ q s', base.get? q = none → Inv (cxS P w K mg base N (clEnv qual (defScope st) L f cda cc) A outer s0 H0) ((q, PySem.W.methodObj (.ref g) (.ref a)) :: pins) σ H s' → Q (.ref q, []) s') :
    PySem.wpAt (model P w) (A.deeper (clEnv qual (defScope st) L f cda cc)) (.func body (clEnv qual (defScope st) L f cda cc)) (attributeBase (.Call (.Name "super" p0) [] [] p1) m (clEnv qual (defScope st) L f cda cc) whole)
      (fun ov s1 => wpAny (model P w) (A.deeper (clEnv qual (defScope st) L f cda cc)) (getMethod ov m pl) Q E s1) E s := by
  obtain ⟨oc, od, dV, kV, doc, pm, an, ct, osl, rfl, lk⟩ := F.ex
  obtain ⟨c1, d1, vs1, sl1, file, tf, hcode, hvs, hfile⟩ := F.fl
  obtain ⟨c2, d2, sl2, hcc⟩ := F.cl
  obtain ⟨ar, har, hN0, hself⟩ := T.self
  have KX : K.In s.heap := I.kIn
  obtain ⟨mA, O, _, _, _, _⟩ := ins_get I.hok ha
  obtain ⟨oda, J, _⟩ := O.look
  obtain ⟨cdD, hD⟩ := Option.isSome_iff_exists.mp S.isD
  obtain ⟨m0, hn, hl⟩ := id I.loc
  have hva : m0 ar.arg = some (.ref a) := by
    obtain ⟨u, ru, l⟩ := hl 0 ar.arg (.ref a) hN0 hs (.inl hself)
    obtain rfl : u = Value.ref a := ru
    rcases l with ⟨_, z⟩ | ⟨z, _⟩
    · exact z
    · have z : (defScope st).names.lookup ar.arg = some .cell ∨ (defScope st).names.lookup ar.arg = some .free := z
      rw [hself] at z
      rcases z with z | z <;> cases z
  obtain ⟨oD, hD1, hD2⟩ : ∃ oD, s.heap.get? D = some oD ∧ oD.data = .cls cdD := by
    have hD' := hD
    unfold PySem.W.clsIn at hD'
    split at hD'
    · rename_i c d cd' sl ho
      cases hD'
      exact ⟨_, KX _ _ ho, rfl⟩
    · cases hD'
  refine PySem.ks_wpAt_super_base (env := clEnv qual (defScope st) L f cda cc) T.sup T.cls hmc rfl (KX _ _ lk) rfl har rfl (KX _ _ hcode) rfl hvs hfile T.top ?_
  have hbl := I.mod.blt
  obtain ⟨mb, hb1, hb2⟩ := hbl
  refine PySem.W.ks_loadName_global T.kind T.sup (Calls.loadGlobal_builtin (env := clEnv qual (defScope st) L f cda cc) (I.mod.glob.keeps I.bk) T.no (hb1.keeps I.bk) ((hb2 _ (by decide +kernel)).trans boot_super) ⟨rfl, ?_⟩)
  refine wpAny_loadName_free T.kind T.cls rfl ⟨_, KX _ _ hcc, rfl⟩ ?_
  refine wpAny_loadName_local T.kind hself hn hva ?_
  obtain ⟨hh, gg, dr, tk, os⟩ := s
  refine PySem.ks_wpAny_isType_cls hD1 hD2 ⟨rfl, ?_⟩
  refine PySem.ks_wpAny_call_super hD1 hD2 J.at_ J.cls (fun c e => ?_) (PySem.W.looks_mroIn KX S.sub) (fun h1 e1 k1 => ?_)
  · have := J.no
    unfold PySem.W.notCls at this
    rw [e] at this
    exact Bool.noConfusion this
  have I1 : Inv (cxS P w K mg base N (clEnv qual (defScope st) L f cda cc) A outer s0 H0) pins σ H ⟨h1, gg, dr, tk, os⟩ := I.kept (t' := tk) k1
  have KX1 : K.In h1 := I1.kIn
  obtain ⟨of, hof, hofc⟩ : ∃ of, h1.get? g = some of ∧ of.cls = .type "function" := by
    have ht' : (K.lookup g).map (·.cls) = some (.type "function") := S.ty
    cases z : K.lookup g with
    | none => rw [z] at ht'; cases ht'
    | some of => rw [z] at ht'; exact ⟨of, KX1 _ _ z, Option.some.inj ht'⟩
  cases hc : PySem.W.clsIn K C with
  | none =>
    have z := S.at_
    unfold PySem.W.ks_superIn at z
    rw [hc] at z
    cases z
  | some cd =>
    have z := S.at_
    unfold PySem.W.ks_superIn at z
    rw [hc] at z
    obtain ⟨mA1, O1, _, _, _, _⟩ := ins_get I1.hok ha
    obtain ⟨od1, J1, _⟩ := O1.look
    refine PySem.ks_wpAny_getMethod_super e1 (PySem.W.looks_opaque KX1 S.st) (l₀ := cd.mro) ?_ rfl KX1 z hof hofc (PySem.W.ks_ne KX1 J1 hc) hmc ?_
    · exact fun A Q E s k q => wpAny_bind ((PySem.W.looks_clsIn KX1 hc) A _ E s k (wpAny_pure q))
    · exact h _ _ (ClX.base_none I1 (Nat.le_refl _)) (ClX.met_new I1)
theorem pea_super {sp : Sp} {k : Nat} {fdg : FuncData} {psg : List Str} {ds : List Value} {dv : List V} {m : Str} {p0 p1 apos pos : Pos} {e : Expr} {es : List Expr} {t : TA} {pl : Sem Bool} {body : List Stmt}
    (F : FunS P K x qual st D f fd cda cc) (T : SupT P mg st N) (S : SupC K C D m g) (G : FnOk P w K mg base CX0 k g fdg psg sp) (hr : Room k (A.deeper (clEnv qual (defScope st) L f cda cc))) (hb : Binds K fdg psg ds) (hd : Vals dv ds)
    (ha : PA (cxS P w K mg base N (clEnv qual (defScope st) L f cda cc) A outer s0 H0) (e :: es) t) (hmc : (m == ("__class__" : Str)) = false := by decide +kernel)
    (hst : starEach (e :: es) (clEnv qual (defScope st) L f cda cc) = (false, eval e (clEnv qual (defScope st) L f cda cc)) :: starEach es (clEnv qual (defScope st) L f cda cc) := by rfl)
    (hpl : (backTo pos (starEach es (clEnv qual (defScope st) L f cda cc))).any (·.1) = false := by rfl)
    (ht : eval (.Call (.Attribute (.Call (.Name "super" p0) [] [] p1) m apos) (e :: es) [] pos) (clEnv qual (defScope st) L f cda cc) = (do
      let ov ← attributeBase (.Call (.Name "super" p0) [] [] p1) m (clEnv qual (defScope st) L f cda cc) (eval (.Call (.Name "super" p0) [] [] p1) (clEnv qual (defScope st) L f cda cc))
      standAt apos.atName
      let (f', first) ← holding [ov] (getMethod ov m pl)
      callWith pos f' first (backTo pos (starEach (e :: es) (clEnv qual (defScope st) L f cda cc))) []) := by rfl) :
    PEA (cxS P w K mg base N (clEnv qual (defScope st) L f cda cc) A outer s0 H0) (.func body (clEnv qual (defScope st) L f cda cc)) (.Call (.Attribute (.Call (.Name "super" p0) [] [] p1) m apos) (e :: es) [] pos) (tSuper C sp dv t) := by
  refine ⟨fun pins s σ H Q I h => ?_⟩
  obtain ⟨a, dx, fs, hs, hA, h⟩ := h
  refine PySem.ks_wpAt_MethodCall (pl := pl) ?_ ht
  refine sup_bound F T S hmc I hs hA fun q s' hq I' => ?_
  refine ClX.callwith_cm I' hq S.fi (thn (ha.run pos _ s' σ H _ I' h) fun us s3 ⟨vs, H2, I3, rv, q2⟩ => ⟨⟨ClX.pin_at I3, I3.kIn⟩, ?_⟩) hst hpl
  have hl : (Value.ref a :: (us ++ ds)).length = psg.length := by
    rw [← (show (V.ref a :: (vs ++ dv)).length = (Value.ref a :: (us ++ ds)).length from congrArg Nat.succ (rv.append hd).length)]
    exact G.len _ _ _ _ q2
  have z : wpAny (model P w) (A.deeper (clEnv qual (defScope st) L f cda cc)) (call (.ref q) us) (EP (cxS P w K mg base N (clEnv qual (defScope st) L f cda cc) A outer s0 H0) ((q, PySem.W.methodObj (.ref g) (.ref a)) :: pins) σ Q) (fun _ _ => False) s3 := by
    refine wpAny_call (PySem.W.method_call (ClX.pin_at I3) (codeAny_mono (G.run _ _ s3 H2 ⟨.ref a :: us, []⟩ (.ref a :: (us ++ ds)) (.ref a :: (vs ++ dv)) Q E0 hr I3.env0 (hb s3 (.ref a :: us) I3.kIn hl) (.cons rfl (rv.append hd)) q2) fun r s4 hq' => ?_))
    cases r with
    | error er => exact False.elim hq'
    | ok fl =>
      cases fl with
      | ret u => exact I3.after hq'
      | next => exact False.elim hq'
      | brk => exact False.elim hq'
      | cont => exact False.elim hq'
  exact thn z fun _ _ y => ClX.unpinE y
end
section
variable {X : Cx} {c : Code} {e a b : Expr} {st : Stmt} {rest : List Stmt} {te ta tb : TE} {t u : TS} {pos pos' : Pos}
theorem psa_ret (he : PEA X c e te) : PSA X c (.Return (some e) pos) (tRet te) := by
  refine ⟨fun pins s σ H D I h => ?_⟩
  exact PySem.ks_wpAt_Return_some (wpAt_thn (he.run pins s σ H _ I h) fun v s1 ⟨x, H1, I1, r1, q1⟩ => ⟨x, σ, H1, I1, r1, q1⟩)
theorem psa_set {i : Nat} {x : Str} (hN : X.N.Nodup) (hi : X.N[i]? = some x) (hx : Loc X.env.scope x) (he : PEA X c e te) (hs : swapsWith e (some (.Name x pos')) pos.line X.env = pure false := by rfl)
    (hf : X.fn x = true ∨ X.env.scope.names.lookup x = some .local := by first | exact .inl rfl | exact .inr rfl) : PSA X c (.Assign [.Name x pos'] e pos) (tAsg te (gName i)) := by
  refine ⟨fun pins s σ H D I h => ?_⟩
  refine PySem.ks_wpAt_Assign_Name (wpAt_thn (he.run pins s σ H _ I h) fun v s1 ⟨y, H1, I1, r1, q1⟩ => ?_) hs
  exact store_ok I1 hN hi hx r1 (fun s2 I2 => ⟨_, H1, I2, q1⟩) hf
/-- a and b, b at the def's own code -/
theorem pea_and (ha : PE X a ta) (hb : PEA X c b tb) : PEA X c (.BoolOp .And [a, b] pos) (tAndV ta tb) := by
  refine ⟨fun pins s σ H Q I h => ?_⟩
  show PySem.wpAt (model X.prog X.w) X.A c (do
    let v ← eval a X.env
    standAt pos
    let d ← holding [v] (truthy v)
    match BoolOp.And, d with
    | .And, false | .Or, true => pure v
    | _, _ => boolOp pos .And [eval b X.env]) _ _ s
  refine PySem.wpAt_bind (PySem.wpAt_of_wpAny (thn (ha.run pins s σ H _ I h) fun v s1 ⟨x, H1, I1, r1, d, ex, q1⟩ => ?_))
  subst ex
  obtain rfl : v = Value.bool d := r1
  refine PySem.wpAt_bind (PySem.wpAt_of_wpAny (wpAny_standAt (PySem.wpAt_bind (PySem.wpAt_of_wpAny (wpAny_holding (wpAny_truthy_bool ?_))))))
  cases d with
  | false => exact PySem.wpAt_of_wpAny (wpAny_pure ⟨.bl false, H1, I1, rfl, q1⟩)
  | true => exact hb.run pins s1 σ H1 Q I1 q1
end
end Tf

/-! ## TfSeg -/
set_option Elab.async false
set_option linter.all false
set_option maxRecDepth 100000
set_option maxHeartbeats 4000000
/-! A generator's code from one wake-up to the next yield, or to its end; no error is raised on the way. -/
namespace Tf
open PySem PySem.Spec PyProof.Rows L2
open PySem.W.X (SegX)

def Nox : Value → Shared → Prop := fun _ _ => False
section
variable {M : Model} {A : Around} {c : Code} {fs : List Frame} {s : Shared} {Φ : End → Shared → Prop}
theorem x_at {p0 : Pos} {k : Unit → Sem PySem.Fin} (h : SegX M A c (k ()) fs s Φ) : SegX M A c (.at p0 k) fs s Φ := by
  rintro Γ p rfl hΓ
  obtain ⟨e, s', r, q⟩ := h Γ p0 rfl hΓ
  exact ⟨e, s', Runs.head' (fun _ _ y => .at y) r, q⟩
theorem x_wrap {α : Type} {m : Sem α} {K : α → Sem PySem.Fin} {J : Value → Sem PySem.Fin} {gd : Bool → Bool} {lv : List Value → List Value}
    (h : PySem.wpAt M (A.over c fs) c m (fun a s' => SegX M A c (K a) fs s' Φ) Nox s) : SegX M A c (m.wrap K J gd lv) fs s Φ := by
  rintro Γ p rfl hΓ
  obtain ⟨e, s', r, q⟩ := runs_wrap_of_wp (Φ := fun e s' => e.quiet = true ∧ Φ e s') K J gd lv m (h (Γ.over fs) p rfl (hΓ.over fs)) (fun a p' s' h' => h' Γ p' rfl hΓ) (fun x p' s' h' => False.elim h')
  exact ⟨e, s', r, q⟩
theorem x_bind {α β : Type} {m : Sem α} {f : α → Sem β} {K : β → Sem PySem.Fin} {J : Value → Sem PySem.Fin} {gd : Bool → Bool} {lv : List Value → List Value}
    (h : PySem.wpAt M (A.over c fs) c m (fun a s' => SegX M A c ((f a).wrap K J gd lv) fs s' Φ) Nox s) : SegX M A c ((m >>= f).wrap K J gd lv) fs s Φ := by
  rw [Sem.bind_eq_wrap', Sem.wrap_wrap]
  exact x_wrap h
theorem x_tail {α : Type} {m : Sem α} {f : α → Sem PySem.Fin} (h : PySem.wpAt M (A.over c fs) c m (fun a s' => SegX M A c (f a) fs s' Φ) Nox s) : SegX M A c (m >>= f) fs s Φ := by
  rw [Sem.bind_eq_wrap']
  exact x_wrap h
theorem x_call {c' : Code} {hd : Option Value} {g : Bool} {l : List Value} {k : Result → Sem PySem.Fin} (h : ∀ p, SegX M A c' (M.den c') (.ret k hd g l c p [] :: fs) s Φ) : SegX M A c (.call c' hd g l k) fs s Φ := by
  rintro Γ p rfl hΓ
  obtain ⟨e, s', r, q⟩ := h p (Γ.goto c') p rfl (hΓ.goto c')
  exact ⟨e, s', runs_call_seg r, q⟩
theorem x_again {c' : Code} (hq : c'.quiet = true) (h : SegX M A c' (M.den c') fs s Φ) : SegX M A c (.pure (.again c')) fs s Φ := by
  rintro Γ p rfl hΓ
  obtain ⟨e, s', r, q⟩ := h (Γ.goto c') p rfl (hΓ.goto c')
  exact ⟨e, s', Runs.head (c₁ := c') (fun _ _ y => .again hq y) r, q⟩
theorem x_pop {k : Result → Sem PySem.Fin} {hd : Option Value} {g : Bool} {l : List Value} {c1 : Code} {p1 : Pos} {kp : List Value} (r : Result) (h : SegX M A c1 (k r) fs s Φ) : SegX M A c (leafOf r) (.ret k hd g l c1 p1 kp :: fs) s Φ := by
  rintro Γ p rfl hΓ
  obtain ⟨e, s', z, q⟩ := h (Γ.goto c1) p1 rfl (hΓ.goto c1)
  exact ⟨e, s', Runs.pop r z, q⟩
theorem x_end (r : Result) (h : Φ (.ret r) s) : SegX M A c (leafOf r) [] s Φ := by
  rintro Γ p rfl _
  exact ⟨.ret r, s, Runs.leaf r, rfl, h⟩
theorem x_yield {v : Value} {l : List Value} {k : Resume → Sem PySem.Fin} (hfs : splitAtGen fs = none) (hg : fs.any Frame.guarded = false) (h : ∀ p, Φ (.susp v false l k c p fs) s) : SegX M A c (.yield v false l k) fs s Φ := by
  rintro Γ p rfl _
  exact ⟨_, s, Runs.yield' fs hfs, by simp [End.quiet, hg], h p⟩
theorem SegX.imp {t : Sem PySem.Fin} {Φ' : End → Shared → Prop} (h : SegX M A c t fs s Φ) (f : ∀ e s', Φ e s' → Φ' e s') : SegX M A c t fs s Φ' := PySem.W.X.SegX.mono h f
end

/-! ### statements -/
section
variable {prog : Program} {w : World} {A : Around} {c : Code} {fs : List Frame} {s : Shared} {Φ : End → Shared → Prop} {env : Env} {K : Flow → Sem PySem.Fin} {J : Value → Sem PySem.Fin} {gd : Bool → Bool} {lv : List Value → List Value}
theorem x_nil {M : Model} (h : SegX M A c (K .next) fs s Φ) : SegX M A c ((execs [] env).wrap K J gd lv) fs s Φ := h
theorem x_cons {M : Model} {st : Stmt} {rest : List Stmt} (h : SegX M A c ((exec st env).wrap (fun f => match f with | .next => (execs rest env).wrap K J gd lv | f => K f) J gd lv) fs s Φ) : SegX M A c ((execs (st :: rest) env).wrap K J gd lv) fs s Φ := by
  rw [execs_cons_wrap]
  exact h
/-- what the end of a step is worth for the one who woke it: woken again it goes on with t -/
def GoesOn (M : Model) (c : Code) (fs : List Frame) (t : Sem PySem.Fin) (k : Resume → Sem PySem.Fin) : Prop := ∀ (A' : Around) (s' : Shared) (Φ' : End → Shared → Prop), SegX M A' c t fs s' Φ' → SegX M A' c (k (.send .none)) fs s' Φ'
theorem x_yieldS {M : Model} {e : Expr} {yp pos : Pos} (hfs : splitAtGen fs = none) (hgd : gd false = false) (hfg : fs.any Frame.guarded = false)
    (h : wpAny M (A.over c fs) (eval e env) (fun v s' => ∀ l k p, GoesOn M c fs (K .next) k → Φ (.susp v false l k c p fs) s') Nox s) (hco : env.scope.isCoroutine = false := by rfl) (hi : interactive env = false := by rfl) :
    SegX M A c ((exec (.Expr (.Yield (some e) yp) pos) env).wrap K J gd lv) fs s Φ := by
  rw [exec_Expr env _ pos hi rfl]
  show SegX M A c (.at pos fun _ => ((eval e env >>= fun v => (standAt yp >>= fun _ => yieldOut env v)) >>= fun x => dropValue (.Yield (some e) yp) pos x).wrap K J gd lv) fs s Φ
  have hy : ∀ v, yieldOut env v = yieldValue v := fun v => by simp only [yieldOut, hco, Bool.false_eq_true, if_false]
  simp only [hy]
  refine x_at ?_
  rw [Sem.bind_eq_wrap', Sem.bind_eq_wrap', Sem.wrap_wrap, Sem.wrap_wrap]
  refine x_wrap (PySem.wpAt_of_wpAny (wpAny_mono h (fun v s' h' => ?_) fun _ _ z => z))
  refine x_at ?_
  have eg : ∀ (l : List Value) (k : Resume → Sem PySem.Fin), (∀ p, Φ (.susp v false l k c p fs) s') → SegX M A c (.yield v (gd false) l k) fs s' Φ := fun l k hp => by
    rw [hgd]
    exact x_yield hfs hfg hp
  exact eg _ _ fun p => h' _ _ p fun A' s'' Φ' z => z
theorem x_while {M : Model} {test : Expr} {body orelse : List Stmt} {pos : Pos}
    (h : ∀ p, SegX M A (.whileLoop test body orelse env) (M.den (.whileLoop test body orelse env))
      (.ret (fun r => ((match r with | .ok f => (.pure f : Sem Flow) | .error e => .raise e).onRaise fun (x : Value) => do
        if (← field x 1) == Value.none then unsupported "frame.own-activation:exception-without-traceback"
        setFlight x env.frame).wrap K J gd lv) none (gd false) (lv []) c p [] :: fs) s Φ) : SegX M A c ((exec (.While test body orelse pos) env).wrap K J gd lv) fs s Φ :=
  x_at (x_call h)
theorem x_whileLoop {test : Expr} {body orelse : List Stmt}
    (h : wpAny (model prog w) (A.over (.whileLoop test body orelse env) fs) (isTrue test env (eval test env)) (fun b s' =>
        if b = true then
          SegX (model prog w) A (.whileLoop test body orelse env) ((execs body env).wrap (fun f => match f with
            | .next | .cont => .pure (.again (.whileLoop test body orelse env))
            | .brk => .pure (.done .next)
            | .ret v => .pure (.done (.ret v))) (fun e => (do noteFrame e env; theTreesLotGoes e : Sem Unit).wrap (fun _ => .raise e) .raise id id) id id) fs s' Φ
        else SegX (model prog w) A (.whileLoop test body orelse env) ((execs orelse env).wrap (fun f => .pure (.done f)) (fun e => (do noteFrame e env; theTreesLotGoes e : Sem Unit).wrap (fun _ => .raise e) .raise id id) id id) fs s' Φ) Nox s) :
    SegX (model prog w) A (.whileLoop test body orelse env) ((model prog w).den (.whileLoop test body orelse env)) fs s Φ := by
  show SegX _ A _ ((whileTurn test body orelse env).onRaise (fun x => do noteFrame x env; theTreesLotGoes x)) fs s Φ
  unfold whileTurn
  rw [Sem.onRaise_eq_wrap, Sem.bind_eq_wrap', Sem.wrap_wrap]
  refine x_wrap (PySem.wpAt_of_wpAny (wpAny_mono h (fun b s' hb => ?_) fun _ _ z => z))
  cases b with
  | true =>
    rw [if_pos rfl] at hb
    show SegX _ A _ (Sem.wrap _ _ _ _ (if true = true then _ else _)) fs s' Φ
    rw [if_pos rfl, Sem.bind_eq_wrap', Sem.wrap_wrap]
    rw [Sem.wrap_congr (execs body env) _ _ (K' := fun f => match f with
          | .next | .cont => .pure (.again (.whileLoop test body orelse env))
          | .brk => .pure (.done .next)
          | .ret v => .pure (.done (.ret v))) (H' := (fun e => (do noteFrame e env; theTreesLotGoes e : Sem Unit).wrap (fun _ => .raise e) .raise id id))
      (fun f => by cases f <;> rfl)
      (fun e => by first | exact Sem.bind_eq_wrap _ _ | (show (do noteFrame e env; theTreesLotGoes e : Sem Unit).bind (fun _ => .raise e) = _; rw [Sem.bind_eq_wrap]))]
    exact hb
  | false =>
    rw [if_neg Bool.false_ne_true] at hb
    show SegX _ A _ (Sem.wrap _ _ _ _ (if false = true then _ else _)) fs s' Φ
    rw [if_neg Bool.false_ne_true, Sem.bind_eq_wrap', Sem.wrap_wrap]
    rw [Sem.wrap_congr (execs orelse env) _ _ (K' := fun f => (.pure (.done f) : Sem PySem.Fin)) (H' := (fun e => (do noteFrame e env; theTreesLotGoes e : Sem Unit).wrap (fun _ => .raise e) .raise id id))
      (fun f => by rfl)
      (fun e => by first | exact Sem.bind_eq_wrap _ _ | (show (do noteFrame e env; theTreesLotGoes e : Sem Unit).bind (fun _ => .raise e) = _; rw [Sem.bind_eq_wrap]))]
    exact hb
/-- the frame that a loop's call leaves behind -/
abbrev loopFrame (env : Env) (c : Code) (p : Pos) (K : Flow → Sem PySem.Fin) (J : Value → Sem PySem.Fin) (gd : Bool → Bool) (lv : List Value → List Value) : Frame :=
  .ret (fun r => ((match r with | .ok f => (.pure f : Sem Flow) | .error e => .raise e).onRaise fun (x : Value) => do
        if (← field x 1) == Value.none then unsupported "frame.own-activation:exception-without-traceback"
        setFlight x env.frame).wrap K J gd lv) none (gd false) (lv []) c p []
theorem x_for {M : Model} {target iter : Expr} {body orelse : List Stmt} {pos : Pos}
    (h : PySem.wpAt M (A.over c fs) c (eval iter env) (fun v s1 => wpAny M (A.over c fs) (pyIter v) (fun it s2 => ∀ p, SegX M A (.forLoop target it body orelse env) (M.den (.forLoop target it body orelse env)) (loopFrame env c p K J gd lv :: fs) s2 Φ) Nox s1) Nox s)
    (hs : ∀ x, foldedSetIterable iter env x = pure x := by intro _; rfl) : SegX M A c ((exec (.For target iter body orelse pos) env).wrap K J gd lv) fs s Φ := by
  rw [exec_For]
  refine x_bind (PySem.wpAt_of_wpAny (wpAny_standAt ?_))
  refine x_bind (wpAt_thn h fun v s1 h1 => ?_)
  refine x_bind (PySem.wpAt_of_wpAny (wpAny_of_eq (hs v) ?_))
  refine x_bind (PySem.wpAt_of_wpAny (wpAny_standAt ?_))
  refine x_bind (PySem.wpAt_of_wpAny (wpAny_holding (wpAny_mono h1 (fun it s2 h2 => ?_) fun _ _ z => z)))
  exact x_call h2
theorem x_forLoop {target it : _} {body orelse : List Stmt}
    (h : wpAny (model prog w) (A.over (.forLoop target it body orelse env) fs) (pyNext it) (fun r s1 => match r with
      | none => SegX (model prog w) A (.block orelse env) ((model prog w).den (.block orelse env)) fs s1 Φ
      | some v => wpAny (model prog w) (A.over (.forLoop target it body orelse env) fs) (letOwnedTupleGo target it v) (fun _ s2 => wpAny (model prog w) (A.over (.forLoop target it body orelse env) fs) (assign target env v) (fun _ s3 =>
          SegX (model prog w) A (.forLoop target it body orelse env) ((execs body env).wrap (fun f => match f with
            | .next | .cont => .pure (.again (.forLoop target it body orelse env))
            | .brk => .pure (.done .next)
            | .ret v => .pure (.done (.ret v))) (fun e => (do noteFrame e env; theTreesLotGoes e : Sem Unit).wrap (fun _ => .raise e) .raise id id) id id) fs s3 Φ) Nox s2) Nox s1) Nox s)
    (hq : (Code.block orelse env).quiet = true := by rfl) :
    SegX (model prog w) A (.forLoop target it body orelse env) ((model prog w).den (.forLoop target it body orelse env)) fs s Φ := by
  show SegX _ A _ ((forTurn target it body orelse env).onRaise (fun x => do noteFrame x env; theTreesLotGoes x)) fs s Φ
  rw [Sem.onRaise_eq_wrap]
  simp only [forTurn]
  refine x_bind (PySem.wpAt_of_wpAny (wpAny_standAt ?_))
  refine x_bind (PySem.wpAt_of_wpAny (wpAny_onRaise (wpAny_mono h (fun r s1 h1 => ?_) fun _ _ z => False.elim z)))
  cases r with
  | none => exact x_again hq h1
  | some v =>
    refine x_bind (PySem.wpAt_of_wpAny (wpAny_mono h1 (fun _ s2 h2 => ?_) fun _ _ z => z))
    refine x_bind (PySem.wpAt_of_wpAny (wpAny_mono h2 (fun _ s3 h3 => ?_) fun _ _ z => z))
    rw [Sem.bind_eq_wrap', Sem.wrap_wrap]
    rw [Sem.wrap_congr (execs body env) _ _ (K' := fun f => match f with
          | .next | .cont => .pure (.again (.forLoop target it body orelse env))
          | .brk => .pure (.done .next)
          | .ret v => .pure (.done (.ret v))) (H' := (fun e => (do noteFrame e env; theTreesLotGoes e : Sem Unit).wrap (fun _ => .raise e) .raise id id))
      (fun f => by cases f <;> rfl)
      (fun e => by first | exact Sem.bind_eq_wrap _ _ | (show (do noteFrame e env; theTreesLotGoes e : Sem Unit).bind (fun _ => .raise e) = _; rw [Sem.bind_eq_wrap]))]
    exact h3
/-- the empty else of a loop -/
theorem x_block0 (h : SegX (model prog w) A (.block [] env) (leafOf (.ok .next)) fs s Φ) : SegX (model prog w) A (.block [] env) ((model prog w).den (.block [] env)) fs s Φ := by
  show SegX _ A _ (((execs [] env).onRaise (fun x => do noteFrame x env; theTreesLotGoes x)) >>= fun f => pure (Fin.done f)) fs s Φ
  refine x_tail (PySem.wpAt_of_wpAny (wpAny_onRaise (wpAny_execs_nil ?_)))
  exact h
theorem x_func {body : List Stmt}
    (h : SegX (model prog w) A (.func body env) ((execs body env).wrap (fun f => .pure (.done (.ret (match f with | .ret v => v | _ => .none)))) (fun e => (leaving env e).wrap (fun _ => .raise e) .raise id id) id id) fs s Φ) :
    SegX (model prog w) A (.func body env) ((model prog w).den (.func body env)) fs s Φ := by
  have pt : ∀ {l : List Value} {k : Unit → Sem PySem.Fin}, SegX (model prog w) A (.func body env) (k ()) fs s Φ → SegX (model prog w) A (.func body env) (.point l k) fs s Φ := fun {l k} z => by
    intro Γ p hc hΓ
    obtain ⟨e, s', r, q⟩ := z Γ p hc hΓ
    exact ⟨e, s', Runs.head' (fun _ _ y => .point y) r, q⟩
  show SegX _ A _ (.point [] fun _ => ((execs body env).onRaise (leaving env)) >>= _) fs s Φ
  refine pt ?_
  rw [Sem.onRaise_eq_wrap, Sem.bind_eq_wrap', Sem.wrap_wrap]
  rw [Sem.wrap_congr (execs body env) _ _ (K' := fun f => .pure (.done (.ret (match f with | .ret v => v | _ => .none))))
    (H' := fun e => (leaving env e).wrap (fun _ => .raise e) .raise id id) (fun f => by cases f <;> rfl)
    (fun e => by rw [Sem.bind_eq_wrap, Sem.wrap_wrap]; rfl)]
  exact h
end
end Tf

/-! ## TfGen -/
set_option Elab.async false
set_option linter.all false
set_option maxRecDepth 100000
set_option maxHeartbeats 4000000
/-! Generators drawn one item at a time, by anyone. -/
namespace Tf
open PySem PySem.Spec PyProof.Rows L2
open PySem.W.X (SegX)

/-- woken, with what it reaches -/
def Wake (M : Model) (A : Around) (gs : GenState) (s : Shared) (Φ : End → Shared → Prop) : Prop := match gs with
  | .fresh c => SegX M A c (M.den c) [] s Φ
  | .suspended k _ c _ fs _ => SegX M A c (k (.send .none)) fs s Φ
  | _ => False
theorem Wake.imp {M : Model} {A : Around} {gs : GenState} {s : Shared} {Φ Φ' : End → Shared → Prop} (h : Wake M A gs s Φ) (f : ∀ e s', Φ e s' → Φ' e s') : Wake M A gs s Φ' := by
  cases gs with
  | fresh c => exact SegX.imp h f
  | suspended k l c p fs cl => exact SegX.imp (Φ' := Φ') h f
  | running => exact h
  | finished => exact h
theorem wpAny_wake {α : Type} {P : Program} {w : World} {A : Around} {Q : α → Shared → Prop} {E : Value → Shared → Prop} {s : Shared} {g : Nat} {gs : GenState} {l : List Value} {k : GenResult → Sem α} (hg : s.gens[g]? = some gs)
    (h : Wake (model P w) A gs (s.setGen g .running) fun e s1 => e.genState.bare = true → wpAny (model P w) A (k e.result) Q E (s1.setGen g e.genState)) : wpAny (model P w) A (.resume g (.send .none) l k) Q E s := by
  intro Γ p hΓ
  rw [Sem.wp_resume]
  cases gs with
  | fresh c =>
    obtain ⟨e1, s1, hr, hq, he⟩ := h (Γ.wake c p) p rfl (hΓ.wake c p)
    exact ⟨_, _, by unfold Wakes; rw [hg]; exact ⟨e1, s1, hr, hq, rfl, rfl⟩, he (End.bare_of_quiet hq) Γ p hΓ⟩
  | suspended k0 l0 c0 p0 fs0 cl =>
    obtain ⟨e1, s1, hr, hq, he⟩ := h (Γ.wake c0 p) p0 rfl (hΓ.wake c0 p)
    exact ⟨_, _, by unfold Wakes; rw [hg]; exact ⟨e1, s1, hr, hq, rfl, rfl⟩, he (End.bare_of_quiet hq) Γ p hΓ⟩
  | running => exact h.elim
  | finished => exact h.elim

/-- what one turn leaves: pv, pv1 the generator's own objects ahead and behind -/
structure Aft (P : Program) (w : World) (outer : List Env) (H H1 : Hp) (pv pv1 : List Addr) (s s1 : Shared) : Prop where
  os : s1.os = s.os
  bare : AllBare s1.gens
  un : Un (frs outer) pv H H1 s.heap s1.heap
  hok : HOk P w H1 s1.heap
  same : Same H H1
  pvs : ∀ b ∈ pv1, H1 b = none ∧ (b ∈ pv ∨ s.heap.objs.size ≤ b) ∧ ∃ o, s1.heap.get? b = some o ∧ ∀ v, o.data ≠ .cell v
/-- other generators that this one draws from, as they sleep -/
abbrev Gp := List (Nat × GenState)
structure GpOk (own : Nat) (gp : Gp) (G : Array GenState) : Prop where
  at_ : ∀ q ∈ gp, G[q.1]? = some q.2
  ne : ∀ q ∈ gp, own < q.1
  sl : ∀ q ∈ gp, ∃ k l c p fs cl, q.2 = .suspended k l c p fs cl
theorem GpOk.nil {own : Nat} {G : Array GenState} : GpOk own [] G := ⟨fun _ h => no_mem h, fun _ h => no_mem h, fun _ h => no_mem h⟩

/-- ready to hand out item i, then the next ones, n of them at least (or to end). k: the room that a turn wants; lo: its frame; own: its number; need: what a turn wants of the abstract heap; pv, gp: its own objects (as they stand in h) and the generators that it draws from -/
def Ready (P : Program) (w : World) (K : PySem.W.Frag) (mg : Str → Option Value) (base : Heap) (k : Nat) (lo : Addr) (own : Nat) (need : Hp → Prop) (item : Nat → Option V) : Nat → Nat → GenState → List Addr → Gp → Heap → Prop
  | 0, _, _, _, _, _ => True
  | n + 1, i, gs, pv, gp, h => ∀ (A : Around) (outer : List Env) (s : Shared) (H : Hp), Room k A → Env0 P w K mg base A outer s H → need H → own < s.gens.size → (∀ b ∈ frs outer, b < lo) → (∀ b ∈ pv, H b = none) →
      (∀ b ∈ pv, ∀ o, h.get? b = some o → s.heap.get? b = some o) → GpOk own gp s.gens →
      Wake (model P w) A gs s fun e s1 => ∃ H1 pv1 gp1, Aft P w outer H H1 pv pv1 s s1 ∧ GpOk own gp1 s1.gens ∧ (match e with
        | .susp v _ l k' c p fs => ∃ x, item i = some x ∧ RelV x v ∧ Ready P w K mg base k lo own need item n (i + 1) (.suspended k' l c p fs false) pv1 gp1 s1.heap
        | .ret r => item i = none ∧ (r = .ok (.ret .none) ∨ r = .ok .next))
section
variable {P : Program} {w : World} {K : PySem.W.Frag} {mg : Str → Option Value} {base : Heap} {k : Nat} {lo : Addr} {own : Nat} {need : Hp → Prop} {item : Nat → Option V} {n i : Nat} {gs : GenState} {pv : List Addr} {gp : Gp} {h h' : Heap}
theorem Ready.at_ (R : Ready P w K mg base k lo own need item n i gs pv gp h) (hk : ∀ b ∈ pv, ∀ o, h.get? b = some o → h'.get? b = some o) : Ready P w K mg base k lo own need item n i gs pv gp h' := by
  cases n with
  | zero => trivial
  | succ n => exact fun A outer s H a1 a2 a3 a4 a5 a6 a7 a8 => R A outer s H a1 a2 a3 a4 a5 a6 (fun b hb o e => a7 b hb o (hk b hb o e)) a8

theorem Aft.grown {outer : List Env} {H H1 : Hp} {pv1 : List Addr} {s s1 : Shared} (a : Aft P w outer H H1 pv pv1 s s1) {G : Array GenState} {h2 : Heap} (hG : AllBare G) (hk : ∀ b o, s1.heap.get? b = some o → h2.get? b = some o) :
    Aft P w outer H H1 pv pv1 s { s1 with gens := G, heap := h2 } :=
  ⟨a.os, hG, a.un.trans (Un.kept hk), a.hok.kept hk, a.same, fun b hb => by
    obtain ⟨z1, z2, o, z3, z4⟩ := a.pvs b hb
    exact ⟨z1, z2, o, hk b o z3, z4⟩⟩
theorem GpOk.put {G : Array GenState} {x : GenState} (g : GpOk own gp G) : GpOk own gp (G.setIfInBounds own x) :=
  ⟨fun q hq => by rw [Array.getElem?_setIfInBounds_ne (Nat.ne_of_lt (g.ne q hq))]; exact g.at_ q hq, g.ne, g.sl⟩
theorem Env0.gens {A : Around} {outer : List Env} {s : Shared} {H : Hp} (e : Env0 P w K mg base A outer s H) {G : Array GenState} (hG : AllBare G) : Env0 P w K mg base A outer { s with gens := G } H :=
  ⟨e.frames, e.mod, e.bs, e.bsz, e.funs, e.frf, e.hok, hG⟩
theorem bare_put {G : Array GenState} {g : Nat} {x : GenState} (h : AllBare G) (hx : x.bare = true) : AllBare (G.setIfInBounds g x) := fun y hy => by
  obtain ⟨i, hi, e⟩ := Array.mem_iff_getElem.mp hy
  have hi' : i < G.size := by simpa using hi
  have e' : (G.setIfInBounds g x)[i]? = some y := by rw [Array.getElem?_eq_getElem hi, e]
  by_cases z : g = i
  · subst z
    rw [Array.getElem?_setIfInBounds_self_of_lt hi'] at e'
    cases e'
    exact hx
  · rw [Array.getElem?_setIfInBounds_ne z] at e'
    exact h y (Array.mem_of_getElem? e')

/-- next(g): an item, or the end -/
theorem next_ready {A : Around} {outer : List Env} {s : Shared} {H : Hp} {a : Addr} (R : Ready P w K mg base k lo own need item (n + 1) i gs pv gp s.heap) (hr : Room (k + 1) A) (e0 : Env0 P w K mg base A outer s H) (hn : need H)
    (hg : s.heap.IsGen a own) (hgs : s.gens[own]? = some gs) (hlo : ∀ b ∈ frs outer, b < lo) (hpv : ∀ b ∈ pv, H b = none) (ha : a ∉ pv ∧ H a = none ∧ a ∉ frs outer) (hgp : GpOk own gp s.gens) :
    wpAny (model P w) A (pyNext (.ref a)) (fun r s' => ∃ H1 pv1 gp1 gs1, Aft P w outer H H1 pv pv1 s s' ∧ GpOk own gp1 s'.gens ∧ s'.heap.IsGen a own ∧ (match r with
      | some v => ∃ x, item i = some x ∧ RelV x v ∧ s'.gens[own]? = some gs1 ∧ gs1.bare = true ∧ (∃ k l c p fs cl, gs1 = .suspended k l c p fs cl) ∧ Ready P w K mg base k lo own need item n (i + 1) gs1 pv1 gp1 s'.heap
      | none => item i = none)) Nox s := by
  have hl : s.heap.NoLimit := e0.mod.nolimit.keeps fun b o e => (e0.bs b o e).1
  have hsz : own < s.gens.size := (Array.getElem?_eq_some_iff.mp hgs).1
  unfold pyNext
  refine wpAny_bind (wpAny_attempt (wpAny_callSpecial?_slot (name := Str.ofString "__next__") hg.typeIs slot_gen_next (wpAny_call_entry slot_gen_next hg.typeIs entry_gen_next ?_ (args_gen_next _))))
  show wpAny _ A.in1 (Builtin.Generator.genWake (.ref a) (.send .none)) _ _ s
  unfold Builtin.Generator.genWake
  refine wpAny_bind (wpAny_holding (wpAny_genNumber hg (wpAny_bind (wpAny_genState hgs ?_))))
  have e1 : Env0 P w K mg base A.in1 outer (s.setGen own .running) H := Env0.gens e0.in1 (bare_put e0.bare rfl)
  have wk := R A.in1 outer (s.setGen own .running) H hr.in1 e1 hn (by rw [GenW.setGen_size]; exact hsz) hlo hpv (fun _ _ _ e => e) hgp.put
  have fin : ∀ (e : End) (s1 : Shared), (∃ H1 pv1 gp1, Aft P w outer H H1 pv pv1 (s.setGen own .running) s1 ∧ GpOk own gp1 s1.gens ∧ (match e with
        | .susp v _ l k' c p fs => ∃ x, item i = some x ∧ RelV x v ∧ Ready P w K mg base k lo own need item n (i + 1) (.suspended k' l c p fs false) pv1 gp1 s1.heap
        | .ret r => item i = none ∧ (r = .ok (.ret .none) ∨ r = .ok .next))) → s1.heap.IsGen a own := fun e s1 ⟨H1, pv1, gp1, A1, _, _⟩ => by
    obtain ⟨o, nm, qn, ho, r⟩ := hg
    exact ⟨o, nm, qn, A1.un.keep a o ho ha.2.1 ha.2.2 ha.1, r⟩
  cases gs with
  | running => exact wk.elim
  | finished => exact wk.elim
  | _ =>
    refine wpAny_bind (wpAny_roomToWake hl hr.depth ?_)
    show wpAny _ A.in1 (.resume own (.send .none) [] _) _ _ s
    refine GenW.wpAny_gsz (n := own + 1) hsz (wpAny_wake hgs (wk.imp fun e s1 he hb => ?_))
    have hG := fin e s1 he
    obtain ⟨H1, pv1, gp1, A1, G1, he⟩ := he
    have A1' : Aft P w outer H H1 pv pv1 s s1 := ⟨A1.os, A1.bare, A1.un, A1.hok, A1.same, A1.pvs⟩
    cases e with
    | ret r =>
      obtain ⟨hi, hr'⟩ := he
      have hres : End.result (.ret r) = .returned .none := by
        rcases hr' with z | z <;> rw [z] <;> rfl
      first | rw [hres] | simp only [hres]
      show wpAny _ A.in1 (newExc (.type "StopIteration") [] >>= _) _ _ _
      refine wpAny_bind ?_
      simp only [newExc, newTuple]
      refine wpAny_bind (wpAny_newObj_type ?_ (by size_fits))
      refine wpAny_bind (m := firstArgMember _ _) (wpAny_of_eq (a := Value.none) (by first | rfl | (simp only [firstArgMember]; rfl)) ?_)
      refine wpAny_newObj_type ?_ (by size_fits)
      simp only [raiseNew]
      refine wpAny_bind (wpAny_bind (wpAny_handled ?_))
      first | rw [show A.in1.handled = none from hr.hd] | rw [hr.hd]
      refine wpAny_throw fun _ => ?_
      refine wpAny_bind (wpAny_isInstance (T := "StopIteration") (b := true) ⟨_, Heap.get?_push_size _ rfl, rfl⟩ isSubtype_stop ?_)
      have kp : ∀ (o1 o2 : Obj) b o, s1.heap.get? b = some o → ((s1.heap.push o1).push o2).get? b = some o := fun o1 o2 b o hb => Heap.get?_push_of_some _ (Heap.get?_push_of_some _ hb)
      refine wpAny_pure ⟨H1, pv1, gp1, .finished, A1'.grown (bare_put A1.bare rfl) (kp _ _), G1.put, hG.keeps (kp _ _), hi⟩
    | susp v g0 l k0 c p fs =>
      obtain ⟨x, hx, rx, R1⟩ := he
      refine wpAny_pure fun hs2 => ⟨v, rfl, wpAny_pure ?_⟩
      have hlt : own < s1.gens.size := by rw [← GenW.setGen_size s1 own (End.susp v g0 l k0 c p fs).genState]; exact hs2
      refine ⟨H1, pv1, gp1, _, A1'.grown (h2 := s1.heap) (bare_put A1.bare hb) fun _ _ e => e, G1.put, hG, x, hx, rx, Array.getElem?_setIfInBounds_self_of_lt hlt, hb, ⟨_, _, _, _, _, _, rfl⟩, ?_⟩
      cases n with
      | zero => trivial
      | succ n => exact R1
end

/-! ### the state at a wake-up, as the frame's own code sees it -/
/-- the heap as far as the frame -/
def cut (lo : Addr) (s : Shared) : Shared := { s with heap := { s.heap with objs := s.heap.objs.extract 0 lo } }
theorem cut_size {lo : Addr} {s : Shared} (h : lo ≤ s.heap.objs.size) : (cut lo s).heap.objs.size = lo := by
  show (s.heap.objs.extract 0 lo).size = lo
  rw [Array.size_extract, Nat.sub_zero]
  exact Nat.min_eq_left h
theorem cut_get {lo : Addr} {s : Shared} {b : Addr} (h : b < lo) : (cut lo s).heap.get? b = s.heap.get? b := by
  have e : (s.heap.objs.extract 0 lo)[b]? = s.heap.objs[b]? := by
    rw [Array.getElem?_extract, Nat.zero_add]
    by_cases hb : b < s.heap.objs.size
    · rw [if_pos (by rw [Nat.sub_zero]; exact Nat.lt_min.mpr ⟨h, hb⟩)]
    · rw [if_neg (by rw [Nat.sub_zero]; exact fun z => hb (Nat.lt_min.mp z).2)]
      exact (Array.getElem?_eq_none (Nat.not_lt.mp hb)).symm
  show (match (s.heap.objs.extract 0 lo)[b]? with | some ⟨_, _, .freed, _⟩ => none | o => o) = (match s.heap.objs[b]? with | some ⟨_, _, .freed, _⟩ => none | o => o)
  rw [e]
theorem cut_some {lo : Addr} {s : Shared} {b : Addr} {o : Obj} (h : (cut lo s).heap.get? b = some o) : b < lo ∧ s.heap.get? b = some o := by
  have hb : b < (cut lo s).heap.objs.size := Heap.lt_size h
  have hb' : b < lo := by
    have : (cut lo s).heap.objs.size ≤ lo := by
      show (s.heap.objs.extract 0 lo).size ≤ lo
      rw [Array.size_extract, Nat.sub_zero]
      exact Nat.min_le_left _ _
    exact Nat.lt_of_lt_of_le hb this
  exact ⟨hb', (cut_get hb').symm.trans h⟩
def below (lo : Addr) (H : Hp) : Hp := fun b => if b < lo then H b else none
/-- an object that stands as it stands -/
def still (h : Heap) (b : Addr) : HO := .ext fun h' => h'.get? b = h.get? b
/-- all that lies behind the frame is watched -/
def held (lo : Addr) (pv : List Addr) (h : Heap) (H : Hp) : Hp := fun b => match H b with
  | some u => some u
  | none => if lo < b ∧ b ∉ pv ∧ (h.get? b).isSome = true then some (still h b) else none
/-- .. and no longer -/
def unheld (lo : Addr) (pv : List Addr) (h : Heap) (H H1 : Hp) : Hp := fun b => if H b = none ∧ lo < b ∧ b ∉ pv ∧ (h.get? b).isSome = true then none else H1 b
section
variable {P : Program} {w : World} {K : PySem.W.Frag} {mg : Str → Option Value} {base : Heap} {lo : Addr} {pv : List Addr} {h : Heap} {H H1 : Hp} {s s1 : Shared} {outer : List Env} {A : Around}
theorem held_some {b : Addr} {u : HO} (e : H b = some u) : held lo pv h H b = some u := by unfold held; rw [e]
theorem held_low {b : Addr} (hb : b ≤ lo) : held lo pv h H b = H b := by
  unfold held
  cases e : H b with
  | some u => rfl
  | none => exact if_neg fun z => absurd z.1 (Nat.not_lt.mpr hb)
theorem held_pv {b : Addr} (hb : b ∈ pv) (hH : H b = none) : held lo pv h H b = none := by
  unfold held
  rw [hH]
  exact if_neg fun z => z.2.1 hb
theorem held_still {b : Addr} {o : Obj} (hH : H b = none) (h1 : lo < b) (h2 : b ∉ pv) (e : h.get? b = some o) : held lo pv h H b = some (still h b) := by
  unfold held
  rw [hH]
  exact if_pos ⟨h1, h2, by rw [e]; rfl⟩
theorem still_own {b x : Addr} : still h b ≠ .own x := fun z => by
  have z' : HO.ext _ = HO.own x := z
  cases z'
theorem still_tup {b : Addr} {xs : List V} : still h b ≠ .tup xs := fun z => by
  have z' : HO.ext _ = HO.tup xs := z
  cases z'
theorem held_own {b : Addr} {u : HO} (e : held lo pv h H b = some u) (hu : u ≠ still h b) : H b = some u := by
  unfold held at e
  cases q : H b with
  | some v => rw [q] at e; exact e
  | none =>
    rw [q] at e
    have e : (if lo < b ∧ b ∉ pv ∧ (h.get? b).isSome = true then some (still h b) else none) = some u := e
    split at e
    · cases e; exact absurd rfl hu
    · cases e
theorem objOk_there {a : Addr} {u : HO} (x : ObjOk P w H h a u) : ∃ o, h.get? a = some o := by
  induction u with
  | lst xs => obtain ⟨_, _, _, _, e⟩ := x; exact ⟨_, e⟩
  | tup xs => obtain ⟨_, _, _, o, e, _⟩ := x; exact ⟨o, e⟩
  | dK kvs => obtain ⟨_, _, _, _, o, _, _, e, _⟩ := x; exact ⟨o, e⟩
  | dT kvs => obtain ⟨_, _, _, _, o, _, _, e, _⟩ := x; exact ⟨o, e⟩
  | set S n => obtain ⟨o, _, _, _, e, _⟩ := x; exact ⟨o, e⟩
  | ins C dx fs => obtain ⟨_, _, _, e, _⟩ := x; exact ⟨_, e⟩
  | own y => exact x
  | xd fs => obtain ⟨_, ⟨o, _, _, e, _⟩, _⟩ := x; exact ⟨o, e⟩
  | rng l r => obtain ⟨_, _, _, e⟩ := x; exact ⟨_, e⟩
  | frz ob u ih => obtain ⟨e, _⟩ := x; exact ⟨_, e⟩
  | tbl ps => exact ⟨_, (show h.get? a = some _ from x)⟩
  | met f y => exact ⟨_, (show h.get? a = some _ from x)⟩
  | ext φ => obtain ⟨_, e, _⟩ := x; exact e
theorem held_ok (ok : HOk P w H h) : HOk P w (held lo pv h H) h := fun a u e => by
  by_cases q : u = still h a
  · subst q
    cases z : H a with
    | some v =>
      rw [held_some z] at e
      cases e
      exact (ok a _ z).stay (fun _ _ _ y => y) (fun b y => held_some y) fun b xs y => held_some y
    | none =>
      have hs : (h.get? a).isSome = true := by
        unfold held at e
        rw [z] at e
        have e : (if lo < a ∧ a ∉ pv ∧ (h.get? a).isSome = true then some (still h a) else none) = some (still h a) := e
        split at e
        · rename_i c; exact c.2.2
        · cases e
      obtain ⟨o, ho⟩ := Option.isSome_iff_exists.mp hs
      refine ⟨rfl, ⟨o, ho⟩, fun h1 h2 y k => ?_⟩
      have y : h1.get? a = h.get? a := y
      show h2.get? a = h.get? a
      rw [ho] at y ⊢
      exact k o y
  · exact (ok a u (held_own e q)).stay (fun _ _ _ y => y) (fun b y => held_some y) fun b xs y => held_some y
theorem frames_cut {l : List Env} (hf : h.FunFrames base l) (hlo : ∀ b ∈ frs l, b < lo) (e : s.heap = h) : (cut lo s).heap.FunFrames base l := by
  induction l with
  | nil => trivial
  | cons env r ih =>
    obtain ⟨h1, ⟨L, o, hL, hn, ho, hd⟩, h3⟩ := hf
    have sub : ∀ b ∈ frs r, b ∈ frs (env :: r) := fun b hb => by
      unfold frs at hb ⊢
      rw [List.filterMap_cons, hL]
      exact List.mem_cons_of_mem _ hb
    have hLlt : L < lo := hlo L (by unfold frs; rw [List.filterMap_cons, hL]; exact List.mem_cons_self)
    exact ⟨h1, ⟨L, o, hL, hn, by rw [cut_get hLlt, e]; exact ho, hd⟩, ih h3 fun b hb => hlo b (sub b hb)⟩

/-- the slots' values stand in the frame -/
def SlotsIn (N : List Str) (env : Env) (σ : L2.St) (h : Heap) : Prop := ∃ m, h.Ns env.locals m ∧ ∀ (i : Nat) (x : Str) (v : V), N[i]? = some x → σ[i]? = some (some v) → ∃ u, RelV v u ∧ m x = some u
theorem SlotsIn.keeps {N : List Str} {env : Env} {σ : L2.St} {h' : Heap} (z : SlotsIn N env σ h) (hk : ∀ o, h.get? env.locals = some o → h'.get? env.locals = some o) : SlotsIn N env σ h' := by
  obtain ⟨m, ⟨o, es, ep, ho, r⟩, q⟩ := z
  exact ⟨m, ⟨o, es, ep, hk o ho, r⟩, q⟩
theorem SlotsIn.of {N : List Str} {env : Env} {σ : L2.St} {A' : Around} {s0 : Shared} {H0 : Hp} {pins : List (Addr × Obj)} (I : Inv (cxS P w K mg base N env A' outer s0 H0) pins σ H s) (hN : ∀ x ∈ N, env.scope.names.lookup x = some .local) : SlotsIn N env σ s.heap := by
  obtain ⟨m, hn, hl⟩ := I.loc
  refine ⟨m, hn, fun i x v e1 e2 => ?_⟩
  have hx := hN x (List.mem_of_getElem? e1)
  obtain ⟨u, ru, l⟩ := hl i x v e1 e2 (.inl hx)
  refine ⟨u, ru, ?_⟩
  rcases l with ⟨_, z⟩ | ⟨z, _⟩
  · exact z
  · have z : env.scope.names.lookup x = some .cell ∨ env.scope.names.lookup x = some .free := z
    rw [hx] at z
    rcases z with z | z <;> cases z
/-- a generator's own frame: what is fixed of it -/
structure GEnv (base : Heap) (N ps : List Str) (env : Env) (lo : Addr) : Prop where
  sc : ScS N ps env.scope
  loc : ∀ x ∈ N, env.scope.names.lookup x = some .local
  at_ : env.locals = lo
  fr : env.frame = some env.locals
  gl : env.globals = mainGlobals
  bl : env.builtins = builtinsNs
  cl : env.cells = [] ∧ (∀ y ∈ env.scope.names, y.2 ≠ .free) ∨ ∃ (cc : Addr) (v : Option Value), env.cells = ([("__class__", cc)] : List (Str × Addr)) ∧ base.IsCell cc v
  le : base.objs.size ≤ lo
theorem inv_woken {N ps : List Str} {env : Env} {σ : L2.St} (g : GEnv base N ps env lo) (hd : A.handled = none) (e0 : Env0 P w K mg base A outer s H) (hfr : ∀ b ∈ frs outer, b < lo) (hpv : ∀ b ∈ pv, H b = none) (hlo : lo ∈ pv)
    (hs : SlotsIn N env σ s.heap) (hl : σ.length = N.length) : Inv (cxS P w K mg base N env A outer (cut lo s) (below lo H)) [] σ (held lo pv s.heap H) s := by
  obtain ⟨m, hn, hm⟩ := hs
  have hlt : lo < s.heap.objs.size := by rw [← g.at_]; exact hn.lt
  have size := cut_size (s := s) (Nat.le_of_lt hlt)
  have bs : ∀ b o, base.get? b = some o → (cut lo s).heap.get? b = some o ∧ below lo H b = none := fun b o e => by
    have hb : b < lo := Nat.lt_of_lt_of_le (Heap.lt_size e) g.le
    obtain ⟨h1, h2⟩ := e0.bs b o e
    exact ⟨(cut_get hb).trans h1, by unfold below; rw [if_pos hb]; exact h2⟩
  have cells : ∀ {y c}, env.cells.lookup y = some c → y = ("__class__" : Str) ∧ ∃ v, base.IsCell c v := fun {y c} h => by
    rcases g.cl with ⟨e, _⟩ | ⟨cc, v, e, z⟩
    · rw [e] at h; cases h
    · rw [e, List.lookup_cons] at h
      cases hb : (y == ("__class__" : Str)) with
      | false => rw [hb] at h; cases h
      | true => rw [hb] at h; cases h; exact ⟨by simpa using hb, v, z⟩
  have cellB : ∀ {y c}, env.cells.lookup y = some c → ∃ v, s.heap.IsCell c v ∧ H c = none ∧ c < lo := fun {y c} h => by
    obtain ⟨_, v, o, ho, hd⟩ := cells h
    obtain ⟨h1, h2⟩ := e0.bs c o ho
    exact ⟨v, ⟨o, h1, hd⟩, h2, Nat.lt_of_lt_of_le (Heap.lt_size ho) g.le⟩
  refine ⟨⟨e0.mod, g.sc.kind, g.gl, g.bl, by show (cut lo s).heap.objs.size ≤ env.locals; rw [size, g.at_]; exact Nat.le_refl _, fun y z c h1 h2 => (cells h1).1.trans (cells h2).1.symm, fun y hy => ?_, fun y c z _ => Bool.noConfusion z, fun _ => hd, Around.frames_deeper e0.frames, .inr ⟨rfl, g.fr⟩,
      fun b z => no_mem z, bs, by show base.objs.size ≤ (cut lo s).heap.objs.size; rw [size]; exact g.le, fun b _ _ z => no_mem z, fun b z => no_mem z, frames_cut e0.funs hfr rfl, fun b hb => ?_⟩,
    rfl, e0.bare, ⟨fun b o e n hb hx => (cut_some e).2, fun b o e n hb hx => ⟨o.slots, (cut_some e).2⟩, fun b o e n hx => ?_, fun b o e hx => ⟨o, (cut_some e).2⟩, fun b xs e => ?_, fun b o u e => ?_, fun b qs e => ⟨#[], ?_⟩⟩,
    ⟨m, hn, fun i x v e1 e2 e3 => ?_⟩, fun y c h => ?_, ?_, fun y c h => ?_, fun p hp => no_mem hp, held_ok e0.hok, hl⟩
  · have hy : env.scope.names.lookup y = some .cell ∨ env.scope.names.lookup y = some .free := hy
    rcases hy with hy | hy
    · exact absurd rfl (g.sc.nocell _ (PySem.mem_of_lookup hy))
    · have ey : y = ("__class__" : Str) := g.sc.free _ (PySem.mem_of_lookup hy) rfl
      rcases g.cl with ⟨_, e⟩ | ⟨cc, v, e, _⟩
      · exact absurd rfl (e _ (PySem.mem_of_lookup hy))
      · refine ⟨cc, ?_⟩
        show env.cells.lookup y = some cc
        rw [e, ey, List.lookup_cons, beq_self_eq_true]
  · show below lo H b = none
    unfold below
    rw [if_pos (hfr b hb)]
    exact e0.frf b hb
  · have hb := (cut_some e).1
    rw [held_low (Nat.le_of_lt hb)]
    have n : below lo H b = none := n
    unfold below at n
    rw [if_pos hb] at n
    exact n
  · have e : below lo H b = some (.tup xs) := e
    unfold below at e
    split at e
    · exact held_some e
    · cases e
  · have e : below lo H b = some (.frz o u) := e
    unfold below at e
    split at e
    · exact held_some e
    · cases e
  · have e : below lo H b = some (.tbl qs) := e
    unfold below at e
    split at e
    · rw [held_some e]; simp
    · cases e
  · have hx := g.loc x (List.mem_of_getElem? e1)
    obtain ⟨u, ru, hu⟩ := hm i x v e1 e2
    exact ⟨u, ru, .inl ⟨hx, hu⟩⟩
  · obtain ⟨v, z, _⟩ := cellB h
    exact ⟨v, z⟩
  · show held lo pv s.heap H env.locals = none
    rw [g.at_]
    exact held_pv hlo (hpv lo hlo)
  · obtain ⟨v, _, z, hc⟩ := cellB h
    rw [held_low (Nat.le_of_lt hc)]
    exact z
/-- back to the one who woke it -/
theorem aft_woken {N : List Str} {env : Env} {σ1 : L2.St} {pins : List (Addr × Obj)} {pv1 : List Addr} (e0 : Env0 P w K mg base A outer s H) (hfr : ∀ b ∈ frs outer, b < lo) (hlo : lo ∈ pv) (hsz : lo < s.heap.objs.size)
    (I : Inv (cxS P w K mg base N env A outer (cut lo s) (below lo H)) pins σ1 H1 s1) (sm : Same (held lo pv s.heap H) H1)
    (hpv1 : ∀ b ∈ pv1, H1 b = none ∧ (b ∈ pv ∨ s.heap.objs.size ≤ b) ∧ ∃ o, s1.heap.get? b = some o ∧ ∀ v, o.data ≠ .cell v) : Aft P w outer H (unheld lo pv s.heap H H1) pv pv1 s s1 := by
  have sameH : ∀ {b : Addr} {u : HO}, H b = some u → unheld lo pv s.heap H H1 b = some u := fun {b u} e => by
    unfold unheld
    rw [if_neg (fun z => by rw [e] at z; cases z.1)]
    exact sm b u (held_some e)
  have seen : ∀ {b : Addr} {o : Obj}, s.heap.get? b = some o → H b = none → lo < b → b ∉ pv → s1.heap.get? b = some o := fun {b o} e n hb hp => by
    have z := sm b _ (held_still n hb hp e)
    obtain ⟨y, _, _⟩ := I.hok b _ z
    have y : s1.heap.get? b = s.heap.get? b := y
    rw [y]; exact e
  have above : ∀ {b : Addr}, b ∉ pv → ¬ b < lo → lo < b := fun {b} hp hb => by
    have ne : b ≠ lo := fun e => hp (by rw [e]; exact hlo)
    exact Nat.lt_of_le_of_ne (Nat.not_lt.mp hb) (Ne.symm ne)
  have n0 : ∀ {b : Addr}, H b = none → b < lo → below lo H b = none := fun {b} n hb => by unfold below; rw [if_pos hb]; exact n
  have un : Un (frs outer) pv H (unheld lo pv s.heap H H1) s.heap s1.heap := {
    keep := fun b o e n hf hp => by
      by_cases hb : b < lo
      · exact I.base.keep b o ((cut_get hb).trans e) (n0 n hb) hf (fun z => no_mem z)
      · exact seen e n (above hp hb) hp
    slot := fun b o e n hf hp => by
      have hb := hfr b hf
      exact I.base.slot b o ((cut_get hb).trans e) (n0 n hb) hf (fun z => no_mem z)
    free := fun b o e n hp => by
      unfold unheld
      by_cases hb : b < lo
      · rw [if_neg (fun z => absurd z.2.1 (Nat.not_lt.mpr (Nat.le_of_lt hb)))]
        exact I.base.free b o ((cut_get hb).trans e) (n0 n hb) (fun z => no_mem z)
      · rw [if_pos ⟨n, above hp hb, hp, by rw [e]; rfl⟩]
    there := fun b o e hp => by
      by_cases hb : b < lo
      · exact I.base.there b o ((cut_get hb).trans e) (fun z => no_mem z)
      · cases n : H b with
        | none => exact ⟨o, seen e n (above hp hb) hp⟩
        | some u => exact objOk_there (I.hok b u (sm b u (held_some n)))
    tups := fun b xs e => sameH e
    frzs := fun b o u e => sameH e
    tbls := fun b qs e => ⟨#[], by rw [sameH e]; simp⟩ }
  have hun : ∀ {b : Addr} {u : HO}, H1 b = some u → (∀ h', u ≠ still h' b) → unheld lo pv s.heap H H1 b = some u := fun {b u} e ne => by
    unfold unheld
    split
    · rename_i c
      obtain ⟨o, ho⟩ := Option.isSome_iff_exists.mp c.2.2.2
      have z := sm b _ (held_still c.1 c.2.1 c.2.2.1 ho)
      rw [e] at z
      exact absurd (Option.some.inj z) (ne _)
    · exact e
  have hok : HOk P w (unheld lo pv s.heap H H1) s1.heap := fun b u e => by
    have e1 : H1 b = some u := by
      unfold unheld at e
      split at e
      · cases e
      · exact e
    exact (I.hok b u e1).stay (fun _ _ _ y => y) (fun c y => hun y fun h' z => still_own z.symm) fun c xs y => hun y fun h' z => still_tup z.symm
  refine ⟨I.os, I.bare, un, hok, fun b u e => sameH e, fun b hb => ?_⟩
  obtain ⟨z1, z2, z3⟩ := hpv1 b hb
  refine ⟨?_, z2, z3⟩
  unfold unheld
  split
  · rfl
  · exact z1
end
end Tf

/-! ## TfGen2 -/
set_option Elab.async false
set_option linter.all false
set_option maxRecDepth 100000
set_option maxHeartbeats 4000000
/-! Generator defs, their calls. -/
namespace Tf
open PySem PySem.Spec PyProof.Rows L2
open PySem.W.X (SegX)

/-- a generator has been made: at a, its frame at lo; nothing of it has run -/
structure Made (P : Program) (w : World) (K : PySem.W.Frag) (mg : Str → Option Value) (base : Heap) (k : Nat) (need : Hp → Prop) (item : Nat → Option V) (s s' : Shared) (a lo : Addr) : Prop where
  os : s'.os = s.os
  kept : ∀ b o, s.heap.get? b = some o → s'.heap.get? b = some o
  low : s.heap.objs.size ≤ lo
  lt : lo < a
  there : a < s'.heap.objs.size
  gen : s'.heap.IsGen a s.gens.size
  frame : ∃ o, s'.heap.get? lo = some o ∧ ∀ v, o.data ≠ .cell v
  fresh : ∃ c, s'.gens = s.gens.push (.fresh c) ∧ ∀ n, n ≤ 2 ^ 62 → Ready P w K mg base k lo s.gens.size need item n 0 (.fresh c) [lo] [] s'.heap
/-- a generator def's promise: of the arguments and the heap, what a turn needs and what is handed out -/
abbrev SpGe := List V → Hp → (Hp → Prop) → (Nat → Option V) → Prop
structure GenOk (P : Program) (w : World) (K : PySem.W.Frag) (mg : Str → Option Value) (base : Heap) (k : Nat) (f : Addr) (fd : FuncData) (ps : List Str) (sp : SpGe) : Prop where
  len : ∀ vs H need item, sp vs H need item → vs.length = ps.length
  run : ∀ (A : Around) (outer : List Env) (s : Shared) (H : Hp) (args : Args) (us : List Value) (vs : List V) (need : Hp → Prop) (item : Nat → Option V), Room k A → Env0 P w K mg base A outer s H → BindsTo s fd args (ps.zip us) → Vals vs us → sp vs H need item →
    codeAny (model P w) A (.call (.ref f) args) (fun r s' => ∃ a lo, r = .ok (.ret (.ref a)) ∧ Made P w K mg base k need item s s' a lo) s
/-- a generator def of the text -/
structure FunG (K : PySem.W.Frag) (x qual : Str) (st : Stmt) (f : Addr) (fd : FuncData) (cl : List (Str × Addr)) (cdv : Value) : Prop where
  ex : ∃ (oc : Value) (od : Option Addr) (dV kV doc pm : Value) (an : Option Addr) (ct : Value) (osl : Array (Option Value)),
    fd = PySem.W.fnX x qual (defArgs st) (defBody st) (defScope st) cl dV kV doc pm an cdv ct ∧ K.lookup f = some ⟨oc, od, .func fd, osl⟩
  cd : PySem.W.codeIn K cdv qual = true
  cl_ : cl = [] ∧ (∀ y ∈ (defScope st).names, y.2 ≠ .free) ∨ ∃ (cc : Addr) (c : Value) (d : Option Addr) (v : Option Value) (sl : Array (Option Value)), cl = ([("__class__", cc)] : List (Str × Addr)) ∧ K.lookup cc = some ⟨c, d, .cell v, sl⟩
  kp : PySem.W.keepIn K (.ref f) = true
section
variable {P : Program} {w : World} {K : PySem.W.Frag} {mg : Str → Option Value} {base : Heap}
/-- THE RULE for a generator def, by what its code does once it is woken -/
theorem FunG.ok {x qual : Str} {st : Stmt} {f : Addr} {fd : FuncData} {cl : List (Str × Addr)} {cdv : Value} {N ps : List Str} {k : Nat} {sp : SpGe} (F : FunG K x qual st f fd cl cdv) (S : ScS N ps (defScope st)) (hgen : (defScope st).isGenerator = true)
    (hN : ∀ y ∈ N, (defScope st).names.lookup y = some .local) (len : ∀ vs H need item, sp vs H need item → vs.length = ps.length)
    (hbody : ∀ (lo own n : Nat) (vs : List V) (H : Hp) (need : Hp → Prop) (item : Nat → Option V) (h : Heap), n ≤ 2 ^ 62 → sp vs H need item → GEnv base N ps (PySem.W.envX qual (defScope st) lo f cdv cl) lo → SlotsIn N (PySem.W.envX qual (defScope st) lo f cdv cl) (L2.start N vs) h →
      Ready P w K mg base k lo own need item n 0 (.fresh (.func (defBody st) (PySem.W.envX qual (defScope st) lo f cdv cl))) [lo] [] h) : GenOk P w K mg base k f fd ps sp := by
  refine ⟨len, fun A outer s H args us vs need item hr e0 hb r hsp => ?_⟩
  have hl := len _ _ _ _ hsp
  have KX : K.In s.heap := e0.mod.kin.keeps fun b o e => (e0.bs b o e).1
  have lim : s.heap.NoLimit := e0.mod.nolimit.keeps fun b o e => (e0.bs b o e).1
  obtain ⟨oc, od, dV, kV, doc, pm, an, ct, osl, rfl, lk⟩ := F.ex
  refine codeAny_call_generator hr.depth (KX _ _ lk) rfl S.co hgen rfl (PySem.W.codeRec_of KX F.cd) (hb _ _ _ _ ?_)
  refine wpAny_newFunctionEnv S.nocell (fun y hy => S.par _ (List.of_mem_zip hy).1) (fun h1 hn hs => ?_) S.kind
  have hk : ∀ b o, s.heap.get? b = some o → h1.get? b = some o := fun b o e => hs.extBut b o (Nat.ne_of_lt (Heap.lt_size e)) (Heap.get?_push_of_some _ e)
  have sz1 : h1.objs.size = s.heap.objs.size + 1 := by rw [hs.1, Heap.size_push]
  refine ⟨lim.keeps hk, s.heap.objs.size + 1, s.heap.objs.size, ?_, ?_⟩
  · show (Except.ok (Flow.ret (.ref h1.objs.size)) : Result) = _
    rw [sz1]
  have g : GEnv base N ps (PySem.W.envX qual (defScope st) s.heap.objs.size f cdv cl) s.heap.objs.size := by
    refine ⟨S, hN, rfl, rfl, rfl, rfl, ?_, e0.bsz⟩
    rcases F.cl_ with z | ⟨cc, c, d, v, sl, z, y⟩
    · exact .inl z
    · exact .inr ⟨cc, v, z, _, e0.mod.kin _ _ y, rfl⟩
  have sl : SlotsIn N (PySem.W.envX qual (defScope st) s.heap.objs.size f cdv cl) (L2.start N vs) h1 := by
    have I := inv_startS (P := P) (w := w) (mg := mg) (tk := s.toks) (env := PySem.W.envX qual (defScope st) s.heap.objs.size f cdv cl) (cl := cl) S rfl rfl rfl rfl rfl (by
      rcases F.cl_ with z | ⟨cc, c, d, v, sl, z, y⟩
      · exact .inl z
      · exact .inr ⟨cc, v, z, ⟨_, KX _ _ y, rfl⟩, (e0.bs _ _ (e0.mod.kin _ _ y)).2, Heap.lt_size (KX _ _ y)⟩) hr.hd e0 hl r hn hk
    exact SlotsIn.of I hN
  have hL : ∃ o, h1.get? s.heap.objs.size = some o ∧ ∀ v, o.data ≠ .cell v := by
    obtain ⟨o, es, ep, ho, hd, _⟩ := hn
    exact ⟨o, ho, fun v z => by rw [hd] at z; cases z⟩
  refine ⟨rfl, fun b o e => Heap.get?_push_of_some _ (hk b o e), Nat.le_refl _, Nat.lt_succ_self _, ?_, ?_, ?_, ⟨_, rfl, fun n hn62 => ?_⟩⟩
  · show s.heap.objs.size + 1 < (h1.push _).objs.size
    rw [Heap.size_push, sz1]
    exact Nat.lt_succ_self _
  · rw [← sz1]
    exact ⟨_, _, _, Heap.get?_push_size _ rfl, rfl, rfl, rfl⟩
  · obtain ⟨o, ho, hd⟩ := hL
    exact ⟨o, Heap.get?_push_of_some _ ho, hd⟩
  · exact hbody _ _ n vs H need item _ hn62 hsp g (sl.keeps fun o e => Heap.get?_push_of_some _ e)
/-- a generator method of the class at C -/
def MtG (P : Program) (w : World) (K : PySem.W.Frag) (mg : Str → Option Value) (base : Heap) (C : Addr) (m : Str) (k : Nat) (ps : List Str) (sp : SpGe) : Prop :=
  Cls K C ∧ ∃ (f : Addr) (fd : FuncData), Meth K C m f ∧ GenOk P w K mg base k f fd ps sp ∧ Binds K fd ps []
end

/-! ### expressions whose value is a new generator -/
abbrev TGe := L2.St → Hp → ((Hp → Prop) → (Nat → Option V) → Hp → Prop) → Prop
structure PGe (X : Cx) (k : Nat) (e : Expr) (t : TGe) : Prop where
  run : ∀ (pins : List (Addr × Obj)) (s : Shared) (σ : L2.St) (H : Hp) (R : (Hp → Prop) → (Nat → Option V) → Hp → Prop), Inv X pins σ H s → t σ H R →
    wpAny (model X.prog X.w) X.A (eval e X.env) (fun u s' => ∃ s0 a lo need item H1, u = .ref a ∧ Inv X pins σ H1 s0 ∧ Made X.prog X.w X.K X.mg X.base k need item s0 s' a lo ∧ R need item H1) X.xe s
def tGeMt (C : Addr) (m : Str) (sp : SpGe) (to : TE) (ta : TA) : TGe := fun σ H R => to σ H fun x H1 => ∃ a dx fs, x = .ref a ∧ H1 a = some (.ins C dx fs) ∧ fs.lookup m = none ∧ ta σ H1 fun vs H2 => ∃ need item, sp (.ref a :: vs) H2 need item ∧ R need item H2
section
variable {X : Cx} {k : Nat} {C : Addr} {m : Str} {ps : List Str} {sp : SpGe} {o e : Expr} {es : List Expr} {to : TE} {ta : TA} {pos apos : Pos}
theorem run_ge {f : Addr} {fd : FuncData} {pins : List (Addr × Obj)} {s : Shared} {σ : L2.St} {H : Hp} {us : List Value} {vs : List V} {need : Hp → Prop} {item : Nat → Option V} {R : (Hp → Prop) → (Nat → Option V) → Hp → Prop} (G : GenOk X.prog X.w X.K X.mg X.base k f fd ps sp) (hr : Room k X.A) (hb : Binds X.K fd ps [])
    (I : Inv X pins σ H s) (r : Vals vs us) (h : sp vs H need item) (q : R need item H) :
    wpAny (model X.prog X.w) X.A (call (.ref f) us) (fun u s' => ∃ s0 a lo need item H1, u = .ref a ∧ Inv X pins σ H1 s0 ∧ Made X.prog X.w X.K X.mg X.base k need item s0 s' a lo ∧ R need item H1) X.xe s := by
  have hl : (us ++ []).length = ps.length := by rw [List.append_nil, ← r.length]; exact G.len _ _ _ _ h
  have bd := hb s us I.kIn hl
  rw [List.append_nil] at bd
  refine wpAny_call (codeAny_mono (G.run X.A X.stack s H ⟨us, []⟩ us vs need item hr I.env0 bd r h) fun r s' hq => ?_)
  obtain ⟨a, lo, rfl, M⟩ := hq
  exact ⟨s, a, lo, need, item, H, rfl, I, M, q⟩
theorem pge_mt {pl : Sem Bool} (ho : PE X o to) (F : MtG X.prog X.w X.K X.mg X.base C m k ps sp) (hr : Room k X.A) (ha : PA X (e :: es) ta)
    (hst : starEach (e :: es) X.env = (false, eval e X.env) :: starEach es X.env := by rfl) (hpl : (backTo pos (starEach es X.env)).any (·.1) = false := by rfl)
    (ht : eval (.Call (.Attribute o m apos) (e :: es) [] pos) X.env = (do
      let ov ← eval o X.env
      standAt apos.atName
      let (f, first) ← holding [ov] (getMethod ov m pl)
      callWith pos f first (backTo pos (starEach (e :: es) X.env)) (backToKw pos (keywordEach [] X.env))) := by rfl) :
    PGe X k (.Call (.Attribute o m apos) (e :: es) [] pos) (tGeMt C m sp to ta) := by
  obtain ⟨c, f, fd, hm, G, hb⟩ := F
  refine ⟨fun pins s σ H R I h => ?_⟩
  refine PySem.W.methodCall_KW (pl := pl) (thn (ho.run pins s σ H _ I h) fun u s1 ⟨x, H1, I1, rx, a, dx, fs, ex, ea, l, q⟩ => ?_) ht
  subst ex
  obtain rfl : u = Value.ref a := rx
  refine getmeth_ok I1 ea c hm l ?_
  refine PySem.W.callWith_K (first := [.ref a]) (h₀ := X.base) I.ok.mod.kin hm.kp (thn (ha.run pos pins s1 σ H1 _ I1 q) fun us s2 ⟨vs, H2, I2, r, need, item, q1, q2⟩ => ⟨I2.kIn, ?_⟩) hst hpl
  exact run_ge (us := .ref a :: us) (vs := .ref a :: vs) G hr hb I2 (.cons rfl r) q1 q2
theorem pge_mt0 {pl : Sem Bool} (ho : PE X o to) (F : MtG X.prog X.w X.K X.mg X.base C m k ps sp) (hr : Room k X.A)
    (ht : eval (.Call (.Attribute o m apos) [] [] pos) X.env = (do
      let ov ← eval o X.env
      standAt apos.atName
      let (f, first) ← holding [ov] (getMethod ov m pl)
      callWith pos f first (backTo pos (starEach [] X.env)) (backToKw pos (keywordEach [] X.env))) := by rfl) :
    PGe X k (.Call (.Attribute o m apos) [] [] pos) (tGeMt C m sp to tNil) := by
  obtain ⟨c, f, fd, hm, G, hb⟩ := F
  refine ⟨fun pins s σ H R I h => ?_⟩
  refine PySem.W.methodCall_KW (pl := pl) (thn (ho.run pins s σ H _ I h) fun u s1 ⟨x, H1, I1, rx, a, dx, fs, ex, ea, l, need, item, q1, q2⟩ => ?_) ht
  subst ex
  obtain rfl : u = Value.ref a := rx
  refine getmeth_ok I1 ea c hm l ?_
  exact PySem.W.callWith_K0 (first := [.ref a]) I1.kIn hm.kp (run_ge (us := [.ref a]) (vs := [.ref a]) G hr hb I1 (.cons rfl .nil) q1 q2)
end
end Tf

/-! ## TfTurn -/
set_option Elab.async false
set_option linter.all false
set_option maxRecDepth 100000
set_option maxHeartbeats 4000000
/-! Loops and comprehensions over what draws from a generator. -/
namespace Tf
open PySem PySem.Spec PyProof.Rows L2
open PySem.W.X (SegX)

/-! ### what runs between two draws leaves the sleepers alone -/
section
variable {X : Cx} {pins : List (Addr × Obj)} {σ : L2.St} {H : Hp} {s a : Shared}
theorem Inv.regens {G : Array GenState} (I : Inv X pins σ H a) (hG : AllBare G) : Inv X pins σ H (re a G) := ⟨I.ok, I.os, hG, I.base, I.loc, I.cell, I.free, I.freeC, I.pin, I.hok, I.len⟩
theorem Inv.lulled (I : Inv X pins σ H s) : Inv X pins σ H (re s (s.gens.map lull)) := Inv.regens I (AllBare.lull I.bare)
theorem Inv.back {s' : Shared} (I : Inv X pins σ H a) (T : Twins a.gens s'.gens) (e : s' = re a s'.gens) : Inv X pins σ H s' := by
  rw [e]
  exact Inv.regens I (AllBare.twins T I.bare)
/-- a step that raises nothing, run while all sleep -/
theorem thnZ {α : Type} {M : Model} {A : Around} {t : Sem α} {Q Q' : α → Shared → Prop} {E : Value → Shared → Prop} (h : wpAny M A t Q Nox (re s (s.gens.map lull))) (hQ : ∀ r a s', s' = re a s'.gens → Twins a.gens s'.gens → Asleep s.gens s'.gens → Q r a → Q' r s') : wpAny M A t Q' E s :=
  wpAny_mono (wpAny_asleep h) (fun r s' ⟨a, e, T, z, q⟩ => hQ r a s' e T z q) fun r s' ⟨_, _, _, _, q⟩ => False.elim q
theorem SP.back {D : Ends} {f : Flow} {s' : Shared} (h : SP X pins D f a) (T : Twins a.gens s'.gens) (e : s' = re a s'.gens) : SP X pins D f s' := by
  cases f with
  | next => obtain ⟨σ', H', I, q⟩ := h; exact ⟨σ', H', Inv.back I T e, q⟩
  | brk => obtain ⟨σ', H', I, q⟩ := h; exact ⟨σ', H', Inv.back I T e, q⟩
  | cont => obtain ⟨σ', H', I, q⟩ := h; exact ⟨σ', H', Inv.back I T e, q⟩
  | ret v => obtain ⟨v', σ', H', I, r, q⟩ := h; exact ⟨v', σ', H', Inv.back I T e, r, q⟩
end

/-- what is walked: at turn i it may go; it hands out x; it may end -/
structure ItS where
  go : Nat → Hp → Prop
  yld : Nat → Hp → V → Hp → Prop
  stop : Nat → Hp → Prop
  fin : Nat → Hp → Hp → Prop
/-- whoever walks: the same program, the same frames, room enough -/
structure Walker (P : Program) (w : World) (K : PySem.W.Frag) (mg : Str → Option Value) (base : Heap) (outer : List Env) (k : Nat) (X : Cx) : Prop where
  p : X.prog = P
  w_ : X.w = w
  k_ : X.K = K
  m : X.mg = mg
  b : X.base = base
  c : X.calm = true
  o : X.stack = outer
  r : Room k X.A
/-- .. turn by turn; fp: the iterator's own objects -/
structure TurnS (P : Program) (w : World) (K : PySem.W.Frag) (mg : Str → Option Value) (base : Heap) (outer : List Env) (k : Nat) (tg : Expr) (J : ItS) (it : Addr) (St : Nat → List Addr → Shared → Prop) : Prop where
  obj : ∀ i fp s, St i fp s → ∀ b ∈ fp, ∃ o, s.heap.get? b = some o ∧ ∀ v, o.data ≠ .cell v
  keep : ∀ i fp (s s' : Shared), St i fp s → (∀ b ∈ fp, ∀ o, s.heap.get? b = some o → s'.heap.get? b = some o) → (s'.gens = s.gens ∨ 0 < i ∧ Asleep s.gens s'.gens) → St i fp s'
  item : ∀ X, Walker P w K mg base outer k X → ∀ (i : Nat) (fp : List Addr) (pins : List (Addr × Obj)) (s : Shared) (σ : L2.St) (H : Hp), Inv X pins σ H s → (∀ b ∈ fp, FpOk X pins H b) → St i fp s → J.go i H →
    wpAny (model P w) X.A (pyNext (.ref it)) (fun r s1 => ∃ u, r = some u ∧ wpAny (model P w) X.A (letOwnedTupleGo tg (.ref it) u) (fun _ s2 => ∃ x H' fp', Inv X pins σ H' s2 ∧ RelV x u ∧ J.yld i H x H' ∧ St (i + 1) fp' s2 ∧ ∀ b ∈ fp', FpOk X pins H' b) Nox s1) Nox s
  done : ∀ X, Walker P w K mg base outer k X → ∀ (i : Nat) (fp : List Addr) (pins : List (Addr × Obj)) (s : Shared) (σ : L2.St) (H : Hp), Inv X pins σ H s → (∀ b ∈ fp, FpOk X pins H b) → St i fp s → J.stop i H →
    wpAny (model P w) X.A (pyNext (.ref it)) (fun r s1 => r = none ∧ ∃ H', Inv X pins σ H' s1 ∧ J.fin i H H') Nox s
  self : ∀ (A : Around) (i : Nat) (fp : List Addr) (s : Shared) (Q : Value → Shared → Prop) (E : Value → Shared → Prop), St i fp s → Q (.ref it) s → wpAny (model P w) A (pyIter (.ref it)) Q E s
abbrev TIS := L2.St → Hp → (ItS → Hp → Prop) → Prop
structure PIS (X : Cx) (k : Nat) (tg iter : Expr) (wi : TIS) : Prop where
  run : ∀ (pins : List (Addr × Obj)) (s : Shared) (σ : L2.St) (H : Hp) (R : ItS → Hp → Prop), Inv X pins σ H s → wi σ H R →
    wpAny (model X.prog X.w) X.A (eval iter X.env) (fun v s1 => wpAny (model X.prog X.w) X.A (pyIter v) (fun itv s2 => ∃ it St J H' fp, itv = .ref it ∧ Inv X pins σ H' s2 ∧ TurnS X.prog X.w X.K X.mg X.base X.stack k tg J it St ∧ St 0 fp s2 ∧ (∀ b ∈ fp, FpOk X pins H' b) ∧ R J H') X.xe s1) X.xe s

/-! ### for -/
def tForS (wi : TIS) (g : TG) (tb : TS) : TS := fun D σ H => wi σ H fun J H1 => ∃ W : Nat → Nat → L2.St → Hp → Prop, (∃ m, W 0 m σ H1) ∧ ∀ i m σ H, W i m σ H →
  (J.stop i H ∧ ∀ H', J.fin i H H' → D.nx σ H') ∨ (J.go i H ∧ ∃ N : L2.St → Hp → Prop, (∀ σ' H', N σ' H' → ∃ m', m' < m ∧ W (i + 1) m' σ' H') ∧ ∀ x H', J.yld i H x H' → g x σ H' fun σ2 H2 => tb { D with nx := N, ct := N, bk := D.nx } σ2 H2)
section
variable {X : Cx}
theorem fpOther {pins : List (Addr × Obj)} {H H' : Hp} {b : Addr} (h : FpOk X pins H b) (n : H' b = none) : FpOk X pins H' b := ⟨n, h.2⟩
theorem ps_forS {tg iter : Expr} {body : List Stmt} {k : Nat} {wi : TIS} {g : TG} {tb : TS} {pos : Pos} (hr : Room k X.A) (hc : X.calm = true) (hi : PIS X.nox k tg iter wi) (hg : PG X.nox tg g) (hb : PSs X.nox body tb)
    (hs : ∀ x, foldedSetIterable iter X.env x = pure x := by intro _; rfl) : PS X (.For tg iter body [] pos) (tForS wi g tb) := by
  suffices hh : PS X.nox (.For tg iter body [] pos) (tForS wi g tb) from ⟨fun pins s σ H D I h => wpAny_mono (hh.run pins s σ H D (I.wish _) h) (fun f s' q => q.unwish) fun _ _ z => False.elim z⟩
  have wk : Walker X.prog X.w X.K X.mg X.base X.stack k X.nox := ⟨rfl, rfl, rfl, rfl, rfl, hc, rfl, hr⟩
  refine ⟨fun pins s σ H D I h => ?_⟩
  refine wpAny_For (thn (hi.run pins s σ H _ I h) fun v s1 h1 => thn h1 fun itv s2 h2 => ?_) hs
  obtain ⟨it, St, J, H2, fp, e, I2, T, st2, f2, W, ⟨m0, w0⟩, turn⟩ := h2
  subst e
  refine codeAny_forLoop_any (fun n s' => ∃ i σ' H' fp', Inv X.nox pins σ' H' s' ∧ St i fp' s' ∧ (∀ b ∈ fp', FpOk X.nox pins H' b) ∧ W i n σ' H') ?_ m0 ⟨0, σ, H2, fp, I2, st2, f2, w0⟩
  rintro n s3 ⟨i, σ3, H3, fp3, I3, st3, fr3, w3⟩
  have hp : ∀ {E : Value → Shared → Prop} (e : Value) (s' : Shared), Nox e s' → E e s' := fun e s' z => False.elim z
  rcases turn i n σ3 H3 w3 with ⟨stop, qn⟩ | ⟨go, N, hN, step⟩
  · refine wpAny_mono (T.done X.nox wk i fp3 pins s3 σ3 H3 I3 fr3 st3 stop) (fun r s4 ⟨hr, H4, I4, hf⟩ => ?_) hp
    subst hr
    exact wpAny_execs_nil ⟨σ3, H4, I4, qn H4 hf⟩
  · refine wpAny_mono (T.item X.nox wk i fp3 pins s3 σ3 H3 I3 fr3 st3 go) (fun r s4 ⟨u, hr, h4⟩ => ?_) hp
    subst hr
    refine wpAny_mono h4 (fun _ s5 ⟨x, H5, fp5, I5, r5, y5, st5, fr5⟩ => ?_) hp
    have I5' := I5.pinned fr5 (T.obj _ _ _ st5)
    refine thnZ (hg.run _ _ σ3 H5 x u _ (Inv.lulled I5') r5 (step x H5 y5)) fun _ a6 s6 e6 T6 z6 ⟨σ6, H6, I6, q6⟩ => ?_
    have I6' := Inv.back I6 T6 e6
    refine thnZ (hb.run _ _ σ6 H6 _ (Inv.lulled I6') q6) fun f a7 s7 e7 T7 z7 q7 => ?_
    have q7 := SP.back q7 T7 e7
    have again : ∀ {σ7 : L2.St} {H7 : Hp}, Inv X.nox (pins ++ pinsAt fp5 s5.heap) σ7 H7 s7 → N σ7 H7 → ∃ m, m < n ∧ ∃ i σ' H' fp', Inv X.nox pins σ' H' s7 ∧ St i fp' s7 ∧ (∀ b ∈ fp', FpOk X.nox pins H' b) ∧ W i m σ' H' := fun {σ7 H7} I7 n7 => by
      obtain ⟨m', hm, w7⟩ := hN σ7 H7 n7
      refine ⟨m', hm, i + 1, σ7, H7, fp5, I7.unpinned, T.keep _ _ _ _ st5 (fun b hb o e => (I7.pin (b, o) (List.mem_append_right _ (List.mem_append_right _ (mem_pinsAt hb e)))).1) (.inr ⟨Nat.succ_pos _, z6.trans z7⟩), fun b hb => ?_, w7⟩
      obtain ⟨o, e, d⟩ := T.obj _ _ _ st5 b hb
      exact fpOther (fr5 b hb) (I7.pin (b, o) (List.mem_append_right _ (List.mem_append_right _ (mem_pinsAt hb e)))).2.1
    cases f with
    | next => obtain ⟨σ7, H7, I7, n7⟩ := q7; exact again I7 n7
    | cont => obtain ⟨σ7, H7, I7, n7⟩ := q7; exact again I7 n7
    | brk => obtain ⟨σ7, H7, I7, q7⟩ := q7; exact ⟨σ7, H7, I7.unpinned, q7⟩
    | ret v => obtain ⟨x7, σ7, H7, I7, r7, q7⟩ := q7; exact ⟨x7, σ7, H7, I7.unpinned, r7, q7⟩
end

/-! ### list comprehensions -/
def tLcS (wi : TIS) (g : TG) (tt : TT) (te : TE) (vs : List Nat) : TE := fun σ H Q => wi σ H fun J H1 => ∀ D, H1 D = none → ∃ W : Nat → Nat → Hp → Prop, (∃ m, W 0 m (upd H1 D (.lst []))) ∧ ∀ i m H, W i m H →
  (J.stop i H ∧ ∀ H', J.fin i H H' → Q (.ref D) H') ∨ (J.go i H ∧ ∃ Nx : Hp → Prop, (∀ H', Nx H' → ∃ m', m' < m ∧ W (i + 1) m' H') ∧ ∀ x H', J.yld i H x H' → g x (wipe σ vs) H' fun σ2 H2 => wipe σ2 vs = wipe σ vs ∧ tt σ2 H2 fun b H3 =>
    if b = true then te σ2 H3 fun y H4 => ∃ acc, H4 D = some (.lst acc) ∧ acc.length < sizeLine ∧ Nx (upd H4 D (.lst (acc ++ [y]))) else Nx H3)
section
variable {X : Cx}
theorem pe_lcS {elt tg iter : Expr} {ifs : List Expr} {scope : Scope} {own : List (Str × Nat)} {pos : Pos} {k : Nat} {wi : TIS} {g : TG} {tt : TT} {te : TE} (hr : Room k X.A) (hc : X.calm = true) (hN : X.N.Nodup) (hi : PIS X k tg iter wi) (ok : BlkOk X.N X.env.scope scope own)
    (hg : ∀ (s : Shared) (H : Hp) (C : Addr) (cl : List (Str × Addr)) (fp : List Addr), PG (X.blk s H scope (compEnvC scope cl C X.env) fp) tg g) (ht : ∀ (s : Shared) (H : Hp) (C : Addr) (cl : List (Str × Addr)) (fp : List Addr), PTs (X.blk s H scope (compEnvC scope cl C X.env) fp) ifs tt)
    (he : ∀ (s : Shared) (H : Hp) (C : Addr) (cl : List (Str × Addr)) (fp : List Addr), PE (X.blk s H scope (compEnvC scope cl C X.env) fp) elt te) (hs : ∀ x, foldedSetIterable iter X.env x = pure x := by intro _; rfl) :
    PE X (.ListComp elt [⟨tg, iter, ifs, 0⟩] scope pos) (tLcS wi g tt te (own.map (·.2))) := by
  refine ⟨fun pins s σ H Q I h => ?_⟩
  rw [eval_ListComp]
  have hfree : ∀ y ∈ scope.names, y.2 = .free → ∃ c, X.env.cells.lookup y.1 = some c := fun y hy e => (ok.free y hy e).elim (fun z => I.ok.has _ (.inl z)) fun z => I.ok.has _ (.inr z)
  refine wpAny_comprehension_free (use := none) rfl hs (closure_ok hfree) ok.kind (fun y hy e => by rw [ok.uniq y hy, e]) (thn (hi.run pins s σ H _ I h) fun xv s1 hx => thn hx fun itv s2 h2 => ?_)
  obtain ⟨it, St, J, H2, fp, e, I2, T, st2, f2, q⟩ := h2
  subst e
  refine wpAny_newObj_type (newEnv_comp ?_) (by show 0 ≤ sizeLine; decide)
  generalize hD : s2.heap.objs.size = D
  have hDn : H2 D = none := I2.hok.fresh (Nat.le_of_eq hD)
  obtain ⟨W, ⟨m0, w0⟩, turn⟩ := q D hDn
  generalize hs3 : ({ s2 with heap := s2.heap.push { cls := .type "list", data := .seq ([] : List Value).toArray } } : Shared) = s3
  have h3 : s3.heap = s2.heap.push { cls := .type "list", data := .seq ([] : List Value).toArray } := by rw [← hs3]
  have g3 : s3.gens = s2.gens := by rw [← hs3]
  have I3 : Inv X pins σ (upd H2 D (.lst [])) s3 := by
    rw [← hs3]
    refine I2.laid (t' := s2.toks) (fun b o e => Heap.get?_push_of_some _ e) (Nat.le_of_eq hD) ⟨Nat.zero_le _, [], 0, .nil, ?_⟩
    rw [← hD]
    exact Heap.get?_push_size _ rfl
  have f3 : ∀ b ∈ fp, FpOk X pins (upd H2 D (.lst [])) b ∧ b < s3.heap.objs.size := fun b hb => by
    obtain ⟨o, e, _⟩ := T.obj _ _ _ st2 b hb
    have hlt := Heap.lt_size e
    refine ⟨⟨?_, (f2 b hb).2⟩, by rw [h3, Heap.size_push]; exact Nat.lt_succ_of_lt hlt⟩
    rw [upd_ne (by rw [← hD]; exact Nat.ne_of_lt hlt)]
    exact (f2 b hb).1
  have I4 := block_start I3 ok hN f3
  have pg := hg s3 (upd H2 D (.lst [])) s3.heap.objs.size (cellsFrom (s3.heap.objs.size + 1) scope.names (cloFrom X.env.cells scope.names [])) fp
  have pt := ht s3 (upd H2 D (.lst [])) s3.heap.objs.size (cellsFrom (s3.heap.objs.size + 1) scope.names (cloFrom X.env.cells scope.names [])) fp
  have pe := he s3 (upd H2 D (.lst [])) s3.heap.objs.size (cellsFrom (s3.heap.objs.size + 1) scope.names (cloFrom X.env.cells scope.names [])) fp
  show codeAny _ _ (.compStart (.ListComp elt [⟨tg, iter, ifs, 0⟩] scope pos) 0 (.ref it) (.ref D) (compEnvC scope (cellsFrom (s3.heap.objs.size + 1) scope.names (cloFrom X.env.cells scope.names [])) s3.heap.objs.size X.env)) (compPost (model X.prog X.w) X.A X.xe none (EP X pins σ Q) (.ref D) s3.heap.objs.size) { s3 with heap := pushCells (s3.heap.push { cls := .type "dict", data := .dict #[] }) scope.names }
  generalize hce : compEnvC scope (cellsFrom (s3.heap.objs.size + 1) scope.names (cloFrom X.env.cells scope.names [])) s3.heap.objs.size X.env = ce at I4 pg pt pe ⊢
  have cL : ce.locals = s3.heap.objs.size := by subst hce; rfl
  generalize hH3 : upd H2 D (.lst []) = H3 at I3 I4 pg pt pe w0 f3
  generalize hs4 : ({ s3 with heap := pushCells (s3.heap.push { cls := .type "dict", data := .dict #[] }) scope.names } : Shared) = s4 at I4 ⊢
  have st4 : St 0 fp s4 := T.keep _ _ _ _ st2 (fun b _ o e => by rw [← hs4]; exact pushCells_keeps _ _ _ _ (Heap.get?_push_of_some _ (by rw [h3]; exact Heap.get?_push_of_some _ e))) (.inl (by rw [← hs4]; exact g3))
  have wk : Walker X.prog X.w X.K X.mg X.base X.stack k (X.blk s3 H3 scope ce fp) := ⟨rfl, rfl, rfl, rfl, rfl, hc, rfl, hr⟩
  have f4 : ∀ b ∈ fp, FpOk (X.blk s3 H3 scope ce fp) [] H3 b := fun b hb => ⟨(f3 b hb).1.1, (I4.ok.exf b hb).1, I4.ok.exfs b hb, .inl hb, fun x c e => (I4.ok.exf b hb).2 x c e, fun p hp => no_mem hp⟩
  have loop : codeAny (model X.prog X.w) X.A (.compLoop (.ListComp elt [⟨tg, iter, ifs, 0⟩] scope pos) 0 (.ref it) (.ref D) ce) (compPost (model X.prog X.w) X.A X.xe none (EP X pins σ Q) (.ref D) s3.heap.objs.size) s4 := by
    refine compLoop_any (fun n s' => ∃ i H' fp', Inv (X.blk s3 H3 scope ce fp) [] (wipe σ (own.map (·.2))) H' s' ∧ St i fp' s' ∧ (∀ b ∈ fp', FpOk (X.blk s3 H3 scope ce fp) [] H' b) ∧ W i n H') ?_ m0 ⟨0, H3, fp, I4, st4, f4, w0⟩
    rintro n s5 ⟨i, H5, fp5, I5, st5, n5, w5⟩
    have hp : ∀ {E : Value → Shared → Prop} (e : Value) (s' : Shared), Nox e s' → E e s' := fun e s' z => False.elim z
    rcases turn i n H5 w5 with ⟨stop, qq⟩ | ⟨go, Nx, hNx, step⟩
    · refine wpAny_mono (T.done (X.blk s3 H3 scope ce fp) wk i fp5 [] s5 _ H5 I5 n5 st5 stop) (fun r s6 ⟨hr, H6, I6, hf⟩ => ?_) hp
      subst hr
      have I7 : Inv X pins σ H6 s6 := I3.call' (ch := fp) I6.os I6.base I6.hok I6.bare fun b hb => ⟨(f3 b hb).1.2.2.2.1, (f3 b hb).1.2.1, (f3 b hb).1.2.2.2.2.1, (f3 b hb).1.2.2.2.2.2⟩
      have nC : H6 s3.heap.objs.size = none := by
        have z : H6 ce.locals = none := I6.free
        rw [cL] at z
        exact z
      obtain ⟨m, hn, _⟩ := I6.loc
      have hn : s6.heap.Ns ce.locals m := hn
      rw [cL] at hn
      obtain ⟨g0, g1, g2, g3', g4, g5⟩ := I3.fpOk (Nat.le_refl _) nC
      exact ⟨m, hn, fun h'' sb => ⟨.ref D, H6, I7.turned (t' := s6.toks) (fun b o hb e => (sb.2 b hb).trans e) g0 g1 g3' g4 g5, rfl, qq H6 hf⟩⟩
    · refine wpAny_mono (T.item (X.blk s3 H3 scope ce fp) wk i fp5 [] s5 _ H5 I5 n5 st5 go) (fun r s6 ⟨u, hr, h6⟩ => ?_) hp
      subst hr
      refine wpAny_mono h6 (fun _ s7 ⟨x, H7, fp7, I7, r7, y7, st7, n7⟩ => ?_) hp
      have I7' := I7.pinned n7 (T.obj _ _ _ st7)
      refine thnZ (pg.run _ _ _ H7 x u _ (Inv.lulled I7') r7 (step x H7 y7)) fun _ a8 s8 e8 T8 z8 ⟨σ8, H8, I8, hw8, q8⟩ => ?_
      have I8 := Inv.back I8 T8 e8
      refine thnZ (pt.run _ _ σ8 H8 _ (Inv.lulled I8) q8) fun b a9 s9 e9 T9 z9 ⟨H9, I9, q9⟩ => ?_
      have I9 := Inv.back I9 T9 e9
      have fin : ∀ {s' : Shared} {H' : Hp}, Inv (X.blk s3 H3 scope ce fp) ([] ++ pinsAt fp7 s7.heap) σ8 H' s' → Asleep s7.gens s'.gens → Nx H' → ∃ m, m < n ∧ ∃ i H' fp', Inv (X.blk s3 H3 scope ce fp) [] (wipe σ (own.map (·.2))) H' s' ∧ St i fp' s' ∧ (∀ b ∈ fp', FpOk (X.blk s3 H3 scope ce fp) [] H' b) ∧ W i m H' := fun {s' H'} I' zz nx => by
        obtain ⟨m', hm, w'⟩ := hNx H' nx
        have pin' : ∀ b ∈ fp7, ∀ o, s7.heap.get? b = some o → s'.heap.get? b = some o ∧ H' b = none := fun b hb o e =>
          let z := I'.pin (b, o) (List.mem_append_right _ (List.mem_append_right _ (mem_pinsAt hb e)))
          ⟨z.1, z.2.1⟩
        have hl : (wipe σ (own.map (·.2))).length = σ8.length := by rw [← hw8, wipe_length]
        refine ⟨m', hm, i + 1, H', fp7, (I'.unpinned (pins := [])).weak hl (fun j v e => ?_), T.keep _ _ _ _ st7 (fun b hb o e => (pin' b hb o e).1) (.inr ⟨Nat.succ_pos _, zz⟩), fun b hb => ?_, w'⟩
        · rw [← hw8] at e
          exact (wipe_some e).1
        · obtain ⟨o, e, _⟩ := T.obj _ _ _ st7 b hb
          exact fpOther (n7 b hb) (pin' b hb o e).2
      cases b with
      | false =>
        simp only [Bool.false_eq_true, if_false] at q9 ⊢
        exact fin I9 (z8.trans z9) q9
      | true =>
        simp only [if_true] at q9 ⊢
        refine thnZ (pe.run _ _ σ8 H9 _ (Inv.lulled I9) q9) fun z a10 s10 e10 T10 z10 ⟨yv, H10, I10, r10, acc, hD10, hz10, nx⟩ => ?_
        have I10 := Inv.back I10 T10 e10
        refine thnZ (Q := fun r a => r = .none ∧ Inv (X.blk s3 H3 scope ce fp) ([] ++ pinsAt fp7 s7.heap) σ8 (upd H10 D (.lst (acc ++ [yv]))) a) (app_ok (X := X.blk s3 H3 scope ce fp) (Inv.lulled I10) hD10 hz10 r10 fun s11 I11 => ⟨rfl, I11⟩) fun r a11 s11 e11 T11 z11 ⟨_, I11⟩ => ?_
        exact fin (Inv.back I11 T11 e11) (((z8.trans z9).trans z10).trans z11) nx
  exact codeAny_compStart_list loop (T.self X.A 0 fp s4 _ _ st4 loop)
end
end Tf

/-! ## TfDraw -/
set_option Elab.async false
set_option linter.all false
set_option maxRecDepth 100000
set_option maxHeartbeats 4000000
/-! What draws: a generator itself, zip(range(n), a generator). -/
namespace Tf
open PySem PySem.Spec PyProof.Rows L2
open PySem.W.X (SegX)

section
variable {P : Program} {w : World} {K : PySem.W.Frag} {mg : Str → Option Value} {base : Heap} {k : Nat} {lo : Addr} {own : Nat} {need : Hp → Prop} {item : Nat → Option V} {n i : Nat} {gs : GenState} {pv : List Addr} {gp : Gp} {h h' : Heap}
/-- what zip draws: there is an item -/
theorem nextOf_ready {A : Around} {outer : List Env} {s : Shared} {H : Hp} {a : Addr} {x : V} (R : Ready P w K mg base k lo own need item (n + 1) i gs pv gp s.heap) (hr : Room (k + 1) A) (e0 : Env0 P w K mg base A outer s H) (hn : need H) (hx : item i = some x)
    (hg : s.heap.IsGen a own) (hgs : s.gens[own]? = some gs) (hlo : ∀ b ∈ frs outer, b < lo) (hpv : ∀ b ∈ pv, H b = none) (ha : a ∉ pv ∧ H a = none ∧ a ∉ frs outer) (hgp : GpOk own gp s.gens) :
    wpAny (model P w) A (Builtin.SmallTypes.nextOf (.ref a)) (fun v s' => ∃ H1 pv1 gp1 gs1, Aft P w outer H H1 pv pv1 s s' ∧ GpOk own gp1 s'.gens ∧ s'.heap.IsGen a own ∧
      RelV x v ∧ s'.gens[own]? = some gs1 ∧ gs1.bare = true ∧ (∃ k l c p fs cl, gs1 = .suspended k l c p fs cl) ∧ Ready P w K mg base k lo own need item n (i + 1) gs1 pv1 gp1 s'.heap) Nox s := by
  have hl : s.heap.NoLimit := e0.mod.nolimit.keeps fun b o e => (e0.bs b o e).1
  have hsz : own < s.gens.size := (Array.getElem?_eq_some_iff.mp hgs).1
  unfold Builtin.SmallTypes.nextOf
  refine wpAny_bind (wpAny_callSpecial?_slot (name := Str.ofString "__next__") hg.typeIs slot_gen_next (wpAny_call_entry slot_gen_next hg.typeIs entry_gen_next ?_ (args_gen_next _)))
  show wpAny _ A.in1 (Builtin.Generator.genWake (.ref a) (.send .none)) _ _ s
  unfold Builtin.Generator.genWake
  refine wpAny_bind (wpAny_holding (wpAny_genNumber hg (wpAny_bind (wpAny_genState hgs ?_))))
  have e1 : Env0 P w K mg base A.in1 outer (s.setGen own .running) H := Env0.gens e0.in1 (bare_put e0.bare rfl)
  have wk := R A.in1 outer (s.setGen own .running) H hr.in1 e1 hn (by rw [GenW.setGen_size]; exact hsz) hlo hpv (fun _ _ _ e => e) hgp.put
  have fin : ∀ (e : End) (s1 : Shared), (∃ H1 pv1 gp1, Aft P w outer H H1 pv pv1 (s.setGen own .running) s1 ∧ GpOk own gp1 s1.gens ∧ (match e with
        | .susp v _ l k' c p fs => ∃ x, item i = some x ∧ RelV x v ∧ Ready P w K mg base k lo own need item n (i + 1) (.suspended k' l c p fs false) pv1 gp1 s1.heap
        | .ret r => item i = none ∧ (r = .ok (.ret .none) ∨ r = .ok .next))) → s1.heap.IsGen a own := fun e s1 ⟨H1, pv1, gp1, A1, _, _⟩ => by
    obtain ⟨o, nm, qn, ho, r⟩ := hg
    exact ⟨o, nm, qn, A1.un.keep a o ho ha.2.1 ha.2.2 ha.1, r⟩
  cases gs with
  | running => exact wk.elim
  | finished => exact wk.elim
  | _ =>
    refine wpAny_bind (wpAny_roomToWake hl hr.depth ?_)
    show wpAny _ A.in1 (.resume own (.send .none) [] _) _ _ s
    refine GenW.wpAny_gsz (n := own + 1) hsz (wpAny_wake hgs (wk.imp fun e s1 he hb => ?_))
    have hG := fin e s1 he
    obtain ⟨H1, pv1, gp1, A1, G1, he⟩ := he
    have A1' : Aft P w outer H H1 pv pv1 s s1 := ⟨A1.os, A1.bare, A1.un, A1.hok, A1.same, A1.pvs⟩
    cases e with
    | ret r => rw [hx] at he; cases he.1
    | susp v g0 l k0 c p fs =>
      obtain ⟨x', hx', rx, R1⟩ := he
      rw [hx] at hx'
      cases hx'
      refine wpAny_pure fun hs2 => ⟨v, rfl, wpAny_pure ?_⟩
      have hlt : own < s1.gens.size := by rw [← GenW.setGen_size s1 own (End.susp v g0 l k0 c p fs).genState]; exact hs2
      refine ⟨H1, pv1, gp1, _, A1'.grown (h2 := s1.heap) (bare_put A1.bare hb) fun _ _ e => e, G1.put, hG, rx, Array.getElem?_setIfInBounds_self_of_lt hlt, hb, ⟨_, _, _, _, _, _, rfl⟩, ?_⟩
      cases n with
      | zero => trivial
      | succ n => exact R1
end

theorem frs_lt {base h : Heap} {l : List Env} (hf : h.FunFrames base l) : ∀ b ∈ frs l, b < h.objs.size := by
  induction l with
  | nil => intro b hb; exact no_mem hb
  | cons env r ih =>
    obtain ⟨h1, ⟨L, o, hL, hn, ho, hd⟩, h3⟩ := hf
    intro b hb
    unfold frs at hb
    rw [List.filterMap_cons, hL] at hb
    rcases List.mem_cons.mp hb with e | hb
    · rw [e]; exact Heap.lt_size ho
    · exact ih h3 b hb

/-- a generator at a, asleep (or not yet woken) ahead of item i; N turns are left in all -/
structure GSt (P : Program) (w : World) (K : PySem.W.Frag) (mg : Str → Option Value) (base : Heap) (outer : List Env) (k : Nat) (need : Hp → Prop) (item : Nat → Option V) (N : Nat) (a lo : Addr) (own : Nat) (i : Nat) (pv : List Addr) (s : Shared) : Prop where
  gen : s.heap.IsGen a own
  le : i ≤ N
  st : ∃ gs gp, s.gens[own]? = some gs ∧ GpOk own gp s.gens ∧ Ready P w K mg base k lo own need item (N - i) i gs pv gp s.heap ∧ (0 < i → ∃ k l c p fs cl, gs = .suspended k l c p fs cl)
  obj : ∀ b ∈ pv, ∃ o, s.heap.get? b = some o ∧ ∀ v, o.data ≠ .cell v
  fr : ∀ b ∈ frs outer, b < lo
  ne : a ∉ pv
section
variable {P : Program} {w : World} {K : PySem.W.Frag} {mg : Str → Option Value} {base : Heap} {outer : List Env} {k : Nat} {lo a : Addr} {own : Nat} {need : Hp → Prop} {item : Nat → Option V} {N i : Nat} {pv : List Addr} {s s' : Shared}
theorem GSt.keep (g : GSt P w K mg base outer k need item N a lo own i pv s) (hk : ∀ b ∈ a :: pv, ∀ o, s.heap.get? b = some o → s'.heap.get? b = some o) (hG : s'.gens = s.gens ∨ 0 < i ∧ Asleep s.gens s'.gens) : GSt P w K mg base outer k need item N a lo own i pv s' := by
  obtain ⟨⟨o, nm, qn, ho, r⟩, hle, ⟨gs, gp, e1, e2, e3, e4⟩, ho2, hfr, hne⟩ := g
  refine ⟨⟨o, nm, qn, hk a (List.mem_cons_self ..) o ho, r⟩, hle, ⟨gs, gp, ?_, ?_, e3.at_ fun b hb => hk b (List.mem_cons_of_mem _ hb), e4⟩, fun b hb => ?_, hfr, hne⟩
  · rcases hG with e | ⟨hi, z⟩
    · rw [e]; exact e1
    · obtain ⟨k, l, c, p, fs, cl, rfl⟩ := e4 hi
      rw [z _ _ _ _ _ _ _ e1]; exact e1
  · rcases hG with e | ⟨hi, z⟩
    · rw [e]; exact e2
    · refine ⟨fun q hq => ?_, e2.ne, e2.sl⟩
      obtain ⟨k, l, c, p, fs, cl, e⟩ := e2.sl q hq
      have y := e2.at_ q hq
      rw [e] at y
      rw [z _ _ _ _ _ _ _ y, y, e]
  · obtain ⟨o, e, d⟩ := ho2 b hb
    exact ⟨o, hk b (List.mem_cons_of_mem _ hb) o e, d⟩
theorem GSt.of {need : Hp → Prop} {item : Nat → Option V} {s0 : Shared} (M : Made P w K mg base k need item s0 s a lo) (hf : ∀ b ∈ frs outer, b < s0.heap.objs.size) (N : Nat) (hN62 : N ≤ 2 ^ 62) : GSt P w K mg base outer k need item N a lo s0.gens.size 0 [lo] s := by
  obtain ⟨c, hg, R⟩ := M.fresh
  refine ⟨M.gen, Nat.zero_le _, ⟨_, [], ?_, .nil, R _ hN62, fun z => absurd z (Nat.lt_irrefl _)⟩, fun b hb => ?_, fun b hb => Nat.lt_of_lt_of_le (hf b hb) M.low, fun z => ?_⟩
  · rw [hg]
    simp
  · have e : b = lo := by simpa using hb
    rw [e]; exact M.frame
  · have e : a = lo := by simpa using z
    exact absurd M.lt (by rw [e]; exact Nat.lt_irrefl _)
/-- the state behind one draw -/
theorem GSt.next {X : Cx} {pins : List (Addr × Obj)} {σ : L2.St} {H H1 : Hp} {pv1 : List Addr} {gp1 : Gp} {gs1 : GenState} (g : GSt P w K mg base outer k need item N a lo own i pv s) (hi : i < N) (hs : H a = none ∧ a ∉ frs outer) (hA : Aft P w outer H H1 pv pv1 s s') (hgp : GpOk own gp1 s'.gens) (hgen : s'.heap.IsGen a own)
    (hgs : s'.gens[own]? = some gs1) (hsu : ∃ k l c p fs cl, gs1 = .suspended k l c p fs cl) (R : Ready P w K mg base k lo own need item (N - (i + 1)) (i + 1) gs1 pv1 gp1 s'.heap) : GSt P w K mg base outer k need item N a lo own (i + 1) pv1 s' := by
  refine ⟨hgen, hi, ⟨gs1, gp1, hgs, hgp, R, fun _ => hsu⟩, fun b hb => (hA.pvs b hb).2.2, g.fr, fun z => ?_⟩
  rcases (hA.pvs a z).2.1 with q | q
  · exact g.ne q
  · obtain ⟨o, nm, qn, ho, _⟩ := g.gen
    exact absurd (Heap.lt_size ho) (Nat.not_lt.mpr q)
theorem fp_new {X : Cx} {pins : List (Addr × Obj)} {σ : L2.St} {H H1 : Hp} {pv1 : List Addr} (I : Inv X pins σ H s) (hA : Aft P w outer H H1 pv pv1 s s') (hf : ∀ b ∈ pv, FpOk X pins H b) : ∀ b ∈ pv1, FpOk X pins H1 b := fun b hb => by
  obtain ⟨z1, z2, _⟩ := hA.pvs b hb
  rcases z2 with z2 | z2
  · exact fpOther (hf b z2) z1
  · exact I.fpOk z2 z1
theorem inv_aft {X : Cx} {pins : List (Addr × Obj)} {σ : L2.St} {H H1 : Hp} {pv1 : List Addr} (I : Inv X pins σ H s) (hX : X.prog = P ∧ X.w = w ∧ X.stack = outer) (hA : Aft P w outer H H1 pv pv1 s s') (hf : ∀ b ∈ pv, FpOk X pins H b) : Inv X pins σ H1 s' := by
  obtain ⟨rfl, rfl, rfl⟩ := hX
  exact I.call' (ch := pv) hA.os hA.un hA.hok hA.bare fun b hb => ⟨(hf b hb).2.2.2.1, (hf b hb).2.1, (hf b hb).2.2.2.2.1, (hf b hb).2.2.2.2.2⟩
/-- none of these is a frame of the walker's -/
theorem fp_nofr {X : Cx} {pins : List (Addr × Obj)} {σ : L2.St} {H : Hp} {b : Addr} (I : Inv X pins σ H s) (h : FpOk X pins H b) : b ∉ frs X.stack := fun z => by
  rcases List.mem_cons.mp (I.stkSub b z) with e | e
  · exact h.2.1 e
  · exact h.2.2.1 e

/-! ### the generator itself -/
def Jg (need : Hp → Prop) (item : Nat → Option V) (N : Nat) : ItS :=
  ⟨fun i H => i < N ∧ need H ∧ ∃ x, item i = some x, fun i H x H' => item i = some x ∧ Same H H', fun i H => i < N ∧ need H ∧ item i = none, fun i H H' => Same H H'⟩
theorem turn_gen {tg : Expr} {g0 : Nat} : TurnS P w K mg base outer (k + 1) tg (Jg need item N) a (fun i fp s => ∃ pv, fp = a :: pv ∧ GSt P w K mg base outer k need item N a lo g0 i pv s) where
  obj := fun i fp s ⟨pv, e, g⟩ b hb => by
    subst e
    rcases List.mem_cons.mp hb with e | hb
    · subst e
      obtain ⟨o, nm, qn, ho, hc, hd, _⟩ := g.gen
      exact ⟨o, ho, fun v z => by rw [hd] at z; cases z⟩
    · exact g.obj b hb
  keep := fun i fp s s' ⟨pv, e, g⟩ hk hG => ⟨pv, e, g.keep (by rw [← e]; exact hk) hG⟩
  item := fun X wk i fp pins s σ H I hf ⟨pv, e, g⟩ go => by
    obtain ⟨rfl, rfl, rfl, rfl, rfl, hc, rfl, hr⟩ := wk
    subst e
    obtain ⟨hi, hn, x, hx⟩ := go
    obtain ⟨gs, gp, e1, e2, e3, e4⟩ := g.st
    have fa := hf a (List.mem_cons_self ..)
    have fr := fp_nofr I fa
    obtain ⟨m, hm⟩ : ∃ m, N - i = m + 1 := ⟨N - i - 1, by omega⟩
    have hm' : N - (i + 1) = m := by omega
    rw [hm] at e3
    refine wpAny_mono (next_ready e3 hr I.env0 hn g.gen e1 g.fr (fun b hb => (hf b (List.mem_cons_of_mem _ hb)).1) ⟨g.ne, fa.1, fr⟩ e2) (fun r s1 ⟨H1, pv1, gp1, gs1, hA, hgp, hgen, hr1⟩ => ?_) fun _ _ z => z
    cases r with
    | none => have hr1 : item i = none := hr1; rw [hx] at hr1; cases hr1
    | some v =>
      obtain ⟨x', hx', rx, hgs, hb, hsu, R1⟩ := hr1
      rw [hx] at hx'
      cases hx'
      have hf' : ∀ b ∈ pv, FpOk X pins H b := fun b hb => hf b (List.mem_cons_of_mem _ hb)
      obtain ⟨o, nm, qn, ho, hcl, hd, hsl⟩ := hgen
      have hgen : s1.heap.IsGen a g0 := ⟨o, nm, qn, ho, hcl, hd, hsl⟩
      refine ⟨v, rfl, go_of (n := "generator") ho hcl hd (by decide) ⟨x, H1, a :: pv1, inv_aft I ⟨rfl, rfl, rfl⟩ hA hf', rx, ⟨hx, hA.same⟩, ⟨pv1, rfl, GSt.next (X := X) (pins := pins) (σ := σ) g hi ⟨fa.1, fr⟩ hA hgp hgen hgs hsu (by rw [hm']; exact R1)⟩, fun b hb => ?_⟩⟩
      rcases List.mem_cons.mp hb with e | hb
      · subst e
        obtain ⟨o', _, _, ho', _⟩ := g.gen
        exact fpOther fa (hA.un.free _ o' ho' fa.1 g.ne)
      · exact fp_new I hA hf' b hb
  done := fun X wk i fp pins s σ H I hf ⟨pv, e, g⟩ stop => by
    obtain ⟨rfl, rfl, rfl, rfl, rfl, hc, rfl, hr⟩ := wk
    subst e
    obtain ⟨hi, hn, hx⟩ := stop
    obtain ⟨gs, gp, e1, e2, e3, e4⟩ := g.st
    have fa := hf a (List.mem_cons_self ..)
    have fr := fp_nofr I fa
    obtain ⟨m, hm⟩ : ∃ m, N - i = m + 1 := ⟨N - i - 1, by omega⟩
    rw [hm] at e3
    refine wpAny_mono (next_ready e3 hr I.env0 hn g.gen e1 g.fr (fun b hb => (hf b (List.mem_cons_of_mem _ hb)).1) ⟨g.ne, fa.1, fr⟩ e2) (fun r s1 ⟨H1, pv1, gp1, gs1, hA, hgp, hgen, hr1⟩ => ?_) fun _ _ z => z
    cases r with
    | some v => obtain ⟨x', hx', _⟩ := hr1; rw [hx] at hx'; cases hx'
    | none => exact ⟨rfl, H1, inv_aft I ⟨rfl, rfl, rfl⟩ hA fun b hb => hf b (List.mem_cons_of_mem _ hb), hA.same⟩
  self := fun A i fp s Q E ⟨pv, e, g⟩ h => wpAny_pyIter_gen g.gen h
def tisGen (t : TGe) : TIS := fun σ H R => t σ H fun need item H1 => ∃ N, N ≤ 2 ^ 62 ∧ R (Jg need item N) H1
theorem pis_gen {X : Cx} {tg e : Expr} {t : TGe} (h : PGe X k e t) : PIS X (k + 1) tg e (tisGen t) := by
  refine ⟨fun pins s σ H R I q => ?_⟩
  refine thn (h.run pins s σ H _ I q) fun u s1 ⟨s0, a, lo, need, item, H1, eu, I0, M, N, hN62, r⟩ => ?_
  subst eu
  have hfl : ∀ b ∈ frs X.stack, b < s0.heap.objs.size := frs_lt I0.env0.funs
  have I1 : Inv X pins σ H1 s1 := by
    obtain ⟨c, hg, _⟩ := M.fresh
    refine I0.call' (ch := []) M.os (Un.kept M.kept) (I0.hok.kept M.kept) ?_ fun b hb => no_mem hb
    rw [hg]
    intro x hx
    rcases Array.mem_push.mp hx with z | z
    · exact I0.bare x z
    · rw [z]; rfl
  refine wpAny_pyIter_gen M.gen ⟨a, _, _, H1, a :: [lo], rfl, I1, turn_gen (lo := lo) (g0 := s0.gens.size), ⟨[lo], rfl, GSt.of M hfl N hN62⟩, fun b hb => ?_, r⟩
  have ge : s0.heap.objs.size ≤ b := by
    rcases List.mem_cons.mp hb with e | hb
    · rw [e]; exact Nat.le_of_lt (Nat.lt_of_le_of_lt M.low M.lt)
    · have e : b = lo := by simpa using hb
      rw [e]; exact M.low
  exact I0.fpOk ge (I0.hok.fresh ge)
end
end Tf

/-! ## TfZip -/
set_option Elab.async false
set_option linter.all false
set_option maxRecDepth 100000
set_option maxHeartbeats 4000000
/-! zip(range(n), a generator). -/
namespace Tf
open PySem PySem.Spec PyProof.Rows L2
open PySem.W.X (SegX)

/-- what is zipped: numbers from 0, and the generator's items -/
def Jz (need : Hp → Prop) (item : Nat → Option V) (n : Nat) : ItS :=
  ⟨fun i H => i < n ∧ need H ∧ ∃ x, item i = some x, fun i H v H' => ∃ T x H1, v = .ref T ∧ item i = some x ∧ Same H H1 ∧ H1 T = none ∧ H' = upd H1 T (.tup [.int i, x]), fun i _ => n ≤ i, fun i H H' => H' = H⟩
structure ZAp (z TI TO i1 a : Addr) : Prop where
  TIz : TI ≠ z
  TOz : TO ≠ z
  i1z : i1 ≠ z
  az : a ≠ z
  TITO : TI ≠ TO
  TIi1 : TI ≠ i1
  TOi1 : TO ≠ i1
  TIa : TI ≠ a
  TOa : TO ≠ a
  i1a : i1 ≠ a
structure ZSt (P : Program) (w : World) (K : PySem.W.Frag) (mg : Str → Option Value) (base : Heap) (outer : List Env) (k : Nat) (need : Hp → Prop) (item : Nat → Option V) (n : Nat) (z TI TO i1 a lo : Addr) (own : Nat) (i : Nat) (pv : List Addr) (s : Shared) : Prop where
  hz : IsZip s.heap z TI TO .none
  hTI : IsPair s.heap TI (.ref i1) (.ref a)
  hTO : ∃ x y, IsPair s.heap TO x y
  hi : IsRangeIter s.heap i1 (0 + (i : Nat) * 1) ((n : Int) - (i : Nat)) 1
  g : GSt P w K mg base outer k need item (n + 1) a lo own i pv s
  nz : z ∉ pv ∧ TI ∉ pv ∧ TO ∉ pv ∧ i1 ∉ pv
section
variable {P : Program} {w : World} {K : PySem.W.Frag} {mg : Str → Option Value} {base : Heap} {outer : List Env} {k : Nat} {z TI TO i1 lo a : Addr} {own : Nat} {need : Hp → Prop} {item : Nat → Option V} {n i : Nat} {pv : List Addr} {s s' : Shared}
theorem turn_zipR {elts : List Expr} {kk : Nat} {tpos : Pos} (D : ZAp z TI TO i1 a) : TurnS P w K mg base outer (k + 2) (.Tuple elts kk tpos) (Jz need item n) z (fun i fp s => ∃ pv, fp = z :: TI :: TO :: i1 :: a :: pv ∧ ZSt P w K mg base outer k need item n z TI TO i1 a lo own i pv s) where
  obj := fun i fp s ⟨pv, e, g⟩ b hb => by
    subst e
    simp only [List.mem_cons] at hb
    rcases hb with e | e | e | e | e | hb
    · rw [e]; exact ⟨_, g.hz, fun v q => nomatch q⟩
    · rw [e]; exact ⟨_, g.hTI, fun v q => nomatch q⟩
    · rw [e]; obtain ⟨x, y, q⟩ := g.hTO; exact ⟨_, q, fun v q => nomatch q⟩
    · rw [e]; exact ⟨_, g.hi, fun v q => nomatch q⟩
    · rw [e]; obtain ⟨o, nm, qn, ho, hc, hd, _⟩ := g.g.gen
      exact ⟨o, ho, fun v q => by rw [hd] at q; cases q⟩
    · exact g.g.obj b hb
  keep := fun i fp s s' ⟨pv, e, g⟩ hk hG => by
    subst e
    obtain ⟨x, y, q⟩ := g.hTO
    exact ⟨pv, rfl, hk z (by simp) _ g.hz, hk TI (by simp) _ g.hTI, ⟨x, y, hk TO (by simp) _ q⟩, hk i1 (by simp) _ g.hi, g.g.keep (fun b hb => hk b (by simp only [List.mem_cons] at hb ⊢; rcases hb with h | h <;> simp [h])) hG, g.nz⟩
  item := fun X wk i fp pins s σ H I hf ⟨pv, e, g⟩ go => by
    obtain ⟨rfl, rfl, rfl, rfl, rfl, hc, rfl, hr⟩ := wk
    subst e
    obtain ⟨hi, hn, x, hx⟩ := go
    have hh : X.A.handled = none := I.ok.hd hc
    have fz := hf z (by simp)
    have fTI := hf TI (by simp)
    have fTO := hf TO (by simp)
    have fi1 := hf i1 (by simp)
    have fa := hf a (by simp)
    have fpv : ∀ b ∈ pv, FpOk X pins H b := fun b hb => hf b (by simp [hb])
    have hT : s.TypeIs (.ref z) "zip" := ⟨_, g.hz, rfl⟩
    obtain ⟨a0, b0, hTO⟩ := g.hTO
    obtain ⟨nz, nTI, nTO, ni1⟩ := g.nz
    have hzl : z < s.heap.objs.size := Heap.lt_size g.hz
    have hTIl : TI < s.heap.objs.size := Heap.lt_size g.hTI
    have hTOl : TO < s.heap.objs.size := Heap.lt_size hTO
    have hi1l : i1 < s.heap.objs.size := Heap.lt_size g.hi
    unfold pyNext
    refine wpAny_bind (wpAny_attempt (wpAny_callSpecial?_slot (name := Str.ofString "__next__") hT F.slot_zip_next (wpAny_call_entry F.slot_zip_next hT F.entry_zip_next ?_ (F.args_zip_next_1 _))))
    show wpAny _ _ (field (.ref z) 2 >>= _) _ _ _
    refine wpAny_bind (wpAny_field g.hz rfl (x := .bool false) rfl ?_)
    show wpAny _ _ (field (.ref z) 3 >>= _) _ _ _
    refine wpAny_bind (wpAny_field g.hz rfl (x := .ref TI) rfl ?_)
    refine wpAny_bind (wpAny_seqItems g.hTI rfl ?_)
    show wpAny _ _ (Builtin.SmallTypes.ownedTupleIsFree (.ref z) >>= _) _ _ _
    refine wpAny_bind ?_
    unfold Builtin.SmallTypes.ownedTupleIsFree
    refine wpAny_bind (wpAny_field g.hz rfl (x := .none) rfl (wpAny_pure ?_))
    simp only [if_true]
    refine wpAny_bind (wpAny_rule ?_)
    refine wpAny_bind (wpAny_field g.hz rfl (x := .ref TO) rfl ?_)
    refine wpAny_bind (wpAny_setField_rec g.hz (by simp) fun h₁ hz₁ hs₁ => ?_)
    replace hz₁ : IsZip h₁ z TI TO .ellipsis := hz₁
    refine wpAny_bind ?_
    simp only [List.zipIdx_cons, List.zipIdx_nil, List.forIn_cons, List.forIn_nil]
    refine wpAny_bind (wpAny_bind (wpAny_onRaise ?_))
    show wpAny _ _ (Builtin.SmallTypes.nextOf (.ref i1) >>= _) _ _ _
    refine wpAny_bind ?_
    unfold Builtin.SmallTypes.nextOf
    refine wpAny_bind (CpRep.range_item (s := { s with heap := h₁ }) (hs₁.extBut _ _ D.i1z g.hi) (by omega) fun h₂ h1₂ hs₂ => wpAny_pure (wpAny_pure ?_))
    have hTO₂ : IsPair h₂ TO a0 b0 := hs₂.extBut _ _ D.TOi1 (hs₁.extBut _ _ D.TOz hTO)
    refine wpAny_bind (wpAny_seqItems (s := { s with heap := h₂, toks := s.toks + 1 }) hTO₂ rfl ?_)
    refine wpAny_bind (wpAny_updateSeq_pair (s := { s with heap := h₂, toks := s.toks + 1 }) hTO₂ fun h₃ hTO₃ hs₃ => ?_)
    refine wpAny_bind (wpAny_letGo (wpAny_pure ?_))
    generalize hu1 : Value.int (0 + (i : Nat) * 1) s.toks = u1 at hTO₃ ⊢
    replace hTO₃ : IsPair h₃ TO u1 b0 := hTO₃
    have hk₃ : ∀ c o, c ≠ z → c ≠ TO → c ≠ i1 → s.heap.get? c = some o → h₃.get? c = some o := fun c o c1 c2 c3 e => hs₃.extBut _ _ c2 (hs₂.extBut _ _ c3 (hs₁.extBut _ _ c1 e))
    have I3 : Inv X pins σ H { s with heap := h₃, toks := s.toks + 1 } := I.turnedL (t' := s.toks + 1) (ch := [z, TO, i1]) (fun b o hb e => hk₃ b o (fun q => hb (by simp [q])) (fun q => hb (by simp [q])) (fun q => hb (by simp [q])) e) fun b hb => by
      simp only [List.mem_cons, List.not_mem_nil, or_false] at hb
      rcases hb with e | e | e <;> rw [e] <;> assumption
    have g3 := g.g.keep (s' := { s with heap := h₃, toks := s.toks + 1 }) (fun b hb o e => hk₃ b o (fun q => by
        rcases List.mem_cons.mp hb with r | r
        · exact D.az (r.symm.trans q)
        · exact nz (by rw [← q]; exact r)) (fun q => by
        rcases List.mem_cons.mp hb with r | r
        · exact D.TOa (q.symm.trans r)
        · exact nTO (by rw [← q]; exact r)) (fun q => by
        rcases List.mem_cons.mp hb with r | r
        · exact D.i1a (q.symm.trans r)
        · exact ni1 (by rw [← q]; exact r)) e) (.inl rfl)
    obtain ⟨gs, gp, e1, e2, e3, e4⟩ := g3.st
    have fra := fp_nofr I3 fa
    obtain ⟨m, hm⟩ : ∃ m, n + 1 - i = m + 1 := ⟨n - i, by omega⟩
    have hm' : n + 1 - (i + 1) = m := by omega
    rw [hm] at e3
    refine wpAny_bind (wpAny_bind (wpAny_onRaise ?_))
    show wpAny _ _ (Builtin.SmallTypes.nextOf (.ref a) >>= _) _ _ _
    refine wpAny_bind (wpAny_mono (nextOf_ready e3 hr.in1 I3.env0.in1 hn hx g3.gen e1 g3.fr (fun b hb => (fpv b hb).1) ⟨g3.ne, fa.1, fra⟩ e2) (fun u2 s4 ⟨H1, pv1, gp1, gs1, hA, hgp, hgen, rx, hgs, hb, hsu, R1⟩ => ?_) fun _ _ z => False.elim z)
    have I4 : Inv X pins σ H1 s4 := inv_aft I3 ⟨rfl, rfl, rfl⟩ hA fpv
    have fpv1 := fp_new I3 hA fpv
    have g4 := GSt.next (X := X) (pins := pins) (σ := σ) g3 (by omega) ⟨fa.1, fra⟩ hA hgp hgen hgs hsu (by rw [hm']; exact R1)
    have stay : ∀ {b : Addr} {o : Obj}, b ∉ pv → FpOk X pins H b → h₃.get? b = some o → s4.heap.get? b = some o ∧ H1 b = none := fun {b o} hb f e => ⟨hA.un.keep b o e f.1 (fp_nofr I3 f) hb, hA.un.free b o e f.1 hb⟩
    obtain ⟨hTO₄, nTO₄⟩ := stay nTO fTO hTO₃
    obtain ⟨hz₄, nz₄⟩ := stay nz fz (hs₃.extBut _ _ D.TOz.symm (hs₂.extBut _ _ D.i1z.symm hz₁))
    obtain ⟨hTI₄, nTI₄⟩ := stay nTI fTI (hk₃ _ _ D.TIz D.TITO D.TIi1 g.hTI)
    obtain ⟨hi₄, ni₄⟩ := stay ni1 fi1 (hs₃.extBut _ _ D.TOi1.symm h1₂)
    have ne1 : ∀ {b : Addr}, b < h₃.objs.size → b ∉ pv → b ∉ pv1 := fun {b} hb hp q => by
      rcases (hA.pvs b q).2.1 with r | r
      · exact hp r
      · exact absurd hb (Nat.not_lt.mpr r)
    have sz3 : h₃.objs.size = s.heap.objs.size := by
      have z3 := hs₃.1
      have z2 := hs₂.1
      have z1 := hs₁.1
      have z3 : h₃.objs.size = h₂.objs.size := z3
      have z2 : h₂.objs.size = h₁.objs.size := z2
      rw [z3, z2, z1]
    have nz' : z ∉ pv1 := ne1 (by rw [sz3]; exact hzl) nz
    have nTI' : TI ∉ pv1 := ne1 (by rw [sz3]; exact hTIl) nTI
    have nTO' : TO ∉ pv1 := ne1 (by rw [sz3]; exact hTOl) nTO
    have ni1' : i1 ∉ pv1 := ne1 (by rw [sz3]; exact hi1l) ni1
    refine wpAny_pure ?_
    refine wpAny_bind (wpAny_seqItems hTO₄ rfl ?_)
    refine wpAny_bind (wpAny_updateSeq_pair hTO₄ fun h₅ hTO₅ hs₅ => ?_)
    replace hTO₅ : IsPair h₅ TO u1 u2 := hTO₅
    refine wpAny_bind (wpAny_letGo (wpAny_pure (wpAny_pure ?_)))
    refine wpAny_bind (wpAny_seqItems (s := { s4 with heap := h₅ }) hTO₅ rfl ?_)
    refine wpAny_bind (wpAny_newTuple ?_)
    have hz₅ : IsZip h₅ z TI TO .ellipsis := hs₅.extBut _ _ D.TOz.symm hz₄
    have sz5 : h₅.objs.size = s4.heap.objs.size := hs₅.1
    have hzlt : z < h₅.objs.size := Heap.lt_size hz₅
    show wpAny _ _ (Builtin.SmallTypes.ownedTupleHandOut (.ref z) (.ref h₅.objs.size) >>= _) _ _ _
    refine wpAny_bind ?_
    unfold Builtin.SmallTypes.ownedTupleHandOut
    have hz₆ : IsZip (h₅.push { cls := .type "tuple", data := .seq #[u1, u2] }) z TI TO .ellipsis := Heap.get?_push_of_some _ hz₅
    refine wpAny_bind (wpAny_setField_rec (s := { s4 with heap := h₅.push { cls := .type "tuple", data := .seq #[u1, u2] } }) hz₆ (by simp) fun h₇ hz₇ hs₇ => ?_)
    replace hz₇ : IsZip h₇ z TI TO (rawInt h₅.objs.size) := hz₇
    refine wpAny_setField_rec (s := { s4 with heap := h₇ }) hz₇ (by simp) fun h₈ hz₈ hs₈ => ?_
    replace hz₈ : IsZip h₈ z TI TO (rawInt h₅.objs.size) := hz₈
    refine wpAny_pure ⟨_, rfl, wpAny_pure ⟨_, rfl, ?_⟩⟩
    show wpAny _ _ (letOwnedTupleGo _ (.ref z) (.ref h₅.objs.size)) _ _ { s4 with heap := h₈ }
    refine wpAny_letOwnedTupleGo_zip (s := { s4 with heap := h₈ }) hz₈ fun h₉ hz₉ hs₉ => ?_
    have up : ∀ c o, c ≠ z → c ≠ TO → s4.heap.get? c = some o → h₉.get? c = some o := fun c o c1 c2 e => hs₉.extBut _ _ c1 (hs₈.extBut _ _ c1 (hs₇.extBut _ _ c1 (Heap.get?_push_of_some _ (hs₅.extBut _ _ c2 e))))
    have hT₉ : h₉.get? h₅.objs.size = some { cls := .type "tuple", data := .seq #[u1, u2] } := hs₉.extBut _ _ (Nat.ne_of_gt hzlt) (hs₈.extBut _ _ (Nat.ne_of_gt hzlt) (hs₇.extBut _ _ (Nat.ne_of_gt hzlt) (Heap.get?_push_size _ rfl)))
    have hTO₉ : IsPair h₉ TO u1 u2 := hs₉.extBut _ _ D.TOz (hs₈.extBut _ _ D.TOz (hs₇.extBut _ _ D.TOz (Heap.get?_push_of_some _ hTO₅)))
    have ru1 : RelV (.int (i : Nat)) u1 := ⟨s.toks, by rw [← hu1]; simp⟩
    have new : ObjOk X.prog X.w (upd H1 h₅.objs.size (.tup [.int (i : Nat), x])) h₉ h₅.objs.size (.tup [.int (i : Nat), x]) :=
      ⟨by show 2 ≤ sizeLine; decide, [u1, u2], .cons ru1 (.cons rx .nil), ⟨_, hT₉, rfl, _, rfl⟩⟩
    have Tge : s4.heap.objs.size ≤ h₅.objs.size := Nat.le_of_eq sz5.symm
    have fz4 : FpOk X pins H1 z := fpOther fz nz₄
    have fTO4 : FpOk X pins H1 TO := fpOther fTO nTO₄
    have I5 : Inv X pins σ (upd H1 h₅.objs.size (.tup [.int (i : Nat), x])) { s4 with heap := h₉ } := I4.turnedNew (t' := s4.toks) (ch := [z, TO]) (fun c o hb q => up c o (fun r => hb (by simp [r])) (fun r => hb (by simp [r])) q) (fun b hb => by
      simp only [List.mem_cons, List.not_mem_nil, or_false] at hb
      rcases hb with e | e <;> rw [e] <;> assumption) Tge new
    have other : ∀ {b : Addr} {o : Obj}, s4.heap.get? b = some o → FpOk X pins H1 b → FpOk X pins (upd H1 h₅.objs.size (.tup [.int (i : Nat), x])) b := fun {b o} e f => fpOther f (by
      rw [upd_ne (Nat.ne_of_lt (Nat.lt_of_lt_of_le (Heap.lt_size e) Tge))]; exact f.1)
    refine ⟨.ref h₅.objs.size, _, z :: TI :: TO :: i1 :: a :: pv1, I5, rfl, ⟨_, x, H1, rfl, hx, hA.same, I4.hok.fresh Tge, rfl⟩, ⟨pv1, rfl, hz₉, up _ _ D.TIz D.TITO hTI₄, ⟨_, _, hTO₉⟩, ?_, ?_, nz', nTI', nTO', ni1'⟩, fun b hb => ?_⟩
    · have r1 : (0 : Int) + ((i + 1 : Nat) : Int) * 1 = 0 + (i : Int) * 1 + 1 := by push_cast; omega
      have r2 : (n : Int) - ((i + 1 : Nat) : Int) = (n : Int) - (i : Int) - 1 := by push_cast; omega
      rw [r1, r2]
      exact up _ _ D.i1z D.TOi1.symm hi₄
    · refine g4.keep (fun b hb o e => up b o (fun q => ?_) (fun q => ?_) e) (.inl rfl)
      · rcases List.mem_cons.mp hb with r | r
        · exact D.az (r.symm.trans q)
        · exact nz' (by rw [← q]; exact r)
      · rcases List.mem_cons.mp hb with r | r
        · exact D.TOa (q.symm.trans r)
        · exact nTO' (by rw [← q]; exact r)
    · simp only [List.mem_cons] at hb
      rcases hb with e | e | e | e | e | hb
      · rw [e]; exact other hz₄ fz4
      · rw [e]; exact other hTI₄ (fpOther fTI nTI₄)
      · rw [e]; exact other hTO₄ fTO4
      · rw [e]; exact other hi₄ (fpOther fi1 ni₄)
      · rw [e]
        obtain ⟨o, _, _, ho, _⟩ := g3.gen
        obtain ⟨q1, q2⟩ := stay g3.ne fa ho
        exact other q1 (fpOther fa q2)
      · obtain ⟨o, ho, _⟩ := g4.obj b hb
        exact other ho (fpv1 b hb)
  done := fun X wk i fp pins s σ H I hf ⟨pv, e, g⟩ stop => by
    obtain ⟨rfl, rfl, rfl, rfl, rfl, hc, rfl, hr⟩ := wk
    subst e
    have hn : n ≤ i := stop
    have hh : X.A.handled = none := I.ok.hd hc
    have fz := hf z (by simp)
    have fi1 := hf i1 (by simp)
    have hT : s.TypeIs (.ref z) "zip" := ⟨_, g.hz, rfl⟩
    obtain ⟨a0, b0, hTO⟩ := g.hTO
    unfold pyNext
    refine wpAny_bind (wpAny_attempt (wpAny_callSpecial?_slot (name := Str.ofString "__next__") hT F.slot_zip_next (wpAny_call_entry F.slot_zip_next hT F.entry_zip_next ?_ (F.args_zip_next_1 _))))
    show wpAny _ _ (field (.ref z) 2 >>= _) _ _ _
    refine wpAny_bind (wpAny_field g.hz rfl (x := .bool false) rfl ?_)
    show wpAny _ _ (field (.ref z) 3 >>= _) _ _ _
    refine wpAny_bind (wpAny_field g.hz rfl (x := .ref TI) rfl ?_)
    refine wpAny_bind (wpAny_seqItems g.hTI rfl ?_)
    show wpAny _ _ (Builtin.SmallTypes.ownedTupleIsFree (.ref z) >>= _) _ _ _
    refine wpAny_bind ?_
    unfold Builtin.SmallTypes.ownedTupleIsFree
    refine wpAny_bind (wpAny_field g.hz rfl (x := .none) rfl (wpAny_pure ?_))
    simp only [if_true]
    refine wpAny_bind (wpAny_rule ?_)
    refine wpAny_bind (wpAny_field g.hz rfl (x := .ref TO) rfl ?_)
    refine wpAny_bind (wpAny_setField_rec g.hz (by simp) fun h₁ hz₁ hs₁ => ?_)
    replace hz₁ : IsZip h₁ z TI TO .ellipsis := hz₁
    refine wpAny_bind ?_
    simp only [List.zipIdx_cons, List.zipIdx_nil, List.forIn_cons, List.forIn_nil]
    refine wpAny_bind (wpAny_bind (wpAny_onRaise ?_))
    show wpAny _ _ (Builtin.SmallTypes.nextOf (.ref i1) >>= _) _ _ _
    refine wpAny_bind ?_
    unfold Builtin.SmallTypes.nextOf
    refine wpAny_bind (CpRep.range_end (s := { s with heap := h₁ }) hh (hs₁.extBut _ _ D.i1z g.hi) (by omega) fun e h₂ he hs₂ => ?_)
    obtain ⟨ea, oe, ve, ee, hoe, hce, hde, hse⟩ := he
    have hz₂ : IsZip h₂ z TI TO .ellipsis := hs₂ _ _ D.i1z.symm hz₁
    have hez : ea ≠ z := fun q => by subst q; rw [hz₂] at hoe; cases hoe; simp at hce
    subst ee
    refine wpAny_setField_rec (s := { s with heap := h₂ }) hz₂ (by simp) fun h₃ _ hs₃ => ?_
    refine wpAny_bind (wpAny_isInstance (T := "StopIteration") (b := true) ⟨_, hs₃.extBut _ _ hez hoe, hce⟩ isSubtype_stop ?_)
    have I' : Inv X pins σ H { s with heap := h₃ } := I.turnedL (t' := s.toks) (ch := [z, i1]) (fun b o hb e => hs₃.extBut _ _ (fun q => hb (by simp [q])) (hs₂ _ _ (fun q => hb (by simp [q])) (hs₁.extBut _ _ (fun q => hb (by simp [q])) e))) (fun b hb => by
      simp only [List.mem_cons, List.not_mem_nil, or_false] at hb
      rcases hb with e | e <;> rw [e] <;> assumption)
    exact wpAny_pure ⟨rfl, H, I', rfl⟩
  self := fun A i fp s Q E ⟨pv, e, g⟩ h => wpAny_pyIter_zip g.hz h
end
end Tf

/-! ## TfZip2 -/
set_option Elab.async false
set_option linter.all false
set_option maxRecDepth 100000
set_option maxHeartbeats 4000000
/-! zip(range(n), a generator): making it. -/
namespace Tf
open PySem PySem.Spec PyProof.Rows L2
open PySem.W.X (SegX)

abbrev zrH1 (h : Heap) (n : Int) : Heap := h.push { cls := .type "range_iterator", data := .fields #[rawInt 0, rawInt (Builtin.Range.rangeSize 0 n 1), rawInt 1] }
abbrev zrH3 (h : Heap) (n : Int) (a : Addr) : Heap := (zrH1 h n).push { cls := .type "tuple", data := .seq #[.ref h.objs.size, .ref a] }
abbrev zrH4 (h : Heap) (n : Int) (a : Addr) : Heap := (zrH3 h n a).push { cls := .type "tuple", data := .seq #[.none, .none] }
abbrev zrH5 (h : Heap) (n : Int) (a : Addr) : Heap := (zrH4 h n a).push { cls := .type "zip", data := .fields #[.none, .bool false, .bool false, .ref (zrH1 h n).objs.size, .ref (zrH3 h n a).objs.size] }
theorem IsGen.push {h : Heap} {a : Addr} {g : Nat} {o : Obj} (x : h.IsGen a g) : (h.push o).IsGen a g := x.keeps fun _ _ e => Heap.get?_push_of_some _ e
theorem meets_zr_new (r a : Addr) (g : Nat) (n : Int) (t u v : Tok) (hn : Builtin.Range.small 0 n 1 = true) :
    Meets (Builtin.«zip.__new__» ⟨[.type "zip", .ref r, .ref a], []⟩) (fun _ R s => IsRange s.heap r 0 n 1 t u v ∧ s.heap.IsGen a g ∧
      R (.ok (.ret (.ref (zrH4 s.heap n a).objs.size))) { s with heap := zrH5 s.heap n a }) :=
  .of_wp fun prog w A R s h => by
    obtain ⟨hp, gs, d, tk, os⟩ := s; obtain ⟨hl1, hl2, h⟩ := h
    have hsub := sub_zip
    have hL1 : IsRange (Shared.heap ⟨hp, gs, d, tk, os⟩) r 0 n 1 t u v := hl1
    have hL2 : Heap.IsGen (Shared.heap ⟨zrH1 hp n, gs, d, tk, os⟩) a g := IsGen.push hl2
    wp_walk using wpAny_pyIter_range hL1 hn, wpAny_pyIter_gen hL2
    exact ⟨_, rfl, h⟩
section
variable {prog : Program} {w : World} {A : Around} {E : Value → Shared → Prop} {s : Shared}
theorem call_zr {r a : Addr} {g : Nat} {n : Int} {t u v : Tok} {Q : Value → Shared → Prop} (hn : Builtin.Range.small 0 n 1 = true) (hl1 : IsRange s.heap r 0 n 1 t u v) (hl2 : s.heap.IsGen a g)
    (h : ∀ h', IsZip h' (s.heap.objs.size + 3) (s.heap.objs.size + 1) (s.heap.objs.size + 2) .none → IsPair h' (s.heap.objs.size + 1) (.ref s.heap.objs.size) (.ref a) →
      IsPair h' (s.heap.objs.size + 2) .none .none → IsRangeIter h' s.heap.objs.size 0 (Builtin.Range.rangeSize 0 n 1) 1 → 
      (∀ c o, s.heap.get? c = some o → h'.get? c = some o) → Q (.ref (s.heap.objs.size + 3)) { s with heap := h' }) :
    wpAny (model prog w) A (call (.type "zip") [.ref r, .ref a]) Q E s := by
  refine callType_new F.called_zip (by decide) (F.typeCall_zip_2 _ _) (F.newCall_zip_2 _ _) (fun obj => F.args_object_init_3 obj _ _) F.entry_zip_new
    (meets_zr_new r a g n t u v hn) ⟨hl1, hl2, ?_⟩
  have z1 : (zrH1 s.heap n).objs.size = s.heap.objs.size + 1 := Heap.size_push ..
  have z3 : (zrH3 s.heap n a).objs.size = s.heap.objs.size + 2 := by rw [Heap.size_push, z1]
  have z4 : (zrH4 s.heap n a).objs.size = s.heap.objs.size + 3 := by rw [Heap.size_push, z3]
  have g5 : (zrH5 s.heap n a).get? (zrH4 s.heap n a).objs.size = some _ := Heap.get?_push_size _ rfl
  have g4 : (zrH5 s.heap n a).get? (zrH3 s.heap n a).objs.size = some _ := Heap.get?_push_of_some _ (Heap.get?_push_size _ rfl)
  have g3 : (zrH5 s.heap n a).get? (zrH1 s.heap n).objs.size = some _ := Heap.get?_push_of_some _ (Heap.get?_push_of_some _ (Heap.get?_push_size _ rfl))
  have g1 : (zrH5 s.heap n a).get? s.heap.objs.size = some _ := Heap.get?_push_of_some _ (Heap.get?_push_of_some _ (Heap.get?_push_of_some _ (Heap.get?_push_size _ rfl)))
  show _ ∧ _
  rw [z1, z3, z4] at g5
  rw [z1] at g3
  rw [z3] at g4
  rw [z4]
  exact ⟨⟨_, g5, rfl⟩, h _ g5 g3 g4 g1 fun c o x =>
    Heap.get?_push_of_some _ (Heap.get?_push_of_some _ (Heap.get?_push_of_some _ (Heap.get?_push_of_some _ x)))⟩
end
/-- zip(e, g): e a range from 0, g a new generator -/
def tisZip (te : TE) (t : TGe) : TIS := fun σ H R => te σ H fun x H1 => ∃ (r : Addr) (n : Nat), x = .ref r ∧ H1 r = some (.rng 0 n) ∧ n < 2 ^ 62 ∧ t σ H1 fun need item H2 => H2 r = some (.rng 0 n) ∧ R (Jz need item n) H2
theorem pis_zip {X : Cx} {e g : Expr} {k : Nat} {te : TE} {t : TGe} {elts : List Expr} {kk : Nat} {tpos p pos : Pos} (hgl : Gl X "zip") (hm : X.mg "zip" = none) (he : PE X e te) (hg : PGe X k g t)
    (hs : starEach [e, g] X.env = (false, eval e X.env) :: starEach [g] X.env := by rfl) (hs2 : starEach [g] X.env = (false, eval g X.env) :: starEach [] X.env := by rfl) (hpl : (backTo pos (starEach [g] X.env)).any (·.1) = false := by rfl) :
    PIS X (k + 2) (.Tuple elts kk tpos) (.Call (.Name "zip" p) [e, g] [] pos) (tisZip te t) := by
  refine ⟨fun pins s σ H R I q => ?_⟩
  refine Call_ (ld_blt I hgl hm PyProof.Rows.boot_zip (PyProof.Rows.callWith_type1 ?_ hs hpl))
  refine spliced_more (thn (he.run pins s σ H _ I q) fun v1 s1 ⟨x, H1, I1, rx, r, n, ex, hr, hn62, q1⟩ => ?_) hs
  subst ex
  obtain rfl : v1 = Value.ref r := rx
  refine spliced_more (thn (hg.run pins s1 σ H1 _ I1 q1) fun u s2 ⟨s0, a, lo, need, item, H2, eu, I0, M, hr2, r2⟩ => ?_) hs2
  subst eu
  refine spliced_none ?_
  have hfl : ∀ b ∈ frs X.stack, b < s0.heap.objs.size := frs_lt I0.env0.funs
  have I2 : Inv X pins σ H2 s2 := by
    obtain ⟨c, hg, _⟩ := M.fresh
    refine I0.call' (ch := []) M.os (Un.kept M.kept) (I0.hok.kept M.kept) ?_ fun b hb => no_mem hb
    rw [hg]
    intro x hx
    rcases Array.mem_push.mp hx with z | z
    · exact I0.bare x z
    · rw [z]; rfl
  obtain ⟨t1, t2, t3, hR⟩ := I2.hok r _ hr2
  have halt : a < s2.heap.objs.size := M.there
  have hge : s0.heap.objs.size ≤ a := Nat.le_of_lt (Nat.lt_of_le_of_lt M.low M.lt)
  refine call_zr (n := (n : Int)) (small_one (by decide) (by decide) (by omega) (by omega)) hR M.gen fun h' hz hTI hTO hi hk => wpAny_pyIter_zip hz ?_
  have I3 : Inv X pins σ H2 { s2 with heap := h' } := I2.kept (t' := s2.toks) hk
  have D : ZAp (s2.heap.objs.size + 3) (s2.heap.objs.size + 1) (s2.heap.objs.size + 2) s2.heap.objs.size a := by
    have ha : ∀ j, s2.heap.objs.size + j ≠ a := fun j => Nat.ne_of_gt (Nat.lt_of_lt_of_le halt (Nat.le_add_right _ _))
    have hne : ∀ {i j : Nat}, i ≠ j → (s2.heap.objs.size + i : Nat) ≠ s2.heap.objs.size + j := fun h q => h (Nat.add_left_cancel q)
    exact ⟨hne (by decide), hne (by decide), hne (i := 0) (by decide), fun q => ha 3 q.symm, hne (by decide), hne (j := 0) (by decide), hne (j := 0) (by decide), ha 1, ha 2, ha 0⟩
  have G : GSt X.prog X.w X.K X.mg X.base X.stack k need item (n + 1) a lo s0.gens.size 0 [lo] { s2 with heap := h' } := (GSt.of M hfl (n + 1) hn62).keep (fun b _ o e => hk b o e) (.inl rfl)
  have lolt : lo < s2.heap.objs.size := Nat.lt_trans M.lt halt
  refine ⟨s2.heap.objs.size + 3, _, _, H2, (s2.heap.objs.size + 3) :: (s2.heap.objs.size + 1) :: (s2.heap.objs.size + 2) :: s2.heap.objs.size :: a :: [lo], rfl, I3, turn_zipR (lo := lo) (own := s0.gens.size) (need := need) (item := item) (n := n) D, ⟨[lo], rfl, hz, hTI, ⟨_, _, hTO⟩, ?_, G, ?_⟩, fun b hb => ?_, r2⟩
  · have e1 : (0 : Int) + ((0 : Nat) : Int) * 1 = 0 := by simp
    have e2 : (n : Int) - ((0 : Nat) : Int) = Builtin.Range.rangeSize 0 (n : Int) 1 := by rw [rangeSize_one]; split <;> omega
    rw [e1, e2]
    exact hi
  · have hlo : ∀ j, s2.heap.objs.size + j ∉ [lo] := fun j z => by
      have e : s2.heap.objs.size + j = lo := by simpa using z
      have := Nat.lt_of_lt_of_le lolt (Nat.le_add_right s2.heap.objs.size j)
      rw [e] at this
      exact Nat.lt_irrefl _ this
    exact ⟨hlo 3, hlo 1, hlo 2, hlo 0⟩
  · have new : ∀ {c : Addr}, s0.heap.objs.size ≤ c → FpOk X pins H2 c := fun hc => I0.fpOk hc (I0.hok.fresh hc)
    have ge2 : s0.heap.objs.size ≤ s2.heap.objs.size := Nat.le_trans hge (Nat.le_of_lt halt)
    have e' : b = s2.heap.objs.size + 3 ∨ b = s2.heap.objs.size + 1 ∨ b = s2.heap.objs.size + 2 ∨ b = s2.heap.objs.size ∨ b = a ∨ b = lo := by simpa using hb
    refine new ?_
    rcases e' with e | e | e | e | e | e
    · rw [e]; exact Nat.le_trans ge2 (Nat.le_add_right _ _)
    · rw [e]; exact Nat.le_trans ge2 (Nat.le_add_right _ _)
    · rw [e]; exact Nat.le_trans ge2 (Nat.le_add_right _ _)
    · rw [e]; exact ge2
    · rw [e]; exact hge
    · rw [e]; exact M.low
end Tf

/-! ## TfList -/
set_option Elab.async false
set_option linter.all false
set_option maxRecDepth 100000
set_option maxHeartbeats 4000000
/-! list(a generator). -/
namespace Tf
open PySem PySem.Spec PyProof.Rows L2
open PySem.W.X (SegX)

section
variable {X : Cx} {pins : List (Addr × Obj)} {σ : L2.St} {H : Hp} {s : Shared}
/-- an object of ours comes to be watched -/
theorem Inv.adopt {S : Addr} {u : HO} (I : Inv X pins σ H s) (f : FpOk X pins H S) (ok : ObjOk X.prog X.w (upd H S u) s.heap S u) : Inv X pins σ (upd H S u) s := by
  have ne : ∀ {b : Addr} {v : HO}, H b = some v → b ≠ S := fun {b v} q z => by rw [z, f.1] at q; cases q
  refine I.call' (ch := [S]) rfl ⟨fun b o e _ _ _ => e, fun b o e _ _ _ => ⟨o.slots, e⟩, fun b o e n hx => ?_, fun b o e _ => ⟨o, e⟩, fun b xs q => by rw [upd_ne (ne q)]; exact q, fun b o u q => by rw [upd_ne (ne q)]; exact q, fun b qs q => ⟨#[], by rw [upd_ne (ne q), q]; simp⟩⟩ (fun b v q => ?_) I.bare fun b hb => ?_
  · rw [upd_ne (fun z => hx (by simp [z]))]; exact n
  · by_cases hb : b = S
    · subst hb
      rw [upd_same] at q
      cases q
      exact ok
    · rw [upd_ne hb] at q
      exact (I.hok b v q).stay (fun _ _ _ z => z) (fun d z => by rw [upd_ne (ne z)]; exact z) fun d xs z => by rw [upd_ne (ne z)]; exact z
  · have e : b = S := by simpa using hb
    rw [e]
    exact ⟨f.2.2.2.1, f.2.1, f.2.2.2.2.1, f.2.2.2.2.2⟩
end
section
variable {X : Cx} {k : Nat} {need : Hp → Prop} {item : Nat → Option V} {N T : Nat} {a lo S : Addr} {own : Nat} {pins : List (Addr × Obj)} {σ : L2.St} {H0 : Hp} {res : Value} {R : Result → Shared → Prop}
theorem drainR (hr : Room (k + 3) X.A) (hh : X.A.handled = none) (hT : item T = none) (his : ∀ i < T, ∃ x, item i = some x) (hneed : ∀ H', Same H0 H' → need H') (hN : T < N) (hz : T ≤ sizeLine) (hSa : S ≠ a)
    (hend : ∀ Hf s' acc c ys, Inv X pins σ Hf s' → Same H0 Hf → FpOk X pins Hf S → s'.heap.get? S = some (lstObj acc c) → Vals ys acc.toList → ys.length = T → (∀ j < T, ys[j]? = item j) → R (.ok (.ret res)) s') :
    ∀ (m i : Nat) (s : Shared) (Hc : Hp) (acc : Array Value) (c : Nat) (ys : List V) (pv : List Addr), m + i = T → Inv X pins σ Hc s → Same H0 Hc → (∀ b ∈ a :: pv, FpOk X pins Hc b) → GSt X.prog X.w X.K X.mg X.base X.stack k need item N a lo own i pv s →
      s.heap.get? S = some (lstObj acc c) → S ∉ pv → FpOk X pins Hc S → Vals ys acc.toList → ys.length = i → (∀ j < i, ys[j]? = item j) →
      codeAny (model X.prog X.w) X.A.in1 (.builtin "list.extend.loop" ⟨[.ref S, .ref a, res], []⟩) R s := by
  intro m
  induction m with
  | zero =>
    intro i s Hc acc c ys pv hm I sm hf g hS hSp fS rv hl hit
    have hi : i = T := by omega
    subst hi
    refine codeAny_builtin F.entry_extend_loop ?_
    rw [Around.under_plainId F.plain_extend_loop _]
    show wpAny _ X.A.in1.in1 (pyNext (.ref a) >>= _) _ _ s
    obtain ⟨gs, gp, e1, e2, e3, e4⟩ := g.st
    have fa := hf a (List.mem_cons_self ..)
    have fr := fp_nofr I fa
    obtain ⟨m, hm'⟩ : ∃ m, N - i = m + 1 := ⟨N - i - 1, by omega⟩
    rw [hm'] at e3
    refine wpAny_bind (wpAny_mono (next_ready e3 hr.in1.in1 I.env0.in1.in1 (hneed _ sm) g.gen e1 g.fr (fun b hb => (hf b (List.mem_cons_of_mem _ hb)).1) ⟨g.ne, fa.1, fr⟩ e2) (fun r s1 ⟨H1, pv1, gp1, gs1, hA, hgp, hgen, hr1⟩ => ?_) fun _ _ z => False.elim z)
    cases r with
    | some v => obtain ⟨x', hx', _⟩ := hr1; rw [hT] at hx'; cases hx'
    | none =>
      have frS := fp_nofr I fS
      exact wpAny_pure (hend _ _ acc c ys (inv_aft I ⟨rfl, rfl, rfl⟩ hA fun b hb => hf b (List.mem_cons_of_mem _ hb)) (sm.trans hA.same) (fpOther fS (hA.un.free _ _ hS fS.1 hSp)) (hA.un.keep _ _ hS fS.1 frS hSp) rv hl hit)
  | succ m ih =>
    intro i s Hc acc c ys pv hm I sm hf g hS hSp fS rv hl hit
    have hi : i < T := by omega
    obtain ⟨x, hx⟩ := his i hi
    refine codeAny_builtin F.entry_extend_loop ?_
    rw [Around.under_plainId F.plain_extend_loop _]
    show wpAny _ X.A.in1.in1 (pyNext (.ref a) >>= _) _ _ s
    obtain ⟨gs, gp, e1, e2, e3, e4⟩ := g.st
    have fa := hf a (List.mem_cons_self ..)
    have fr := fp_nofr I fa
    obtain ⟨q, hm'⟩ : ∃ q, N - i = q + 1 := ⟨N - i - 1, by omega⟩
    have hq' : N - (i + 1) = q := by omega
    rw [hm'] at e3
    have hf' : ∀ b ∈ pv, FpOk X pins Hc b := fun b hb => hf b (List.mem_cons_of_mem _ hb)
    refine wpAny_bind (wpAny_mono (next_ready e3 hr.in1.in1 I.env0.in1.in1 (hneed _ sm) g.gen e1 g.fr (fun b hb => (hf' b hb).1) ⟨g.ne, fa.1, fr⟩ e2) (fun r s1 ⟨H1, pv1, gp1, gs1, hA, hgp, hgen, hr1⟩ => ?_) fun _ _ z => False.elim z)
    cases r with
    | none => have hr1 : item i = none := hr1; rw [hx] at hr1; cases hr1
    | some v =>
      obtain ⟨x', hx', rx, hgs, hb, hsu, R1⟩ := hr1
      rw [hx] at hx'
      cases hx'
      have frS := fp_nofr I fS
      have I1 := inv_aft I ⟨rfl, rfl, rfl⟩ hA hf'
      have hS1 := hA.un.keep _ _ hS fS.1 frS hSp
      have fS1 : FpOk X pins H1 S := fpOther fS (hA.un.free _ _ hS fS.1 hSp)
      have hSp1 : S ∉ pv1 := fun z => by
        rcases (hA.pvs S z).2.1 with q | q
        · exact hSp q
        · exact absurd (Heap.lt_size hS) (Nat.not_lt.mpr q)
      have fa1 : FpOk X pins H1 a := by
        obtain ⟨o', _, _, ho', _⟩ := g.gen
        exact fpOther fa (hA.un.free _ o' ho' fa.1 g.ne)
      have g1 : GSt X.prog X.w X.K X.mg X.base X.stack k need item N a lo own (i + 1) pv1 s1 := GSt.next (X := X) (pins := pins) (σ := σ) g (by omega) ⟨fa.1, fr⟩ hA hgp hgen hgs hsu (by rw [hq']; exact R1)
      have asz : acc.size = i := by rw [← hl, rv.length, Array.length_toList]
      show wpAny _ X.A.in1.in1 (updateSeq S (·.push v) >>= _) _ _ _
      refine wpAny_bind ?_
      refine wpAny_updateSeq hS1 rfl (wpAny_pure ⟨plainId_quiet F.plain_extend_loop _, ?_⟩) (by omega) (by show (acc.push v).size ≤ sizeLine + 1; rw [Array.size_push]; omega)
      have keep3 : ∀ b o, b ≠ S → s1.heap.get? b = some o → (s1.heap.update S (Obj.mapSeq (·.push v))).get? b = some o := fun b o hbS e => (Heap.get?_update_other _ _ (Ne.symm hbS)).trans e
      have I2 : Inv X pins σ H1 { s1 with heap := s1.heap.update S (Obj.mapSeq (·.push v)) } := I1.turned (t' := s1.toks) keep3 fS1.1 fS1.2.1 fS1.2.2.2.1 fS1.2.2.2.2.1 fS1.2.2.2.2.2
      have neS : ∀ b ∈ a :: pv1, b ≠ S := fun b hb q => by
        rcases List.mem_cons.mp hb with z | z
        · exact hSa (q.symm.trans z)
        · exact hSp1 (by rw [← q]; exact z)
      have hS2 : ∃ c', (s1.heap.update S (Obj.mapSeq (·.push v))).get? S = some (lstObj (acc.push v) c') := ⟨_, Heap.get?_update_self _ hS1 rfl⟩
      obtain ⟨c', hS2⟩ := hS2
      refine ih (i + 1) _ H1 (acc.push v) c' (ys ++ [x]) pv1 (by omega) I2 (sm.trans hA.same) (fun b hb => ?_) (g1.keep (fun b hb o e => keep3 b o (neS b hb) e) (.inl rfl)) hS2 hSp1 fS1 ?_ (by simp [hl]) fun j hj => ?_
      · rcases List.mem_cons.mp hb with z | z
        · rw [z]; exact fa1
        · exact fp_new I hA hf' b z
      · rw [Array.toList_push]
        exact rv.append (.cons rx .nil)
      · by_cases e : j < i
        · rw [List.getElem?_append_left (by omega)]; exact hit j e
        · have e : j = i := by omega
          subst e
          rw [List.getElem?_append_right (by omega), hl]
          simp [hx]
def tList (t : TGe) : TE := fun σ H Q => t σ H fun need item H1 => ∃ T, T ≤ 1000000 ∧ item T = none ∧ (∀ i < T, ∃ x, item i = some x) ∧ (∀ H', Same H1 H' → need H') ∧
  ∀ H' p ys, Same H1 H' → H' p = none → ys.length = T → (∀ j < T, ys[j]? = item j) → Q (.ref p) (upd H' p (.lst ys))
theorem pe_list {e : Expr} {t : TGe} {nm : Str} {p pos : Pos} (h : PGe X k e t) (hc : X.calm = true) (hr : Room (k + 3) X.A) (hg : Gl X nm) (hmg : X.mg nm = none) (hv : bootBuiltins nm = some (.type "list")) (hnm : nm ≠ "__name__" := by decide) (hdb : (nm == ("__debug__" : Str)) = false := by decide)
    (he : starEach [e] X.env = (false, eval e X.env) :: starEach [] X.env := by rfl) : PE X (.Call (.Name nm p) [e] [] pos) (tList t) := by
  refine ⟨fun pins s σ H Q I hq => ?_⟩
  refine wpAny_Call_Name_kw (ld_blt I hg hmg hv ?_ hnm hdb)
  refine PyProof.Rows.callWith_type1 ?_ he rfl
  rw [he]
  show wpAny _ _ (spliced ((false, eval e X.env) :: backTo pos (starEach [] X.env))) _ _ s
  refine Calls.spliced_cons (thn (h.run pins s σ H _ I hq) fun u s1 ⟨s0, a, lo, need, item, H1, eu, I0, M, T, hTz, hT, his, hneed, q⟩ => ?_)
  subst eu
  refine Calls.spliced_nil ?_
  have hfl : ∀ b ∈ frs X.stack, b < s0.heap.objs.size := frs_lt I0.env0.funs
  have I1 : Inv X pins σ H1 s1 := by
    obtain ⟨c, hg, _⟩ := M.fresh
    refine I0.call' (ch := []) M.os (Un.kept M.kept) (I0.hok.kept M.kept) ?_ fun b hb => no_mem hb
    rw [hg]
    intro x hx
    rcases Array.mem_push.mp hx with z | z
    · exact I0.bare x z
    · rw [z]; rfl
  have alt : a < s1.heap.objs.size := M.there
  have hSa : s1.heap.objs.size ≠ a := Nat.ne_of_gt alt
  generalize hSe : s1.heap.objs.size = S at hSa
  have hg := M.gen
  refine callType_codes (Q₁ := fun obj s₁ => obj = .ref s1.heap.objs.size ∧ s₁ = { s1 with heap := s1.heap.push { cls := .type "list", data := .seq #[] } }) F.called_list (F.typeCall_list_1 _) F.entry_list_init
    (code_list_new _ ⟨rfl, rfl⟩) fun obj s₁ h₁ => ?_
  obtain ⟨rfl, rfl⟩ := h₁
  rw [hSe]
  have hS : (s1.heap.push { cls := .type "list", data := .seq #[] }).get? S = some { cls := .type "list", data := .seq #[] } := by rw [← hSe]; exact Heap.get?_push_size _ rfl
  refine ⟨⟨_, hS, rfl⟩, F.args_list_init_2 _ _, ?_⟩
  show wpAny _ X.A.in1.in1 (do let old ← Builtin.List.listItems (.ref S); Builtin.List.listUpdate (.ref S) (fun _ => #[]); letGo old.toList.reverse; Builtin.List.listExtendWith (.ref S) (.ref a) .none) _ _ _
  refine wpAny_bind ?_
  unfold Builtin.List.listItems
  refine wpAny_bind (wpAny_seqItems hS rfl (wpAny_pure ?_))
  show wpAny _ X.A.in1.in1 (updateSeq S (fun _ => #[]) >>= fun _ => letGo (#[] : Array Value).toList.reverse >>= fun _ => Builtin.List.listExtendWith (.ref S) (.ref a) .none) _ _ _
  refine wpAny_bind (wpAny_updateSeq hS rfl ?_)
  have hS2 := Heap.get?_update_self (Obj.mapSeq (fun _ => (#[] : Array Value))) hS rfl
  refine wpAny_bind (wpAny_letGo ?_)
  unfold Builtin.List.listExtendWith
  have neS : ∀ b o, s1.heap.get? b = some o → S ≠ b := fun b o e => by rw [← hSe]; exact Ne.symm (Nat.ne_of_lt (Heap.lt_size e))
  have up : ∀ (h : Heap) (f : Obj → Obj), (∀ b o, s1.heap.get? b = some o → h.get? b = some o) → ∀ b o, s1.heap.get? b = some o → (h.update S f).get? b = some o := fun h f q b o e =>
    (Heap.get?_update_other _ _ (neS b o e)).trans (q b o e)
  have k1 : ∀ b o, s1.heap.get? b = some o → (s1.heap.push { cls := .type "list", data := .seq #[] }).get? b = some o := fun b o e => Heap.get?_push_of_some _ e
  have k2 := up _ (Obj.mapSeq (fun _ => (#[] : Array Value))) k1
  have gty : ∀ {h : Heap}, (∀ b o, s1.heap.get? b = some o → h.get? b = some o) → h.IsGen a s0.gens.size := fun {h} q => hg.keeps q
  refine wpAny_bind (wpAny_typeOf (Heap.IsGen.typeIs (s := { s1 with heap := _ }) (gty k2)) ?_)
  have h1 : Builtin.List.listSameRef (.ref S) (.ref a) = false := by simp [Builtin.List.listSameRef, hSa]
  have h2 : (Value.type "generator" == Value.type "list") = false := by decide
  have h3 : (Value.type "generator" == Value.type "tuple") = false := by decide
  simp only [h1, h2, h3, Bool.or_false, Bool.false_eq_true, if_false]
  refine wpAny_bind (wpAny_pyIter_gen (s := { s1 with heap := _ }) (gty k2) ?_)
  refine wpAny_bind (wpAny_holding ?_)
  unfold Builtin.List.listLengthHint
  refine wpAny_bind (wpAny_specialOf (Heap.IsGen.typeIs (s := { s1 with heap := _ }) (gty k2)) F.gen_no_len ?_)
  show wpAny _ X.A.in1.in1 (specialOf (Value.ref a) (Str.ofString "__length_hint__") >>= _) _ _ _
  refine wpAny_bind (wpAny_specialOf (Heap.IsGen.typeIs (s := { s1 with heap := _ }) (gty k2)) F.gen_no_hint ?_)
  refine wpAny_pure ?_
  show wpAny _ X.A.in1.in1 (rule "list.extend.makes-room" >>= fun _ => Builtin.List.listTouch (.ref S) >>= fun _ =>
    again (.builtin "list.extend.loop" ⟨[.ref S, .ref a, .none], []⟩)) _ _ _
  refine wpAny_bind (wpAny_rule ?_)
  refine wpAny_bind ?_
  show wpAny _ X.A.in1.in1 (updateSeq S (·.push .none) >>= fun _ => updateSeq S (·.pop)) _ _ _
  refine wpAny_bind (wpAny_updateSeq hS2 rfl ?_)
  have hS3 := Heap.get?_update_self (Obj.mapSeq (·.push Value.none)) hS2 rfl
  refine wpAny_updateSeq (hz := by seq_fits) hS3 rfl ?_
  have hS4 := Heap.get?_update_self (Obj.mapSeq (·.pop)) hS3 rfl
  have k4 := up _ (Obj.mapSeq (·.pop)) (up _ (Obj.mapSeq (·.push Value.none)) k2)
  refine wpAny_pure ⟨plainId_quiet F.plain_extend_loop _, ?_⟩
  have new : ∀ {c : Addr}, s0.heap.objs.size ≤ c → FpOk X pins H1 c := fun hc => I0.fpOk hc (I0.hok.fresh hc)
  have lolt : lo < s1.heap.objs.size := Nat.lt_trans M.lt alt
  refine drainR (a := a) (lo := lo) (own := s0.gens.size) (need := need) (item := item) (N := T + 1) (T := T) (S := S) (H0 := H1) (pins := pins) (σ := σ) hr (I1.ok.hd hc) hT his hneed (Nat.lt_succ_self _) (Nat.le_trans hTz (by unfold sizeLine; decide)) hSa (fun Hf s' acc c ys If smf fS hSf rv hl hit => ⟨rfl, ?gE⟩)
    T 0 _ H1 _ _ [] [lo] (Nat.add_zero _) (I1.kept (t' := s1.toks) k4) (fun _ _ e => e) (fun b hb => ?gF) ((GSt.of M hfl (T + 1) (by omega)).keep (fun b _ o e => k4 b o e) (.inl rfl)) hS4 ?gN (new ?gL) .nil rfl fun j hj => absurd hj (Nat.not_lt_zero _)
  case gE => refine ⟨.ref S, upd Hf S (.lst ys), Inv.adopt If fS ⟨by rw [hl]; exact Nat.le_trans hTz (by unfold sizeLine; decide), acc.toList, c, rv, by rw [hSf]⟩, rfl, q Hf S ys smf fS.1 hl hit⟩
  case gF =>
    rcases List.mem_cons.mp hb with e | hb
    · rw [e]; exact new (Nat.le_of_lt (Nat.lt_of_le_of_lt M.low M.lt))
    · have e : b = lo := by simpa using hb
      rw [e]; exact new M.low
  case gN =>
    intro z
    have e : S = lo := by simpa using z
    rw [← hSe] at e
    rw [← e] at lolt
    exact Nat.lt_irrefl _ lolt
  case gL =>
    rw [← hSe]
    exact Nat.le_trans M.low (Nat.le_of_lt lolt)
end
end Tf

/-! ## TfBody -/
set_option Elab.async false
set_option linter.all false
set_option maxRecDepth 100000
set_option maxHeartbeats 4000000
/-! A generator def's body, statement by statement. -/
namespace Tf
open PySem PySem.Spec PyProof.Rows L2
open PySem.W.X (SegX)
section
variable {X : Cx} {A : Around} {c : Code} {fs : List Frame} {s : Shared} {Φ : End → Shared → Prop} {K : Flow → Sem PySem.Fin} {J : Value → Sem PySem.Fin} {gd : Bool → Bool} {lv : List Value → List Value} {pins : List (Addr × Obj)} {σ : L2.St} {H : Hp}
theorem xs_stmt {st : Stmt} {t : TS} {R : L2.St → Hp → Prop} (hA : A.over c fs = X.A) (hx : X.xe = fun _ _ => False) (h : PS X st t) (I : Inv X pins σ H s) (q : t { nx := R, rt := fun _ _ => False } σ H)
    (go : ∀ σ' H' s', Inv X pins σ' H' s' → R σ' H' → SegX (model X.prog X.w) A c (K .next) fs s' Φ) : SegX (model X.prog X.w) A c ((exec st X.env).wrap K J gd lv) fs s Φ := by
  refine x_wrap (PySem.wpAt_of_wpAny ?_)
  rw [hA]
  refine wpAny_mono (h.run pins s σ H _ I q) (fun f s' z => ?_) fun _ _ z => by rw [hx] at z; exact z.elim
  cases f with
  | next => obtain ⟨σ', H', I', r⟩ := z; exact go σ' H' s' I' r
  | ret v => obtain ⟨_, _, _, _, _, r⟩ := z; exact r.elim
  | brk => obtain ⟨_, _, _, r⟩ := z; exact r.elim
  | cont => obtain ⟨_, _, _, r⟩ := z; exact r.elim
theorem xs_while {test : Expr} {body orelse : List Stmt} {tt : TT} {R : Bool → Hp → Prop} (hA : A.over (.whileLoop test body orelse X.env) fs = X.A) (hx : X.xe = fun _ _ => False) (h : PT X test tt) (I : Inv X pins σ H s) (q : tt σ H R)
    (go1 : ∀ H' s', Inv X pins σ H' s' → R true H' → SegX (model X.prog X.w) A (.whileLoop test body orelse X.env) ((execs body X.env).wrap (fun f => match f with
            | .next | .cont => .pure (.again (.whileLoop test body orelse X.env))
            | .brk => .pure (.done .next)
            | .ret v => .pure (.done (.ret v))) (fun e => (do noteFrame e X.env; theTreesLotGoes e : Sem Unit).wrap (fun _ => .raise e) .raise id id) id id) fs s' Φ)
    (go0 : ∀ H' s', Inv X pins σ H' s' → R false H' → SegX (model X.prog X.w) A (.whileLoop test body orelse X.env) ((execs orelse X.env).wrap (fun f => .pure (.done f)) (fun e => (do noteFrame e X.env; theTreesLotGoes e : Sem Unit).wrap (fun _ => .raise e) .raise id id) id id) fs s' Φ) :
    SegX (model X.prog X.w) A (.whileLoop test body orelse X.env) ((model X.prog X.w).den (.whileLoop test body orelse X.env)) fs s Φ := by
  refine x_whileLoop ?_
  rw [hA]
  refine wpAny_mono (h.run pins s σ H _ I q) (fun b s' ⟨H', I', r⟩ => ?_) fun _ _ z => by rw [hx] at z; exact z.elim
  cases b with
  | true => rw [if_pos rfl]; exact go1 H' s' I' r
  | false => rw [if_neg Bool.false_ne_true]; exact go0 H' s' I' r
theorem xs_yield {e : Expr} {te : TE} {yp pos : Pos} {Q : VK} (hA : A.over c fs = X.A) (hx : X.xe = fun _ _ => False) (hfs : splitAtGen fs = none) (hgd : gd false = false) (hfg : fs.any Frame.guarded = false) (h : PE X e te) (I : Inv X pins σ H s) (q : te σ H Q)
    (go : ∀ x v H' s', Inv X pins σ H' s' → RelV x v → Q x H' → ∀ l k p, GoesOn (model X.prog X.w) c fs (K .next) k → Φ (.susp v false l k c p fs) s') (hco : X.env.scope.isCoroutine = false) (hi : interactive X.env = false) :
    SegX (model X.prog X.w) A c ((exec (.Expr (.Yield (some e) yp) pos) X.env).wrap K J gd lv) fs s Φ := by
  refine x_yieldS hfs hgd hfg ?_ hco hi
  rw [hA]
  exact wpAny_mono (h.run pins s σ H _ I q) (fun v s' ⟨x, H', I', r, z⟩ => go x v H' s' I' r z) fun _ _ z => by rw [hx] at z; exact z.elim
end
/-- a turn's view -/
abbrev gX (P : Program) (w : World) (K : PySem.W.Frag) (mg : Str → Option Value) (base : Heap) (N : List Str) (env : Env) (A : Around) (outer : List Env) (lo : Addr) (s : Shared) (H : Hp) : Cx := cxS P w K mg base N env A outer (cut lo s) (below lo H)
/-- what a turn of the generator promises -/
abbrev Turn (P : Program) (w : World) (K : PySem.W.Frag) (mg : Str → Option Value) (base : Heap) (k : Nat) (lo : Addr) (own : Nat) (need : Hp → Prop) (item : Nat → Option V) (n i : Nat) (outer : List Env) (H : Hp) (pv : List Addr) (s : Shared) : End → Shared → Prop := fun e s1 =>
  ∃ H1 pv1 gp1, Aft P w outer H H1 pv pv1 s s1 ∧ GpOk own gp1 s1.gens ∧ (match e with
        | .susp v _ l k' c p fs => ∃ x, item i = some x ∧ RelV x v ∧ Ready P w K mg base k lo own need item n (i + 1) (.suspended k' l c p fs false) pv1 gp1 s1.heap
        | .ret r => item i = none ∧ (r = .ok (.ret .none) ∨ r = .ok .next))
section
variable {P : Program} {w : World} {K : PySem.W.Frag} {mg : Str → Option Value} {base : Heap} {k : Nat} {lo : Addr} {own : Nat} {need : Hp → Prop} {item : Nat → Option V} {n i : Nat} {pv : List Addr} {A : Around} {outer : List Env} {s : Shared} {H : Hp} {N ps : List Str} {env : Env}
theorem same_held (h : Heap) : Same H (held lo pv h H) := fun b u e => held_some e
/-- a plain generator (nothing of its own but the frame) at a yield -/
theorem turn_yield {σ1 : L2.St} {H1 : Hp} {s1 : Shared} {v : Value} {g0 : Bool} {l : List Value} {k' : Resume → Sem PySem.Fin} {c : Code} {p : Pos} {fs : List Frame} {x : V} (e0 : Env0 P w K mg base A outer s H) (hfr : ∀ b ∈ frs outer, b < lo) (hsz : lo < s.heap.objs.size) (g : GEnv base N ps env lo)
    (I : Inv (gX P w K mg base N env A outer lo s H) [] σ1 H1 s1) (sm : Same (held lo [lo] s.heap H) H1) (hx : item i = some x) (rx : RelV x v)
    (hR : Ready P w K mg base k lo own need item n (i + 1) (.suspended k' l c p fs false) [lo] [] s1.heap) : Turn P w K mg base k lo own need item n i outer H [lo] s (.susp v g0 l k' c p fs) s1 := by
  have hlo : lo ∈ [lo] := by simp
  refine ⟨unheld lo [lo] s.heap H H1, [lo], [], aft_woken e0 hfr hlo hsz I sm fun b hb => ?_, .nil, x, hx, rx, hR⟩
  have e : b = lo := by simpa using hb
  subst e
  have f := I.free
  have f : H1 env.locals = none := f
  rw [g.at_] at f
  obtain ⟨m, hn, _⟩ := I.loc
  have hn : s1.heap.Ns env.locals m := hn
  rw [g.at_] at hn
  obtain ⟨o, es, ep, ho, hd, _⟩ := hn
  exact ⟨f, .inl hb, o, ho, fun v z => by rw [hd] at z; cases z⟩
/-- .. at its end -/
theorem turn_end {σ1 : L2.St} {H1 : Hp} {s1 : Shared} {r : Result} (e0 : Env0 P w K mg base A outer s H) (hfr : ∀ b ∈ frs outer, b < lo) (hsz : lo < s.heap.objs.size) (hlo : lo ∈ pv)
    (I : Inv (gX P w K mg base N env A outer lo s H) [] σ1 H1 s1) (sm : Same (held lo pv s.heap H) H1) (hx : item i = none) (hr : r = .ok (.ret .none) ∨ r = .ok .next) : Turn P w K mg base k lo own need item n i outer H pv s (.ret r) s1 :=
  ⟨unheld lo pv s.heap H H1, [], [], aft_woken e0 hfr hlo hsz I sm (fun b hb => no_mem hb), .nil, hx, hr⟩
end
end Tf

/-! ## TfBody2 -/
set_option Elab.async false
set_option linter.all false
set_option maxRecDepth 100000
set_option maxHeartbeats 4000000
/-! A generator def's body: tests and loops. -/
namespace Tf
open PySem PySem.Spec PyProof.Rows L2
open PySem.W.X (SegX)
open Sem (wp)

/-! ### the heap never shrinks -/
theorem hupd_size (h : Heap) (a : Addr) (f : Obj → Obj) : (h.update a f).objs.size = h.objs.size := by simp [Heap.update]
theorem runs_hsz {M : Model} {Γ : PySem.Ctx} {p : Pos} {t : Sem PySem.Fin} {fs : List Frame} {s s' : Shared} {e : End} (h : Runs M Γ p t fs s e s') : s.heap.objs.size ≤ s'.heap.objs.size := by
  induction h <;> (try simp only [Shared.setGen, hupd_size, Heap.size_push] at *) <;> omega
theorem wakes_hsz {M : Model} {Γ : PySem.Ctx} {p : Pos} {g : Nat} {r : Resume} {s s' : Shared} {res : GenResult} (h : Wakes M Γ p g r s res s') : s.heap.objs.size ≤ s'.heap.objs.size := by
  unfold Wakes at h
  split at h
  · exact h.elim
  · split at h
    · obtain ⟨e₁, s₁, hr, _, _, rfl⟩ := h
      have z := runs_hsz hr
      exact z
    · rw [h.2]; exact Nat.le_refl _
    · rw [h.2]; exact Nat.le_refl _
  · obtain ⟨e₁, s₁, hr, _, _, rfl⟩ := h
    have z := runs_hsz hr
    exact z
  · rw [h.2]; exact Nat.le_refl _
  · rw [h.2]; exact Nat.le_refl _
theorem wp_hsz {α : Type} (M : Model) (Γ : PySem.Ctx) (n : Nat) (t : Sem α) : ∀ (Q : α → Pos → Shared → Prop) (E : Value → Pos → Shared → Prop) (p : Pos) (s : Shared), n ≤ s.heap.objs.size → wp M Γ t Q E p s →
    wp M Γ t (fun a p' s' => n ≤ s'.heap.objs.size ∧ Q a p' s') (fun e p' s' => n ≤ s'.heap.objs.size ∧ E e p' s') p s := by
  induction t with
  | pure a => intro Q E p s hn h; exact ⟨hn, h⟩
  | raise e => intro Q E p s hn h; exact ⟨hn, h⟩
  | unsupported _ => intro Q E p s _ h; exact h
  | finish _ => intro Q E p s _ h; exact h
  | rule _ k ih => intro Q E p s hn h; exact ih () Q E p s hn h
  | «at» p' k ih => intro Q E p s hn h; exact ih () Q E p' s hn h
  | load a _ k ih => intro Q E p s hn h; obtain ⟨o, ho, h⟩ := h; exact ⟨o, ho, ih o Q E p s hn h⟩
  | update a _ f k ih => intro Q E p s hn h; exact ⟨h.1, ih () Q E p _ (by show n ≤ (s.heap.update a f).objs.size; rw [hupd_size]; exact hn) h.2⟩
  | loadIfAlive a k ih => intro Q E p s hn h; exact ih _ Q E p s hn h
  | point _ k ih => intro Q E p s hn h; exact ih () Q E p s hn h
  | register _ _ => intro Q E p s _ h; exact h
  | alloc o k ih => intro Q E p s hn h; exact ih _ Q E p _ (by show n ≤ (s.heap.push o).objs.size; rw [Heap.size_push]; omega) h
  | fresh k ih => intro Q E p s hn h; exact ih _ Q E p _ hn h
  | ask k ih => intro Q E p s hn h; exact ih _ Q E p s hn h
  | choose src m k ih => intro Q E p s hn h; exact ⟨h.1, ih _ Q E p _ hn h.2⟩
  | os q _ k ih => intro Q E p s hn h; exact ih _ Q E p _ hn h
  | call c hd _ _ k ih => intro Q E p s hn h; obtain ⟨r, s', hr, h⟩ := h; exact ⟨r, s', hr, ih r Q E p s' (Nat.le_trans hn (runs_hsz hr)) h⟩
  | handled own k ih => intro Q E p s hn h; exact ih _ Q E p s hn h
  | genState g k ih => intro Q E p s hn h; obtain ⟨st, hs, h⟩ := h; exact ⟨st, hs, ih _ Q E p s hn h⟩
  | newGen c k ih => intro Q E p s hn h; exact ih _ Q E p _ hn h
  | resume g r _ k ih => intro Q E p s hn h; obtain ⟨res, s', hw, h⟩ := h; exact ⟨res, s', hw, ih res Q E p s' (Nat.le_trans hn (wakes_hsz hw)) h⟩
  | yield _ _ _ _ => intro Q E p s _ h; exact h
  | stack k ih => intro Q E p s hn h; exact ih _ Q E p s hn h
  | fork _ _ => intro Q E p s _ h; exact h
  | thread k ih => intro Q E p s hn h; exact ih _ Q E p s hn h
  | await _ _ _ _ _ => intro Q E p s _ h; exact h
theorem wpAny_hsz {α : Type} {M : Model} {A : Around} {s : Shared} {t : Sem α} {Q : α → Shared → Prop} {E : Value → Shared → Prop} (h : wpAny M A t Q E s) : wpAny M A t (fun a s' => s.heap.objs.size ≤ s'.heap.objs.size ∧ Q a s') E s :=
  wpAny_mono (fun Γ p hΓ => wp_hsz M Γ s.heap.objs.size t _ _ p s (Nat.le_refl _) (h Γ p hΓ) : wpAny M A t (fun a s' => s.heap.objs.size ≤ s'.heap.objs.size ∧ Q a s') (fun e s' => s.heap.objs.size ≤ s'.heap.objs.size ∧ E e s') s)
    (fun _ _ x => x) fun _ _ x => x.2
section
variable {X : Cx} {A : Around} {c : Code} {fs : List Frame} {s : Shared} {Φ : End → Shared → Prop} {K : Flow → Sem PySem.Fin} {J : Value → Sem PySem.Fin} {gd : Bool → Bool} {lv : List Value → List Value} {pins : List (Addr × Obj)} {σ : L2.St} {H : Hp}
theorem xs_if {test : Expr} {body orelse : List Stmt} {pos : Pos} {tt : TT} {R : Bool → Hp → Prop} (hA : A.over c fs = X.A) (hx : X.xe = fun _ _ => False) (h : PT X test tt) (I : Inv X pins σ H s) (q : tt σ H R)
    (go1 : ∀ H' s', Inv X pins σ H' s' → R true H' → SegX (model X.prog X.w) A c ((execs body X.env).wrap K J gd lv) fs s' Φ) (go0 : ∀ H' s', Inv X pins σ H' s' → R false H' → SegX (model X.prog X.w) A c ((execs orelse X.env).wrap K J gd lv) fs s' Φ) :
    SegX (model X.prog X.w) A c ((exec (.If test body orelse pos) X.env).wrap K J gd lv) fs s Φ := by
  rw [exec_If]
  refine x_bind (PySem.wpAt_of_wpAny (wpAny_standAt ?_))
  refine x_bind (PySem.wpAt_of_wpAny ?_)
  rw [hA]
  refine wpAny_mono (h.run pins s σ H _ I q) (fun b s' ⟨H', I', r⟩ => ?_) fun _ _ z => by rw [hx] at z; exact z.elim
  cases b with
  | true => exact go1 H' s' I' r
  | false => exact go0 H' s' I' r
/-- an iterator has come; its objects are new -/
structure PIN (X : Cx) (tg iter : Expr) (wi : TI) : Prop where
  run : ∀ (pins : List (Addr × Obj)) (s : Shared) (σ : L2.St) (H : Hp) (R : It → Hp → Prop), Inv X pins σ H s → wi σ H R →
    wpAny (model X.prog X.w) X.A (eval iter X.env) (fun v s1 => wpAny (model X.prog X.w) X.A (pyIter v) (fun itv s2 => ∃ (it : Addr) (fp : List Addr) (tn : Nat → Heap → Prop) (Jt : It) (H' : Hp), itv = .ref it ∧ Inv X pins σ H' s2 ∧ L2.Turn X.prog X.w X.K tg Jt fp it tn ∧ tn 0 s2.heap ∧ (∀ b ∈ fp, FpOk X pins H' b ∧ s.heap.objs.size ≤ b) ∧ R Jt H') X.xe s1) X.xe s
theorem pin_range1 {tg a : Expr} {ta : TA} {p pos : Pos} (hg : Gl X "range") (hm : X.mg "range" = none) (ha : PA X [a] ta) (hs : starEach [a] X.env = [(false, eval a X.env)] := by rfl) : PIN X tg (.Call (.Name "range" p) [a] [] pos) (iRng1 ta) := by
  refine ⟨fun pins s σ H R I h => ?_⟩
  refine Call_ (ld_blt I hg hm boot_range (PyProof.Rows.callWith_type1 (thn (wpAny_hsz (ha.run pos pins s σ H _ I h)) fun us s1 ⟨hsz, vs, H1, I1, r1, q1⟩ => ?_) hs rfl))
  obtain ⟨j, e, q1, q2, q⟩ := q1
  subst e
  cases r1 with
  | cons r rr =>
    cases rr
    obtain ⟨t, rfl⟩ := r
    refine call_range_1 ?_
    refine wpAny_pyIter_range (IsRange.new ..) (small_one (by omega) (by omega) q1 q2) ?_
    have kp : ∀ (o1 o2 : Obj) b o, s1.heap.get? b = some o → ((s1.heap.push o1).push o2).get? b = some o := fun o1 o2 b o hb => Heap.get?_push_of_some _ (Heap.get?_push_of_some _ hb)
    refine ⟨_, [_], _, _, H1, rfl, I1.kept (kp _ _), turn_range _ 0 (j - 0).toNat, ?_, fun b hb => ?_, by simpa using q⟩
    · have e1 : (0 : Int) + ((0 : Nat) : Int) * 1 = 0 := by simp
      have e2 : (((j - 0).toNat : Nat) : Int) - ((0 : Nat) : Int) = Builtin.Range.rangeSize 0 j 1 := by rw [rangeSize_one]; split <;> omega
      show IsRangeIter _ _ ((0 : Int) + ((0 : Nat) : Int) * 1) ((((j - 0).toNat : Nat) : Int) - ((0 : Nat) : Int)) 1
      rw [e1, e2]
      exact Heap.get?_push_size _ rfl
    · have ge : s1.heap.objs.size ≤ b := by
        have e := List.mem_singleton.mp hb
        rw [e]
        show s1.heap.objs.size ≤ (s1.heap.push _).objs.size
        rw [Heap.size_push]
        exact Nat.le_succ _
      exact ⟨I1.fpOk ge (I1.hok.fresh ge), Nat.le_trans hsz ge⟩
theorem xs_for {tg iter : Expr} {body orelse : List Stmt} {pos : Pos} {wi : TI} {R : It → Hp → Prop} (hA : A.over c fs = X.A) (hx : X.xe = fun _ _ => False) (h : PIN X tg iter wi) (I : Inv X pins σ H s) (q : wi σ H R)
    (go : ∀ it fp tn Jt H' s', Inv X pins σ H' s' → L2.Turn X.prog X.w X.K tg Jt fp it tn → tn 0 s'.heap → (∀ b ∈ fp, FpOk X pins H' b ∧ s.heap.objs.size ≤ b) → R Jt H' → ∀ p, SegX (model X.prog X.w) A (.forLoop tg (.ref it) body orelse X.env) ((model X.prog X.w).den (.forLoop tg (.ref it) body orelse X.env)) (loopFrame X.env c p K J gd lv :: fs) s' Φ)
    (hs : ∀ x, foldedSetIterable iter X.env x = pure x := by intro _; rfl) : SegX (model X.prog X.w) A c ((exec (.For tg iter body orelse pos) X.env).wrap K J gd lv) fs s Φ := by
  have hp : ∀ {E : Value → Shared → Prop} (e : Value) (s' : Shared), X.xe e s' → E e s' := fun e s' z => by rw [hx] at z; exact z.elim
  refine x_for (PySem.wpAt_of_wpAny ?_) hs
  rw [hA]
  refine wpAny_mono (h.run pins s σ H R I q) (fun v s1 h1 => wpAny_mono h1 (fun itv s2 ⟨it, fp, tn, Jt, H', e, I', T, st, f, r⟩ => ?_) hp) hp
  subst e
  exact go it fp tn Jt H' s2 I' T st f r
theorem xs_turn {tg : Expr} {body orelse : List Stmt} {it : Addr} {fp : List Addr} {tn : Nat → Heap → Prop} {Jt : It} {i : Nat} {g : TG} {R : L2.St → Hp → Prop} (hA : A.over (.forLoop tg (.ref it) body orelse X.env) fs = X.A) (hx : X.xe = fun _ _ => False) (hc : X.calm = true) (T : L2.Turn X.prog X.w X.K tg Jt fp it tn)
    (I : Inv X pins σ H s) (hf : ∀ b ∈ fp, FpOk X pins H b) (st : tn i s.heap) (hgo : Jt.go i H) (hg : PG X tg g) (q : ∀ x H', Jt.yld i H x H' → g x σ H' R)
    (go : ∀ σ' H' s' h5, tn (i + 1) h5 → (∀ b ∈ fp, ∃ o, h5.get? b = some o ∧ ∀ v, o.data ≠ .cell v) → Inv X (pins ++ pinsAt fp h5) σ' H' s' → R σ' H' → SegX (model X.prog X.w) A (.forLoop tg (.ref it) body orelse X.env) ((execs body X.env).wrap (fun f => match f with
            | .next | .cont => .pure (.again (.forLoop tg (.ref it) body orelse X.env))
            | .brk => .pure (.done .next)
            | .ret v => .pure (.done (.ret v))) (fun e => (do noteFrame e X.env; theTreesLotGoes e : Sem Unit).wrap (fun _ => .raise e) .raise id id) id id) fs s' Φ) :
    SegX (model X.prog X.w) A (.forLoop tg (.ref it) body orelse X.env) ((model X.prog X.w).den (.forLoop tg (.ref it) body orelse X.env)) fs s Φ := by
  have hp : ∀ {E : Value → Shared → Prop} (e : Value) (s' : Shared), X.xe e s' → E e s' := fun e s' z => by rw [hx] at z; exact z.elim
  refine x_forLoop ?_
  rw [hA]
  refine wpAny_mono (T.item X rfl rfl rfl hc i pins s σ H Nox I hf st hgo) (fun r s1 ⟨u, hr, h1⟩ => ?_) fun _ _ z => z
  subst hr
  refine wpAny_mono h1 (fun _ s2 ⟨x, H2, I2, r2, y2, st2, n2⟩ => ?_) fun _ _ z => z
  have f2 : ∀ b ∈ fp, FpOk X pins H2 b := fun b hb => ⟨n2 b hb, (hf b hb).2⟩
  have I2' := I2.pinned f2 (T.obj _ _ st2)
  exact wpAny_mono (hg.run _ s2 σ H2 x u _ I2' r2 (q x H2 y2)) (fun _ s3 ⟨σ3, H3, I3, r3⟩ => go σ3 H3 s3 _ st2 (T.obj _ _ st2) I3 r3) hp
theorem xs_stop {tg : Expr} {body : List Stmt} {it : Addr} {fp : List Addr} {tn : Nat → Heap → Prop} {Jt : It} {i : Nat} (hA : A.over (.forLoop tg (.ref it) body [] X.env) fs = X.A) (hc : X.calm = true) (T : L2.Turn X.prog X.w X.K tg Jt fp it tn)
    (I : Inv X pins σ H s) (hf : ∀ b ∈ fp, FpOk X pins H b) (st : tn i s.heap) (hst : Jt.stop i H)
    (go : ∀ s', Inv X pins σ H s' → SegX (model X.prog X.w) A (.block [] X.env) (leafOf (.ok .next)) fs s' Φ) :
    SegX (model X.prog X.w) A (.forLoop tg (.ref it) body [] X.env) ((model X.prog X.w).den (.forLoop tg (.ref it) body [] X.env)) fs s Φ := by
  refine x_forLoop ?_
  rw [hA]
  refine wpAny_mono (T.done X rfl rfl rfl hc i pins s σ H Nox I hf st hst) (fun r s1 ⟨hr, I1⟩ => ?_) fun _ _ z => z
  subst hr
  exact x_block0 (go s1 I1)
/-- the iterator's objects after the body of the turn -/
theorem kept_turn {tg : Expr} {it : Addr} {fp : List Addr} {tn : Nat → Heap → Prop} {Jt : It} {i : Nat} {h5 : Heap} (T : L2.Turn X.prog X.w X.K tg Jt fp it tn) (st : tn i h5) (ho : ∀ b ∈ fp, ∃ o, h5.get? b = some o ∧ ∀ v, o.data ≠ .cell v) (I : Inv X (pins ++ pinsAt fp h5) σ H s) : tn i s.heap ∧ ∀ b ∈ fp, H b = none ∧ ∃ o, s.heap.get? b = some o ∧ ∀ v, o.data ≠ .cell v := by
  refine ⟨T.keep _ _ _ st fun b hb o e => (I.pin (b, o) (List.mem_append_right _ (List.mem_append_right _ (mem_pinsAt hb e)))).1, fun b hb => ?_⟩
  obtain ⟨o, e, d⟩ := ho b hb
  have z := I.pin (b, o) (List.mem_append_right _ (List.mem_append_right _ (mem_pinsAt hb e)))
  exact ⟨z.2.1, o, z.1, d⟩
end
end Tf

/-! ## TfText -/
set_option Elab.async false
set_option linter.all false
set_option maxRecDepth 100000
set_option maxHeartbeats 4000000
/-! The text by places. -/
namespace Tf
open PySem PySem.Spec PyProof.Rows L2

def topS (i : Nat) : Stmt := PySem.Challenge.pw_triplefree_k22_whole_shifted_sequences.main.body.getD i (.Pass ⟨0, 0, 0, 0⟩)
abbrev tIsInt := topS 15
abbrev tCheckNum := topS 16
abbrev tDigits := topS 17
abbrev tNumber := topS 18
abbrev tPlain := topS 19
abbrev tPower := topS 20
abbrev tMemAt := topS 21
abbrev tRankOf := topS 22
abbrev tBaseMem := topS 23
abbrev tInBase := topS 24
abbrev tBaseRank := topS 25
abbrev tPair := topS 26
abbrev tBetween := topS 28
abbrev tShape := topS 29
abbrev tSpoil := topS 30
abbrev tTable := topS 31
abbrev tUnserved := topS 32
abbrev tcInit := inClass (topS 33) 2
abbrev tcModulus := inClass (topS 33) 3
abbrev tcMembers := inClass (topS 33) 4
abbrev tcSize := inClass (topS 33) 5
abbrev tcGreatest := inClass (topS 33) 6
abbrev tcCheckRem := inClass (topS 33) 9
abbrev tcHas := inClass (topS 33) 10
abbrev tcServing := inClass (topS 33) 11
abbrev tcCarry := inClass (topS 33) 12
abbrev tcEq := inClass (topS 33) 13
abbrev tAtLeast := topS 35
abbrev trInit := inClass (topS 36) 1
abbrev trCell := inClass (topS 36) 2
abbrev trMember := inClass (topS 36) 3
abbrev trRank := inClass (topS 36) 4
abbrev trContains := inClass (topS 36) 5
abbrev trNext := inClass (topS 36) 6
abbrev trLast := inClass (topS 36) 7
abbrev trSmall := inClass (topS 36) 8
abbrev trRuling := inClass (topS 36) 9
abbrev trCover := inClass (topS 36) 10
abbrev trCheck := inClass (topS 36) 11
abbrev trGap := inClass (topS 36) 12
abbrev trWalk := inClass (topS 36) 13
abbrev trUncov := inClass (topS 36) 14
abbrev trTriCell := inClass (topS 36) 15
abbrev trTripled := inClass (topS 36) 16
abbrev trLen := inClass (topS 36) 17
abbrev trEq := inClass (topS 36) 18
abbrev tsInit := inClass (topS 37) 1
abbrev tsShift := inClass (topS 37) 2
abbrev tsMember := inClass (topS 37) 3
abbrev tsRank := inClass (topS 37) 4
abbrev tsContains := inClass (topS 37) 5
abbrev tsRuling := inClass (topS 37) 6
abbrev tsUncov := inClass (topS 37) 7
abbrev tsTripled := inClass (topS 37) 8
abbrev tStreams := topS 39
abbrev tNext := topS 40
abbrev tJoined := topS 41
abbrev tRandom := topS 42
abbrev tHuge := topS 43
abbrev tAnswer := topS 44
abbrev tMoved := topS 45
abbrev tNumHolds := topS 46
abbrev tNames := topS 47
abbrev tBelow := topS 48
abbrev tLaw := topS 49

/-- built-ins that the text calls: no global hides them -/
structure Blt (mg : Str → Option Value) : Prop where
  isinstance : mg "isinstance" = none
  int : mg "int" = none
  bool : mg "bool" = none
  divmod : mg "divmod" = none
  range : mg "range" = none
  len : mg "len" = none
  max : mg "max" = none
  enumerate : mg "enumerate" = none
  tuple : mg "tuple" = none
  list : mg "list" = none
  all : mg "all" = none
  zip : mg "zip" = none
  sorted : mg "sorted" = none
  repr : mg "repr" = none
  super : mg "super" = none
end Tf

/-! ## TfMath -/
set_option Elab.async false
set_option linter.all false
set_option maxRecDepth 100000
set_option maxHeartbeats 4000000
/-! The plain functions of the program's numbers. -/
namespace Tf

theorem _root_.List.reverseRecOn' {α : Type} {motive : List α → Prop} (l : List α) (nil : motive []) (app : ∀ a d, motive a → motive (a ++ [d])) : motive l := by
  have : ∀ r : List α, motive r.reverse := by
    intro r
    induction r with
    | nil => exact nil
    | cons x r ih => rw [List.reverse_cons]; exact app _ _ ih
  have h := this l.reverse
  rwa [List.reverse_reverse] at h
/-! ### digits -/
/-- the last digit first -/
def rdigs (r n : Nat) : List Nat := if h : r < 2 ∨ n = 0 then [] else n % r :: rdigs r (n / r)
termination_by n
decreasing_by exact Nat.div_lt_self (by omega) (by omega)
def digs (r n : Nat) : List Nat := (rdigs r n).reverse
def numOf (r : Nat) (ds : List Nat) : Nat := ds.foldl (fun f d => f * r + d) 0
theorem rdigs_zero (r : Nat) : rdigs r 0 = [] := by rw [rdigs]; simp
theorem rdigs_pos {r n : Nat} (hr : 2 ≤ r) (hn : 0 < n) : rdigs r n = n % r :: rdigs r (n / r) := by
  rw [rdigs]
  rw [dif_neg (by omega)]
theorem digs_zero (r : Nat) : digs r 0 = [] := by unfold digs; rw [rdigs_zero]; rfl
theorem rdigs_lt {r n : Nat} (hr : 2 ≤ r) : ∀ d ∈ rdigs r n, d < r := by
  induction n using Nat.strongRecOn with
  | _ n ih =>
    by_cases hn : n = 0
    · subst hn; rw [rdigs_zero]; intro d hd; exact absurd hd (by simp)
    · rw [rdigs_pos hr (by omega)]
      intro d hd
      rcases List.mem_cons.mp hd with e | hd
      · rw [e]; exact Nat.mod_lt _ (by omega)
      · exact ih (n / r) (Nat.div_lt_self (by omega) (by omega)) d hd
theorem digs_lt {r n : Nat} (hr : 2 ≤ r) : ∀ d ∈ digs r n, d < r := fun d hd => rdigs_lt hr d (List.mem_reverse.mp hd)
theorem rdigs_len {r n : Nat} (hr : 2 ≤ r) : ∀ b, n < 2 ^ b → (rdigs r n).length ≤ b := by
  induction n using Nat.strongRecOn with
  | _ n ih =>
    intro b hb
    by_cases hn : n = 0
    · subst hn; rw [rdigs_zero]; simp
    · rw [rdigs_pos hr (by omega)]
      cases b with
      | zero => have : n < 1 := hb; omega
      | succ b =>
        have h1 : n / r ≤ n / 2 := Nat.div_le_div_left hr (by omega)
        have h2 : n / 2 < 2 ^ b := by rw [Nat.pow_succ] at hb; omega
        have := ih (n / r) (Nat.div_lt_self (by omega) (by omega)) b (by omega)
        simp only [List.length_cons]
        omega
theorem digs_len {r n b : Nat} (hr : 2 ≤ r) (h : n < 2 ^ b) : (digs r n).length ≤ b := by unfold digs; rw [List.length_reverse]; exact rdigs_len hr b h
theorem numOf_app (r : Nat) (a : List Nat) (d : Nat) : numOf r (a ++ [d]) = numOf r a * r + d := by unfold numOf; rw [List.foldl_append]; rfl
theorem numOf_digs {r n : Nat} (hr : 2 ≤ r) : numOf r (digs r n) = n := by
  induction n using Nat.strongRecOn with
  | _ n ih =>
    by_cases hn : n = 0
    · subst hn; rw [digs_zero]; rfl
    · unfold digs
      rw [rdigs_pos hr (by omega), List.reverse_cons, numOf_app]
      have := ih (n / r) (Nat.div_lt_self (by omega) (by omega))
      unfold digs at this
      rw [this]
      have := Nat.div_add_mod n r
      rw [Nat.mul_comm]
      exact this
theorem numOf2_lt : ∀ (l : List Nat), (∀ d ∈ l, d ≤ 2) → numOf 2 l + 2 ≤ 2 * 2 ^ l.length := by
  intro l
  induction l using List.reverseRecOn' with
  | nil => intro _; simp [numOf]
  | app a d ih =>
    intro h
    rw [numOf_app, List.length_append]
    have h1 := ih fun x hx => h x (by simp [hx])
    have h2 := h d (by simp)
    show numOf 2 a * 2 + d + 2 ≤ 2 * 2 ^ (a.length + 1)
    rw [Nat.pow_succ]
    omega
/-- all digits 0 or 1 -/
def plainN (n : Nat) : Bool := !((digs 3 n).contains 2)
def memAt (n : Nat) : Nat := numOf 3 (digs 2 n)
/-- where the first 2 stands -/
def place2 (ds : List Nat) : Nat := ds.idxOf 2
def rankOf (x : Nat) : Nat := if plainN x then numOf 2 (digs 3 x) else (numOf 2 ((digs 3 x).take (place2 (digs 3 x))) + 1) * 2 ^ ((digs 3 x).length - place2 (digs 3 x))
def lowOf (m : Nat) : Nat := numOf 3 ((digs 3 m).map fun d => if d = 1 then 1 else 0)
def upOf (m : Nat) : Nat := numOf 3 ((digs 3 m).map fun d => if 0 < d then 1 else 0)
theorem rank_zero : rankOf 0 = 0 := by
  unfold rankOf plainN
  rw [digs_zero]
  rfl
theorem plain_zero : plainN 0 = true := by
  unfold plainN
  rw [digs_zero]
  rfl
theorem memAt_zero : memAt 0 = 0 := by unfold memAt; rw [digs_zero]; rfl
theorem pair_of : ∀ (l : List Nat), (∀ d ∈ l, d < 3) → 2 * numOf 3 (l.map fun d => if 0 < d then 1 else 0) = numOf 3 l + numOf 3 (l.map fun d => if d = 1 then 1 else 0) := by
  intro l
  induction l using List.reverseRecOn' with
  | nil => intro _; rfl
  | app a d ih =>
    intro h
    have h1 := ih fun x hx => h x (by simp [hx])
    have h2 := h d (by simp)
    rw [List.map_append, List.map_append]
    show 2 * numOf 3 (_ ++ [_]) = numOf 3 (a ++ [d]) + numOf 3 (_ ++ [_])
    rw [numOf_app, numOf_app, numOf_app]
    have : d = 0 ∨ d = 1 ∨ d = 2 := by omega
    rcases this with e | e | e <;> subst e <;> simp <;> omega
/-- m is what the pair rules -/
theorem pair_law (m : Nat) : 2 * upOf m = m + lowOf m := by
  unfold upOf lowOf
  rw [pair_of (digs 3 m) (digs_lt (by omega)), numOf_digs (by omega)]
theorem low_le (m : Nat) : lowOf m ≤ upOf m := by
  unfold lowOf upOf
  generalize digs 3 m = l
  induction l using List.reverseRecOn' with
  | nil => exact Nat.le_refl _
  | app a d ih =>
    rw [List.map_append, List.map_append]
    show numOf 3 (_ ++ [_]) ≤ numOf 3 (_ ++ [_])
    rw [numOf_app, numOf_app]
    have : (fun d => if d = 1 then 1 else 0) d ≤ (fun d => if 0 < d then 1 else 0) d := by
      show (if d = 1 then 1 else 0) ≤ (if 0 < d then 1 else 0)
      split <;> split <;> omega
    omega
theorem rankOf_lt {x b : Nat} (h : x < 2 ^ b) : rankOf x < 2 * 2 ^ b := by
  have hl := digs_len (r := 3) (by omega) h
  have hd := digs_lt (r := 3) (n := x) (by omega)
  have p1 : (2 : Nat) ^ (digs 3 x).length ≤ 2 ^ b := Nat.pow_le_pow_right (by omega) hl
  unfold rankOf
  split
  · have := numOf2_lt (digs 3 x) fun d hd' => Nat.le_of_lt_succ (hd d hd')
    omega
  · have h1 := numOf2_lt ((digs 3 x).take (place2 (digs 3 x))) fun d hd' => Nat.le_of_lt_succ (hd d (List.mem_of_mem_take hd'))
    have hp : place2 (digs 3 x) ≤ (digs 3 x).length := List.idxOf_le_length
    have h2 : ((digs 3 x).take (place2 (digs 3 x))).length = place2 (digs 3 x) := by rw [List.length_take]; omega
    rw [h2] at h1
    have h3 : (2 : Nat) ^ place2 (digs 3 x) * 2 ^ ((digs 3 x).length - place2 (digs 3 x)) = 2 ^ (digs 3 x).length := by rw [← Nat.pow_add]; congr 1; omega
    have h4 : 0 < (2 : Nat) ^ ((digs 3 x).length - place2 (digs 3 x)) := Nat.pow_pos (by omega)
    have h5 : (numOf 2 ((digs 3 x).take (place2 (digs 3 x))) + 1) * 2 ^ ((digs 3 x).length - place2 (digs 3 x)) < (2 * 2 ^ place2 (digs 3 x)) * 2 ^ ((digs 3 x).length - place2 (digs 3 x)) := Nat.mul_lt_mul_of_pos_right (by omega) h4
    rw [Nat.mul_assoc, h3] at h5
    omega
end Tf

/-! ## TfBase -/
set_option Elab.async false
set_option linter.all false
set_option maxRecDepth 100000
set_option maxHeartbeats 4000000
/-! The module base, def by def. -/
namespace Tf
open PySem PySem.Spec PyProof.Rows L2

/-- naturals as values -/
def nV (l : List Nat) : List V := l.map fun n => V.int (n : Nat)
theorem nV_len (l : List Nat) : (nV l).length = l.length := List.length_map ..
theorem nV_get {l : List Nat} {i : Nat} {x : V} (h : (nV l)[i]? = some x) : ∃ n, l[i]? = some n ∧ x = V.int (n : Nat) := by
  unfold nV at h
  rw [List.getElem?_map] at h
  cases e : l[i]? with
  | none => rw [e] at h; cases h
  | some n => rw [e] at h; exact ⟨n, rfl, (Option.some.inj h).symm⟩
theorem nV_flat (l : List Nat) : (nV l).all flatV = true := by
  rw [List.all_eq_true]
  intro x hx
  obtain ⟨n, _, rfl⟩ := List.mem_map.mp hx
  rfl
theorem nV_in (l : List Nat) (k : Nat) : inV (.int (k : Nat)) (nV l) = l.contains k := by
  unfold inV nV
  rw [List.any_map]
  induction l with
  | nil => rfl
  | cons a l ih =>
    rw [List.any_cons, List.contains_cons, ih]
    congr 1
    show decide ((a : Int) = (k : Int)) = (k == a)
    rw [Bool.eq_iff_iff]
    simp
    omega
/-- call by keywords of a def under a global name -/
def FnN (P : Program) (w : World) (K : PySem.W.Frag) (mg : Str → Option Value) (base : Heap) (x : Str) (k n : Nat) (ks : List Str) (gV : List V → List V → List V) (sp : Sp) : Prop :=
  ∃ (f : Addr) (fd : FuncData) (ps : List Str) (g : List Value → List Value → List Value), mg x = some (.ref f) ∧ PySem.W.keepIn K (.ref f) = true ∧ FnOk P w K mg base CX0 k f fd ps sp ∧ KBn K fd ps n ks g gV
theorem pe_fnN {X : Cx} {x : Str} {k n : Nat} {ks : List Str} {gV : List V → List V → List V} {sp : Sp} {p pos : Pos} {e : Expr} {es : List Expr} {kws : List Keyword} {t tk : TA} (F : FnN X.prog X.w X.K X.mg X.base x k n ks gV sp) (hr : Room k X.A) (hg : Gl X x)
    (ha : PA X (e :: es) t) (hkw : PK X kws tk) (hall : (backToKw pos (keywordEach kws X.env)).all (·.1.isSome) = true := by rfl) (hks : (backToKw pos (keywordEach kws X.env)).filterMap (·.1) = ks := by rfl)
    (hdb : (x == ("__debug__" : Str)) = false := by decide) (he : starEach (e :: es) X.env = (false, eval e X.env) :: starEach es X.env := by rfl)
    (hpl : ((backTo pos (starEach (e :: es) X.env)).any (·.1) || (backToKw pos (keywordEach kws X.env)).any (·.1.isNone)) = false := by rfl) :
    PE X (.Call (.Name x p) (e :: es) kws pos) (tCallN n ks.length sp gV E0 t tk) := by
  obtain ⟨f, fd, ps, g, hm, hk, G, hb⟩ := F
  exact pe_callN G hr hg hm hk hb pass0 ha hkw hall hks hdb he hpl
theorem same_upd {H H1 : Hp} {D : Addr} {u : HO} (sm : Same H H1) (hD : H D = none) : Same H (upd H1 D u) := fun b o e => by rw [upd_ne (ne_of_none e hD)]; exact sm b o e
theorem nV_take {l : List Nat} {i d : Nat} (f : Nat → Nat) (h : l[i]? = some d) : nV ((l.take i).map f) ++ [V.int (f d : Nat)] = nV ((l.take (i + 1)).map f) := by
  rw [List.take_succ, h, Option.toList_some, List.map_append]
  unfold nV
  rw [List.map_append]
  rfl
theorem pow62 {n : Nat} (h : n ≤ 1000000) : -(2 ^ 62 : Int) ≤ (n : Int) ∧ (n : Int) < 2 ^ 62 := by
  have : (2 : Int) ^ 62 = 4611686018427387904 := by decide
  omega

theorem cut_to (l : List Nat) (j : Nat) : cutV (nV l) none (some (j : Int)) = nV (l.take j) := by
  unfold cutV nV
  rw [HT.sIx_nat, HT.sIx_none, List.drop_zero, Nat.sub_zero, List.length_map, List.map_take]
  rw [List.take_eq_take_iff, List.length_map]
  omega
theorem idx_first {l : List Nat} : ∀ {m : Nat}, m < l.idxOf 2 → l[m]? ≠ some 2 := by
  induction l with
  | nil => intro m h; simp at h
  | cons a l ih =>
    intro m h z
    rw [List.idxOf_cons] at h
    by_cases e : a = 2
    · have e' : (a == 2) = true := by simp [e]
      rw [e'] at h
      exact absurd h (Nat.not_lt_zero _)
    · have e' : (a == 2) = false := by simp [e]
      rw [e'] at h
      have h : m < l.idxOf 2 + 1 := h
      cases m with
      | zero => simp at z; exact e z
      | succ m => exact ih (Nat.lt_of_succ_lt_succ h) (by simpa using z)
/-! ### promises -/
def spIsInt : Sp := fun vs H Q _ => ∃ (n l : Int), vs = [.int n, .int l, .non] ∧ Q (.bl (decide (l ≤ n))) H
def spCheckNum : Sp := fun vs H Q _ => ∃ (n : Nat), vs = [.int (n : Nat), .int 0, .non] ∧ Q .non H
def spDigits : Sp := fun vs H Q _ => ∃ (n r : Nat), vs = [.int (n : Nat), .int (r : Nat)] ∧ 2 ≤ r ∧ r ≤ 10 ∧ n < 2 ^ 1000 ∧ ∀ p H', Same H H' → H p = none → H' p = some (.lst (nV (digs r n))) → Q (.ref p) H'
def spNumber (K : PySem.W.Frag) : Sp := fun vs H Q _ => ∃ (a : Addr) (ds : List Nat) (r : Nat), vs = [.ref a, .int (r : Nat)] ∧ SqL K H a (nV ds) ∧ r ≤ 10 ∧ ∀ H', Same H H' → Q (.int (numOf r ds : Nat)) H'
def spPlain (K : PySem.W.Frag) : Sp := fun vs H Q _ => ∃ (a : Addr) (ds : List Nat), vs = [.ref a] ∧ SqL K H a (nV ds) ∧ Q (.bl (!ds.contains 2)) H
def spPower : Sp := fun vs H Q _ => ∃ (r e : Nat), vs = [.int (r : Nat), .int (e : Nat)] ∧ r ≤ 10 ∧ e ≤ 1000000 ∧ ∀ H', Same H H' → Q (.int (r ^ e : Nat)) H'
/-- of one number, a number (or a truth value) -/
def spN (f : Nat → V) : Sp := fun vs H Q _ => ∃ n : Nat, vs = [.int (n : Nat)] ∧ n < 2 ^ 1000 ∧ ∀ H', Same H H' → Q (f n) H'
def spPair : Sp := fun vs H Q _ => ∃ m : Nat, vs = [.int (m : Nat)] ∧ m < 2 ^ 1000 ∧ ∀ p H', Same H H' → H p = none → H' p = some (.tup [.int (lowOf m : Nat), .int (upOf m : Nat)]) → Q (.ref p) H'
section
variable {P : Program} {w : World} {K : PySem.W.Frag} {mg : Str → Option Value} {base : Heap}
theorem scIsInt : FnScope ["value", "low", "high"] ["value", "low", "high"] (defScope tIsInt) := ⟨rfl, rfl, rfl, by decide +kernel, rfl, by decide +kernel, by decide +kernel⟩
theorem ok_isInt {dvs : List V} {kws : List (Str × V)} {f : Addr} {fd : FuncData} (F : FunD K "is_integer" "is_integer" (defArgs tIsInt) (defBody tIsInt) (defScope tIsInt) dvs kws f fd) (B : Blt mg) : FnOk P w K mg base CX0 1 f fd ["value", "low", "high"] spIsInt := by
  refine F.ok scIsInt (fun vs H Q E h => ?_) (fun cdv A outer s H vs Q E hr h => ?_)
  · obtain ⟨n, l, rfl, _⟩ := h; rfl
  · obtain ⟨n, l, rfl, k⟩ := h
    refine ⟨_, pss_cons (ps_if (PW.pt (pw_or (pt_not (pt_val (pe_callB call_isi (by rfl) B.isinstance PyProof.Rows.boot_isinstance (pa_cons (pv 0) (pa_cons (pe_bltn (v := .ty "int") (by rfl) B.int PyProof.Rows.boot_int rfl) pa_nil)))))
        (pw_or1 (pt_val (pe_callB call_isi (by rfl) B.isinstance PyProof.Rows.boot_isinstance (pa_cons (pv 0) (pa_cons (pe_bltn (v := .ty "bool") (by rfl) B.bool PyProof.Rows.boot_bool rfl) pa_nil)))))))
        (pss_one (ps_ret pe_bl)) pss_nil)
      (pss_one (ps_ret (pe_and (pe_or (pe_cmpR op_isN (pv 1) pe_non (nomark _)) (pe_one (pe_cmpR op_le (pv 1) (pv 0) (nomark _)))) (pe_one (pe_or (pe_cmpR op_isN (pv 2) pe_non (nomark _)) (pe_one (pe_cmpR op_le (pv 0) (pv 2) (nomark _)))))))), ?_⟩
    refine ⟨_, rfl, _, _, _, _, true, rfl, .ty _, .base (.int _), kit_ty (by decide +kernel), _, rfl, ?_⟩
    refine iteF ?_
    refine ⟨_, rfl, _, _, _, _, false, rfl, .ty _, .base (.int _), kit_ty (by decide +kernel), _, rfl, ?_⟩
    refine iteF ?_
    refine ⟨_, rfl, rfl, false, rfl, ?_⟩
    refine iteF ?_
    refine ⟨_, rfl, _, rfl, _, _, rfl, rfl, _, rfl, ?_⟩
    by_cases hl : l ≤ n
    · rw [decide_eq_true hl] at k ⊢
      refine iteT ?_
      refine ⟨_, rfl, rfl, true, rfl, ?_⟩
      exact iteT k
    · rw [decide_eq_false hl] at k ⊢
      exact iteF k
theorem scCheckNum : FnScope ["value", "low", "high"] ["value", "low", "high"] (defScope tCheckNum) := ⟨rfl, rfl, rfl, by decide +kernel, rfl, by decide +kernel, by decide +kernel⟩
theorem ok_checkNum {dvs : List V} {kws : List (Str × V)} {f : Addr} {fd : FuncData} (F : FunD K "check_number" "check_number" (defArgs tCheckNum) (defBody tCheckNum) (defScope tCheckNum) dvs kws f fd)
    (G : FnN P w K mg base "is_integer" 1 1 ["low", "high"] (fun vs zs => vs ++ zs) spIsInt) : FnOk P w K mg base CX0 2 f fd ["value", "low", "high"] spCheckNum := by
  refine F.ok scCheckNum (fun vs H Q E h => ?_) (fun cdv A outer s H vs Q E hr h => ?_)
  · obtain ⟨n, rfl, _⟩ := h; rfl
  · obtain ⟨n, rfl, k⟩ := h
    refine ⟨_, pss_one (ps_if (pt_not (pt_val (pe_fnN G hr (by rfl) (pa_cons (pv 0) pa_nil) (pk_cons (pv 1) (pk_cons (pv 2) pk_nil))))) (pss_one ps_never) pss_nil), ?_⟩
    refine ⟨_, rfl, _, rfl, _, rfl, rfl, rfl, _, _, rfl, ?_⟩
    rw [decide_eq_true (by omega)]
    refine ⟨_, rfl, ?_⟩
    exact iteF k
theorem scDigits : FnScope ["number", "radix", "found", "digit"] ["number", "radix"] (defScope tDigits) := ⟨rfl, rfl, rfl, by decide +kernel, rfl, by decide +kernel, by decide +kernel⟩
theorem ok_digits {f : Addr} {fd : FuncData} (F : Fun K "digits_in" "digits_in" tDigits f fd) (B : Blt mg) : FnOk P w K mg base CX0 1 f fd ["number", "radix"] spDigits := by
  refine F.ok scDigits (fun vs H Q E h => ?_) (fun cdv A outer s H vs Q E hr h => ?_)
  · obtain ⟨n, r, rfl, _⟩ := h; rfl
  · obtain ⟨n, r, rfl, hr2, hr10, hn, k⟩ := h
    have nd := scDigits.nd
    refine ⟨_, pss_cons (ps_set (i := 2) nd rfl (.inl rfl) (pe_lst pa_nil))
      (pss_cons (ps_while PassesOwn.never (pt_cmpR op_gt (pv 0) pe_int (nomark _))
        (pss_cons (ps_asg (pe_callB call_divmod (by rfl) B.divmod PyProof.Rows.boot_divmod (pa_cons (pv 0) (pa_cons (pv 1) pa_nil))) (pg_tup (by rfl) (pgs_cons (pg_name (i := 0) nd rfl (.inl rfl)) (pgs_cons (pg_name (i := 3) nd rfl (.inl rfl)) pgs_nil))))
        (pss_one (ps_expr (pe_bm PySem.F.plainAttrs_list PySem.F.slot_list_append PySem.F.type_list_append mt_append (pv 2) (pa_cons (pv 3) pa_nil))))))
      (pss_one (ps_ret (pe_revL (pv 2))))), ?_⟩
    refine ⟨Nat.zero_le _, fun l hl => ?_⟩
    refine ⟨fun m σ H1 => ∃ (acc : List Nat) (v : Option V), σ = [some (.int (m : Nat)), some (.int (r : Nat)), some (.ref l), v] ∧ Same H H1 ∧ H1 l = some (.lst (nV acc)) ∧ acc ++ rdigs r m = rdigs r n, ⟨n, [], none, rfl, fun b o e => by rw [upd_ne (ne_of_none e hl)]; exact e, upd_same, rfl⟩, ?_⟩
    rintro m σ H1 ⟨acc, v, rfl, sm, hL, he⟩
    refine ⟨_, rfl, _, _, rfl, rfl, _, rfl, ?_⟩
    have hlen : acc.length + (rdigs r m).length ≤ 1000 := by
      have := congrArg List.length he
      rw [List.length_append] at this
      have := rdigs_len hr2 1000 hn
      omega
    by_cases h0 : 0 < m
    · rw [decide_eq_true (by omega)]
      refine iteT ?_
      refine ⟨fun σ' H' => ∃ (acc : List Nat) (v : Option V), σ' = [some (.int (m / r : Nat)), some (.int (r : Nat)), some (.ref l), v] ∧ Same H H' ∧ H' l = some (.lst (nV acc)) ∧ acc ++ rdigs r (m / r) = rdigs r n, fun σ' H' h' => ⟨m / r, Nat.div_lt_self h0 hr2, h'⟩, ?_⟩
      refine ⟨_, rfl, _, rfl, _, _, rfl, ⟨by omega, by omega⟩, fun p hp => ?_⟩
      have npl : p ≠ l := (ne_of_none hL hp).symm
      refine ⟨_, _, rfl, SqT.of upd_same, rfl, ?_⟩
      refine ⟨_, _, rfl, _, _, rfl, rfl, ?_⟩
      have hL' : ∀ o, upd H1 p o l = some (.lst (nV acc)) := fun o => by rw [upd_ne npl.symm]; exact hL
      refine ⟨_, rfl, .inl ⟨rfl, _, SqL.of (hL' _)⟩, _, rfl, ?_⟩
      rw [rdigs_pos hr2 h0] at hlen
      rw [List.length_cons] at hlen
      refine ⟨_, _, _, rfl, rfl, hL' _, small1000 (by rw [nV_len]; omega), ?_⟩
      refine ⟨acc ++ [m % r], some (.int (m % r : Nat)), rfl, fun b o e => ?_, ?_, ?_⟩
      · rw [upd_ne (ne_of_none e hl), upd_ne (ne_of_none (sm b o e) hp)]
        exact sm b o e
      · rw [upd_same]
        unfold nV
        rw [List.map_append]
        rfl
      · rw [← he, rdigs_pos hr2 h0, List.append_assoc]
        rfl
    · rw [decide_eq_false (by omega)]
      refine iteF ?_
      have e0 : m = 0 := by omega
      subst e0
      refine ⟨_, rfl, _, _, rfl, .inl (.inl hL), fun p hp => ?_⟩
      refine k p _ (fun b o e => by rw [upd_ne (ne_of_none (sm b o e) hp)]; exact sm b o e) ?_ ?_
      · exact sm.free hp
      · rw [upd_same]
        rw [rdigs_zero, List.append_nil] at he
        unfold digs nV
        rw [he, List.map_reverse]
theorem scNumber : FnScope ["digits", "radix", "found", "digit"] ["digits", "radix"] (defScope tNumber) := ⟨rfl, rfl, rfl, by decide +kernel, rfl, by decide +kernel, by decide +kernel⟩
theorem ok_number {f : Addr} {fd : FuncData} (F : Fun K "number_of" "number_of" tNumber f fd) : FnOk P w K mg base CX0 1 f fd ["digits", "radix"] (spNumber K) := by
  refine F.ok scNumber (fun vs H Q E h => ?_) (fun cdv A outer s H vs Q E hr h => ?_)
  · obtain ⟨a, ds, r, rfl, _⟩ := h; rfl
  · obtain ⟨a, ds, r, rfl, hS, hr10, k⟩ := h
    have nd := scNumber.nd
    refine ⟨_, pss_cons (ps_set (i := 2) nd rfl (.inl rfl) pe_int)
      (pss_cons (ps_for PassesOwn.never rfl (pi_list (pv 0)) (pg_name (i := 3) nd rfl (.inl rfl))
        (pss_one (ps_set (i := 2) nd rfl (.inl rfl) (pe_op op_add (pe_op op_mul (pv 2) (pv 1)) (pv 3)))))
      (pss_one (ps_ret (pv 2)))), ?_⟩
    refine ⟨_, rfl, a, rfl, ⟨_, hS⟩, for_list (K := K) (a := a) (xs := nV ds) (fun i σ H1 => ∃ v, σ = [some (.ref a), some (.int (r : Nat)), some (.int (numOf r (ds.take i) : Nat)), v] ∧ Same H H1) ⟨none, rfl, .refl _⟩ (fun i σ H1 _ ⟨_, _, sm⟩ => sm.seq hS) ?_ ?_⟩
    · rintro i y σ H1 hi ⟨v, rfl, sm⟩
      obtain ⟨d, hd, rfl⟩ := nV_get hi
      refine ⟨_, rfl, _, rfl, _, _, rfl, rfl, .inr ⟨by omega, by omega⟩, _, rfl, _, _, rfl, rfl, ?_⟩
      have hl : i < ds.length := (List.getElem?_eq_some_iff.mp hd).1
      have e1 : (numOf r (ds.take i) : Int) * (r : Int) + (d : Int) = ((numOf r (ds.take (i + 1)) : Nat) : Int) := by
        rw [List.take_succ, hd, Option.toList_some, numOf_app]
        push_cast
        rfl
      exact ⟨some (.int (d : Nat)), by rw [← e1]; rfl, sm⟩
    · rintro σ H1 ⟨v, rfl, sm⟩
      rw [nV_len, List.take_length]
      exact ⟨_, rfl, k H1 sm⟩
theorem scPlain : FnScope ["digits"] ["digits"] (defScope tPlain) := ⟨rfl, rfl, rfl, by decide +kernel, rfl, by decide +kernel, by decide +kernel⟩
theorem ok_plain {f : Addr} {fd : FuncData} (F : Fun K "are_plain" "are_plain" tPlain f fd) : FnOk P w K mg base CX0 1 f fd ["digits"] (spPlain K) := by
  refine F.ok scPlain (fun vs H Q E h => ?_) (fun cdv A outer s H vs Q E hr h => ?_)
  · obtain ⟨a, ds, rfl, _⟩ := h; rfl
  · obtain ⟨a, ds, rfl, hS, k⟩ := h
    refine ⟨_, pss_one (ps_ret (pe_cmpR op_notIn_seq pe_int (pv 0) (by rfl))), ?_⟩
    refine ⟨_, rfl, a, _, rfl, .inl hS, rfl, nV_flat _, ?_⟩
    have e := nV_in ds 2
    show Q (.bl (!inV (.int 2) (nV ds))) H
    rw [show inV (.int 2) (nV ds) = ds.contains 2 from e]
    exact k
theorem scPower : FnScope ["radix", "exponent", "found", "turn"] ["radix", "exponent"] (defScope tPower) := ⟨rfl, rfl, rfl, by decide +kernel, rfl, by decide +kernel, by decide +kernel⟩
theorem ok_power {f : Addr} {fd : FuncData} (F : Fun K "power_of" "power_of" tPower f fd) (B : Blt mg) : FnOk P w K mg base CX0 1 f fd ["radix", "exponent"] spPower := by
  refine F.ok scPower (fun vs H Q E h => ?_) (fun cdv A outer s H vs Q E hr h => ?_)
  · obtain ⟨r, e, rfl, _⟩ := h; rfl
  · obtain ⟨r, e, rfl, hr10, he, k⟩ := h
    have nd := scPower.nd
    have b := pow62 he
    refine ⟨_, pss_cons (ps_set (i := 2) nd rfl (.inl rfl) pe_int)
      (pss_cons (ps_for PassesOwn.never rfl (pi_range1 (by rfl) B.range (pa_cons (pv 1) pa_nil)) (pg_name (i := 3) nd rfl (.inl rfl))
        (pss_one (ps_set (i := 2) nd rfl (.inl rfl) (pe_op op_mul (pv 2) (pv 0)))))
      (pss_one (ps_ret (pv 2)))), ?_⟩
    refine ⟨_, rfl, _, rfl, b.1, b.2, for_range (fun i σ H1 => ∃ v, σ = [some (.int (r : Nat)), some (.int (e : Nat)), some (.int (r ^ i : Nat)), v] ∧ Same H H1) ⟨none, rfl, .refl _⟩ ?_ ?_⟩
    · rintro i σ H1 hi ⟨v, rfl, sm⟩
      refine ⟨_, rfl, _, rfl, _, _, rfl, rfl, .inr ⟨by omega, by omega⟩, ?_⟩
      have e1 : ((r ^ i : Nat) : Int) * (r : Int) = ((r ^ (i + 1) : Nat) : Int) := by rw [Nat.pow_succ]; push_cast; rfl
      exact ⟨_, by rw [← e1]; rfl, sm⟩
    · rintro σ H1 ⟨v, rfl, sm⟩
      exact ⟨_, rfl, k H1 sm⟩
theorem scMemAt : FnScope ["number"] ["number"] (defScope tMemAt) := ⟨rfl, rfl, rfl, by decide +kernel, rfl, by decide +kernel, by decide +kernel⟩
theorem ok_memAt {f : Addr} {fd : FuncData} (F : Fun K "member_at" "member_at" tMemAt f fd) (GD : Fn P w K mg base "digits_in" 1 ["number", "radix"] [] spDigits) (GN : Fn P w K mg base "number_of" 1 ["digits", "radix"] [] (spNumber K)) : FnOk P w K mg base CX0 2 f fd ["number"] (spN fun n => .int (memAt n : Nat)) := by
  refine F.ok scMemAt (fun vs H Q E h => ?_) (fun cdv A outer s H vs Q E hr h => ?_)
  · obtain ⟨n, rfl, _⟩ := h; rfl
  · obtain ⟨n, rfl, hn, k⟩ := h
    refine ⟨_, pss_one (ps_ret (pe_fn GN hr (by rfl) (pa_cons (pe_fn GD hr (by rfl) (pa_cons (pv 0) (pa_cons pe_int pa_nil))) (pa_cons pe_int pa_nil)))), ?_⟩
    refine ⟨_, rfl, n, 2, rfl, by omega, by omega, hn, fun p H1 sm np e => ?_⟩
    exact ⟨p, digs 2 n, 3, rfl, SqL.of e, by omega, fun H2 sm2 => k H2 (sm.trans sm2)⟩
theorem scRankOf : FnScope ["x", "digits", "place"] ["x"] (defScope tRankOf) := ⟨rfl, rfl, rfl, by decide +kernel, rfl, by decide +kernel, by decide +kernel⟩
theorem ok_rankOf {f : Addr} {fd : FuncData} (F : Fun K "rank_of" "rank_of" tRankOf f fd) (B : Blt mg) (GD : Fn P w K mg base "digits_in" 1 ["number", "radix"] [] spDigits) (GN : Fn P w K mg base "number_of" 1 ["digits", "radix"] [] (spNumber K))
    (GL : Fn P w K mg base "are_plain" 1 ["digits"] [] (spPlain K)) (GW : Fn P w K mg base "power_of" 1 ["radix", "exponent"] [] spPower) : FnOk P w K mg base CX0 2 f fd ["x"] (spN fun n => .int (rankOf n : Nat)) := by
  refine F.ok scRankOf (fun vs H Q E h => ?_) (fun cdv A outer s H vs Q E hr h => ?_)
  · obtain ⟨n, rfl, _⟩ := h; rfl
  · obtain ⟨n, rfl, hn, k⟩ := h
    have nd := scRankOf.nd
    refine ⟨_, pss_cons (ps_set (i := 1) nd rfl (.inl rfl) (pe_fn GD hr (by rfl) (pa_cons (pv 0) (pa_cons pe_int pa_nil))))
      (pss_cons (ps_if (pt_val (pe_fn GL hr (by rfl) (pa_cons (pv 1) pa_nil))) (pss_one (ps_ret (pe_fn GN hr (by rfl) (pa_cons (pv 1) (pa_cons pe_int pa_nil))))) pss_nil)
      (pss_cons (ps_set (i := 2) nd rfl (.inl rfl) (pe_bm PySem.F.plainAttrs_list PySem.F.slot_list_index PySem.F.type_list_index mt_index (pv 1) (pa_cons pe_int pa_nil)))
      (pss_one (ps_ret (pe_op op_mulW (pe_op op_add (pe_fn GN hr (by rfl) (pa_cons (pe_slice sl_list (pv 1) po_none (po_some (pv 2))) (pa_cons pe_int pa_nil))) pe_int)
        (pe_fn GW hr (by rfl) (pa_cons pe_int (pa_cons (pe_op op_sub (pe_callB call_len_seq (by rfl) B.len PySem.boot_len (pa_cons (pv 1) pa_nil)) (pv 2)) pa_nil)))))))), ?_⟩
    refine ⟨_, rfl, n, 3, rfl, by omega, by omega, hn, fun p H1 sm np e => ?_⟩
    refine ⟨_, rfl, p, digs 3 n, rfl, SqL.of e, _, rfl, ?_⟩
    have hlen := digs_len (r := 3) (by omega) hn
    cases hp : (!(digs 3 n).contains 2) with
    | true =>
      refine iteT ?_
      refine ⟨_, rfl, p, digs 3 n, 2, rfl, SqL.of e, by omega, fun H2 sm2 => ?_⟩
      have e2 : rankOf n = numOf 2 (digs 3 n) := by unfold rankOf plainN; rw [hp, if_pos rfl]
      show Q (.int (numOf 2 (digs 3 n) : Nat)) H2
      rw [← e2]
      exact k H2 (sm.trans sm2)
    | false =>
      refine iteF ?_
      have h2 : 2 ∈ digs 3 n := by
        rw [Bool.not_eq_false'] at hp
        exact List.contains_iff_mem.mp hp
      have hi : (digs 3 n).idxOf 2 < (digs 3 n).length := List.idxOf_lt_length_iff.mpr h2
      refine ⟨_, rfl, .inl ⟨rfl, _, SqL.of e⟩, p, nV (digs 3 n), .int 2, (digs 3 n).idxOf 2, .int 2, rfl, rfl, SqL.of e, rfl, nV_flat _, ?_, by decide, ?_, ?_⟩
      · unfold nV
        rw [List.getElem?_map, List.getElem?_eq_getElem hi, List.getElem_idxOf]
        rfl
      · intro m z' hm hz
        obtain ⟨d, hd, rfl⟩ := nV_get hz
        have : d ≠ 2 := fun e' => idx_first hm (by rw [hd, e'])
        show decide ((d : Int) = 2) = false
        exact decide_eq_false (by omega)
      · refine ⟨_, rfl, _, rfl, _, rfl, p, _, rfl, SqL.of e, fun q hq => ?_⟩
        rw [cut_to]
        refine ⟨q, _, 2, rfl, SqL.of upd_same, by omega, fun H2 sm2 => ⟨_, _, rfl, rfl, ?_⟩⟩
        have npq : p ≠ q := ne_of_none e hq
        have sm1 : Same H1 (upd H1 q (.lst (nV ((digs 3 n).take ((digs 3 n).idxOf 2))))) := fun b o z => by rw [upd_ne (ne_of_none z hq)]; exact z
        refine ⟨_, rfl, p, _, rfl, .inl (SqL.of ((sm1.trans sm2) _ _ e)), ?_⟩
        refine ⟨_, rfl, _, _, rfl, rfl, 2, (digs 3 n).length - (digs 3 n).idxOf 2, ?_, by omega, by omega, fun H3 sm3 => ?_⟩
        · rw [nV_len]
          have e1 : ((digs 3 n).length : Int) - (((digs 3 n).idxOf 2 : Nat) : Int) = (((digs 3 n).length - (digs 3 n).idxOf 2 : Nat) : Int) := by omega
          rw [← e1]
          rfl
        · have hd : ∀ d ∈ (digs 3 n).take ((digs 3 n).idxOf 2), d ≤ 2 := fun d hd => Nat.le_of_lt_succ (digs_lt (by omega) d (List.mem_of_mem_take hd))
          have h1 := numOf2_lt _ hd
          have h2 : (2 : Nat) ^ ((digs 3 n).take ((digs 3 n).idxOf 2)).length ≤ 2 ^ 1000 := Nat.pow_le_pow_right (by omega) (by rw [List.length_take]; omega)
          have h3 : (2 : Nat) ^ ((digs 3 n).length - (digs 3 n).idxOf 2) ≤ 2 ^ 1000 := Nat.pow_le_pow_right (by omega) (by omega)
          have e3 : rankOf n = (numOf 2 ((digs 3 n).take ((digs 3 n).idxOf 2)) + 1) * 2 ^ ((digs 3 n).length - (digs 3 n).idxOf 2) := by
            unfold rankOf plainN place2
            rw [hp]
            rfl
          have p1 : (2 : Nat) ^ 1002 = 4 * 2 ^ 1000 := by rw [show (1002 : Nat) = 1000 + 2 from rfl, Nat.pow_add]; omega
          have p2 : (2 : Nat) ^ 1001 = 2 * 2 ^ 1000 := by rw [show (1001 : Nat) = 1000 + 1 from rfl, Nat.pow_add]; omega
          have p0 : 0 < (2 : Nat) ^ 1000 := Nat.pow_pos (by omega)
          refine ⟨_, _, rfl, rfl, wide_mul (a := 1002) (b := 1001) ?_ ?_ (by omega) (by omega) (by omega), ?_⟩
          · show ((numOf 2 ((digs 3 n).take ((digs 3 n).idxOf 2)) : Int) + 1).natAbs < _
            rw [p1]
            omega
          · show (((2 ^ ((digs 3 n).length - (digs 3 n).idxOf 2) : Nat) : Int)).natAbs < _
            rw [p2, Int.natAbs_natCast]
            omega
          · have k3 := k H3 (((sm.trans sm1).trans sm2).trans sm3)
            have k3 : Q (.int (rankOf n : Nat)) H3 := k3
            rw [e3] at k3
            push_cast at k3 ⊢
            exact k3
theorem scBaseMem : FnScope ["number"] ["number"] (defScope tBaseMem) := ⟨rfl, rfl, rfl, by decide +kernel, rfl, by decide +kernel, by decide +kernel⟩
theorem ok_baseMem {f : Addr} {fd : FuncData} (F : Fun K "base_member" "base_member" tBaseMem f fd) (GC : Fn P w K mg base "check_number" 2 ["value", "low", "high"] [.int 0, .non] spCheckNum) (GM : Fn P w K mg base "member_at" 2 ["number"] [] (spN fun n => .int (memAt n : Nat))) :
    FnOk P w K mg base CX0 3 f fd ["number"] (spN fun n => .int (memAt n : Nat)) := by
  refine F.ok scBaseMem (fun vs H Q E h => ?_) (fun cdv A outer s H vs Q E hr h => ?_)
  · obtain ⟨n, rfl, _⟩ := h; rfl
  · obtain ⟨n, rfl, hn, k⟩ := h
    refine ⟨_, pss_cons (ps_expr (pe_fn GC hr (by rfl) (pa_cons (pv 0) pa_nil))) (pss_one (ps_ret (pe_fn GM hr (by rfl) (pa_cons (pv 0) pa_nil)))), ?_⟩
    exact ⟨_, rfl, n, rfl, _, rfl, n, rfl, hn, k⟩
theorem scInBase : FnScope ["x"] ["x"] (defScope tInBase) := ⟨rfl, rfl, rfl, by decide +kernel, rfl, by decide +kernel, by decide +kernel⟩
theorem ok_inBase {f : Addr} {fd : FuncData} (F : Fun K "in_base" "in_base" tInBase f fd) (GC : Fn P w K mg base "check_number" 2 ["value", "low", "high"] [.int 0, .non] spCheckNum) (GD : Fn P w K mg base "digits_in" 1 ["number", "radix"] [] spDigits)
    (GL : Fn P w K mg base "are_plain" 1 ["digits"] [] (spPlain K)) : FnOk P w K mg base CX0 3 f fd ["x"] (spN fun n => .bl (plainN n)) := by
  refine F.ok scInBase (fun vs H Q E h => ?_) (fun cdv A outer s H vs Q E hr h => ?_)
  · obtain ⟨n, rfl, _⟩ := h; rfl
  · obtain ⟨n, rfl, hn, k⟩ := h
    have hr1 := hr.mono (by decide : 1 ≤ 2)
    refine ⟨_, pss_cons (ps_expr (pe_fn GC hr (by rfl) (pa_cons (pv 0) pa_nil))) (pss_one (ps_ret (pe_fn GL hr1 (by rfl) (pa_cons (pe_fn GD hr1 (by rfl) (pa_cons (pv 0) (pa_cons pe_int pa_nil))) pa_nil)))), ?_⟩
    refine ⟨_, rfl, n, rfl, _, rfl, n, 3, rfl, by omega, by omega, hn, fun p H1 sm np e => ?_⟩
    exact ⟨p, digs 3 n, rfl, SqL.of e, k H1 sm⟩
theorem scBaseRank : FnScope ["x"] ["x"] (defScope tBaseRank) := ⟨rfl, rfl, rfl, by decide +kernel, rfl, by decide +kernel, by decide +kernel⟩
theorem ok_baseRank {f : Addr} {fd : FuncData} (F : Fun K "base_rank" "base_rank" tBaseRank f fd) (GC : Fn P w K mg base "check_number" 2 ["value", "low", "high"] [.int 0, .non] spCheckNum) (GM : Fn P w K mg base "rank_of" 2 ["x"] [] (spN fun n => .int (rankOf n : Nat))) :
    FnOk P w K mg base CX0 3 f fd ["x"] (spN fun n => .int (rankOf n : Nat)) := by
  refine F.ok scBaseRank (fun vs H Q E h => ?_) (fun cdv A outer s H vs Q E hr h => ?_)
  · obtain ⟨n, rfl, _⟩ := h; rfl
  · obtain ⟨n, rfl, hn, k⟩ := h
    refine ⟨_, pss_cons (ps_expr (pe_fn GC hr (by rfl) (pa_cons (pv 0) pa_nil))) (pss_one (ps_ret (pe_fn GM hr (by rfl) (pa_cons (pv 0) pa_nil)))), ?_⟩
    exact ⟨_, rfl, n, rfl, _, rfl, n, rfl, hn, k⟩
theorem scPair : FnScope ["m", "digits", "lower", "upper", "digit"] ["m"] (defScope tPair) := ⟨rfl, rfl, rfl, by decide +kernel, rfl, by decide +kernel, by decide +kernel⟩
theorem ok_pair {f : Addr} {fd : FuncData} (F : Fun K "plain_pair" "plain_pair" tPair f fd) (B : Blt mg) (GC : Fn P w K mg base "check_number" 2 ["value", "low", "high"] [.int 0, .non] spCheckNum) (GD : Fn P w K mg base "digits_in" 1 ["number", "radix"] [] spDigits)
    (GN : Fn P w K mg base "number_of" 1 ["digits", "radix"] [] (spNumber K)) : FnOk P w K mg base CX0 3 f fd ["m"] spPair := by
  refine F.ok scPair (fun vs H Q E h => ?_) (fun cdv A outer s H vs Q E hr h => ?_)
  · obtain ⟨n, rfl, _⟩ := h; rfl
  · obtain ⟨n, rfl, hn, k⟩ := h
    have nd := scPair.nd
    have hr1 := hr.mono (by decide : 1 ≤ 2)
    refine ⟨_, pss_cons (ps_expr (pe_fn GC hr (by rfl) (pa_cons (pv 0) pa_nil)))
      (pss_cons (ps_set (i := 1) nd rfl (.inl rfl) (pe_fn GD hr1 (by rfl) (pa_cons (pv 0) (pa_cons pe_int pa_nil))))
      (pss_cons (ps_par (i := 2) (j := 3) (by rfl) nd rfl rfl (by decide) rfl rfl (pa_cons
          (pe_lc (own := [("digit", 4)]) (g := gName 4) (tt := tYes) (by rfl) nd (pi_list (pv 1)) (blkOk_by (own := [("digit", 4)]) (N := ["m", "digits", "lower", "upper", "digit"]) (sc := defScope tPair) (by decide +kernel)) (fun _ _ _ _ _ => pg_name (i := 4) nd rfl (Or.inl rfl)) (fun _ _ _ _ _ => pts_nil)
            (fun _ _ _ _ _ => pe_callTy call_int1 (by rfl) B.int PyProof.Rows.boot_int (pa_cons (pe_cmpR op_eq (pv 4) pe_int (nomark _)) pa_nil))) (pa_cons
          (pe_lc (own := [("digit", 4)]) (g := gName 4) (tt := tYes) (by rfl) nd (pi_list (pv 1)) (blkOk_by (own := [("digit", 4)]) (N := ["m", "digits", "lower", "upper", "digit"]) (sc := defScope tPair) (by decide +kernel)) (fun _ _ _ _ _ => pg_name (i := 4) nd rfl (Or.inl rfl)) (fun _ _ _ _ _ => pts_nil)
            (fun _ _ _ _ _ => pe_callTy call_int1 (by rfl) B.int PyProof.Rows.boot_int (pa_cons (pe_cmpR op_gt (pv 4) pe_int (nomark _)) pa_nil))) pa_nil)) (by rfl))
      (pss_one (ps_ret (pe_tup (pa_cons (pe_fn GN hr1 (by rfl) (pa_cons (pv 2) (pa_cons pe_int pa_nil))) (pa_cons (pe_fn GN hr1 (by rfl) (pa_cons (pv 3) (pa_cons pe_int pa_nil))) pa_nil))))))), ?_⟩
    refine ⟨_, rfl, n, rfl, _, rfl, n, 3, rfl, by omega, by omega, hn, fun p H1 sm np e => ?_⟩
    have hlen := digs_len (r := 3) (by omega) hn
    refine ⟨_, rfl, p, rfl, ⟨_, SqL.of e⟩, fun D hD => ?_⟩
    refine lc_list (K := K) (a := p) (xs := nV (digs 3 n)) (fun i H2 => Same H1 H2 ∧ H2 D = some (.lst (nV (((digs 3 n).take i).map fun d => if d = 1 then 1 else 0)))) ⟨same_upd (.refl _) hD, upd_same⟩ (fun i H2 _ h => h.1.seq (SqL.of e)) ?_ ?_
    · rintro i x H2 hi ⟨sm2, hD2⟩
      obtain ⟨d, hd, rfl⟩ := nV_get hi
      refine ⟨rfl, ?_⟩
      refine ⟨_, rfl, rfl, .inr ⟨_, rfl, _, hD2, small1000 (by rw [nV_len, List.length_map, List.length_take]; omega), same_upd sm2 hD, ?_⟩⟩
      rw [upd_same, ← nV_take (fun d => if d = 1 then 1 else 0) hd]
      refine congrArg (fun z => some (HO.lst (nV _ ++ [V.int z]))) ?_
      by_cases h1 : d = 1
      · subst h1; rfl
      · rw [if_neg h1]
        exact if_neg (fun z => h1 (by have z' : V.int (d : Int) = V.int 1 := of_decide_eq_true z; injection z' with z'; omega))
    · rintro H2 ⟨sm2, hD2⟩
      rw [nV_len, List.take_length] at hD2
      have e2 := sm2 _ _ e
      refine ⟨_, rfl, p, rfl, ⟨_, SqL.of e2⟩, fun D' hD' => ?_⟩
      refine lc_list (K := K) (a := p) (xs := nV (digs 3 n)) (fun i H3 => Same H2 H3 ∧ H3 D' = some (.lst (nV (((digs 3 n).take i).map fun d => if 0 < d then 1 else 0)))) ⟨same_upd (.refl _) hD', upd_same⟩ (fun i H3 _ h => h.1.seq (SqL.of e2)) ?_ ?_
      · rintro i x H3 hi ⟨sm3, hD3⟩
        obtain ⟨d, hd, rfl⟩ := nV_get hi
        refine ⟨rfl, ?_⟩
        refine ⟨_, rfl, _, _, rfl, rfl, .inr ⟨_, rfl, _, hD3, small1000 (by rw [nV_len, List.length_map, List.length_take]; omega), same_upd sm3 hD', ?_⟩⟩
        rw [upd_same, ← nV_take (fun d => if 0 < d then 1 else 0) hd]
        refine congrArg (fun z => some (HO.lst (nV _ ++ [V.int z]))) ?_
        by_cases h1 : 0 < d
        · rw [if_pos h1]
          exact if_pos (decide_eq_true (by omega))
        · rw [if_neg h1]
          exact if_neg (fun z => h1 (by have z' : decide ((0 : Int) < (d : Int)) = true := z; have := of_decide_eq_true z'; omega))
      · rintro H3 ⟨sm3, hD3⟩
        rw [nV_len, List.take_length] at hD3
        refine ⟨_, _, rfl, ?_⟩
        refine ⟨_, rfl, D, _, 3, rfl, SqL.of (sm3 _ _ hD2), by omega, fun H4 sm4 => ?_⟩
        refine ⟨_, rfl, D', _, 3, rfl, SqL.of (sm4 _ _ hD3), by omega, fun H5 sm5 => ?_⟩
        refine ⟨by show 2 ≤ sizeLine; decide, fun q hq => ?_⟩
        have s5 : Same H H5 := ((((sm.trans sm2).trans sm3).trans sm4).trans sm5)
        exact k q _ (same_upd s5 (s5.free hq)) (s5.free hq) upd_same
end
end Tf

/-! ## TfRules -/
set_option Elab.async false
set_option linter.all false
set_option maxRecDepth 100000
set_option maxHeartbeats 4000000
/-! Rules that the layer lacks: enumerate and max of a tuple. -/
namespace Tf
open PySem PySem.Spec PyProof.Rows L2

theorem meets_enum_tup (l : Addr) (items : Array Value) :
    Meets (Builtin.«enumerate.__new__» ⟨[.type "enumerate", .ref l], []⟩) (fun _ R s => s.heap.IsTuple l items ∧
      R (.ok (.ret (.ref (s.heap.push { cls := .type "tuple_iterator", data := .fields #[.ref l, .int 0 0] }).objs.size)))
        { s with heap := (s.heap.push { cls := .type "tuple_iterator", data := .fields #[.ref l, .int 0 0] }).push { cls := .type "enumerate", data := .fields #[.none, .bool false, .ref s.heap.objs.size, rawInt 0, .none, .none] } }) :=
  .of_wp fun prog w A R s h => by
    obtain ⟨hp, g, d, tk, os⟩ := s; obtain ⟨hl, h⟩ := h
    have hsub := sub_enumerate
    have hL : Heap.IsTuple (Shared.heap ⟨hp, g, d, tk, os⟩) l items := hl
    wp_walk using wpAny_pyIter_tuple hL
    refine wpAny_stack_any fun st => wpAny_pure ?_
    split
    · rename_i c _ _ _ _ _
      cases (c == Value.type "enumerate")
      · wp_walk using wpAny_pyIter_tuple hL
        exact ⟨_, rfl, h⟩
      · wp_walk using wpAny_pyIter_tuple hL
        exact ⟨_, rfl, h⟩
    · wp_walk using wpAny_pyIter_tuple hL
      exact ⟨_, rfl, h⟩
section
variable {prog : Program} {w : World} {A : Around} {E : Value → Shared → Prop} {s : Shared}
theorem call_enum_tup {l : Addr} {items : Array Value} {Q : Value → Shared → Prop} (hL : s.heap.IsTuple l items)
    (h : ∀ h', IsEnum h' (s.heap.objs.size + 1) s.heap.objs.size 0 .none → h'.IsTupleIter s.heap.objs.size l 0 → h'.objs.size = s.heap.objs.size + 2 →
      (∀ b o, s.heap.get? b = some o → h'.get? b = some o) → Q (.ref (s.heap.objs.size + 1)) { s with heap := h' }) :
    wpAny (model prog w) A (call (.type "enumerate") [.ref l]) Q E s := by
  refine callType_new F.called_enumerate (by decide) (F.typeCall_enumerate_1 _) (F.newCall_enumerate_1 _) (fun obj => F.args_object_init_2 obj _) F.entry_enumerate_new
    (meets_enum_tup l items) ⟨hL, ?_⟩
  have hz : (s.heap.push { cls := .type "tuple_iterator", data := .fields #[.ref l, .int 0 0] }).objs.size = s.heap.objs.size + 1 := Heap.size_push ..
  show _ ∧ _
  rw [hz]
  have he : IsEnum ((s.heap.push { cls := .type "tuple_iterator", data := .fields #[.ref l, .int 0 0] }).push
      { cls := .type "enumerate", data := .fields #[.none, .bool false, .ref s.heap.objs.size, rawInt 0, .none, .none] }) (s.heap.objs.size + 1) s.heap.objs.size 0 .none := by
    have := Heap.get?_push_size (s.heap.push { cls := .type "tuple_iterator", data := .fields #[.ref l, .int 0 0] })
      (o := { cls := .type "enumerate", data := .fields #[.none, .bool false, .ref s.heap.objs.size, rawInt 0, .none, .none] }) rfl
    rw [hz] at this; exact this
  refine ⟨⟨_, he, rfl⟩, h _ he ⟨_, Heap.get?_push_of_some _ (Heap.get?_push_size _ rfl), rfl, rfl⟩ (by rw [Heap.size_push, hz]) fun b o x => Heap.get?_push_of_some _ (Heap.get?_push_of_some _ x)⟩
end
/-- the tuple at a as it stands at each turn, each item in a new pair -/
def Iet (K : PySem.W.Frag) (a : Addr) : It :=
  ⟨fun i H => ∃ (xs : List V) (x : V), SqT K H a xs ∧ xs[i]? = some x, fun i H v H' => ∃ T x, v = .ref T ∧ H T = none ∧ H' = upd H T (.tup [.int (i : Nat), x]) ∧ ∀ xs, SqT K H a xs → xs[i]? = some x, fun i H => ∃ xs : List V, SqT K H a xs ∧ xs.length = i⟩
theorem turn_enumT {P : Program} {w : World} {K : PySem.W.Frag} {elts : List Expr} {kk : Nat} {tpos : Pos} (a e it : Addr) (hae : a ≠ e) (hai : a ≠ it) :
    L2.Turn P w K (.Tuple elts kk tpos) (Iet K a) [e, it] e (fun i h => (∃ old, IsEnum h e it ((i : Nat) : Int) old) ∧ h.IsTupleIter it a i ∧ e ≠ it) where
  mem := by simp
  obj := fun i h st b hb => by
    obtain ⟨⟨old, he⟩, ⟨o, ho, hc, hd⟩, _⟩ := st
    have e' : b = e ∨ b = it := by simpa using hb
    rcases e' with z | z
    · rw [z]; exact ⟨_, he, fun v q => nomatch q⟩
    · rw [z]; exact ⟨o, ho, fun v q => by rw [hd] at q; cases q⟩
  keep := fun i h h' st k => let ⟨⟨old, he⟩, hi, hne⟩ := st; ⟨⟨old, k e (by simp) _ he⟩, hi.at fun o q => k it (by simp) o q, hne⟩
  item := by
    intro X hP hw hK hc i pins s σ H E I hf st hg
    subst hP hw hK
    obtain ⟨⟨old, he⟩, hit, hne⟩ := st
    obtain ⟨xs, x, hq, hx⟩ := hg
    obtain ⟨its, rv, p, hz⟩ := I.tuple hq
    obtain ⟨u, hu, ru⟩ := rv.get hx
    have hel : e < s.heap.objs.size := Heap.lt_size he
    have hil : it < s.heap.objs.size := by obtain ⟨_, q, _⟩ := hit; exact Heap.lt_size q
    have hlt : i < its.toArray.size := by
      have := (List.getElem?_eq_some_iff.mp hu).1
      simpa using this
    have D := Draws.tuple (prog := X.prog) (w := X.w) (A := X.A.in1) (show X.A.in1.handled = none from I.ok.hd hc) it a hai its.toArray
    have hT0 : s.heap.IsTuple a its.toArray := p
    refine wpAny_pyNext_enum_itemD (St := fun i h => h.IsTupleIter it a i ∧ h.IsTuple a its.toArray) D he ⟨hit, hT0⟩ hlt hne (by simp [hne, Ne.symm hae]) fun y h' tk hy ho hst hT hsz hk => ?_
    obtain ⟨hit', _⟩ := hst
    have ey : y = u := by
      have hy : its.toArray[i]? = some y := hy
      have : its[i]? = some y := by simpa using hy
      rw [hu] at this
      exact (Option.some.inj this).symm
    subst ey
    refine ⟨_, rfl, wpAny_letOwnedTupleGo_enum (s := { s with heap := h', toks := tk + 1 }) ho fun h'' he' sb => ?_⟩
    have hT2 : h''.get? s.heap.objs.size = some { cls := .type "tuple", data := .seq #[.int i tk, y] } := (sb.2 _ (Nat.ne_of_gt hel)).trans hT
    have new : ObjOk X.prog X.w (upd H s.heap.objs.size (.tup [.int (i : Nat), x])) h'' s.heap.objs.size (.tup [.int (i : Nat), x]) :=
      ⟨by show 2 ≤ sizeLine; decide, [.int i tk, y], .cons ⟨_, rfl⟩ (.cons ru .nil), ⟨_, hT2, rfl, _, rfl⟩⟩
    have I1 : Inv X pins σ (upd H s.heap.objs.size (.tup [.int (i : Nat), x])) { s with heap := h'', toks := tk + 1 } :=
      I.turnedNew (ch := [e, it]) (fun b ob hb q => (sb.2 b (fun z => hb (by simp [z]))).trans (hk b ob (fun z => hb (by simp [z])) (fun z => hb (by simp [z])) q)) hf (Nat.le_refl _) new
    refine ⟨.ref s.heap.objs.size, _, I1, rfl, ⟨_, x, rfl, I.hok.fresh (Nat.le_refl _), rfl, fun ys hy => by rw [I.tuple_inj hy hq]; exact hx⟩, ⟨⟨y, ?_⟩, hit'.at fun o q => (sb.2 it (Ne.symm hne)).trans q, hne⟩, fun b hb => ?_⟩
    · have e1 : ((i + 1 : Nat) : Int) = (i : Int) + 1 := by omega
      rw [e1]; exact he'
    · have hb' : b < s.heap.objs.size := by
        have e' : b = e ∨ b = it := by simpa using hb
        rcases e' with z | z
        · rw [z]; exact hel
        · rw [z]; exact hil
      rw [upd_ne (Nat.ne_of_lt hb')]
      exact (hf b hb).1
  done := by
    intro X hP hw hK hc i pins s σ H E I hf st hg
    subst hP hw hK
    obtain ⟨⟨old, he⟩, hit, hne⟩ := st
    obtain ⟨xs, hq, hx⟩ := hg
    obtain ⟨its, rv, p, hz⟩ := I.tuple hq
    obtain ⟨f0, f1, f2, f3, f4, f5⟩ := hf it (by simp)
    have hl := rv.length
    have D := Draws.tuple (prog := X.prog) (w := X.w) (A := X.A.in1) (show X.A.in1.handled = none from I.ok.hd hc) it a hai its.toArray
    have ei : i = its.toArray.size := by simp; omega
    have hT0 : s.heap.IsTuple a its.toArray := p
    exact wpAny_pyNext_enum_endD (St := fun i h => h.IsTupleIter it a i ∧ h.IsTuple a its.toArray) D he ⟨by rw [← ei]; exact hit, hT0⟩ fun h' eb => ⟨rfl, I.turned (t' := s.toks) (fun b o hb q => eb b o hb q) f0 f1 f3 f4 f5⟩
  self := fun A i s Q E st h => let ⟨⟨_, he⟩, _⟩ := st; wpAny_pyIter_enum he h
def iEnumT (K : PySem.W.Frag) (ta : TA) : TI := fun σ H R => ta σ H fun vs H1 => ∃ a xs, vs = [.ref a] ∧ SqT K H1 a xs ∧ R (Iet K a) H1
theorem pi_enumT {X : Cx} {e : Expr} {ta : TA} {p pos tpos : Pos} {elts : List Expr} {kk : Nat} (hg : Gl X "enumerate") (hm : X.mg "enumerate" = none) (ha : PA X [e] ta) (hs : starEach [e] X.env = [(false, eval e X.env)] := by rfl) :
    PI X (.Tuple elts kk tpos) (.Call (.Name "enumerate" p) [e] [] pos) (iEnumT X.K ta) := by
  refine ⟨fun pins s σ H R I h => ?_⟩
  refine Call_ (ld_blt I hg hm PyProof.Rows.boot_enumerate (PyProof.Rows.callWith_type1 (thn (ha.run pos pins s σ H _ I h) fun us s1 ⟨vs, H1, I1, r1, q1⟩ => ?_) hs rfl))
  obtain ⟨a, xs, ex, hq, q⟩ := q1
  subst ex
  cases r1 with
  | cons r rr =>
    cases rr
    cases r
    obtain ⟨its, rv, p', hz⟩ := I1.tuple hq
    have hT0 : s1.heap.IsTuple a its.toArray := p'
    have hal : a < s1.heap.objs.size := by obtain ⟨o, ho, _⟩ := hT0; exact Heap.lt_size ho
    refine call_enum_tup hT0 fun h' he hit hsz hk => wpAny_pyIter_enum he ?_
    have I2 : Inv X pins σ H1 { s1 with heap := h' } := I1.kept (t' := s1.toks) hk
    refine ⟨s1.heap.objs.size + 1, [s1.heap.objs.size + 1, s1.heap.objs.size], _, _, H1, rfl, I2, turn_enumT a (s1.heap.objs.size + 1) s1.heap.objs.size (Nat.ne_of_lt (Nat.lt_succ_of_lt hal)) (Nat.ne_of_lt hal), ⟨⟨.none, he⟩, hit, Nat.succ_ne_self _⟩, fun b hb => ?_, q⟩
    have e' : b = s1.heap.objs.size + 1 ∨ b = s1.heap.objs.size := by simpa using hb
    have hle : s1.heap.objs.size ≤ b := by
      rcases e' with z | z
      · rw [z]; exact Nat.le_add_right _ _
      · rw [z]; exact Nat.le_refl _
    exact I1.fpOk hle (I1.hok.fresh hle)
/-- the reading of a for over enumerate(a tuple) -/
theorem for_enumT {K : PySem.W.Frag} {a : Addr} {xs : List V} {g : TG} {tb : TS} {D : Ends} {σ : L2.St} {H : Hp} (Pv : Nat → L2.St → Hp → Prop) (h0 : Pv 0 σ H) (hl : ∀ i σ H, i ≤ xs.length → Pv i σ H → SqT K H a xs)
    (hs : ∀ i x T σ H, xs[i]? = some x → Pv i σ H → H T = none → g (.ref T) σ (upd H T (.tup [.int (i : Nat), x])) fun σ2 H2 => tb { D with nx := Pv (i + 1), ct := Pv (i + 1), bk := D.nx } σ2 H2) (hd : ∀ σ H, Pv xs.length σ H → D.nx σ H) :
    ∃ W : Nat → Nat → L2.St → Hp → Prop, (∃ m, W 0 m σ H) ∧ ∀ i m σ H, W i m σ H →
      ((Iet K a).stop i H ∧ D.nx σ H) ∨ ((Iet K a).go i H ∧ ∃ N : L2.St → Hp → Prop, (∀ σ' H', N σ' H' → ∃ m', m' < m ∧ W (i + 1) m' σ' H') ∧ ∀ x H', (Iet K a).yld i H x H' → g x σ H' fun σ2 H2 => tb { D with nx := N, ct := N, bk := D.nx } σ2 H2) := by
  refine ⟨fun i m σ H => m = xs.length - i ∧ i ≤ xs.length ∧ Pv i σ H, ⟨xs.length, by simp, Nat.zero_le _, h0⟩, ?_⟩
  rintro i m σ H ⟨rfl, hi, p⟩
  have q := hl i σ H hi p
  by_cases hlt : i < xs.length
  · refine .inr ⟨⟨xs, xs[i], q, by simp [hlt]⟩, Pv (i + 1), fun σ' H' p' => ⟨xs.length - (i + 1), by omega, rfl, hlt, p'⟩, fun x H' y => ?_⟩
    obtain ⟨T, z, rfl, hT, rfl, hz⟩ := y
    exact hs i z T σ H (hz _ q) p hT
  · have e : i = xs.length := by omega
    subst e
    exact .inl ⟨⟨xs, q, rfl⟩, hd σ H p⟩

/-! ### max of a tuple -/
section
variable {prog : Program} {w : World} {A : Around} {E : Value → Shared → Prop} {s : Shared} {l : Addr}
theorem max_tup {xs : Array (Int × Tok)} {Q : Value → Shared → Prop} (hh : A.handled = none) (hl : s.heap.IsTuple l (intItems xs)) (hne : 0 < xs.size)
    (h : ∀ v h' tk, (intItems xs)[argBest (fun i j => decide (numAt xs i > numAt xs j)) (xs.size - 1)]? = some v → (∀ b o, s.heap.get? b = some o → h'.get? b = some o) → Q v { s with heap := h', toks := tk }) :
    wpAny (model prog w) A (call (.builtin "max") [.ref l]) Q E s := by
  have hlt : l < s.heap.objs.size := by obtain ⟨o, ho, _⟩ := hl; exact Heap.lt_size ho
  refine call_max_walk (wpAny_pyIter_tuple hl ?_)
  refine ⟨_, [_, l], [_], _, _, _, _, rfl, Walks.tuple (A := A.in1) hh _ l (Nat.ne_of_lt hlt) (intItems xs), ⟨⟨_, Heap.get?_push_size _ rfl, rfl, rfl⟩, hl.push _⟩, fun b hb => ?_, by simpa [intItems] using hne, CmpOf.ints_gt (numAt xs) (fun _ _ => intItems_at), fun v h' tk hP hk => ?_⟩
  · show b < (s.heap.push _).objs.size
    rw [Heap.size_push]
    rcases List.mem_cons.mp hb with e | hb
    · rw [e]; exact Nat.lt_succ_self _
    · have e : b = l := by simpa using hb
      rw [e]; exact Nat.lt_succ_of_lt hlt
  · refine h v h' tk (by simpa [intItems] using hP) fun b o e => hk b o (fun z => ?_) (Heap.get?_push_of_some _ e)
    have z : b = s.heap.objs.size := by simpa using z
    rw [z] at e
    exact absurd (Heap.lt_size e) (Nat.lt_irrefl _)
end
def rMaxT (K : PySem.W.Frag) : List V → Hp → VK → Prop := fun vs H Q => ∃ (a : Addr) (ns : List Int), vs = [V.ref a] ∧ SqT K H a (ns.map V.int) ∧ 0 < ns.length ∧ ∀ m, m ∈ ns → (∀ y, y ∈ ns → y ≤ m) → Q (.int m) H
theorem cr_maxT {X : Cx} (hc : X.calm = true) : CallR X (.builtin "max") (rMaxT X.K) := by
  intro pins s σ H vs us Q I r h
  obtain ⟨a, ns, rfl, hs, hne, q⟩ := h
  obtain ⟨its, rv, hl, _⟩ := I.tuple hs
  rw [Vals.ref1 r]
  have hi := rv.ints
  obtain ⟨xs, e⟩ := hi.allInts.items
  have hn : numsOf (intItems xs).toList = ns := by rw [← e]; exact hi.numsOf
  rw [nums_intItems] at hn
  subst hn
  have hl : s.heap.IsTuple a its.toArray := hl
  rw [e] at hl
  have hsz : 0 < xs.size := by simpa using hne
  refine max_tup (I.ok.hd hc) hl hsz fun v h' tk hv hk => ?_
  obtain ⟨t, rfl⟩ := intItems_at hv
  obtain ⟨h1, h2⟩ := argBest_gt (numAt xs) (xs.size - 1)
  refine ⟨.int _, H, I.kept hk, ⟨_, rfl⟩, q _ ?_ fun y hy => ?_⟩
  · rw [numAt_eq]; exact PySem.getD_mem (by rw [List.length_map, Array.length_toList]; omega)
  · obtain ⟨j, hj, rfl⟩ := mem_getD hy
    rw [List.length_map, Array.length_toList] at hj
    rw [← numAt_eq]; exact h2 j (by omega)
end Tf

/-! ## TfRules2 -/
set_option Elab.async false
set_option linter.all false
set_option maxRecDepth 100000
set_option maxHeartbeats 4000000
/-! y = {k: v for ..}, the name a local. -/
namespace Tf
open PySem PySem.Spec PyProof.Rows L2
section
variable {X : Cx}
theorem ps_setDc {i : Nat} {y : Str} {py : Pos} {kx vx tg iter : Expr} {ifs : List Expr} {scope : Scope} {own : List (Str × Nat)} {pos spos : Pos} {wi : TI} {g : TG} {tt : TT} {tk tv : TE} (hc : X.calm = true) (hN : X.N.Nodup) (hy : X.N[i]? = some y) (hyl : X.env.scope.names.lookup y = some .local)
    (hsw : swapsWith (.DictComp kx vx [⟨tg, iter, ifs, 0⟩] scope pos) (some (.Name y py)) spos.line X.env = pure true) (hi : PI X tg iter wi) (ok : BlkOk X.N X.env.scope scope own)
    (hg : ∀ (s : Shared) (H : Hp) (C : Addr) (cl : List (Str × Addr)) (fp : List Addr), PG (X.blk s H scope (compEnvC scope cl C X.env) fp) tg g) (ht : ∀ (s : Shared) (H : Hp) (C : Addr) (cl : List (Str × Addr)) (fp : List Addr), PTs (X.blk s H scope (compEnvC scope cl C X.env) fp) ifs tt)
    (hk : ∀ (s : Shared) (H : Hp) (C : Addr) (cl : List (Str × Addr)) (fp : List Addr), PE (X.blk s H scope (compEnvC scope cl C X.env) fp) kx tk)
    (he : ∀ (s : Shared) (H : Hp) (C : Addr) (cl : List (Str × Addr)) (fp : List Addr), PE (X.blk s H scope (compEnvC scope cl C X.env) fp) vx tv) (hs : ∀ x, foldedSetIterable iter X.env x = pure x := by intro _; rfl) :
    PS X (.Assign [.Name y py] (.DictComp kx vx [⟨tg, iter, ifs, 0⟩] scope pos) spos) (tAsg (tDc wi g tt tk tv (own.map (·.2))) (gName i)) := by
  refine ⟨fun pins s σ H D I h => ?_⟩
  rw [exec_Assign_Name_used _ _ _ _ hsw]
  refine wpAny_bind (wpAny_standAt (wpAny_bind ?_))
  show wpAny _ X.A (do let _ ← comprehension (.DictComp kx vx [⟨tg, iter, ifs, 0⟩] scope pos) scope X.env (firstIterPos [⟨tg, iter, ifs, 0⟩] pos) newDict false (eval iter X.env) (some (assign (.Name y py) X.env))) _ _ s
  have h : tDc wi g tt tk tv (own.map (·.2)) σ H (fun x H1 => gName i x σ H1 D.nx) := h
  refine wpAny_bind (thn (dc_core (Qf := fun _ s' => SP X pins D .next s') hc hN I hi ok hg ht hk he hs h fun L C s' m H' I' q hn f => ?_) fun _ s' hq => wpAny_pure (wpAny_pure hq))
  show wpAny _ _ (assign (.Name y py) X.env (.ref L)) _ _ _
  refine wpAny_assign_Name (store_ok2 (v := V.ref L) I' hN hy (.inl hyl) rfl (fun s2 I2 ⟨a, sb, ha⟩ => ?_) (.inr hyl))
  obtain ⟨f0, f1, f2, f3, f4, f5⟩ := f
  have haC : C ≠ a := by
    rcases ha with z | z
    · rw [z]; exact f1
    · exact fun e => f4 y a z e.symm
  refine ⟨m, hn.sameBut sb haC, fun h3 sb3 => ?_⟩
  exact ⟨_, H', I2.turned (t' := s2.toks) (fun b o hb e => (sb3.2 b hb).trans e) f0 f1 f3 f4 f5, q⟩
theorem sw_trueD {kx vx : Expr} {gs : List Comprehension} {scope : Scope} {pos py : Pos} {y : Str} {l : Nat} {env : Env} (hk : env.scope.kind = .function) (hy : env.scope.names.lookup y = some .local) (hl : (py.line == pos.line) = true)
    (ha : (scope.names.any fun (n, k) => n == y && (k == .local || k == .cell)) = false) : swapsWith (.DictComp kx vx gs scope pos) (some (.Name y py)) l env = pure true := by
  have ky : env.kindOf y = some .local := hy
  have hb : env.blockKind = .function := by unfold Env.blockKind; rw [hk]; rfl
  unfold swapsWith
  simp only [hb, ky, ha, Expr.pos, hl]
  rfl
end
end Tf

/-! ## TfMath2 -/
set_option Elab.async false
set_option linter.all false
set_option maxRecDepth 100000
set_option maxHeartbeats 4000000
/-! Cells, in plain numbers. -/
namespace Tf

/-- the greatest member -/
def top (A : List Nat) : Nat := A.getLastD 0
/-- b rules r from a, at the carry c -/
structure Rules (N : Nat) (A : List Nat) (r c a b : Nat) : Prop where
  ha : a ∈ A
  hb : b ∈ A
  lt : a < b
  eq : 2 * b = a + r + c * N
  ok : c = 0 ∨ r < top A
structure CellOk (N : Nat) (A : List Nat) : Prop where
  pos : 0 < N
  ne : A ≠ []
  asc : A.Pairwise (· < ·)
  lt : ∀ a ∈ A, a < N
  free : ∀ a ∈ A, ∀ b ∈ A, a ≠ b → (2 * b + N - a) % N ∉ A
  served : ∀ r < N, r ∉ A → ∃ c a b, Rules N A r c a b
theorem top_mem {A : List Nat} (h : A ≠ []) : top A ∈ A := by
  unfold top
  rw [List.getLastD_eq_getLast?, List.getLast?_eq_some_getLast h]
  exact List.getLast_mem h
theorem le_top {A : List Nat} (h : A.Pairwise (· < ·)) : ∀ a ∈ A, a ≤ top A := by
  intro a ha
  have hne : A ≠ [] := fun e => by rw [e] at ha; cases ha
  have e : A = A.dropLast ++ [top A] := by
    unfold top
    rw [List.getLastD_eq_getLast?, List.getLast?_eq_some_getLast hne]
    exact (List.dropLast_concat_getLast hne).symm
  rw [e] at ha h
  rcases List.mem_append.mp ha with z | z
  · exact Nat.le_of_lt ((List.pairwise_append.mp h).2.2 a z _ (by simp))
  · have : a = top A := by simpa using z
    rw [this]; exact Nat.le_refl _
theorem Rules.carry {N : Nat} {A : List Nat} {r c a b : Nat} (C : CellOk N A) (h : Rules N A r c a b) : c = 0 ∨ (c = 1 ∧ r < top A) := by
  have hb := C.lt b h.hb
  have e := h.eq
  by_cases h0 : c = 0
  · exact .inl h0
  · refine .inr ⟨?_, h.ok.resolve_left h0⟩
    have h2 : c * N < 2 * N := by omega
    have : c < 2 := Nat.lt_of_mul_lt_mul_right h2
    omega
/-- the product of two cells -/
def joinA (M : Nat) (S T : List Nat) : List Nat := T.flatMap fun t => S.map fun s => s + M * t
theorem mem_join {M : Nat} {S T : List Nat} {x : Nat} : x ∈ joinA M S T ↔ ∃ s ∈ S, ∃ t ∈ T, x = s + M * t := by
  unfold joinA
  rw [List.mem_flatMap]
  constructor
  · rintro ⟨t, ht, h⟩
    obtain ⟨s, hs, e⟩ := List.mem_map.mp h
    exact ⟨s, hs, t, ht, e.symm⟩
  · rintro ⟨s, hs, t, ht, e⟩
    exact ⟨t, ht, List.mem_map.mpr ⟨s, hs, e.symm⟩⟩
theorem join_asc {M : Nat} {S T : List Nat} (hS : S.Pairwise (· < ·)) (lS : ∀ s ∈ S, s < M) (hT : T.Pairwise (· < ·)) : (joinA M S T).Pairwise (· < ·) := by
  induction T with
  | nil => exact .nil
  | cons t T ih =>
    have h2 := List.pairwise_cons.mp hT
    show ((S.map fun s => s + M * t) ++ joinA M S T).Pairwise (· < ·)
    refine List.pairwise_append.mpr ⟨?_, ih h2.2, fun x hx y hy => ?_⟩
    · exact List.pairwise_map.mpr (hS.imp fun h => by omega)
    · obtain ⟨s, hs, e⟩ := List.mem_map.mp hx
      obtain ⟨s', hs', t', ht', e'⟩ := mem_join.mp hy
      have h1 := h2.1 t' ht'
      have h3 := lS s hs
      have h4 : M * (t + 1) ≤ M * t' := Nat.mul_le_mul_left _ h1
      rw [Nat.mul_succ] at h4
      omega
theorem mod3 {M a b : Nat} (ha : a < 2 * M) (hb : b < 2 * M) (h : a % M = b % M) : a = b ∨ a + M = b ∨ a = b + M := by
  have e : ∀ x, x < 2 * M → x % M = x ∨ (M ≤ x ∧ x % M = x - M) := fun x hx => by
    by_cases z : x < M
    · exact .inl (Nat.mod_eq_of_lt z)
    · refine .inr ⟨by omega, ?_⟩
      rw [Nat.mod_eq_sub_mod (by omega), Nat.mod_eq_of_lt (by omega)]
  rcases e a ha with h1 | ⟨h1, h1'⟩ <;> rcases e b hb with h2 | ⟨h2, h2'⟩ <;> omega
theorem free_at {N : Nat} {T : List Nat} (C : CellOk N T) {t1 t2 t3 : Nat} (h1 : t1 ∈ T) (h2 : t2 ∈ T) (h3 : t3 ∈ T) (e : (2 * t2) % N = (t1 + t3) % N) : t1 = t2 ∧ t3 = t1 := by
  have l1 := C.lt _ h1
  have l2 := C.lt _ h2
  have l3 := C.lt _ h3
  have m := mod3 (M := N) (a := 2 * t2) (b := t1 + t3) (by omega) (by omega) e
  by_cases z : t1 = t2
  · exact ⟨z, by omega⟩
  · refine absurd ?_ (C.free t1 h1 t2 h2 z)
    have : (2 * t2 + N - t1) % N = t3 := by
      rcases m with m | m | m
      · rw [show 2 * t2 + N - t1 = t3 + N by omega, Nat.add_mod_right, Nat.mod_eq_of_lt l3]
      · rw [show 2 * t2 + N - t1 = t3 by omega, Nat.mod_eq_of_lt l3]
      · rw [show 2 * t2 + N - t1 = t3 + N + N by omega, Nat.add_mod_right, Nat.add_mod_right, Nat.mod_eq_of_lt l3]
    rw [this]
    exact h3
theorem join_lt {M N : Nat} {S T : List Nat} (A : CellOk M S) (B : CellOk N T) : ∀ a ∈ joinA M S T, a < M * N := fun x hx => by
  obtain ⟨s, hs, t, ht, e⟩ := mem_join.mp hx
  have h1 := A.lt s hs
  have h2 : M * (t + 1) ≤ M * N := Nat.mul_le_mul_left _ (B.lt t ht)
  rw [Nat.mul_succ] at h2
  omega
theorem join_free {M N : Nat} {S T : List Nat} (A : CellOk M S) (B : CellOk N T) : ∀ a ∈ joinA M S T, ∀ b ∈ joinA M S T, a ≠ b → (2 * b + M * N - a) % (M * N) ∉ joinA M S T := by
  intro x hx y hy hne hz
  have lx := join_lt A B x hx
  obtain ⟨s1, hs1, t1, ht1, e1⟩ := mem_join.mp hx
  obtain ⟨s2, hs2, t2, ht2, e2⟩ := mem_join.mp hy
  obtain ⟨s3, hs3, t3, ht3, e3⟩ := mem_join.mp hz
  have dm := Nat.div_add_mod (2 * y + M * N - x) (M * N)
  rw [e3] at dm
  generalize (2 * y + M * N - x) / (M * N) = k at dm
  have eq : 2 * s2 + M * (2 * t2 + N) = s1 + s3 + M * (t1 + t3 + N * k) := by
    have a1 : M * (2 * t2 + N) = 2 * (M * t2) + M * N := by rw [Nat.mul_add, Nat.mul_left_comm]
    have a2 : M * (t1 + t3 + N * k) = M * t1 + M * t3 + M * N * k := by rw [Nat.mul_add, Nat.mul_add, Nat.mul_assoc]
    rw [a1, a2]
    omega
  have m1 : (2 * s2) % M = (s1 + s3) % M := by
    have := congrArg (· % M) eq
    simpa [Nat.add_mul_mod_self_left] using this
  obtain ⟨es, es3⟩ := free_at A hs1 hs2 hs3 m1
  have eq2 : M * (2 * t2 + N) = M * (t1 + t3 + N * k) := by omega
  have eq3 := Nat.eq_of_mul_eq_mul_left A.pos eq2
  have m2 : (2 * t2) % N = (t1 + t3) % N := by
    have := congrArg (· % N) eq3
    simpa [Nat.add_mul_mod_self_left] using this
  obtain ⟨et, _⟩ := free_at B ht1 ht2 ht3 m2
  exact hne (by rw [e1, e2, es, et])
theorem lt_join {M : Nat} {S T : List Nat} (asc : (joinA M S T).Pairwise (· < ·)) {r s t : Nat} (hs : s ∈ S) (ht : t ∈ T) (h : r < s + M * t) : r < top (joinA M S T) := Nat.lt_of_lt_of_le h (le_top asc _ (mem_join.mpr ⟨s, hs, t, ht, rfl⟩))
theorem join_served {M N : Nat} {S T : List Nat} (A : CellOk M S) (B : CellOk N T) : ∀ r < M * N, r ∉ joinA M S T → ∃ c a b, Rules (M * N) (joinA M S T) r c a b := by
  intro r hr hn
  have asc := join_asc (M := M) A.asc A.lt B.asc
  have er := Nat.div_add_mod r M
  have hs' := Nat.mod_lt r A.pos
  have ht' : r / M < N := Nat.div_lt_of_lt_mul hr
  generalize r % M = s' at er hs'
  generalize r / M = t' at er ht'
  have mk : ∀ {s1 t1 s2 t2 : Nat}, s1 ∈ S → t1 ∈ T → s2 ∈ S → t2 ∈ T → s1 + M * t1 < s2 + M * t2 → ∀ c, 2 * (s2 + M * t2) = s1 + M * t1 + r + c * (M * N) → (c = 0 ∨ ∃ s ∈ S, ∃ t ∈ T, r < s + M * t) → ∃ c a b, Rules (M * N) (joinA M S T) r c a b := fun {s1 t1 s2 t2} h1 h2 h3 h4 h5 c h6 h7 =>
    ⟨c, _, _, mem_join.mpr ⟨s1, h1, t1, h2, rfl⟩, mem_join.mpr ⟨s2, h3, t2, h4, rfl⟩, h5, h6, h7.imp id fun ⟨s, hs, t, ht, h⟩ => lt_join asc hs ht h⟩
  have topT := top_mem B.ne
  have topS := top_mem A.ne
  by_cases hsS : s' ∈ S
  · have htT : t' ∉ T := fun z => hn (mem_join.mpr ⟨s', hsS, t', z, by omega⟩)
    obtain ⟨c, t1, t2, R⟩ := B.served t' ht' htT
    have e := R.eq
    have lt := R.lt
    have h5 : M * (t1 + 1) ≤ M * t2 := Nat.mul_le_mul_left _ lt
    rw [Nat.mul_succ] at h5
    have e6 : M * (2 * t2) = M * (t1 + t' + c * N) := by rw [e]
    rw [Nat.mul_left_comm, Nat.mul_add, Nat.mul_add, Nat.mul_left_comm M c N] at e6
    have pos := A.pos
    refine mk hsS R.ha hsS R.hb (by omega) c (by omega) (R.ok.imp id fun h => ⟨s', hsS, top T, topT, ?_⟩)
    have h7 : M * (t' + 1) ≤ M * top T := Nat.mul_le_mul_left _ h
    rw [Nat.mul_succ] at h7
    omega
  · obtain ⟨c, s1, s2, R⟩ := A.served s' hs' hsS
    have e := R.eq
    have lt := R.lt
    rcases R.carry A with hc | ⟨hc, hs't⟩
    · subst hc
      by_cases htT : t' ∈ T
      · exact mk R.ha htT R.hb htT (by omega) 0 (by omega) (.inl rfl)
      · obtain ⟨d, t1, t2, R2⟩ := B.served t' ht' htT
        have f := R2.eq
        have e6 : M * (2 * t2) = M * (t1 + t' + d * N) := by rw [f]
        rw [Nat.mul_left_comm, Nat.mul_add, Nat.mul_add, Nat.mul_left_comm M d N] at e6
        have h5 : M * t1 ≤ M * t2 := Nat.mul_le_mul_left _ (Nat.le_of_lt R2.lt)
        refine mk R.ha R2.ha R.hb R2.hb (by omega) d (by omega) (R2.ok.imp id fun h => ⟨top S, topS, top T, topT, ?_⟩)
        have h7 : M * (t' + 1) ≤ M * top T := Nat.mul_le_mul_left _ h
        rw [Nat.mul_succ] at h7
        omega
    · subst hc
      by_cases ht0 : t' = 0
      · subst ht0
        have hu : N - 1 < N := by have := B.pos; omega
        by_cases huT : N - 1 ∈ T
        · have e6 : M * N = M * (N - 1) + M := by rw [← Nat.mul_succ]; congr 1; omega
          exact mk R.ha huT R.hb huT (by omega) 1 (by omega) (.inr ⟨top S, topS, N - 1, huT, by omega⟩)
        · obtain ⟨d, t1, t2, R2⟩ := B.served (N - 1) hu huT
          have f := R2.eq
          rcases R2.carry B with hd | ⟨hd, hd2⟩
          · subst hd
            have e6 : M * (2 * t2) = M * (t1 + (N - 1)) := by rw [f]; simp
            rw [Nat.mul_left_comm, Nat.mul_add] at e6
            have e7 : M * N = M * (N - 1) + M := by rw [← Nat.mul_succ]; congr 1; omega
            have h5 : M * t1 ≤ M * t2 := Nat.mul_le_mul_left _ (Nat.le_of_lt R2.lt)
            exact mk R.ha R2.ha R.hb R2.hb (by omega) 1 (by omega) (.inr ⟨top S, topS, t2, R2.hb, by omega⟩)
          · have := B.lt _ topT
            omega
      · obtain ⟨u, rfl⟩ : ∃ u, t' = u + 1 := ⟨t' - 1, by omega⟩
        rw [Nat.mul_succ] at er
        by_cases huT : u ∈ T
        · exact mk R.ha huT R.hb huT (by omega) 0 (by omega) (.inl rfl)
        · obtain ⟨d, t1, t2, R2⟩ := B.served u (by omega) huT
          have f := R2.eq
          have e6 : M * (2 * t2) = M * (t1 + u + d * N) := by rw [f]
          rw [Nat.mul_left_comm, Nat.mul_add, Nat.mul_add, Nat.mul_left_comm M d N] at e6
          have h5 : M * t1 ≤ M * t2 := Nat.mul_le_mul_left _ (Nat.le_of_lt R2.lt)
          refine mk R.ha R2.ha R.hb R2.hb (by omega) d (by omega) (R2.ok.imp id fun h => ⟨top S, topS, top T, topT, ?_⟩)
          have h7 : M * (u + 1) ≤ M * top T := Nat.mul_le_mul_left _ h
          rw [Nat.mul_succ] at h7
          omega
theorem join_ok {M N : Nat} {S T : List Nat} (A : CellOk M S) (B : CellOk N T) : CellOk (M * N) (joinA M S T) := by
  have ne : joinA M S T ≠ [] := fun e => by
    have := mem_join.mpr ⟨top S, top_mem A.ne, top T, top_mem B.ne, (rfl : top S + M * top T = _)⟩
    rw [e] at this
    exact absurd this (by simp)
  exact ⟨Nat.mul_pos A.pos B.pos, ne, join_asc A.asc A.lt B.asc, join_lt A B, join_free A B, join_served A B⟩
theorem join_len (M : Nat) (S T : List Nat) : (joinA M S T).length = S.length * T.length := by
  unfold joinA
  induction T with
  | nil => rfl
  | cons t T ih => rw [List.flatMap_cons, List.length_append, ih, List.length_map, List.length_cons, Nat.mul_succ, Nat.add_comm]

/-! ### the small cells -/
def smalls : List (Nat × List Nat) := [(3, [0, 1]), (3, [1, 2]), (3, [0, 2]), (10, [0, 1, 7, 8]), (9, [0, 3, 4, 7]), (1, [0])]
def rulesB (N : Nat) (A : List Nat) (r c a b : Nat) : Bool := A.contains a && A.contains b && decide (a < b) && decide (2 * b = a + r + c * N) && (c == 0 || decide (r < top A))
theorem rules_of {N : Nat} {A : List Nat} {r c a b : Nat} (h : rulesB N A r c a b = true) : Rules N A r c a b := by
  unfold rulesB at h
  simp only [Bool.and_eq_true, List.contains_iff_mem, decide_eq_true_eq, Bool.or_eq_true, beq_iff_eq] at h
  exact ⟨h.1.1.1.1, h.1.1.1.2, h.1.1.2, h.1.2, h.2⟩
def cellB (N : Nat) (A : List Nat) : Bool := decide (0 < N) && !A.isEmpty && decide (A.Pairwise (· < ·)) && A.all (fun a => decide (a < N)) &&
  A.all (fun a => A.all fun b => a == b || !A.contains ((2 * b + N - a) % N)) && (List.range N).all fun r => A.contains r || [0, 1].any fun c => A.any fun a => A.any fun b => rulesB N A r c a b
theorem cell_of {N : Nat} {A : List Nat} (h : cellB N A = true) : CellOk N A := by
  unfold cellB at h
  simp only [Bool.and_eq_true, decide_eq_true_eq, List.all_eq_true, Bool.or_eq_true, Bool.not_eq_true', List.isEmpty_eq_false_iff, beq_iff_eq, List.any_eq_true] at h
  obtain ⟨⟨⟨⟨⟨h1, h2⟩, h3⟩, h4⟩, h5⟩, h6⟩ := h
  refine ⟨h1, h2, h3, h4, fun a ha b hb hne hz => ?_, fun r hr hn => ?_⟩
  · rcases h5 a ha b hb with e | e
    · exact hne e
    · have : A.contains ((2 * b + N - a) % N) = true := List.contains_iff_mem.mpr hz
      rw [this] at e
      cases e
  · rcases h6 r (List.mem_range.mpr hr) with e | ⟨c, _, a, _, b, _, e⟩
    · exact absurd (List.contains_iff_mem.mp e) hn
    · exact ⟨c, a, b, rules_of e⟩
theorem small_ok : ∀ q ∈ smalls, CellOk q.1 q.2 := by
  have : smalls.all (fun q => cellB q.1 q.2) = true := by decide +kernel
  intro q hq
  exact cell_of (List.all_eq_true.mp this q hq)
end Tf

/-! ## TfCell -/
set_option Elab.async false
set_option linter.all false
set_option maxRecDepth 100000
set_option maxHeartbeats 4000000
/-! The module cells, def by def. -/
namespace Tf
open PySem PySem.Spec PyProof.Rows L2

/-- a dict that knows the numbers of A -/
def Knows (kn : List (Key × V)) (A : List Nat) : Prop := (∀ r : Nat, (valV kn (Sum.inl (r : Int))).isSome = A.contains r) ∧ kn.length ≤ A.length
/-- the class Cell as the top has made it -/
structure CellC (K : PySem.W.Frag) (mg : Str → Option Value) (C : Addr) : Prop where
  cl : Cls K C
  mgC : mg "Cell" = some (.ref C)
  cr : ∃ mc u1 u2, ClX.CRead K C mc ∧ ClX.CVal K C mc "MAX_MODULUS" (.int 20000) u1 ∧ ClX.CVal K C mc "MAX_MEMBERS" (.int 256) u2
  nT : NoAttr K C "table"
  nM : NoAttr K C "own_modulus"
  nA : NoAttr K C "own_members"
  nK : NoAttr K C "known"
/-- a cell that the constructor takes -/
structure CellArg (N : Nat) (A : List Nat) : Prop extends CellOk N A where
  le : N ≤ 20000
  len : A.length ≤ 256

def spBetween : Sp := fun vs H Q _ => ∃ (v l h : Int), vs = [.int v, .int l, .int h] ∧ Q (.bl (decide (l ≤ v ∧ v ≤ h))) H
def spShape : Sp := fun vs H Q _ => ∃ (a : Addr) (N : Nat) (A : List Nat), vs = [.int (N : Nat), .ref a] ∧ H a = some (.tup (nV A)) ∧ CellArg N A ∧ ∀ H', Same H H' → Q .non H'
def spSpoil : Sp := fun vs H Q _ => ∃ (a : Addr) (N : Nat) (A : List Nat), vs = [.int (N : Nat), .ref a] ∧ H a = some (.tup (nV A)) ∧ CellArg N A ∧ ∀ H', Same H H' → Q .non H'
section
variable {P : Program} {w : World} {K : PySem.W.Frag} {mg : Str → Option Value} {base : Heap}
theorem scBetween : FnScope ["value", "low", "high"] ["value", "low", "high"] (defScope tBetween) := ⟨rfl, rfl, rfl, by decide +kernel, rfl, by decide +kernel, by decide +kernel⟩
theorem ok_between {f : Addr} {fd : FuncData} (F : Fun K "is_between" "is_between" tBetween f fd) (B : Blt mg) : FnOk P w K mg base CX0 1 f fd ["value", "low", "high"] spBetween := by
  refine F.ok scBetween (fun vs H Q E h => ?_) (fun cdv A outer s H vs Q E hr h => ?_)
  · obtain ⟨v, l, h, rfl, _⟩ := h; rfl
  · obtain ⟨v, l, h, rfl, k⟩ := h
    refine ⟨_, pss_one (ps_ret (pe_and (pe_callB call_isi (by rfl) B.isinstance PyProof.Rows.boot_isinstance (pa_cons (pv 0) (pa_cons (pe_bltn (v := .ty "int") (by rfl) B.int PyProof.Rows.boot_int rfl) pa_nil)))
      (pe_and (pe_not (pe_callB call_isi (by rfl) B.isinstance PyProof.Rows.boot_isinstance (pa_cons (pv 0) (pa_cons (pe_bltn (v := .ty "bool") (by rfl) B.bool PyProof.Rows.boot_bool rfl) pa_nil))))
      (pe_one (pe_chain op_le op_le (pv 1) (pv 0) (pv 2)))))), ?_⟩
    refine ⟨_, rfl, _, _, _, _, true, rfl, .ty _, .base (.int _), kit_ty (by decide +kernel), _, rfl, ?_⟩
    refine iteT ?_
    refine ⟨_, rfl, _, _, _, _, false, rfl, .ty _, .base (.int _), kit_ty (by decide +kernel), _, rfl, _, rfl, ?_⟩
    refine iteT ?_
    refine ⟨_, rfl, _, rfl, _, _, rfl, rfl, _, rfl, ?_⟩
    by_cases h1 : l ≤ v
    · rw [decide_eq_true h1]
      refine iteT ?_
      refine ⟨_, rfl, _, _, rfl, rfl, ?_⟩
      by_cases h2 : v ≤ h
      · rw [decide_eq_true (show l ≤ v ∧ v ≤ h from ⟨h1, h2⟩)] at k
        show Q (.bl (decide (v ≤ h))) H
        rw [decide_eq_true h2]; exact k
      · rw [decide_eq_false (show ¬ (l ≤ v ∧ v ≤ h) from fun z => h2 z.2)] at k
        show Q (.bl (decide (v ≤ h))) H
        rw [decide_eq_false h2]; exact k
    · rw [decide_eq_false h1]
      rw [decide_eq_false (show ¬ (l ≤ v ∧ v ≤ h) from fun z => h1 z.1)] at k
      exact iteF k
/-- the member ahead of place i -/
def bef (A : List Nat) : Nat → Int
  | 0 => -1
  | i + 1 => ((A.getD i 0 : Nat) : Int)
theorem bef_lt {A : List Nat} (h : A.Pairwise (· < ·)) {i d : Nat} (hd : A[i]? = some d) : bef A i + 1 ≤ (d : Int) := by
  cases i with
  | zero => show (-1 : Int) + 1 ≤ _; omega
  | succ i =>
    obtain ⟨hi, e⟩ := List.getElem?_eq_some_iff.mp hd
    have := (List.pairwise_iff_getElem.mp h) i (i + 1) (by omega) hi (Nat.lt_succ_self _)
    show ((A.getD i 0 : Nat) : Int) + 1 ≤ (d : Int)
    rw [List.getD_eq_getElem?_getD, List.getElem?_eq_getElem (by omega), Option.getD_some]
    omega
theorem scShape : FnScope ["modulus", "members", "before", "index", "member"] ["modulus", "members"] (defScope tShape) := ⟨rfl, rfl, rfl, by decide +kernel, rfl, by decide +kernel, by decide +kernel⟩
theorem ok_shape {f C : Addr} {fd : FuncData} (F : Fun K "check_shape" "check_shape" tShape f fd) (B : Blt mg) (T : CellC K mg C) (GB : Fn P w K mg base "is_between" 1 ["value", "low", "high"] [] spBetween) : FnOk P w K mg base CX0 2 f fd ["modulus", "members"] spShape := by
  refine F.ok scShape (fun vs H Q E h => ?_) (fun cdv Ar outer s H vs Q E hr h => ?_)
  · obtain ⟨a, N, A, rfl, _⟩ := h; rfl
  · obtain ⟨a, N, A, rfl, hA, ok, k⟩ := h
    obtain ⟨mc, u1, u2, cr, c1, c2⟩ := T.cr
    have nd := scShape.nd
    refine ⟨_, pss_cons (ps_if (pt_not (pt_val (pe_fn GB hr (by rfl) (pa_cons (pv 0) (pa_cons pe_int (pa_cons (ClX.pe_cval (pe_glob (v := .ref C) (by rfl) T.mgC rfl)) pa_nil)))))) (pss_one ps_never) pss_nil)
      (pss_cons (ps_if (PW.pt (pw_or (pt_not (pt_val (pe_callB call_isiT (by rfl) B.isinstance PyProof.Rows.boot_isinstance (pa_cons (pv 1) (pa_cons (pe_tup (pa_cons (pe_bltn (v := .ty "tuple") (by rfl) B.tuple PyProof.Rows.boot_tuple rfl) (pa_cons (pe_bltn (v := .ty "list") (by rfl) B.list PyProof.Rows.boot_list rfl) pa_nil))) pa_nil)))))
          (pw_or1 (pt_not (pt_chain op_le op_le pe_int (pe_callB call_len_seq (by rfl) B.len PySem.boot_len (pa_cons (pv 1) pa_nil)) (ClX.pe_cval (pe_glob (v := .ref C) (by rfl) T.mgC rfl))))))) (pss_one ps_never) pss_nil)
      (pss_cons (ps_set (i := 2) nd rfl (.inl rfl) (pe_un un_neg pe_int))
      (pss_one (ps_for PassesOwn.never rfl (pi_enumT (by rfl) B.enumerate (pa_cons (pv 1) pa_nil)) (pg_tup (by rfl) (pgs_cons (pg_name (i := 3) nd rfl (.inl rfl)) (pgs_cons (pg_name (i := 4) nd rfl (.inl rfl)) pgs_nil)))
        (pss_cons (ps_if (pt_not (pt_val (pe_fn GB hr (by rfl) (pa_cons (pv 4) (pa_cons (pe_op op_add (pv 2) pe_int) (pa_cons (pe_op op_sub (pv 0) pe_int) pa_nil)))))) (pss_one ps_never) pss_nil)
        (pss_one (ps_set (i := 2) nd rfl (.inl rfl) (pv 4)))))))), ?_⟩
    have hN := ok.pos
    have hN2 := ok.le
    have hl2 := ok.len
    have hl1 : 1 ≤ A.length := by have := List.length_pos_iff.mpr ok.ne; omega
    refine ⟨_, rfl, C, mc, _, _, rfl, cr, c1, _, _, _, rfl, ?_⟩
    rw [decide_eq_true (by omega)]
    refine ⟨_, rfl, iteF ?_⟩
    refine ⟨_, rfl, by show 2 ≤ sizeLine; decide, fun p hp => ?_⟩
    have hA2 : upd H p (.tup [.ty "tuple", .ty "list"]) a = some (.tup (nV A)) := by rw [upd_ne (ne_of_none hA hp)]; exact hA
    refine ⟨_, _, _, .type "tuple", [.type "tuple", .type "list"], true, rfl, upd_same, .cons (.ty _) (.cons (.ty _) .nil), .base (.tup hA2), rfl, _, rfl, ?_⟩
    refine iteF ?_
    refine ⟨_, rfl, a, nV A, rfl, .inr (SqT.of hA2), _, _, rfl, rfl, _, rfl, ?_⟩
    rw [nV_len, decide_eq_true (by omega)]
    refine iteT ?_
    refine ⟨C, mc, _, _, rfl, cr, c2, _, _, rfl, rfl, _, rfl, ?_⟩
    rw [decide_eq_true (by omega)]
    refine iteF ?_
    have sm0 : Same H (upd H p (.tup [.ty "tuple", .ty "list"])) := same_upd (.refl _) hp
    refine ⟨_, rfl, _, rfl, a, nV A, rfl, SqT.of hA2, for_enumT (K := K) (a := a) (xs := nV A) (fun i σ H2 => ∃ v3 v4, σ = [some (.int (N : Nat)), some (.ref a), some (.int (bef A i)), v3, v4] ∧ Same H H2) ⟨none, none, rfl, sm0⟩ (fun i σ H2 _ ⟨_, _, _, sm⟩ => SqT.of (sm _ _ hA)) ?_ ?_⟩
    · rintro i x T σ H2 hi ⟨v3, v4, rfl, sm⟩ hT
      obtain ⟨d, hd, rfl⟩ := nV_get hi
      have hdl := ok.lt d (List.mem_of_getElem? hd)
      have hb := bef_lt ok.asc hd
      refine ⟨_, _, rfl, SqT.of upd_same, rfl, _, _, rfl, _, _, rfl, rfl, ?_⟩
      refine ⟨_, rfl, _, rfl, _, _, rfl, rfl, _, rfl, _, _, rfl, rfl, _, _, _, rfl, ?_⟩
      rw [decide_eq_true ⟨hb, by omega⟩]
      refine ⟨_, rfl, iteF ?_⟩
      refine ⟨_, rfl, some (.int (i : Nat)), some (.int (d : Nat)), ?_, same_upd sm (sm.free hT)⟩
      have e : bef A (i + 1) = (d : Int) := by
        show ((A.getD i 0 : Nat) : Int) = (d : Int)
        rw [List.getD_eq_getElem?_getD, hd, Option.getD_some]
      rw [e]
      rfl
    · rintro σ H2 ⟨v3, v4, rfl, sm⟩
      exact k H2 sm
/-- {member: True for member in members}: what is left to be shown -/
theorem known_rd {A : List Nat} {a D : Addr} {H1 : Hp} {g : TG} {tt : TT} {tk tv : TE} {vs : List Nat} {σ : L2.St} {Qd : Hp → Prop} (hA : H1 a = some (.tup (nV A))) (hD : H1 D = none) (hl : A.length ≤ 1000)
    (hs : ∀ (i d : Nat) (H2 : Hp), A[i]? = some d → Same H1 H2 → ∀ R : Hp → Prop, (∃ kvs, H2 D = some (.dK kvs) ∧ kvs.length < sizeLine ∧ R (upd H2 D (.dK (putK kvs (Sum.inl (d : Int)) (.bl true))))) →
      g (.int (d : Nat)) (wipe σ vs) H2 fun σ2 H2 => wipe σ2 vs = wipe σ vs ∧ tt σ2 H2 fun b H3 => if b = true then tk σ2 H3 fun y H4 => tv σ2 H4 fun z H5 => ∃ kvs k, y = kV k ∧ H5 D = some (.dK kvs) ∧ kvs.length < sizeLine ∧ R (upd H5 D (.dK (putK kvs k z))) else R H3)
    (hd : ∀ H2 kn, Same H1 H2 → H2 D = some (.dK kn) → Knows kn A → Qd H2) :
    ∃ W : Nat → Nat → Hp → Prop, (∃ m, W 0 m (upd H1 D (.dK []))) ∧ ∀ i m H, W i m H →
      ((Itt K a).stop i H ∧ Qd H) ∨ ((Itt K a).go i H ∧ ∃ Nx : Hp → Prop, (∀ H', Nx H' → ∃ m', m' < m ∧ W (i + 1) m' H') ∧ ∀ x H', (Itt K a).yld i H x H' → g x (wipe σ vs) H' fun σ2 H2 => wipe σ2 vs = wipe σ vs ∧ tt σ2 H2 fun b H3 =>
        if b = true then tk σ2 H3 fun y H4 => tv σ2 H4 fun z H5 => ∃ kvs k, y = kV k ∧ H5 D = some (.dK kvs) ∧ kvs.length < sizeLine ∧ Nx (upd H5 D (.dK (putK kvs k z))) else Nx H3) := by
  refine dc_tup (K := K) (a := a) (xs := nV A) (fun i H2 => Same H1 H2 ∧ ∃ kn, H2 D = some (.dK kn) ∧ Knows kn (A.take i)) ⟨same_upd (.refl _) hD, [], upd_same, fun r => by rw [List.take_zero]; rfl, Nat.zero_le _⟩ (fun i H2 _ h => SqT.of (h.1 _ _ hA)) ?_ ?_
  · rintro i x H2 hi ⟨sm, kn, hk, kw⟩
    obtain ⟨d, hd', rfl⟩ := nV_get hi
    have hil : i < A.length := (List.getElem?_eq_some_iff.mp hd').1
    refine hs i d H2 hd' sm _ ⟨kn, hk, small1000 (by have := kw.2; rw [List.length_take] at this; omega), same_upd sm hD, _, upd_same, fun r => ?_, ?_⟩
    · rw [valV_put, List.take_succ, hd', Option.toList_some, List.contains_eq_mem, ← List.contains_eq_mem]
      by_cases e : r = d
      · subst e
        rw [if_pos rfl]
        simp
      · rw [if_neg (by intro z; injection z with z; omega), kw.1 r]
        simp [e]
    · have h1 := length_putK kn (Sum.inl (d : Int)) (.bl true)
      have h2 := kw.2
      rw [List.length_take] at h2 ⊢
      omega
  · rintro H2 ⟨sm, kn, hk, kw⟩
    rw [nV_len, List.take_length] at kw
    exact hd H2 kn sm hk kw
end
end Tf

/-! ## TfCell2 -/
set_option Elab.async false
set_option linter.all false
set_option maxRecDepth 100000
set_option maxHeartbeats 4000000
/-! The module cells, further. -/
namespace Tf
open PySem PySem.Spec PyProof.Rows L2
section
variable {P : Program} {w : World} {K : PySem.W.Frag} {mg : Str → Option Value} {base : Heap}
theorem scSpoil : FnScope ["modulus", "members", "known", "low", "middle", "high", "member"] ["modulus", "members"] (defScope tSpoil) := ⟨rfl, rfl, rfl, by decide +kernel, rfl, by decide +kernel, by decide +kernel⟩
theorem ok_spoil {f : Addr} {fd : FuncData} (F : Fun K "spoiling_triple" "spoiling_triple" tSpoil f fd) (B : Blt mg) : FnOk P w K mg base CX0 1 f fd ["modulus", "members"] spSpoil := by
  refine F.ok scSpoil (fun vs H Q E h => ?_) (fun cdv Ar outer s H vs Q E hr h => ?_)
  · obtain ⟨a, N, A, rfl, _⟩ := h; rfl
  · obtain ⟨a, N, A, rfl, hA, ok, k⟩ := h
    have nd := scSpoil.nd
    have hu := hu_of hr
    refine ⟨_, pss_cons (ps_setDc (i := 2) (own := [("member", 6)]) (g := gName 6) (tt := tYes) (by rfl) nd rfl rfl (sw_trueD rfl rfl rfl (by decide +kernel)) (pi_tup (pv 1)) (blkOk_by (own := [("member", 6)]) (N := ["modulus", "members", "known", "low", "middle", "high", "member"]) (sc := defScope tSpoil) (by decide +kernel))
        (fun _ _ _ _ _ => pg_name (i := 6) nd rfl (Or.inl rfl)) (fun _ _ _ _ _ => pts_nil) (fun _ _ _ _ _ => pv 6) (fun _ _ _ _ _ => pe_bl))
      (pss_cons (ps_for PassesOwn.never rfl (pi_tup (pv 1)) (pg_name (i := 3) nd rfl (.inl rfl))
        (pss_one (ps_for PassesOwn.never rfl (pi_tup (pv 1)) (pg_name (i := 4) nd rfl (.inl rfl))
          (pss_cons (ps_set (i := 5) nd rfl (.inl rfl) (pe_op op_mod (pe_op op_sub (pe_op op_mul pe_int (pv 4)) (pv 3)) (pv 0)))
          (pss_one (ps_if (PW.pt (pw_and (pt_cmpR op_ne (pv 3) (pv 4) (nomark _)) (pw_and1 (pt_cmp (pc_din hu (pv 5) (pv 2)))))) (pss_one ps_never) pss_nil))))))
      (pss_one (ps_ret pe_non))), ?_⟩
    refine ⟨_, rfl, a, rfl, ⟨_, SqT.of hA⟩, fun D hD => ?_⟩
    refine known_rd hA hD (by have := ok.len; omega) (fun i d H2 hd sm R ⟨kvs, h1, h2, h3⟩ => ?_) (fun H1 kn sm hk kw => ?_)
    · exact ⟨rfl, _, rfl, kvs, Sum.inl (d : Int), rfl, h1, h2, h3⟩
    · refine ⟨_, rfl, a, rfl, ⟨_, SqT.of (sm _ _ hA)⟩, ?_⟩
      refine for_tup (K := K) (a := a) (xs := nV A) (fun i σ H2 => ∃ v3 v4 v5, σ = [some (.int (N : Nat)), some (.ref a), some (.ref D), v3, v4, v5, none] ∧ H1 = H2) ⟨none, none, none, rfl, rfl⟩ (fun i σ H2 _ ⟨_, _, _, _, e⟩ => by rw [← e]; exact SqT.of (sm _ _ hA)) ?_ ?_
      · rintro i x σ H2 hi ⟨v3, v4, v5, rfl, rfl⟩
        obtain ⟨lo, hlo, rfl⟩ := nV_get hi
        have mlo := List.mem_of_getElem? hlo
        refine ⟨_, rfl, a, rfl, ⟨_, SqT.of (sm _ _ hA)⟩, ?_⟩
        refine for_tup (K := K) (a := a) (xs := nV A) (fun j σ H3 => ∃ v4 v5, σ = [some (.int (N : Nat)), some (.ref a), some (.ref D), some (.int (lo : Nat)), v4, v5, none] ∧ H1 = H3) ⟨v4, v5, rfl, rfl⟩ (fun i σ H2 _ ⟨_, _, _, e⟩ => by rw [← e]; exact SqT.of (sm _ _ hA)) ?_ ?_
        · rintro j y σ H3 hj ⟨v4, v5, rfl, rfl⟩
          obtain ⟨mi, hmi, rfl⟩ := nV_get hj
          have mmi := List.mem_of_getElem? hmi
          have l1 := ok.lt lo mlo
          have l2 := ok.lt mi mmi
          have hp := ok.pos
          refine ⟨_, rfl, _, _, rfl, rfl, .inl ⟨by decide, by decide⟩, _, rfl, _, _, rfl, rfl, _, rfl, _, _, rfl, rfl, (by show (0 : Int) < (N : Int); omega), ?_⟩
          refine ⟨_, rfl, _, rfl, rfl, _, rfl, ?_⟩
          refine ite2 (fun hc => ?_) (fun hc => iteF ⟨_, _, rfl, rfl⟩)
          have hne : lo ≠ mi := fun e => by
            subst e
            exact absurd hc (by simp)
          have e1 : (2 * (mi : Int) - (lo : Int)) % (N : Int) = (((2 * mi + N - lo) % N : Nat) : Int) := by
            have : ((2 * mi + N - lo : Nat) : Int) = (2 * (mi : Int) - (lo : Int)) + (N : Int) := by omega
            rw [Int.natCast_emod, this, Int.add_emod_right]
          refine ⟨_, rfl, _, rfl, D, _, rfl, DGet.k (k := Sum.inl ((2 * (mi : Int) - (lo : Int)) % (N : Int))) hk, _, rfl, ?_⟩
          rw [e1, kw.1, List.contains_eq_mem, decide_eq_false (ok.free lo mlo mi mmi hne)]
          exact iteF ⟨_, _, rfl, rfl⟩
        · rintro σ H3 ⟨v4, v5, rfl, rfl⟩
          exact ⟨_, _, _, rfl, rfl⟩
      · rintro σ H2 ⟨v3, v4, v5, rfl, rfl⟩
        exact k _ sm
end
end Tf

/-! ## TfCell3 -/
set_option Elab.async false
set_option linter.all false
set_option maxRecDepth 100000
set_option maxHeartbeats 4000000
/-! The module cells: serving_table, unserved_remainder. -/
namespace Tf
open PySem PySem.Spec PyProof.Rows L2
/-- what stands in the table is so -/
def TSound (N : Nat) (A : List Nat) (tb : List (Key × V)) (H : Hp) : Prop := ∀ (r : Nat) v, valV tb (Sum.inl (r : Int)) = some v → ∃ (t : Addr) (c lo mi : Nat), v = .ref t ∧ H t = some (.tup [.int (c : Nat), .int (lo : Nat), .int (mi : Nat)]) ∧ Rules N A r c lo mi
theorem TSound.mono {N : Nat} {A : List Nat} {tb : List (Key × V)} {H H' : Hp} (h : TSound N A tb H) (sm : Same H H') : TSound N A tb H' := fun r v e => by
  obtain ⟨t, c, lo, mi, e1, e2, e3⟩ := h r v e
  exact ⟨t, c, lo, mi, e1, sm _ _ e2, e3⟩
structure TableOk (N : Nat) (A : List Nat) (tb : List (Key × V)) (H : Hp) : Prop where
  sound : TSound N A tb H
  all : ∀ r < N, r ∉ A → (valV tb (Sum.inl (r : Int))).isSome = true
/-- all pairs ahead of (i, j) have been looked at -/
def Cov (N : Nat) (A : List Nat) (tb : List (Key × V)) (i j : Nat) : Prop := ∀ i' j' lo mi c r : Nat, A[i']? = some lo → A[j']? = some mi → (i' < i ∨ i' = i ∧ j' < j) → lo < mi → 2 * mi = lo + r + c * N → r < N → (c = 0 ∨ r < top A) → (valV tb (Sum.inl (r : Int))).isSome = true
theorem Cov.put {N : Nat} {A : List Nat} {tb : List (Key × V)} {i j : Nat} {k : Key} {v : V} (h : Cov N A tb i j) : Cov N A (putK tb k v) i j := fun i' j' lo mi c r a1 a2 a3 a4 a5 a6 a7 => by
  rw [valV_put]
  split
  · rfl
  · exact h i' j' lo mi c r a1 a2 a3 a4 a5 a6 a7
theorem Cov.next {N : Nat} {A : List Nat} {tb : List (Key × V)} {i : Nat} (h : Cov N A tb i A.length) : Cov N A tb (i + 1) 0 := fun i' j' lo mi c r a1 a2 a3 a4 a5 a6 a7 => by
  refine h i' j' lo mi c r a1 a2 ?_ a4 a5 a6 a7
  have := (List.getElem?_eq_some_iff.mp a2).1
  omega
theorem Cov.ok {N : Nat} {A : List Nat} {tb : List (Key × V)} {H : Hp} (C : CellOk N A) (s : TSound N A tb H) (h : Cov N A tb A.length 0) : TableOk N A tb H := ⟨s, fun r hr hn => by
  obtain ⟨c, a, b, R⟩ := C.served r hr hn
  obtain ⟨i, hi, ei⟩ := List.mem_iff_getElem.mp R.ha
  obtain ⟨j, hj, ej⟩ := List.mem_iff_getElem.mp R.hb
  exact h i j a b c r (by rw [List.getElem?_eq_getElem hi, ei]) (by rw [List.getElem?_eq_getElem hj, ej]) (.inl hi) R.lt R.eq hr R.ok⟩
def spTable : Sp := fun vs H Q _ => ∃ (a : Addr) (N : Nat) (A : List Nat), vs = [.int (N : Nat), .ref a] ∧ H a = some (.tup (nV A)) ∧ CellArg N A ∧ ∀ d tb H', Same H H' → H d = none → H' d = some (.dK tb) → TableOk N A tb H' → Q (.ref d) H'
section
variable {P : Program} {w : World} {K : PySem.W.Frag} {mg : Str → Option Value} {base : Heap}
theorem scTable : FnScope ["modulus", "members", "found", "most", "low", "middle", "carry", "rest"] ["modulus", "members"] (defScope tTable) := ⟨rfl, rfl, rfl, by decide +kernel, rfl, by decide +kernel, by decide +kernel⟩
theorem ok_table {f : Addr} {fd : FuncData} (F : Fun K "serving_table" "serving_table" tTable f fd) (B : Blt mg) : FnOk P w K mg base CX0 1 f fd ["modulus", "members"] spTable := by
  refine F.ok scTable (fun vs H Q E h => ?_) (fun cdv Ar outer s H vs Q E hr h => ?_)
  · obtain ⟨a, N, A, rfl, _⟩ := h; rfl
  · obtain ⟨a, N, A, rfl, hA, ok, k⟩ := h
    have nd := scTable.nd
    have hu := hu_of hr
    refine ⟨_, pss_cons (ps_par (i := 2) (j := 3) (by rfl) nd rfl rfl (by decide) rfl rfl (pa_cons pe_dnewK (pa_cons (pe_callB (cr_maxT (by rfl)) (by rfl) B.max PyProof.Rows.boot_max (pa_cons (pv 1) pa_nil)) pa_nil)) (by rfl))
      (pss_cons (ps_for PassesOwn.never rfl (pi_tup (pv 1)) (pg_name (i := 4) nd rfl (.inl rfl))
        (pss_one (ps_for PassesOwn.never rfl (pi_tup (pv 1)) (pg_name (i := 5) nd rfl (.inl rfl))
          (pss_cons (ps_par (i := 6) (j := 7) (by rfl) nd rfl rfl (by decide) rfl rfl (pa_cons (pe_op op_fdiv (pe_op op_sub (pe_op op_mul pe_int (pv 5)) (pv 4)) (pv 0)) (pa_cons (pe_op op_mod (pe_op op_sub (pe_op op_mul pe_int (pv 5)) (pv 4)) (pv 0)) pa_nil)) (by rfl))
          (pss_one (ps_if (PW.pt (pw_and (pt_cmpR op_lt (pv 4) (pv 5) (nomark _)) (pw_and1 (PW.pt (pw_or (pt_cmpR op_eq (pv 6) pe_int (nomark _)) (pw_or1 (pt_cmpR op_lt (pv 7) (pv 3) (nomark _))))))))
            (pss_one (ps_if (PW.pt (pw_or (pt_cmp (pc_dnotin hu (pv 7) (pv 2))) (pw_or1 (pt_cmpR op_lt (pv 6) (pe_ix ix_tup (pe_dget hu (pv 2) (pv 7) (fun _ _ => rfl)) pe_int (fun _ _ => rfl)) (nomark _)))))
              (pss_one (ps_dput hu (pv 2) (pv 7) (pe_tup (pa_cons (pv 6) (pa_cons (pv 4) (pa_cons (pv 5) pa_nil)))) rfl)) pss_nil)) pss_nil))))))
      (pss_one (ps_ret (pv 2)))), ?_⟩
    intro d hd
    have hAd : ∀ u, upd H d u a = some (.tup (nV A)) := fun u => by rw [upd_ne (ne_of_none hA hd)]; exact hA
    have eI : nV A = (A.map fun n : Nat => (n : Int)).map V.int := by unfold nV; rw [List.map_map]; rfl
    refine ⟨_, rfl, a, A.map fun n : Nat => (n : Int), rfl, SqT.of (by rw [← eI]; exact hAd _), by rw [List.length_map]; exact List.length_pos_iff.mpr ok.ne, fun m hm hle => ?_⟩
    have em : m = (top A : Int) := by
      obtain ⟨m', hm', rfl⟩ := List.mem_map.mp hm
      have h1 := le_top ok.asc m' hm'
      have h2 := hle (top A : Nat) (List.mem_map.mpr ⟨_, top_mem ok.ne, rfl⟩)
      have h2 : ((top A : Nat) : Int) ≤ (m' : Int) := h2
      omega
    subst em
    refine ⟨_, _, rfl, ?_⟩
    have hNp := ok.pos
    have hN2 := ok.le
    have hlen := ok.len
    refine ⟨_, rfl, a, rfl, ⟨_, SqT.of (hAd _)⟩, ?_⟩
    refine for_tup (K := K) (a := a) (xs := nV A) (fun i σ H2 => ∃ tb v4 v5 v6 v7, σ = [some (.int (N : Nat)), some (.ref a), some (.ref d), some (.int (top A : Nat)), v4, v5, v6, v7] ∧ Same H H2 ∧ H2 d = some (.dK tb) ∧ TSound N A tb H2 ∧ Cov N A tb i 0 ∧ tb.length ≤ i * 256)
      ⟨[], none, none, none, none, rfl, same_upd (.refl _) hd, upd_same, (fun r v e => by cases e), (fun i' j' lo mi c r _ _ h => by omega), Nat.zero_le _⟩ (fun i σ H2 _ ⟨_, _, _, _, _, _, sm, _⟩ => SqT.of (sm _ _ hA)) ?_ ?_
    · rintro i x σ H2 hi ⟨tb, v4, v5, v6, v7, rfl, sm, hd2, snd, cov, hl⟩
      obtain ⟨lo, hlo, rfl⟩ := nV_get hi
      have mlo := List.mem_of_getElem? hlo
      have hil : i < A.length := (List.getElem?_eq_some_iff.mp hlo).1
      refine ⟨_, rfl, a, rfl, ⟨_, SqT.of (sm _ _ hA)⟩, ?_⟩
      refine for_tup (K := K) (a := a) (xs := nV A) (fun j σ H3 => ∃ tb v5 v6 v7, σ = [some (.int (N : Nat)), some (.ref a), some (.ref d), some (.int (top A : Nat)), some (.int (lo : Nat)), v5, v6, v7] ∧ Same H H3 ∧ H3 d = some (.dK tb) ∧ TSound N A tb H3 ∧ Cov N A tb i j ∧ tb.length ≤ i * 256 + j)
        ⟨tb, v5, v6, v7, rfl, sm, hd2, snd, cov, hl⟩ (fun j σ H3 _ ⟨_, _, _, _, _, sm, _⟩ => SqT.of (sm _ _ hA)) ?_ ?_
      · rintro j y σ H3 hj ⟨tb, v5, v6, v7, rfl, sm, hd2, snd, cov, hl⟩
        obtain ⟨mi, hmi, rfl⟩ := nV_get hj
        have mmi := List.mem_of_getElem? hmi
        have hjl : j < A.length := (List.getElem?_eq_some_iff.mp hmi).1
        have l1 := ok.lt lo mlo
        have l2 := ok.lt mi mmi
        refine ⟨_, rfl, _, _, rfl, rfl, .inl ⟨by decide, by decide⟩, _, rfl, _, _, rfl, rfl, _, rfl, _, _, rfl, rfl, ⟨by omega, by omega⟩, ?_⟩
        refine ⟨_, rfl, _, _, rfl, rfl, .inl ⟨by decide, by decide⟩, _, rfl, _, _, rfl, rfl, _, rfl, _, _, rfl, rfl, (by show (0 : Int) < (N : Int); omega), _, _, rfl, ?_⟩
        refine ⟨_, rfl, _, rfl, _, _, rfl, rfl, _, rfl, ?_⟩
        -- what stays if nothing is stored
        have stay : (∀ c r : Nat, lo < mi → 2 * mi = lo + r + c * N → r < N → (c = 0 ∨ r < top A) → (valV tb (Sum.inl (r : Int))).isSome = true) → Cov N A tb i (j + 1) := fun g i' j' lo' mi' c r a1 a2 a3 a4 a5 a6 a7 => by
          rcases a3 with a3 | ⟨a3, a3'⟩
          · exact cov i' j' lo' mi' c r a1 a2 (.inl a3) a4 a5 a6 a7
          · by_cases e : j' < j
            · exact cov i' j' lo' mi' c r a1 a2 (.inr ⟨a3, e⟩) a4 a5 a6 a7
            · have e : j' = j := by omega
              subst e a3
              rw [hlo] at a1
              rw [hmi] at a2
              cases a1
              cases a2
              exact g c r a4 a5 a6 a7
        by_cases hlt : lo < mi
        · obtain ⟨c, r, hz, hr, e1, e2⟩ : ∃ c r : Nat, 2 * mi = lo + r + c * N ∧ r < N ∧ (2 * (mi : Int) - (lo : Int)) / (N : Int) = (c : Int) ∧ (2 * (mi : Int) - (lo : Int)) % (N : Int) = (r : Int) := by
            have dm := Nat.div_add_mod (2 * mi - lo) N
            have e0 : 2 * (mi : Int) - (lo : Int) = ((2 * mi - lo : Nat) : Int) := by omega
            refine ⟨(2 * mi - lo) / N, (2 * mi - lo) % N, ?_, Nat.mod_lt _ hNp, by rw [e0]; rfl, by rw [e0]; rfl⟩
            rw [Nat.mul_comm] at dm
            omega
          simp only [e1, e2]
          have uniq : ∀ c' r' : Nat, 2 * mi = lo + r' + c' * N → r' < N → c' = c ∧ r' = r := fun c' r' h1 h2 => by
            have h3 : r' + c' * N = r + c * N := by omega
            have m1 := congrArg (· % N) h3
            have m2 : r' = r := by simpa [Nat.add_mul_mod_self_right, Nat.mod_eq_of_lt h2, Nat.mod_eq_of_lt hr] using m1
            subst m2
            exact ⟨Nat.eq_of_mul_eq_mul_right hNp (by omega), rfl⟩
          have stay2 : ((c = 0 ∨ r < top A) → (valV tb (Sum.inl (r : Int))).isSome = true) → Cov N A tb i (j + 1) := fun g => stay fun c' r' _ h2 h3 h4 => by
            obtain ⟨rfl, rfl⟩ := uniq c' r' h2 h3
            exact g h4
          refine ite2 (fun _ => ?_) (fun hn => absurd (decide_eq_true (show (lo : Int) < (mi : Int) by omega)) hn)
          refine ⟨_, rfl, rfl, _, rfl, ?_⟩
          by_cases hok : c = 0 ∨ r < top A
          · have bound : tb.length + 1 ≤ i * 256 + (j + 1) := by omega
            have b2 : i * 256 + (j + 1) ≤ 65536 := by omega
            have put : ∀ (t : Addr), H3 t = none → ∃ tb' v5' v6' v7', ([some (V.int (N : Nat)), some (V.ref a), some (V.ref d), some (V.int (top A : Nat)), some (V.int (lo : Nat)), some (V.int (mi : Nat)), some (V.int (c : Nat)), some (V.int (r : Nat))] : L2.St) = [some (.int (N : Nat)), some (.ref a), some (.ref d), some (.int (top A : Nat)), some (.int (lo : Nat)), v5', v6', v7'] ∧
                Same H (upd (upd H3 t (.tup [.int (c : Nat), .int (lo : Nat), .int (mi : Nat)])) d (.dK (putK tb (Sum.inl (r : Int)) (.ref t)))) ∧ upd (upd H3 t (.tup [.int (c : Nat), .int (lo : Nat), .int (mi : Nat)])) d (.dK (putK tb (Sum.inl (r : Int)) (.ref t))) d = some (.dK tb') ∧ TSound N A tb' (upd (upd H3 t (.tup [.int (c : Nat), .int (lo : Nat), .int (mi : Nat)])) d (.dK (putK tb (Sum.inl (r : Int)) (.ref t)))) ∧ Cov N A tb' i (j + 1) ∧ tb'.length ≤ i * 256 + (j + 1) := fun t ht => by
              have ntd : t ≠ d := (ne_of_none hd2 ht).symm
              refine ⟨putK tb (Sum.inl (r : Int)) (.ref t), _, _, _, rfl, same_upd (same_upd sm (sm.free ht)) hd, upd_same, fun r' v e => ?_, ?_, Nat.le_trans (length_putK ..) bound⟩
              · rw [valV_put] at e
                by_cases er : (Sum.inl (r' : Int) : Key) = Sum.inl (r : Int)
                · rw [if_pos er] at e
                  cases e
                  have er : r' = r := by injection er with er; omega
                  subst er
                  exact ⟨t, c, lo, mi, rfl, by rw [upd_ne ntd, upd_same], mlo, mmi, hlt, hz, hok⟩
                · rw [if_neg er] at e
                  obtain ⟨t', c', lo', mi', rfl, e2, R⟩ := snd r' v e
                  have : t' ≠ d := fun z => by subst z; rw [hd2] at e2; cases e2
                  exact ⟨t', c', lo', mi', rfl, by rw [upd_ne this, upd_ne (ne_of_none e2 ht)]; exact e2, R⟩
              · refine fun i' j' lo' mi' c' r' a1 a2 a3 a4 a5 a6 a7 => ?_
                rw [valV_put]
                split
                · rfl
                · rename_i hne
                  rcases a3 with a3 | ⟨a3, a3'⟩
                  · exact cov i' j' lo' mi' c' r' a1 a2 (.inl a3) a4 a5 a6 a7
                  · by_cases e : j' < j
                    · exact cov i' j' lo' mi' c' r' a1 a2 (.inr ⟨a3, e⟩) a4 a5 a6 a7
                    · have e : j' = j := by omega
                      subst e a3
                      rw [hlo] at a1
                      rw [hmi] at a2
                      cases a1
                      cases a2
                      obtain ⟨rfl, rfl⟩ := uniq c' r' a5 a6
                      exact absurd rfl hne
            have hg := DGet.k (k := Sum.inl (r : Int)) hd2
            by_cases hc0 : c = 0
            · refine ite2 (fun _ => ?_) (fun hn => absurd (decide_eq_true (show V.int (c : Int) = V.int 0 by rw [hc0]; rfl)) hn)
              refine ⟨_, rfl, _, rfl, d, _, rfl, hg, _, rfl, ?_⟩
              cases eo : valV tb (Sum.inl (r : Int) : Key) with
              | none =>
                refine iteT ?_
                refine ⟨_, rfl, _, rfl, _, rfl, by show 3 ≤ sizeLine; decide, fun t ht => ?_⟩
                exact ⟨_, rfl, _, rfl, d, _, rfl, DPut.k (k := Sum.inl (r : Int)) (by rw [upd_ne (ne_of_none hd2 ht)]; exact hd2) (by show tb.length < 2 ^ 24; omega), put t ht⟩
              | some v =>
                refine iteF ?_
                obtain ⟨t', c', lo', mi', rfl, e3, R⟩ := snd r v eo
                rw [eo] at hg
                refine ⟨_, rfl, _, rfl, _, rfl, d, _, rfl, hg, t', _, _, _, rfl, rfl, SqT.of e3, rfl, _, _, rfl, rfl, _, rfl, ?_⟩
                refine ite2 (fun _ => ?_) (fun _ => ?_)
                · refine ⟨_, rfl, _, rfl, _, rfl, by show 3 ≤ sizeLine; decide, fun t ht => ?_⟩
                  exact ⟨_, rfl, _, rfl, d, _, rfl, DPut.k (k := Sum.inl (r : Int)) (by rw [upd_ne (ne_of_none hd2 ht)]; exact hd2) (by show tb.length < 2 ^ 24; omega), put t ht⟩
                · exact ⟨tb, _, _, _, rfl, sm, hd2, snd, stay2 fun _ => by rw [eo]; rfl, by omega⟩
            · refine ite2 (fun he => absurd (of_decide_eq_true he) (fun z => hc0 (by injection z with z; omega))) (fun _ => ?_)
              refine ⟨_, rfl, _, rfl, _, _, rfl, rfl, _, rfl, ?_⟩
              refine ite2 (fun _ => ?_) (fun hn => absurd (decide_eq_true (show (r : Int) < (top A : Int) by omega)) hn)
              refine ⟨_, rfl, _, rfl, d, _, rfl, hg, _, rfl, ?_⟩
              cases eo : valV tb (Sum.inl (r : Int) : Key) with
              | none =>
                refine iteT ?_
                refine ⟨_, rfl, _, rfl, _, rfl, by show 3 ≤ sizeLine; decide, fun t ht => ?_⟩
                exact ⟨_, rfl, _, rfl, d, _, rfl, DPut.k (k := Sum.inl (r : Int)) (by rw [upd_ne (ne_of_none hd2 ht)]; exact hd2) (by show tb.length < 2 ^ 24; omega), put t ht⟩
              | some v =>
                refine iteF ?_
                obtain ⟨t', c', lo', mi', rfl, e3, R⟩ := snd r v eo
                rw [eo] at hg
                refine ⟨_, rfl, _, rfl, _, rfl, d, _, rfl, hg, t', _, _, _, rfl, rfl, SqT.of e3, rfl, _, _, rfl, rfl, _, rfl, ?_⟩
                refine ite2 (fun _ => ?_) (fun _ => ?_)
                · refine ⟨_, rfl, _, rfl, _, rfl, by show 3 ≤ sizeLine; decide, fun t ht => ?_⟩
                  exact ⟨_, rfl, _, rfl, d, _, rfl, DPut.k (k := Sum.inl (r : Int)) (by rw [upd_ne (ne_of_none hd2 ht)]; exact hd2) (by show tb.length < 2 ^ 24; omega), put t ht⟩
                · exact ⟨tb, _, _, _, rfl, sm, hd2, snd, stay2 fun _ => by rw [eo]; rfl, by omega⟩
          · refine ite2 (fun he => absurd (of_decide_eq_true he) (fun z => hok (.inl (by injection z with z; omega)))) (fun _ => ?_)
            refine ⟨_, rfl, _, rfl, _, _, rfl, rfl, _, rfl, ?_⟩
            refine ite2 (fun he => absurd (of_decide_eq_true he) (fun z => hok (.inr (by omega)))) (fun _ => ?_)
            exact ⟨tb, _, _, _, rfl, sm, hd2, snd, stay2 fun z => absurd z hok, by omega⟩
        · refine ite2 (fun he => absurd (of_decide_eq_true he) (by omega)) (fun _ => ?_)
          exact iteF ⟨tb, _, _, _, rfl, sm, hd2, snd, stay fun _ _ z => absurd z hlt, by omega⟩
      · rintro σ H3 ⟨tb, v5, v6, v7, rfl, sm, hd2, snd, cov, hl⟩
        rw [nV_len] at cov hl
        exact ⟨tb, _, _, _, _, rfl, sm, hd2, snd, cov.next, by omega⟩
    · rintro σ H2 ⟨tb, v4, v5, v6, v7, rfl, sm, hd2, snd, cov, hl⟩
      rw [nV_len] at cov
      exact ⟨_, rfl, k d tb H2 sm hd hd2 (cov.ok ok.toCellOk snd)⟩
end
end Tf

/-! ## TfCell4 -/
set_option Elab.async false
set_option linter.all false
set_option maxRecDepth 100000
set_option maxHeartbeats 4000000
/-! The class Cell. -/
namespace Tf
open PySem PySem.Spec PyProof.Rows L2

def cellF (d m k : Addr) (N : Nat) : List (Str × V) := putF "known" (.ref k) (putF "own_members" (.ref m) (putF "own_modulus" (.int (N : Nat)) (putF "table" (.ref d) [])))
theorem cellF_eq (d m k : Addr) (N : Nat) : cellF d m k N = ([("table", .ref d), ("own_modulus", .int (N : Nat)), ("own_members", .ref m), ("known", .ref k)] : List (Str × V)) := by
  unfold cellF
  have h1 : ¬ (("table" : Str) = "own_modulus") := by decide +kernel
  have h2 : ¬ (("table" : Str) = "own_members") := by decide +kernel
  have h3 : ¬ (("table" : Str) = "known") := by decide +kernel
  have h4 : ¬ (("own_modulus" : Str) = "own_members") := by decide +kernel
  have h5 : ¬ (("own_modulus" : Str) = "known") := by decide +kernel
  have h6 : ¬ (("own_members" : Str) = "known") := by decide +kernel
  simp only [putF, if_neg h1, if_neg h2, if_neg h3, if_neg h4, if_neg h5, if_neg h6]
theorem cellF_T (d m k : Addr) (N : Nat) : (cellF d m k N).lookup ("table" : Str) = some (.ref d) := by
  rw [cellF_eq]; rfl
theorem cellF_M (d m k : Addr) (N : Nat) : (cellF d m k N).lookup ("own_modulus" : Str) = some (.int (N : Nat)) := by
  rw [cellF_eq]; rfl
theorem cellF_A (d m k : Addr) (N : Nat) : (cellF d m k N).lookup ("own_members" : Str) = some (.ref m) := by
  rw [cellF_eq]; rfl
theorem cellF_K (d m k : Addr) (N : Nat) : (cellF d m k N).lookup ("known" : Str) = some (.ref k) := by
  rw [cellF_eq]; rfl
def cellNames : List Str := ["table", "own_modulus", "own_members", "known"]
theorem cellF_no (d m k : Addr) (N : Nat) {x : Str} (h : x ∉ cellNames) : (cellF d m k N).lookup x = none := by
  rw [cellF_eq]
  simp only [cellNames, List.mem_cons, List.not_mem_nil, or_false, not_or] at h
  simp only [List.lookup_cons, List.lookup_nil]
  rw [show (x == ("table" : Str)) = false from by simpa using h.1, show (x == ("own_modulus" : Str)) = false from by simpa using h.2.1, show (x == ("own_members" : Str)) = false from by simpa using h.2.2.1, show (x == ("known" : Str)) = false from by simpa using h.2.2.2]
/-- which pair serves a remainder: carry, low, middle -/
abbrev Sv := Nat → Nat × Nat × Nat
/-- a Cell stands at p -/
structure CellAt (C : Addr) (H : Hp) (p : Addr) (N : Nat) (A : List Nat) (sv : Sv) : Prop where
  ob : ∃ (dx m d k : Addr) (tb kn : List (Key × V)), H p = some (.ins C dx (cellF d m k N)) ∧ H m = some (.tup (nV A)) ∧ H d = some (.dK tb) ∧ H k = some (.dK kn) ∧ Knows kn A ∧
    ∀ r < N, r ∉ A → ∃ t : Addr, valV tb (Sum.inl (r : Int)) = some (.ref t) ∧ H t = some (.tup [.int ((sv r).1 : Nat), .int ((sv r).2.1 : Nat), .int ((sv r).2.2 : Nat)])
  arg : CellArg N A
  sv : ∀ r < N, r ∉ A → Rules N A r (sv r).1 (sv r).2.1 (sv r).2.2
theorem CellAt.mono {C p : Addr} {H H' : Hp} {N : Nat} {A : List Nat} {sv : Sv} (c : CellAt C H p N A sv) (sm : Same H H') : CellAt C H' p N A sv := by
  obtain ⟨⟨dx, m, d, k, tb, kn, h1, h2, h3, h4, h5, h6⟩, h7, h8⟩ := c
  refine ⟨⟨dx, m, d, k, tb, kn, sm _ _ h1, sm _ _ h2, sm _ _ h3, sm _ _ h4, h5, fun r hr hn => ?_⟩, h7, h8⟩
  obtain ⟨t, e1, e2⟩ := h6 r hr hn
  exact ⟨t, e1, sm _ _ e2⟩
def spUnserved : Sp := fun vs H Q _ => ∃ (a d : Addr) (N : Nat) (A : List Nat) (tb : List (Key × V)), vs = [.int (N : Nat), .ref a, .ref d] ∧ H a = some (.tup (nV A)) ∧ H d = some (.dK tb) ∧ CellArg N A ∧ TableOk N A tb H ∧ ∀ H', Same H H' → Q .non H'
def spCInit (C : Addr) : Sp := fun vs H Q _ => ∃ (p dx a : Addr) (N : Nat) (A : List Nat), vs = [.ref p, .int (N : Nat), .ref a] ∧ H p = some (.ins C dx []) ∧ H a = some (.tup (nV A)) ∧ CellArg N A ∧
  ∀ sv H', CellAt C H' p N A sv → (∀ b o, H b = some o → b ≠ p → H' b = some o) → Q .non H'
/-- a method of one cell that reads it -/
def spC1 (C : Addr) (R : Hp → Addr → Nat → List Nat → Sv → VK → Prop) : Sp := fun vs H Q _ => ∃ (p : Addr) (N : Nat) (A : List Nat) (sv : Sv), vs = [.ref p] ∧ CellAt C H p N A sv ∧ R H p N A sv Q
/-- a method of one cell and a remainder -/
def spC2 (C : Addr) (R : Hp → Nat → Nat → List Nat → Sv → VK → Prop) : Sp := fun vs H Q _ => ∃ (p : Addr) (N : Nat) (A : List Nat) (sv : Sv) (r : Nat), vs = [.ref p, .int (r : Nat)] ∧ CellAt C H p N A sv ∧ r < N ∧ R H r N A sv Q
section
variable {P : Program} {w : World} {K : PySem.W.Frag} {mg : Str → Option Value} {base : Heap}
theorem scUnserved : FnScope ["modulus", "members", "table", "known", "rest", "member"] ["modulus", "members", "table"] (defScope tUnserved) := ⟨rfl, rfl, rfl, by decide +kernel, rfl, by decide +kernel, by decide +kernel⟩
theorem ok_unserved {f : Addr} {fd : FuncData} (F : Fun K "unserved_remainder" "unserved_remainder" tUnserved f fd) (B : Blt mg) : FnOk P w K mg base CX0 1 f fd ["modulus", "members", "table"] spUnserved := by
  refine F.ok scUnserved (fun vs H Q E h => ?_) (fun cdv Ar outer s H vs Q E hr h => ?_)
  · obtain ⟨a, d, N, A, tb, rfl, _⟩ := h; rfl
  · obtain ⟨a, d, N, A, tb, rfl, hA, hd, ok, tok, k⟩ := h
    have nd := scUnserved.nd
    have hu := hu_of hr
    refine ⟨_, pss_cons (ps_setDc (i := 3) (own := [("member", 5)]) (g := gName 5) (tt := tYes) (by rfl) nd rfl rfl (sw_trueD rfl rfl rfl (by decide +kernel)) (pi_tup (pv 1)) (blkOk_by (own := [("member", 5)]) (N := ["modulus", "members", "table", "known", "rest", "member"]) (sc := defScope tUnserved) (by decide +kernel))
        (fun _ _ _ _ _ => pg_name (i := 5) nd rfl (Or.inl rfl)) (fun _ _ _ _ _ => pts_nil) (fun _ _ _ _ _ => pv 5) (fun _ _ _ _ _ => pe_bl))
      (pss_cons (ps_for PassesOwn.never rfl (pi_range1 (by rfl) B.range (pa_cons (pv 0) pa_nil)) (pg_name (i := 4) nd rfl (.inl rfl))
        (pss_one (ps_if (PW.pt (pw_and (pt_cmp (pc_dnotin hu (pv 4) (pv 3))) (pw_and1 (pt_cmp (pc_dnotin hu (pv 4) (pv 2)))))) (pss_one ps_never) pss_nil)))
      (pss_one (ps_ret pe_non))), ?_⟩
    refine ⟨_, rfl, a, rfl, ⟨_, SqT.of hA⟩, fun D hD => ?_⟩
    refine known_rd hA hD (by have := ok.len; omega) (fun i d H2 hd sm R ⟨kvs, h1, h2, h3⟩ => ?_) (fun H1 kn sm hk kw => ?_)
    · exact ⟨rfl, _, rfl, kvs, Sum.inl (d : Int), rfl, h1, h2, h3⟩
    · have b := pow62 (n := N) (by have := ok.le; omega)
      refine ⟨_, rfl, _, rfl, b.1, b.2, for_range (fun i σ H2 => ∃ v4, σ = [some (.int (N : Nat)), some (.ref a), some (.ref d), some (.ref D), v4, none] ∧ H1 = H2) ⟨none, rfl, rfl⟩ ?_ ?_⟩
      · rintro i σ H2 hi ⟨v4, rfl, rfl⟩
        have hi' : i < N := by simpa using hi
        have e0 : (0 : Int) + (i : Int) = (i : Int) := by omega
        rw [e0]
        refine ⟨_, rfl, _, rfl, D, _, rfl, DGet.k (k := Sum.inl (i : Int)) hk, _, rfl, ?_⟩
        rw [kw.1]
        by_cases hm : i ∈ A
        · rw [List.contains_iff_mem.mpr hm]
          exact iteF (iteF ⟨_, rfl, rfl⟩)
        · rw [List.contains_eq_mem, decide_eq_false hm]
          refine iteT ?_
          refine ⟨_, rfl, _, rfl, d, _, rfl, DGet.k (k := Sum.inl (i : Int)) (sm _ _ hd), _, rfl, ?_⟩
          rw [tok.all i hi' hm]
          exact iteF ⟨_, rfl, rfl⟩
      · rintro σ H2 ⟨v4, rfl, rfl⟩
        exact k _ sm
theorem scCInit : FnScope ["self", "modulus", "members", "triple", "rest", "member"] ["self", "modulus", "members"] (defScope tcInit) := ⟨rfl, rfl, rfl, by decide +kernel, rfl, by decide +kernel, by decide +kernel⟩
theorem ok_cinit {f C : Addr} {fd : FuncData} (F : Fun K "__init__" "Cell.__init__" tcInit f fd) (B : Blt mg) (T : CellC K mg C) (GS : Fn P w K mg base "check_shape" 2 ["modulus", "members"] [] spShape) (GP : Fn P w K mg base "spoiling_triple" 1 ["modulus", "members"] [] spSpoil)
    (GT : Fn P w K mg base "serving_table" 1 ["modulus", "members"] [] spTable) (GU : Fn P w K mg base "unserved_remainder" 1 ["modulus", "members", "table"] [] spUnserved) : FnOk P w K mg base CX0 3 f fd ["self", "modulus", "members"] (spCInit C) := by
  refine F.ok scCInit (fun vs H Q E h => ?_) (fun cdv Ar outer s H vs Q E hr h => ?_)
  · obtain ⟨p, dx, a, N, A, rfl, _⟩ := h; rfl
  · obtain ⟨p, dx, a, N, A, rfl, hp, hA, ok, k⟩ := h
    have nd := scCInit.nd
    have hr1 := hr.mono (by decide : 1 ≤ 2)
    refine ⟨_, pss_cons (ps_expr (pe_fn GS hr (by rfl) (pa_cons (pv 1) (pa_cons (pv 2) pa_nil))))
      (pss_cons (ps_set (i := 3) nd rfl (.inl rfl) (pe_fn GP hr1 (by rfl) (pa_cons (pv 1) (pa_cons (pv 2) pa_nil))))
      (pss_cons (ps_if (pt_cmpR op_notN (pv 3) pe_non (nomark _)) (pss_one ps_never) pss_nil)
      (pss_cons (ps_fld (pv 0) (pe_fn GT hr1 (by rfl) (pa_cons (pv 1) (pa_cons (pv 2) pa_nil))) rfl)
      (pss_cons (ps_set (i := 4) nd rfl (.inl rfl) (pe_fn GU hr1 (by rfl) (pa_cons (pv 1) (pa_cons (pv 2) (pa_cons (pe_fld (pv 0) rfl) pa_nil)))))
      (pss_cons (ps_if (pt_cmpR op_notN (pv 4) pe_non (nomark _)) (pss_one ps_never) pss_nil)
      (pss_cons (ps_fld (pv 0) (pv 1) rfl)
      (pss_cons (ps_fld (pv 0) (pe_callTy call_tupleT (by rfl) B.tuple PyProof.Rows.boot_tuple (pa_cons (pv 2) pa_nil)) rfl)
      (pss_one (ps_fld (pv 0) (pe_dc (own := [("member", 5)]) (g := gName 5) (tt := tYes) (by rfl) nd (pi_tup (pv 2)) (blkOk_by (own := [("member", 5)]) (N := ["self", "modulus", "members", "triple", "rest", "member"]) (sc := defScope tcInit) (by decide +kernel))
        (fun _ _ _ _ _ => pg_name (i := 5) nd rfl (Or.inl rfl)) (fun _ _ _ _ _ => pts_nil) (fun _ _ _ _ _ => pv 5) (fun _ _ _ _ _ => pe_bl)) rfl))))))))), ?_⟩
    refine ⟨_, rfl, _, rfl, a, N, A, rfl, hA, ok, fun H1 sm1 => ?_⟩
    refine ⟨_, rfl, _, rfl, a, N, A, rfl, sm1 _ _ hA, ok, fun H2 sm2 => ?_⟩
    refine ⟨_, rfl, rfl, false, rfl, iteF ?_⟩
    have sm12 := sm1.trans sm2
    refine ⟨_, rfl, _, rfl, a, N, A, rfl, sm12 _ _ hA, ok, fun d tb H3 sm3 hd hd3 tok => ?_⟩
    have sm13 := sm12.trans sm3
    have hp3 := sm13 _ _ hp
    refine ⟨_, rfl, p, C, dx, [], rfl, hp3, T.cl, T.nT, (by show 0 < 1000; decide), ?_⟩
    have npd : p ≠ d := ne_of hp3 hd3 (by intro z; cases z)
    have npa : p ≠ a := ne_of hp3 (sm13 _ _ hA) (by intro z; cases z)
    have tok2 : TableOk N A tb (upd H3 p (.ins C dx (putF "table" (.ref d) []))) := ⟨fun r v e => by
      obtain ⟨t, c, lo, mi, e1, e2, R⟩ := tok.sound r v e
      have : t ≠ p := fun z => by subst z; rw [hp3] at e2; cases e2
      exact ⟨t, c, lo, mi, e1, by rw [upd_ne this]; exact e2, R⟩, tok.all⟩
    have hA3 : upd H3 p (.ins C dx (putF "table" (.ref d) [])) a = some (.tup (nV A)) := by rw [upd_ne npa.symm]; exact sm13 _ _ hA
    have hd4 : upd H3 p (.ins C dx (putF "table" (.ref d) [])) d = some (.dK tb) := by rw [upd_ne npd.symm]; exact hd3
    refine ⟨_, rfl, _, rfl, _, rfl, p, C, dx, _, _, rfl, upd_same, T.cl, T.nT, rfl, ?_⟩
    refine ⟨a, d, N, A, tb, rfl, hA3, hd4, ok, tok2, fun H4 sm4 => ?_⟩
    refine ⟨_, rfl, rfl, false, rfl, iteF ?_⟩
    have hp4 : H4 p = some (.ins C dx (putF "table" (.ref d) [])) := sm4 _ _ upd_same
    refine ⟨_, rfl, _, rfl, p, C, dx, _, rfl, hp4, T.cl, T.nM, (by show 1 < 1000; decide), ?_⟩
    have hA4 : ∀ u, upd H4 p u a = some (.tup (nV A)) := fun u => by rw [upd_ne npa.symm]; exact sm4 _ _ hA3
    refine ⟨_, rfl, a, _, rfl, SqT.of (hA4 _), _, rfl, p, C, dx, _, rfl, upd_same, T.cl, T.nA, (by show 2 < 1000; decide), ?_⟩
    generalize hH5 : upd (upd H4 p _) p _ = H5
    have hA5 : H5 a = some (.tup (nV A)) := by rw [← hH5, upd_ne npa.symm]; exact hA4 _
    have hp5 : H5 p = some (.ins C dx (putF "own_members" (.ref a) (putF "own_modulus" (.int (N : Nat)) (putF "table" (.ref d) [])))) := by rw [← hH5]; exact upd_same
    have o5 : ∀ b o, H3 b = some o → b ≠ p → H5 b = some o := fun b o e hb => by
      rw [← hH5, upd_ne hb, upd_ne hb]
      exact sm4 _ _ (by rw [upd_ne hb]; exact e)
    refine ⟨_, rfl, a, rfl, ⟨_, SqT.of hA5⟩, fun D hD => ?_⟩
    refine known_rd hA5 hD (by have := ok.len; omega) (fun i d H2 hd sm R ⟨kvs, h1, h2, h3⟩ => ?_) (fun H6 kn sm hk kw => ?_)
    · exact ⟨rfl, _, rfl, kvs, Sum.inl (d : Int), rfl, h1, h2, h3⟩
    · have hp6 := sm _ _ hp5
      refine ⟨_, rfl, p, C, dx, _, rfl, hp6, T.cl, T.nK, (by show 3 < 1000; decide), ?_⟩
      have npD : p ≠ D := ne_of hp6 hk (by intro z; cases z)
      have o7 : ∀ u b o, H3 b = some o → b ≠ p → upd H6 p u b = some o := fun u b o e hb => by rw [upd_ne hb]; exact sm _ _ (o5 b o e hb)
      have ch : ∀ r, ∃ q : Nat × Nat × Nat, r < N → r ∉ A → ∃ t : Addr, valV tb (Sum.inl (r : Int)) = some (.ref t) ∧ H3 t = some (.tup [.int (q.1 : Nat), .int (q.2.1 : Nat), .int (q.2.2 : Nat)]) ∧ Rules N A r q.1 q.2.1 q.2.2 := fun r => by
        by_cases hr : r < N ∧ r ∉ A
        · obtain ⟨v, hv⟩ := Option.isSome_iff_exists.mp (tok.all r hr.1 hr.2)
          obtain ⟨t, c, lo, mi, e1, e2, R⟩ := tok.sound r v hv
          exact ⟨(c, lo, mi), fun _ _ => ⟨t, by rw [hv, e1], e2, R⟩⟩
        · exact ⟨(0, 0, 0), fun h1 h2 => absurd ⟨h1, h2⟩ hr⟩
      obtain ⟨sv, hsv⟩ := Classical.axiomOfChoice ch
      have np : ∀ {t : Addr} {xs : List V}, H3 t = some (.tup xs) → t ≠ p := fun {t xs} e z => by subst z; rw [hp3] at e; cases e
      refine k sv _ ⟨⟨dx, a, d, D, tb, kn, upd_same, o7 _ _ _ (sm13 _ _ hA) npa.symm, o7 _ _ _ hd3 npd.symm, by rw [upd_ne npD.symm]; exact hk, kw, fun r hr hn => ?_⟩, ok, fun r hr hn => ?_⟩ fun b o e hb => o7 _ _ _ (sm13 _ _ e) hb
      · obtain ⟨t, e1, e2, _⟩ := hsv r hr hn
        exact ⟨t, e1, o7 _ _ _ e2 (np e2)⟩
      · obtain ⟨t, e1, e2, R⟩ := hsv r hr hn
        exact R
end
end Tf

/-! ## TfCell5 -/
set_option Elab.async false
set_option linter.all false
set_option maxRecDepth 100000
set_option maxHeartbeats 4000000
/-! The methods of Cell. -/
namespace Tf
open PySem PySem.Spec PyProof.Rows L2

/-- isinstance knows the class at C -/
structure IsI (K : PySem.W.Frag) (C : Addr) : Prop where
  ha : PySem.W.findIn K (.ref C) "__class__" = some (some (.builtin "object.__class__"))
  hn : PySem.W.specialIn K (.builtin "object.__class__") "__get__" = some (some (.builtin "getset_descriptor.__get__"))
  htk : PySem.W.takesIn K (.builtin "object.__class__") = some true
  hm : PySem.W.mroIn K C (.type "object") = some true
theorem IsI.ty {K : PySem.W.Frag} {C a dx : Addr} {H : Hp} {fs : List (Str × V)} (i : IsI K C) (cl : Cls K C) (e : H a = some (.ins C dx fs)) : TyX K H (.ref a) (.ref C) := .base (.ins e cl i.ha i.hn i.htk i.hm)
abbrev rModulus : Hp → Addr → Nat → List Nat → Sv → VK → Prop := fun H _ N _ _ Q => Q (.int (N : Nat)) H
abbrev rMembers : Hp → Addr → Nat → List Nat → Sv → VK → Prop := fun H _ _ A _ Q => ∀ m, H m = some (.tup (nV A)) → Q (.ref m) H
abbrev rSize : Hp → Addr → Nat → List Nat → Sv → VK → Prop := fun H _ _ A _ Q => Q (.int (A.length : Nat)) H
abbrev rGreatest : Hp → Addr → Nat → List Nat → Sv → VK → Prop := fun H _ _ A _ Q => Q (.int (top A : Nat)) H
abbrev rCheckRem : Hp → Nat → Nat → List Nat → Sv → VK → Prop := fun H _ _ _ _ Q => Q .non H
abbrev rHas : Hp → Nat → Nat → List Nat → Sv → VK → Prop := fun H r _ A _ Q => Q (.bl (A.contains r)) H
abbrev rServing : Hp → Nat → Nat → List Nat → Sv → VK → Prop := fun H r _ A sv Q => r ∉ A ∧ ∀ t H', Same H H' → H t = none → H' t = some (.tup [.int ((sv r).2.1 : Nat), .int ((sv r).2.2 : Nat)]) → Q (.ref t) H'
abbrev rCarry : Hp → Nat → Nat → List Nat → Sv → VK → Prop := fun H r _ A sv Q => r ∉ A ∧ Q (.int ((sv r).1 : Nat)) H
def spCEq (C : Addr) : Sp := fun vs H Q _ => ∃ (p q : Addr) (N : Nat) (A : List Nat) (sv sv' : Sv), vs = [.ref p, .ref q] ∧ CellAt C H p N A sv ∧ CellAt C H q N A sv' ∧ Q (.bl true) H
/-- naturals as data -/
def nD (l : List Nat) : List PyData := l.map fun n => PyData.int (n : Nat)
theorem nD_all {K : PySem.W.Frag} {H : Hp} : ∀ l : List Nat, DpAll K H (nV l) (nD l)
  | [] => .nil
  | a :: l => .cons (.int _) (nD_all l)
theorem nD_lay : ∀ l : List Nat, PyData.canLayAll0 (nD l) = true
  | [] => by simp [nD, PyData.canLayAll0]
  | a :: l => by
    have := nD_lay l
    unfold nD at this
    simp [nD, PyData.canLayAll0, PyData.canLay0, this]
theorem nD_depth : ∀ l : List Nat, PyData.depthAll (nD l) ≤ 2
  | [] => by simp [nD, PyData.depthAll]
  | a :: l => by
    have h1 := nD_depth l
    unfold nD at h1
    simp only [nD, List.map_cons, PyData.depthAll, PyData.depth]
    omega
theorem nD_shaped (l : List Nat) : SeqAt.shaped (.tuple (nD l)) = true := by
  have h1 := nD_depth l
  have h2 : PyData.depth (.tuple (nD l)) ≤ 64 := by
    simp only [PyData.depth]
    omega
  show (PyData.canLay0 (.tuple (nD l)) && decide (PyData.depth (.tuple (nD l)) ≤ 64)) = true
  rw [Bool.and_eq_true]
  exact ⟨by simp only [PyData.canLay0]; exact nD_lay l, decide_eq_true h2⟩
theorem nD_eqv (l : List Nat) : PyData.eqv (.tuple (nD l)) (.tuple (nD l)) = true := SeqAt.eqv_refl _ (by simp only [PyData.canLay0]; exact nD_lay l)
section
variable {P : Program} {w : World} {K : PySem.W.Frag} {mg : Str → Option Value} {base : Heap} {f C : Addr} {fd : FuncData}
theorem scModulus : FnScope ["self"] ["self"] (defScope tcModulus) := ⟨rfl, rfl, rfl, by decide +kernel, rfl, by decide +kernel, by decide +kernel⟩
theorem ok_modulus (F : Fun K "modulus" "Cell.modulus" tcModulus f fd) (T : CellC K mg C) : FnOk P w K mg base CX0 1 f fd ["self"] (spC1 C rModulus) := by
  refine F.ok scModulus (fun vs H Q E h => ?_) (fun cdv Ar outer s H vs Q E hr h => ?_)
  · obtain ⟨p, N, A, sv, rfl, _⟩ := h; rfl
  · obtain ⟨p, N, A, sv, rfl, c, q⟩ := h
    obtain ⟨dx, m, d, k, tb, kn, h1, h2, h3, h4, h5, h6⟩ := c.ob
    exact ⟨_, pss_one (ps_ret (pe_fld (pv 0) rfl)), ⟨_, rfl, p, C, dx, _, _, rfl, h1, T.cl, T.nM, cellF_M .., q⟩⟩
theorem scMembers : FnScope ["self"] ["self"] (defScope tcMembers) := ⟨rfl, rfl, rfl, by decide +kernel, rfl, by decide +kernel, by decide +kernel⟩
theorem ok_members (F : Fun K "members" "Cell.members" tcMembers f fd) (T : CellC K mg C) : FnOk P w K mg base CX0 1 f fd ["self"] (spC1 C rMembers) := by
  refine F.ok scMembers (fun vs H Q E h => ?_) (fun cdv Ar outer s H vs Q E hr h => ?_)
  · obtain ⟨p, N, A, sv, rfl, _⟩ := h; rfl
  · obtain ⟨p, N, A, sv, rfl, c, q⟩ := h
    obtain ⟨dx, m, d, k, tb, kn, h1, h2, h3, h4, h5, h6⟩ := c.ob
    exact ⟨_, pss_one (ps_ret (pe_fld (pv 0) rfl)), ⟨_, rfl, p, C, dx, _, _, rfl, h1, T.cl, T.nA, cellF_A .., q m h2⟩⟩
theorem scSize : FnScope ["self"] ["self"] (defScope tcSize) := ⟨rfl, rfl, rfl, by decide +kernel, rfl, by decide +kernel, by decide +kernel⟩
theorem ok_size (F : Fun K "size" "Cell.size" tcSize f fd) (B : Blt mg) (T : CellC K mg C) : FnOk P w K mg base CX0 1 f fd ["self"] (spC1 C rSize) := by
  refine F.ok scSize (fun vs H Q E h => ?_) (fun cdv Ar outer s H vs Q E hr h => ?_)
  · obtain ⟨p, N, A, sv, rfl, _⟩ := h; rfl
  · obtain ⟨p, N, A, sv, rfl, c, q⟩ := h
    obtain ⟨dx, m, d, k, tb, kn, h1, h2, h3, h4, h5, h6⟩ := c.ob
    refine ⟨_, pss_one (ps_ret (pe_callB call_len_seq (by rfl) B.len PySem.boot_len (pa_cons (pe_fld (pv 0) rfl) pa_nil))), ⟨_, rfl, p, C, dx, _, _, rfl, h1, T.cl, T.nA, cellF_A .., m, _, rfl, .inr (SqT.of h2), ?_⟩⟩
    rw [nV_len]
    exact q
theorem scGreatest : FnScope ["self"] ["self"] (defScope tcGreatest) := ⟨rfl, rfl, rfl, by decide +kernel, rfl, by decide +kernel, by decide +kernel⟩
theorem atI_top {A : List Nat} (h : A ≠ []) : atI (nV A) (-1) = some (.int (top A : Nat)) := by
  have e : A = A.dropLast ++ [top A] := by
    unfold top
    rw [List.getLastD_eq_getLast?, List.getLast?_eq_some_getLast h]
    exact (List.dropLast_concat_getLast h).symm
  rw [e]
  unfold nV
  rw [List.map_append]
  rw [← e]
  exact atI_last _ _
theorem ok_greatest (F : Fun K "greatest" "Cell.greatest" tcGreatest f fd) (B : Blt mg) (T : CellC K mg C) : FnOk P w K mg base CX0 1 f fd ["self"] (spC1 C rGreatest) := by
  refine F.ok scGreatest (fun vs H Q E h => ?_) (fun cdv Ar outer s H vs Q E hr h => ?_)
  · obtain ⟨p, N, A, sv, rfl, _⟩ := h; rfl
  · obtain ⟨p, N, A, sv, rfl, c, q⟩ := h
    obtain ⟨dx, m, d, k, tb, kn, h1, h2, h3, h4, h5, h6⟩ := c.ob
    exact ⟨_, pss_one (ps_ret (pe_ix ix_tup (pe_fld (pv 0) rfl) (pe_un un_neg pe_int) (fun _ _ => rfl))), ⟨_, rfl, p, C, dx, _, _, rfl, h1, T.cl, T.nA, cellF_A .., _, rfl, m, _, _, _, rfl, rfl, SqT.of h2, atI_top c.arg.ne, q⟩⟩
theorem scCheckRem : FnScope ["self", "remainder"] ["self", "remainder"] (defScope tcCheckRem) := ⟨rfl, rfl, rfl, by decide +kernel, rfl, by decide +kernel, by decide +kernel⟩
theorem ok_checkRem (F : Fun K "check_remainder" "Cell.check_remainder" tcCheckRem f fd) (T : CellC K mg C) (GB : Fn P w K mg base "is_between" 1 ["value", "low", "high"] [] spBetween) : FnOk P w K mg base CX0 2 f fd ["self", "remainder"] (spC2 C rCheckRem) := by
  refine F.ok scCheckRem (fun vs H Q E h => ?_) (fun cdv Ar outer s H vs Q E hr h => ?_)
  · obtain ⟨p, N, A, sv, r, rfl, _⟩ := h; rfl
  · obtain ⟨p, N, A, sv, r, rfl, c, hrN, q⟩ := h
    obtain ⟨dx, m, d, k, tb, kn, h1, h2, h3, h4, h5, h6⟩ := c.ob
    refine ⟨_, pss_one (ps_if (pt_not (pt_val (pe_fn GB hr (by rfl) (pa_cons (pv 1) (pa_cons pe_int (pa_cons (pe_op op_sub (pe_fld (pv 0) rfl) pe_int) pa_nil)))))) (pss_one ps_never) pss_nil), ?_⟩
    refine ⟨_, rfl, _, rfl, p, C, dx, _, _, rfl, h1, T.cl, T.nM, cellF_M .., _, _, rfl, rfl, _, _, _, rfl, ?_⟩
    rw [decide_eq_true (by omega)]
    exact ⟨_, rfl, iteF q⟩
theorem scHas : FnScope ["self", "remainder"] ["self", "remainder"] (defScope tcHas) := ⟨rfl, rfl, rfl, by decide +kernel, rfl, by decide +kernel, by decide +kernel⟩
theorem ok_has (F : Fun K "has" "Cell.has" tcHas f fd) (T : CellC K mg C) (GC : Mt P w K mg base C "check_remainder" 2 ["self", "remainder"] [] (spC2 C rCheckRem)) : FnOk P w K mg base CX0 3 f fd ["self", "remainder"] (spC2 C rHas) := by
  refine F.ok scHas (fun vs H Q E h => ?_) (fun cdv Ar outer s H vs Q E hr h => ?_)
  · obtain ⟨p, N, A, sv, r, rfl, _⟩ := h; rfl
  · obtain ⟨p, N, A, sv, r, rfl, c, hrN, q⟩ := h
    obtain ⟨dx, m, d, k, tb, kn, h1, h2, h3, h4, h5, h6⟩ := c.ob
    have hu := hu_of hr
    refine ⟨_, pss_cons (ps_expr (pe_mt (pv 0) GC hr (pa_cons (pv 1) pa_nil))) (pss_one (ps_ret (pe_cmp (pc_din hu (pv 1) (pe_fld (pv 0) rfl))))), ?_⟩
    refine ⟨_, rfl, p, dx, _, rfl, h1, cellF_no _ _ _ _ (by decide +kernel), _, rfl, p, N, A, sv, r, rfl, c, hrN, ?_⟩
    refine ⟨_, rfl, _, rfl, p, C, dx, _, _, rfl, h1, T.cl, T.nK, cellF_K .., k, _, rfl, DGet.k (k := Sum.inl (r : Int)) h4, ?_⟩
    rw [h5.1]
    exact q
theorem scServing : FnScope ["self", "remainder"] ["self", "remainder"] (defScope tcServing) := ⟨rfl, rfl, rfl, by decide +kernel, rfl, by decide +kernel, by decide +kernel⟩
theorem ok_serving (F : Fun K "serving_pair" "Cell.serving_pair" tcServing f fd) (T : CellC K mg C) (GH : Mt P w K mg base C "has" 3 ["self", "remainder"] [] (spC2 C rHas)) : FnOk P w K mg base CX0 4 f fd ["self", "remainder"] (spC2 C rServing) := by
  refine F.ok scServing (fun vs H Q E h => ?_) (fun cdv Ar outer s H vs Q E hr h => ?_)
  · obtain ⟨p, N, A, sv, r, rfl, _⟩ := h; rfl
  · obtain ⟨p, N, A, sv, r, rfl, c, hrN, hn, q⟩ := h
    obtain ⟨dx, m, d, k, tb, kn, h1, h2, h3, h4, h5, h6⟩ := c.ob
    have hu := hu_of hr
    obtain ⟨t, e1, e2⟩ := h6 r hrN hn
    refine ⟨_, pss_cons (ps_if (pt_val (pe_mt (pv 0) GH hr (pa_cons (pv 1) pa_nil))) (pss_one ps_never) pss_nil) (pss_one (ps_ret (pe_slice sl_tup (pe_dget hu (pe_fld (pv 0) rfl) (pv 1) (fun _ _ => rfl)) (po_some pe_int) po_none))), ?_⟩
    refine ⟨_, rfl, p, dx, _, rfl, h1, cellF_no _ _ _ _ (by decide +kernel), _, rfl, p, N, A, sv, r, rfl, c, hrN, _, rfl, ?_⟩
    rw [List.contains_eq_mem, decide_eq_false hn]
    have hg := DGet.k (k := Sum.inl (r : Int)) h3
    rw [e1] at hg
    refine iteF ⟨_, rfl, p, C, dx, _, _, rfl, h1, T.cl, T.nT, cellF_T .., _, rfl, d, _, rfl, hg, _, rfl, t, _, rfl, SqT.of e2, (fun z => absurd (show HT.sIx 3 0 (some 1) = 0 from z.1) (by decide)), fun z hz => ?_⟩
    exact q z _ (same_upd (.refl _) hz) hz upd_same
theorem scCarry : FnScope ["self", "remainder"] ["self", "remainder"] (defScope tcCarry) := ⟨rfl, rfl, rfl, by decide +kernel, rfl, by decide +kernel, by decide +kernel⟩
theorem ok_carry (F : Fun K "carry" "Cell.carry" tcCarry f fd) (T : CellC K mg C) (GH : Mt P w K mg base C "has" 3 ["self", "remainder"] [] (spC2 C rHas)) : FnOk P w K mg base CX0 4 f fd ["self", "remainder"] (spC2 C rCarry) := by
  refine F.ok scCarry (fun vs H Q E h => ?_) (fun cdv Ar outer s H vs Q E hr h => ?_)
  · obtain ⟨p, N, A, sv, r, rfl, _⟩ := h; rfl
  · obtain ⟨p, N, A, sv, r, rfl, c, hrN, hn, q⟩ := h
    obtain ⟨dx, m, d, k, tb, kn, h1, h2, h3, h4, h5, h6⟩ := c.ob
    have hu := hu_of hr
    obtain ⟨t, e1, e2⟩ := h6 r hrN hn
    refine ⟨_, pss_cons (ps_if (pt_val (pe_mt (pv 0) GH hr (pa_cons (pv 1) pa_nil))) (pss_one ps_never) pss_nil) (pss_one (ps_ret (pe_ix ix_tup (pe_dget hu (pe_fld (pv 0) rfl) (pv 1) (fun _ _ => rfl)) pe_int (fun _ _ => rfl)))), ?_⟩
    refine ⟨_, rfl, p, dx, _, rfl, h1, cellF_no _ _ _ _ (by decide +kernel), _, rfl, p, N, A, sv, r, rfl, c, hrN, _, rfl, ?_⟩
    rw [List.contains_eq_mem, decide_eq_false hn]
    have hg := DGet.k (k := Sum.inl (r : Int)) h3
    rw [e1] at hg
    exact iteF ⟨_, rfl, p, C, dx, _, _, rfl, h1, T.cl, T.nT, cellF_T .., _, rfl, d, _, rfl, hg, t, _, _, _, rfl, rfl, SqT.of e2, rfl, q⟩
theorem scCEq : FnScope ["self", "other"] ["self", "other"] (defScope tcEq) := ⟨rfl, rfl, rfl, by decide +kernel, rfl, by decide +kernel, by decide +kernel⟩
theorem ok_ceq (F : Fun K "__eq__" "Cell.__eq__" tcEq f fd) (B : Blt mg) (T : CellC K mg C) (i : IsI K C) (ki : PySem.W.kitOne K (.ref C) (.ref C) = some true) : FnOk P w K mg base CX0 1 f fd ["self", "other"] (spCEq C) := by
  refine F.ok scCEq (fun vs H Q E h => ?_) (fun cdv Ar outer s H vs Q E hr h => ?_)
  · obtain ⟨p, q, N, A, sv, sv', rfl, _⟩ := h; rfl
  · obtain ⟨p, q, N, A, sv, sv', rfl, c, c', k⟩ := h
    obtain ⟨dx, m, d, kk, tb, kn, h1, h2, h3, h4, h5, h6⟩ := c.ob
    obtain ⟨dx', m', d', kk', tb', kn', g1, g2, g3, g4, g5, g6⟩ := c'.ob
    refine ⟨_, pss_cons (ps_if (pt_not (pt_val (pe_callB call_isi (by rfl) B.isinstance PyProof.Rows.boot_isinstance (pa_cons (pv 1) (pa_cons (pe_glob (v := .ref C) (by rfl) T.mgC rfl) pa_nil))))) (pss_one (ps_ret pe_bl)) pss_nil)
      (pss_one (ps_ret (pe_and (pe_cmpR op_eq (pe_fld (pv 0) rfl) (pe_fld (pv 1) rfl) (nomark _)) (pe_one (pe_cmpR (op_eqD hr.units) (pe_fld (pv 0) rfl) (pe_fld (pv 1) rfl) (nomark _)))))), ?_⟩
    refine ⟨_, rfl, _, _, _, _, true, rfl, .own _, i.ty T.cl g1, ki, _, rfl, iteF ?_⟩
    refine ⟨_, rfl, p, C, dx, _, _, rfl, h1, T.cl, T.nM, cellF_M .., _, rfl, q, C, dx', _, _, rfl, g1, T.cl, T.nM, cellF_M .., rfl, true, by simp, ?_⟩
    refine iteT ⟨_, rfl, p, C, dx, _, _, rfl, h1, T.cl, T.nA, cellF_A .., _, rfl, q, C, dx', _, _, rfl, g1, T.cl, T.nA, cellF_A .., ?_⟩
    exact ⟨_, _, .tup (SqT.of h2) (nD_all ..), .tup (SqT.of g2) (nD_all ..), nD_shaped _, nD_shaped _, by rw [nD_eqv]; exact k⟩
end
end Tf

/-! ## TfRuled -/
set_option Elab.async false
set_option linter.all false
set_option maxRecDepth 100000
set_option maxHeartbeats 4000000
/-! The class RuledSequence: numbers, ranks, members. -/
namespace Tf
open PySem PySem.Spec PyProof.Rows L2

/-! ### in plain numbers -/
def memOf (N : Nat) (A : List Nat) (n : Nat) : Nat := A.getD (n % A.length) 0 + N * memAt (n / A.length)
def rnkOf (N : Nat) (A : List Nat) (x : Nat) : Nat := rankOf (x / N) * A.length + (if plainN (x / N) then (A.filter fun a => decide (a < x % N)).length else 0)
def cntOf (N : Nat) (A : List Nat) (x : Nat) : Bool := plainN (x / N) && A.contains (x % N)
def smallOf (A : List Nat) (x : Nat) : Option (Nat × Nat) := (A.find? fun lo => decide (lo < x) && decide ((lo + x) % 2 = 0) && A.contains ((lo + x) / 2)).map fun lo => (lo, (lo + x) / 2)
def rulOf (N : Nat) (A : List Nat) (sv : Sv) (x : Nat) : Option (Nat × Nat) :=
  if x < top A then smallOf A x
  else if A.contains (x % N) then some (x % N + N * lowOf (x / N), x % N + N * upOf (x / N))
  else some ((sv (x % N)).2.1 + N * lowOf (x / N - (sv (x % N)).1), (sv (x % N)).2.2 + N * upOf (x / N - (sv (x % N)).1))

/-! ### the object -/
def seqF (c : Addr) (off : Nat) : List (Str × V) := putF "offset" (.int (off : Nat)) (putF "own_cell" (.ref c) [])
theorem seqF_eq (c : Addr) (off : Nat) : seqF c off = ([("own_cell", .ref c), ("offset", .int (off : Nat))] : List (Str × V)) := by
  unfold seqF
  have h1 : ¬ (("own_cell" : Str) = "offset") := by decide +kernel
  simp only [putF, if_neg h1]
theorem seqF_C (c : Addr) (off : Nat) : (seqF c off).lookup ("own_cell" : Str) = some (.ref c) := by rw [seqF_eq]; rfl
theorem seqF_O (c : Addr) (off : Nat) : (seqF c off).lookup ("offset" : Str) = some (.int (off : Nat)) := by rw [seqF_eq]; rfl
theorem seqF_no (c : Addr) (off : Nat) {x : Str} (h : x ∉ (["own_cell", "offset"] : List Str)) : (seqF c off).lookup x = none := by
  rw [seqF_eq]
  simp only [List.mem_cons, List.not_mem_nil, or_false, not_or] at h
  simp only [List.lookup_cons, List.lookup_nil]
  rw [show (x == ("own_cell" : Str)) = false from by simpa using h.1, show (x == ("offset" : Str)) = false from by simpa using h.2]
/-- a sequence of the class D over a cell of the class C -/
structure SqAt (C D : Addr) (H : Hp) (q c : Addr) (N : Nat) (A : List Nat) (sv : Sv) (off : Nat) : Prop where
  ob : ∃ dx, H q = some (.ins D dx (seqF c off))
  ce : CellAt C H c N A sv
theorem SqAt.mono {C D q c : Addr} {H H' : Hp} {N off : Nat} {A : List Nat} {sv : Sv} (x : SqAt C D H q c N A sv off) (sm : Same H H') : SqAt C D H' q c N A sv off :=
  ⟨let ⟨dx, e⟩ := x.ob; ⟨dx, sm _ _ e⟩, x.ce.mono sm⟩
structure SqC (K : PySem.W.Frag) (D : Addr) : Prop where
  cl : Cls K D
  nC : NoAttr K D "own_cell"
  nO : NoAttr K D "offset"
/-- what a def of a sequence says of its answer: q, c, cell, offset -/
def spS1 (C D : Addr) (R : Hp → Addr → Addr → Nat → List Nat → Sv → Nat → VK → Prop) : Sp := fun vs H Q _ => ∃ (q c : Addr) (N : Nat) (A : List Nat) (sv : Sv) (off : Nat), vs = [.ref q] ∧ SqAt C D H q c N A sv off ∧ R H q c N A sv off Q
def spS2 (C D : Addr) (Z : Nat → Prop) (lo hi : Nat) (f : Nat → List Nat → Sv → Nat → Nat → V) : Sp := fun vs H Q _ => ∃ (q c : Addr) (N : Nat) (A : List Nat) (sv : Sv) (off x : Nat), vs = [.ref q, .int (x : Nat)] ∧ SqAt C D H q c N A sv off ∧ Z off ∧ lo ≤ x ∧ x < 2 ^ hi ∧ ∀ H', Same H H' → Q (f N A sv off x) H'
/-- a pair or nothing -/
def spS3 (C D : Addr) (Z : Nat → Prop) (hi : Nat) (f : Nat → List Nat → Sv → Nat → Nat → Option (Nat × Nat)) : Sp := fun vs H Q _ => ∃ (q c : Addr) (N : Nat) (A : List Nat) (sv : Sv) (off x : Nat), vs = [.ref q, .int (x : Nat)] ∧ SqAt C D H q c N A sv off ∧ Z off ∧ x < 2 ^ hi ∧
  (∀ H', Same H H' → f N A sv off x = none → Q .non H') ∧ ∀ t a b H', Same H H' → f N A sv off x = some (a, b) → H t = none → H' t = some (.tup [.int (a : Nat), .int (b : Nat)]) → Q (.ref t) H'
abbrev anyO : Nat → Prop := fun _ => True
def spAtLeast : Sp := fun vs H Q _ => ∃ g l : Int, vs = [.int g, .int l] ∧ l ≤ g ∧ Q .non H
structure CellM (P : Program) (w : World) (K : PySem.W.Frag) (mg : Str → Option Value) (base : Heap) (C : Addr) : Prop where
  T : CellC K mg C
  size : Pr P w K mg base C "size" 1 (spC1 C rSize)
  members : Pr P w K mg base C "members" 1 (spC1 C rMembers)
  modulus : Pr P w K mg base C "modulus" 1 (spC1 C rModulus)
  greatest : Pr P w K mg base C "greatest" 1 (spC1 C rGreatest)
  has : Mt P w K mg base C "has" 3 ["self", "remainder"] [] (spC2 C rHas)
  serving : Mt P w K mg base C "serving_pair" 4 ["self", "remainder"] [] (spC2 C rServing)
  carry : Mt P w K mg base C "carry" 4 ["self", "remainder"] [] (spC2 C rCarry)
structure BaseM (P : Program) (w : World) (K : PySem.W.Frag) (mg : Str → Option Value) (base : Heap) : Prop where
  mem : Fn P w K mg base "base_member" 3 ["number"] [] (spN fun n => .int (memAt n : Nat))
  rank : Fn P w K mg base "base_rank" 3 ["x"] [] (spN fun n => .int (rankOf n : Nat))
  inb : Fn P w K mg base "in_base" 3 ["x"] [] (spN fun n => .bl (plainN n))
  pair : Fn P w K mg base "plain_pair" 3 ["m"] [] spPair
  least : Fn P w K mg base "check_at_least" 1 ["given", "low"] [] spAtLeast
section
variable {P : Program} {w : World} {K : PySem.W.Frag} {mg : Str → Option Value} {base : Heap} {f C D : Addr} {fd : FuncData}
theorem scAtLeast : FnScope ["given", "low"] ["given", "low"] (defScope tAtLeast) := ⟨rfl, rfl, rfl, by decide +kernel, rfl, by decide +kernel, by decide +kernel⟩
theorem ok_atLeast (F : Fun K "check_at_least" "check_at_least" tAtLeast f fd) (B : Blt mg) : FnOk P w K mg base CX0 1 f fd ["given", "low"] spAtLeast := by
  refine F.ok scAtLeast (fun vs H Q E h => ?_) (fun cdv Ar outer s H vs Q E hr h => ?_)
  · obtain ⟨g, l, rfl, _⟩ := h; rfl
  · obtain ⟨g, l, rfl, hl, k⟩ := h
    refine ⟨_, pss_one (ps_if (PW.pt (pw_or (pt_not (pt_val (pe_callB call_isi (by rfl) B.isinstance PyProof.Rows.boot_isinstance (pa_cons (pv 0) (pa_cons (pe_bltn (v := .ty "int") (by rfl) B.int PyProof.Rows.boot_int rfl) pa_nil)))))
        (pw_or (pt_val (pe_callB call_isi (by rfl) B.isinstance PyProof.Rows.boot_isinstance (pa_cons (pv 0) (pa_cons (pe_bltn (v := .ty "bool") (by rfl) B.bool PyProof.Rows.boot_bool rfl) pa_nil)))) (pw_or1 (pt_cmpR op_lt (pv 0) (pv 1) (nomark _)))))) (pss_one ps_never) pss_nil), ?_⟩
    refine ⟨_, rfl, _, _, _, _, true, rfl, .ty _, .base (.int _), kit_ty (by decide +kernel), _, rfl, iteF ?_⟩
    refine ⟨_, rfl, _, _, _, _, false, rfl, .ty _, .base (.int _), kit_ty (by decide +kernel), _, rfl, iteF ?_⟩
    refine ⟨_, rfl, _, rfl, _, _, rfl, rfl, _, rfl, ?_⟩
    rw [decide_eq_false (by omega)]
    exact iteF k
theorem scMember : FnScope ["self", "number", "size"] ["self", "number"] (defScope trMember) := ⟨rfl, rfl, rfl, by decide +kernel, rfl, by decide +kernel, by decide +kernel⟩
theorem ok_member (F : Fun K "member" "RuledSequence.member" trMember f fd) (T : SqC K D) (G : CellM P w K mg base C) (M : BaseM P w K mg base) : FnOk P w K mg base CX0 4 f fd ["self", "number"] (spS2 C D anyO 0 1000 fun N A _ _ n => .int (memOf N A n : Nat)) := by
  refine F.ok scMember (fun vs H Q E h => ?_) (fun cdv Ar outer s H vs Q E hr h => ?_)
  · obtain ⟨q, c, N, A, sv, off, x, rfl, _⟩ := h; rfl
  · obtain ⟨q, c, N, A, sv, off, x, rfl, S, _, _, hx, k⟩ := h
    obtain ⟨dx, hq⟩ := S.ob
    obtain ⟨cx, m, d, kk, tb, kn, h1, h2, h3, h4, h5, h6⟩ := id S.ce.ob
    have nd := scMember.nd
    have hr1 := hr.mono (by decide : 1 ≤ 3)
    have hr2 := hr.mono (by decide : 2 ≤ 3)
    have ok := S.ce.arg
    have hN2 := ok.le
    have hl := ok.len
    have hl1 : 0 < A.length := List.length_pos_iff.mpr ok.ne
    refine ⟨_, pss_cons (ps_expr (pe_fn M.least hr1 (by rfl) (pa_cons (pv 1) (pa_cons pe_int pa_nil))))
      (pss_cons (ps_set (i := 2) nd rfl (.inl rfl) (pe_pr (pe_fld (pv 0) rfl) G.size hr2))
      (pss_one (ps_ret (pe_op op_add (pe_ix ix_tup (pe_pr (pe_fld (pv 0) rfl) G.members hr2) (pe_op op_mod (pv 1) (pv 2)) (fun _ _ => rfl)) (pe_op op_mul (pe_pr (pe_fld (pv 0) rfl) G.modulus hr2) (pe_fn M.mem hr (by rfl) (pa_cons (pe_op op_fdiv (pv 1) (pv 2)) pa_nil))))))), ?_⟩
    refine ⟨_, rfl, _, _, rfl, by omega, ?_⟩
    refine ⟨_, rfl, q, D, dx, _, _, rfl, hq, T.cl, T.nC, seqF_C .., c, cx, _, rfl, h1, c, N, A, sv, rfl, S.ce, ?_⟩
    refine ⟨_, rfl, q, D, dx, _, _, rfl, hq, T.cl, T.nC, seqF_C .., c, cx, _, rfl, h1, c, N, A, sv, rfl, S.ce, fun m' hm' => ?_⟩
    have hmod : (x : Int) % (A.length : Int) = ((x % A.length : Nat) : Int) := rfl
    have hget : (nV A)[x % A.length]? = some (.int (A.getD (x % A.length) 0 : Nat)) := by
      have hlt := Nat.mod_lt x hl1
      unfold nV
      rw [List.getElem?_map, List.getElem?_eq_getElem hlt, List.getD_eq_getElem?_getD, List.getElem?_eq_getElem hlt]
      rfl
    refine ⟨_, rfl, _, rfl, _, _, rfl, rfl, (by show (0 : Int) < (A.length : Int); omega), m', _, _, _, rfl, rfl, SqT.of hm', atI_nat hget, ?_⟩
    refine ⟨_, rfl, q, D, dx, _, _, rfl, hq, T.cl, T.nC, seqF_C .., c, cx, _, rfl, h1, c, N, A, sv, rfl, S.ce, ?_⟩
    refine ⟨_, rfl, _, rfl, _, _, rfl, rfl, ⟨by omega, by omega⟩, x / A.length, rfl, Nat.lt_of_le_of_lt (Nat.div_le_self ..) hx, fun H1 sm => ?_⟩
    refine ⟨_, _, rfl, rfl, .inl ⟨by omega, by omega⟩, _, _, rfl, rfl, ?_⟩
    have := k H1 sm
    unfold memOf at this
    push_cast at this
    exact this
end
end Tf

/-! ## TfRuled2 -/
set_option Elab.async false
set_option linter.all false
set_option maxRecDepth 100000
set_option maxHeartbeats 4000000
/-! RuledSequence, further. -/
namespace Tf
open PySem PySem.Spec PyProof.Rows L2
section
variable {P : Program} {w : World} {K : PySem.W.Frag} {mg : Str → Option Value} {base : Heap} {f C D : Addr} {fd : FuncData}
theorem scRank : FnScope ["self", "x", "quotient", "rest", "found", "member"] ["self", "x"] (defScope trRank) := ⟨rfl, rfl, rfl, by decide +kernel, rfl, by decide +kernel, by decide +kernel⟩
theorem filter_take {A : List Nat} {p : Nat → Bool} {i d : Nat} (h : A[i]? = some d) : (A.take (i + 1)).filter p = (A.take i).filter p ++ (if p d then [d] else []) := by
  rw [List.take_succ, h, Option.toList_some, List.filter_append]
  congr 1
  cases e : p d <;> simp [e]
theorem ok_rank (F : Fun K "rank" "RuledSequence.rank" trRank f fd) (B : Blt mg) (T : SqC K D) (G : CellM P w K mg base C) (M : BaseM P w K mg base) : FnOk P w K mg base CX0 4 f fd ["self", "x"] (spS2 C D anyO 0 1000 fun N A _ _ n => .int (rnkOf N A n : Nat)) := by
  refine F.ok scRank (fun vs H Q E h => ?_) (fun cdv Ar outer s H vs Q E hr h => ?_)
  · obtain ⟨q, c, N, A, sv, off, x, rfl, _⟩ := h; rfl
  · obtain ⟨q, c, N, A, sv, off, x, rfl, S, _, _, hx, k⟩ := h
    obtain ⟨dx, hq⟩ := S.ob
    obtain ⟨cx, m, d, kk, tb, kn, h1, h2, h3, h4, h5, h6⟩ := id S.ce.ob
    have nd := scRank.nd
    have hr1 := hr.mono (by decide : 1 ≤ 3)
    have hr2 := hr.mono (by decide : 2 ≤ 3)
    have ok := S.ce.arg
    have hN1 := ok.pos
    have hN2 := ok.le
    have hl := ok.len
    refine ⟨_, pss_cons (ps_expr (pe_fn M.least hr1 (by rfl) (pa_cons (pv 1) (pa_cons pe_int pa_nil))))
      (pss_cons (ps_asg (pe_tup (pa_cons (pe_op op_fdiv (pv 1) (pe_pr (pe_fld (pv 0) rfl) G.modulus hr2)) (pa_cons (pe_op op_mod (pv 1) (pe_pr (pe_fld (pv 0) rfl) G.modulus hr2)) pa_nil))) (pg_tup (by rfl) (pgs_cons (pg_name (i := 2) nd rfl (.inl rfl)) (pgs_cons (pg_name (i := 3) nd rfl (.inr rfl)) pgs_nil))))
      (pss_cons (ps_set (i := 4) nd rfl (.inl rfl) (pe_op op_mul (pe_fn M.rank hr (by rfl) (pa_cons (pv 2) pa_nil)) (pe_pr (pe_fld (pv 0) rfl) G.size hr2)))
      (pss_cons (ps_if (pt_val (pe_fn M.inb hr (by rfl) (pa_cons (pv 2) pa_nil)))
        (pss_one (ps_aug (i := 4) nd rfl (.inl rfl) (pe_callB call_len_seq (by rfl) B.len PySem.boot_len (pa_cons
          (pe_lc (own := [("member", 5)]) (g := gName 5) (by rfl) nd (pi_tup (pe_pr (pe_fld (pv 0) rfl) G.members hr2)) (blkOk_by (own := [("member", 5)]) (N := ["self", "x", "quotient", "rest", "found", "member"]) (sc := defScope trRank) (by decide +kernel)) (fun _ _ _ _ _ => pg_name (i := 5) nd rfl (Or.inl rfl)) (fun _ _ _ _ _ => pts_one (pt_cmpR op_lt (pv 5) (pv 3) (nomark _)))
            (fun _ _ _ _ _ => pv 5)) pa_nil)) ip_add)) pss_nil)
      (pss_one (ps_ret (pv 4)))))), ?_⟩
    have pr : ∀ {R : Hp → Addr → Nat → List Nat → Sv → VK → Prop} {H1 : Hp} {Q1 : VK}, Same H H1 → R H1 c N A sv Q1 → ∃ a dx fs, V.ref c = .ref a ∧ H1 a = some (.ins C dx fs) ∧ spC1 C R (.ref a :: []) H1 Q1 E0 := fun sm r => ⟨c, cx, _, rfl, sm _ _ h1, c, N, A, sv, rfl, S.ce.mono sm, r⟩
    refine ⟨_, rfl, _, _, rfl, by omega, ?_⟩
    refine ⟨_, rfl, _, rfl, q, D, dx, _, _, rfl, hq, T.cl, T.nC, seqF_C .., pr (.refl _) ⟨_, _, rfl, rfl, ⟨by omega, by omega⟩, ?_⟩⟩
    refine ⟨_, rfl, _, rfl, q, D, dx, _, _, rfl, hq, T.cl, T.nC, seqF_C .., pr (.refl _) ⟨_, _, rfl, rfl, (by show (0 : Int) < (N : Int); omega), by show 2 ≤ sizeLine; decide, fun tt htt => ⟨_, _, rfl, SqT.of upd_same, rfl, _, _, rfl, _, _, rfl, rfl, ?_⟩⟩⟩
    have hq1 : x / N < 2 ^ 1000 := Nat.lt_of_le_of_lt (Nat.div_le_self ..) hx
    have sm0 : Same H (upd H tt (.tup [.int ((x : Int) / (N : Int)), .int ((x : Int) % (N : Int))])) := same_upd (.refl _) htt
    refine ⟨_, rfl, x / N, rfl, hq1, fun H1 sm1 => ?_⟩
    have sm := sm0.trans sm1
    refine ⟨_, rfl, q, D, dx, _, _, rfl, sm _ _ hq, T.cl, T.nC, seqF_C .., pr sm ⟨_, _, rfl, rfl, .inr ⟨by omega, by omega⟩, ?_⟩⟩
    refine ⟨_, rfl, x / N, rfl, hq1, fun H2 sm2 => ?_⟩
    have sm12 := sm.trans sm2
    have k' : ∀ H', Same H H' → Q (.int (rnkOf N A x : Nat)) H' := k
    refine ⟨_, rfl, ?_⟩
    cases hp : plainN (x / N) with
    | false =>
      refine iteF ⟨_, rfl, ?_⟩
      have e : rnkOf N A x = rankOf (x / N) * A.length := by unfold rnkOf; rw [hp]; simp
      have := k' H2 sm12
      rw [e] at this
      push_cast at this
      exact this
    | true =>
      refine iteT ?_
      refine ⟨_, rfl, _, rfl, q, D, dx, _, _, rfl, sm12 _ _ hq, T.cl, T.nC, seqF_C .., pr sm12 fun m' hm' => ⟨m', rfl, ⟨_, SqT.of hm'⟩, fun L hL => ?_⟩⟩
      refine lc_tup (K := K) (a := m') (xs := nV A) (fun i H3 => Same H2 H3 ∧ H3 L = some (.lst (nV ((A.take i).filter fun a => decide (a < x % N))))) ⟨same_upd (.refl _) hL, upd_same⟩ (fun i H3 _ h => SqT.of (h.1 _ _ hm')) ?_ ?_
      · rintro i y H3 hi ⟨sm3, hL3⟩
        obtain ⟨a, ha, rfl⟩ := nV_get hi
        have hil : i < A.length := (List.getElem?_eq_some_iff.mp ha).1
        refine ⟨rfl, ?_⟩
        refine ⟨_, rfl, _, rfl, _, _, rfl, rfl, _, rfl, ?_⟩
        have e : (decide ((a : Int) < (x : Int) % (N : Int))) = decide (a < x % N) := by
          rw [Bool.eq_iff_iff]
          simp only [decide_eq_true_eq]
          exact Int.ofNat_lt
        have ft := filter_take (p := fun a => decide (a < x % N)) ha
        refine ite2 (fun hc => ?_) (fun hc => ?_)
        · have hc : decide ((a : Int) < (x : Int) % (N : Int)) = true := hc
          rw [e] at hc
          refine ⟨_, rfl, _, hL3, small1000 (by rw [nV_len]; exact Nat.le_trans (List.length_filter_le ..) (by rw [List.length_take]; omega)), same_upd sm3 hL, ?_⟩
          rw [upd_same, ft, hc, if_pos rfl]
          unfold nV
          rw [List.map_append]
          rfl
        · have hc : ¬ decide ((a : Int) < (x : Int) % (N : Int)) = true := hc
          rw [e] at hc
          refine ⟨sm3, ?_⟩
          rw [hL3, ft, if_neg hc, List.append_nil]
      · rintro H3 ⟨sm3, hL3⟩
        rw [nV_len, List.take_length] at hL3
        refine ⟨L, _, rfl, .inl (SqL.of hL3), _, _, rfl, rfl, _, rfl, ?_⟩
        have e : rnkOf N A x = rankOf (x / N) * A.length + (A.filter fun a => decide (a < x % N)).length := by unfold rnkOf; rw [hp, if_pos rfl]
        have := k' H3 (sm12.trans sm3)
        rw [e] at this
        rw [nV_len]
        push_cast at this
        exact this
end
end Tf

/-! ## TfRuled3 -/
set_option Elab.async false
set_option linter.all false
set_option maxRecDepth 100000
set_option maxHeartbeats 4000000
/-! RuledSequence: contains, next, last, covers. -/
namespace Tf
open PySem PySem.Spec PyProof.Rows L2

theorem FnOk.sub {P : Program} {w : World} {K : PySem.W.Frag} {mg : Str → Option Value} {base : Heap} {CX : CXT} {k : Nat} {f : Addr} {fd : FuncData} {ps : List Str} {sp sp' : Sp} (F : FnOk P w K mg base CX k f fd ps sp) (h : ∀ vs H Q E, sp' vs H Q E → sp vs H Q E) : FnOk P w K mg base CX k f fd ps sp' :=
  ⟨fun vs H Q E z => F.len vs H Q E (h _ _ _ _ z), fun A outer s H args us vs Q E hr e0 hb r z => F.run A outer s H args us vs Q E hr e0 hb r (h _ _ _ _ z)⟩

/-! ### what the public methods answer: offset off -/
abbrev fMem : Nat → List Nat → Sv → Nat → Nat → V := fun N A _ off n => .int (memOf N A n + off : Nat)
abbrev fRnk : Nat → List Nat → Sv → Nat → Nat → V := fun N A _ off x => .int (rnkOf N A (x - off) : Nat)
abbrev fCnt : Nat → List Nat → Sv → Nat → Nat → V := fun N A _ off x => .bl (decide (off ≤ x) && cntOf N A (x - off))
abbrev fNext : Nat → List Nat → Sv → Nat → Nat → V := fun N A _ off x => .int (memOf N A (rnkOf N A (x + 1 - off)) + off : Nat)
abbrev fLast : Nat → List Nat → Sv → Nat → Nat → V := fun N A _ off x => if rnkOf N A (x + 1 - off) = 0 then .non else .int (memOf N A (rnkOf N A (x + 1 - off) - 1) + off : Nat)
abbrev fRul : Nat → List Nat → Sv → Nat → Nat → Option (Nat × Nat) := fun N A sv off x => if x < off then none else (rulOf N A sv (x - off)).map fun p => (p.1 + off, p.2 + off)
abbrev fGap : Nat → List Nat → Sv → Nat → Nat → V := fun N A _ _ n => .int ((memOf N A n : Int) - (memOf N A (n - 1) : Int))
theorem rnkOf_lt {N x b : Nat} {A : List Nat} (h : x < 2 ^ b) (hl : A.length ≤ 256) : rnkOf N A x < 2 ^ (b + 10) := by
  have h1 := rankOf_lt (x := x / N) (Nat.lt_of_le_of_lt (Nat.div_le_self ..) h)
  have h2 : (if plainN (x / N) then (A.filter fun a => decide (a < x % N)).length else 0) ≤ 256 := by
    split
    · exact Nat.le_trans (List.length_filter_le ..) hl
    · omega
  have h3 : rankOf (x / N) * A.length ≤ rankOf (x / N) * 256 := Nat.mul_le_mul_left _ hl
  unfold rnkOf
  rw [Nat.pow_add]
  have : (2 : Nat) ^ 10 = 1024 := rfl
  rw [this]
  have h4 : 0 < (2 : Nat) ^ b := Nat.pow_pos (by omega)
  omega
theorem find_at {A : List Nat} {p : Nat → Bool} : ∀ {i d : Nat}, A[i]? = some d → p d = true → (∀ (j e : Nat), j < i → A[j]? = some e → p e = false) → A.find? p = some d := by
  induction A with
  | nil => intro i d h; simp at h
  | cons a A ih =>
    intro i d h hp hb
    cases i with
    | zero =>
      simp at h
      subst h
      rw [List.find?_cons, hp]
    | succ i =>
      rw [List.find?_cons, hb 0 a (Nat.succ_pos _) rfl]
      exact ih (by simpa using h) hp fun j e hj he => hb (j + 1) e (by omega) (by simpa using he)
theorem find_no {A : List Nat} {p : Nat → Bool} (h : ∀ (j e : Nat), A[j]? = some e → p e = false) : A.find? p = none := by
  rw [List.find?_eq_none]
  intro a ha
  obtain ⟨i, hi, e⟩ := List.mem_iff_getElem.mp ha
  rw [h i a (by rw [List.getElem?_eq_getElem hi, e])]
  exact Bool.false_ne_true
section
variable {P : Program} {w : World} {K : PySem.W.Frag} {mg : Str → Option Value} {base : Heap} {f C D : Addr} {fd : FuncData} {Z : Nat → Prop}
theorem scContains : FnScope ["self", "x"] ["self", "x"] (defScope trContains) := ⟨rfl, rfl, rfl, by decide +kernel, rfl, by decide +kernel, by decide +kernel⟩
theorem ok_contains (F : Fun K "contains" "RuledSequence.contains" trContains f fd) (T : SqC K D) (G : CellM P w K mg base C) (M : BaseM P w K mg base) : FnOk P w K mg base CX0 4 f fd ["self", "x"] (spS2 C D anyO 0 1000 fun N A _ _ n => .bl (cntOf N A n)) := by
  refine F.ok scContains (fun vs H Q E h => ?_) (fun cdv Ar outer s H vs Q E hr h => ?_)
  · obtain ⟨q, c, N, A, sv, off, x, rfl, _⟩ := h; rfl
  · obtain ⟨q, c, N, A, sv, off, x, rfl, S, _, _, hx, k⟩ := h
    obtain ⟨dx, hq⟩ := S.ob
    obtain ⟨cx, m, d, kk, tb, kn, h1, h2, h3, h4, h5, h6⟩ := id S.ce.ob
    have hr1 := hr.mono (by decide : 1 ≤ 3)
    have hr2 := hr.mono (by decide : 2 ≤ 3)
    have ok := S.ce.arg
    have hN1 := ok.pos
    have hN2 := ok.le
    refine ⟨_, pss_cons (ps_expr (pe_fn M.least hr1 (by rfl) (pa_cons (pv 1) (pa_cons pe_int pa_nil))))
      (pss_one (ps_ret (pe_and (pe_fn M.inb hr (by rfl) (pa_cons (pe_op op_fdiv (pv 1) (pe_pr (pe_fld (pv 0) rfl) G.modulus hr2)) pa_nil)) (pe_one (pe_mt (pe_fld (pv 0) rfl) G.has hr (pa_cons (pe_op op_mod (pv 1) (pe_pr (pe_fld (pv 0) rfl) G.modulus hr2)) pa_nil)))))), ?_⟩
    have pr : ∀ {R : Hp → Addr → Nat → List Nat → Sv → VK → Prop} {H1 : Hp} {Q1 : VK}, Same H H1 → R H1 c N A sv Q1 → ∃ a dx fs, V.ref c = .ref a ∧ H1 a = some (.ins C dx fs) ∧ spC1 C R (.ref a :: []) H1 Q1 E0 := fun sm r => ⟨c, cx, _, rfl, sm _ _ h1, c, N, A, sv, rfl, S.ce.mono sm, r⟩
    refine ⟨_, rfl, _, _, rfl, by omega, ?_⟩
    have hq1 : x / N < 2 ^ 1000 := Nat.lt_of_le_of_lt (Nat.div_le_self ..) hx
    refine ⟨_, rfl, _, rfl, q, D, dx, _, _, rfl, hq, T.cl, T.nC, seqF_C .., pr (.refl _) ⟨_, _, rfl, rfl, ⟨by omega, by omega⟩, x / N, rfl, hq1, fun H1 sm1 => ⟨_, rfl, ?_⟩⟩⟩
    have k1 : Q (.bl (cntOf N A x)) H1 := k H1 sm1
    unfold cntOf at k1
    cases hp : plainN (x / N) with
    | false =>
      rw [hp] at k1
      exact iteF k1
    | true =>
      rw [hp] at k1
      refine iteT ⟨_, rfl, q, D, dx, _, _, rfl, sm1 _ _ hq, T.cl, T.nC, seqF_C .., c, cx, _, rfl, sm1 _ _ h1, cellF_no _ _ _ _ (by decide +kernel), ?_⟩
      refine ⟨_, rfl, _, rfl, q, D, dx, _, _, rfl, sm1 _ _ hq, T.cl, T.nC, seqF_C .., pr sm1 ⟨_, _, rfl, rfl, (by show (0 : Int) < (N : Int); omega), c, N, A, sv, x % N, rfl, S.ce.mono sm1, Nat.mod_lt _ hN1, k1⟩⟩
theorem scNext : FnScope ["self", "x"] ["self", "x"] (defScope trNext) := ⟨rfl, rfl, rfl, by decide +kernel, rfl, by decide +kernel, by decide +kernel⟩
theorem ok_next {j : Nat} (F : Fun K "next_member" "RuledSequence.next_member" trNext f fd) (M : BaseM P w K mg base) (GM : Mt P w K mg base D "member" (j + 1) ["self", "number"] [] (spS2 C D Z 0 1000 fMem)) (GR : Mt P w K mg base D "rank" (j + 1) ["self", "x"] [] (spS2 C D Z 0 1000 fRnk)) :
    FnOk P w K mg base CX0 (j + 2) f fd ["self", "x"] (spS2 C D Z 0 900 fNext) := by
  refine F.ok scNext (fun vs H Q E h => ?_) (fun cdv Ar outer s H vs Q E hr h => ?_)
  · obtain ⟨q, c, N, A, sv, off, x, rfl, _⟩ := h; rfl
  · obtain ⟨q, c, N, A, sv, off, x, rfl, S, hz, _, hx, k⟩ := h
    obtain ⟨dx, hq⟩ := S.ob
    have hr1 := hr.mono (by omega : 1 ≤ j + 1)
    refine ⟨_, pss_cons (ps_expr (pe_fn M.least hr1 (by rfl) (pa_cons (pv 1) (pa_cons pe_int pa_nil))))
      (pss_one (ps_ret (pe_mt (pv 0) GM hr (pa_cons (pe_mt (pv 0) GR hr (pa_cons (pe_op op_add (pv 1) pe_int) pa_nil)) pa_nil)))), ?_⟩
    have p9 : (2 : Nat) ^ 901 = 2 * 2 ^ 900 := by rw [show (901 : Nat) = 900 + 1 from rfl, Nat.pow_succ, Nat.mul_comm]
    have p10 : (2 : Nat) ^ 901 ≤ 2 ^ 1000 := Nat.pow_le_pow_right (by omega) (by omega)
    have hx1 : x + 1 < 2 ^ 901 := by have : 0 < (2 : Nat) ^ 900 := Nat.pow_pos (by omega); omega
    have hn : rnkOf N A (x + 1 - off) < 2 ^ 1000 := Nat.lt_of_lt_of_le (rnkOf_lt (b := 901) (Nat.lt_of_le_of_lt (Nat.sub_le ..) hx1) S.ce.arg.len) (Nat.pow_le_pow_right (by omega) (by omega))
    refine ⟨_, rfl, _, _, rfl, by omega, ?_⟩
    refine ⟨_, rfl, q, dx, _, rfl, hq, seqF_no _ _ (by decide +kernel), _, rfl, q, dx, _, rfl, hq, seqF_no _ _ (by decide +kernel), _, rfl, _, _, rfl, rfl, ?_⟩
    refine ⟨q, c, N, A, sv, off, x + 1, rfl, S, hz, Nat.zero_le _, Nat.lt_of_lt_of_le hx1 p10, fun H1 sm1 => ?_⟩
    exact ⟨q, c, N, A, sv, off, rnkOf N A (x + 1 - off), rfl, S.mono sm1, hz, Nat.zero_le _, hn, fun H2 sm2 => k H2 (sm1.trans sm2)⟩
theorem scLast : FnScope ["self", "x", "found"] ["self", "x"] (defScope trLast) := ⟨rfl, rfl, rfl, by decide +kernel, rfl, by decide +kernel, by decide +kernel⟩
theorem ok_last {j : Nat} (F : Fun K "last_member" "RuledSequence.last_member" trLast f fd) (M : BaseM P w K mg base) (GM : Mt P w K mg base D "member" (j + 1) ["self", "number"] [] (spS2 C D Z 0 1000 fMem)) (GR : Mt P w K mg base D "rank" (j + 1) ["self", "x"] [] (spS2 C D Z 0 1000 fRnk)) :
    FnOk P w K mg base CX0 (j + 2) f fd ["self", "x"] (spS2 C D Z 0 900 fLast) := by
  refine F.ok scLast (fun vs H Q E h => ?_) (fun cdv Ar outer s H vs Q E hr h => ?_)
  · obtain ⟨q, c, N, A, sv, off, x, rfl, _⟩ := h; rfl
  · obtain ⟨q, c, N, A, sv, off, x, rfl, S, hz, _, hx, k⟩ := h
    obtain ⟨dx, hq⟩ := S.ob
    have nd := scLast.nd
    have hr1 := hr.mono (by omega : 1 ≤ j + 1)
    refine ⟨_, pss_cons (ps_expr (pe_fn M.least hr1 (by rfl) (pa_cons (pv 1) (pa_cons pe_int pa_nil))))
      (pss_cons (ps_set (i := 2) nd rfl (.inl rfl) (pe_mt (pv 0) GR hr (pa_cons (pe_op op_add (pv 1) pe_int) pa_nil)))
      (pss_one (ps_ret (pe_ifExp (pt_cmpR op_eq (pv 2) pe_int (nomark _)) pe_non (pe_mt (pv 0) GM hr (pa_cons (pe_op op_sub (pv 2) pe_int) pa_nil)))))), ?_⟩
    have p9 : (2 : Nat) ^ 901 = 2 * 2 ^ 900 := by rw [show (901 : Nat) = 900 + 1 from rfl, Nat.pow_succ, Nat.mul_comm]
    have p10 : (2 : Nat) ^ 901 ≤ 2 ^ 1000 := Nat.pow_le_pow_right (by omega) (by omega)
    have hx1 : x + 1 < 2 ^ 901 := by have : 0 < (2 : Nat) ^ 900 := Nat.pow_pos (by omega); omega
    have hn : rnkOf N A (x + 1 - off) < 2 ^ 1000 := Nat.lt_of_lt_of_le (rnkOf_lt (b := 901) (Nat.lt_of_le_of_lt (Nat.sub_le ..) hx1) S.ce.arg.len) (Nat.pow_le_pow_right (by omega) (by omega))
    refine ⟨_, rfl, _, _, rfl, by omega, ?_⟩
    refine ⟨_, rfl, q, dx, _, rfl, hq, seqF_no _ _ (by decide +kernel), _, rfl, _, _, rfl, rfl, ?_⟩
    refine ⟨q, c, N, A, sv, off, x + 1, rfl, S, hz, Nat.zero_le _, Nat.lt_of_lt_of_le hx1 p10, fun H1 sm1 => ?_⟩
    refine ⟨_, rfl, rfl, _, rfl, ?_⟩
    by_cases h0 : rnkOf N A (x + 1 - off) = 0
    · refine ite2 (fun _ => ?_) (fun hn => absurd (decide_eq_true (show V.int (rnkOf N A (x + 1 - off) : Nat) = V.int 0 by rw [h0]; rfl)) hn)
      have := k H1 sm1
      simp only [fLast, if_pos h0] at this
      exact this
    · refine ite2 (fun he => absurd (of_decide_eq_true he) (fun z => h0 (by injection z with z; omega))) (fun _ => ?_)
      refine ⟨_, rfl, q, dx, _, rfl, sm1 _ _ hq, seqF_no _ _ (by decide +kernel), _, rfl, _, _, rfl, rfl, ?_⟩
      have e1 : (rnkOf N A (x + 1 - off) : Int) - 1 = ((rnkOf N A (x + 1 - off) - 1 : Nat) : Int) := by omega
      refine ⟨q, c, N, A, sv, off, rnkOf N A (x + 1 - off) - 1, by rw [← e1]; rfl, S.mono sm1, hz, Nat.zero_le _, by omega, fun H2 sm2 => ?_⟩
      have := k H2 (sm1.trans sm2)
      simp only [fLast, if_neg h0] at this
      exact this
end
end Tf

/-! ## TfRuled4 -/
set_option Elab.async false
set_option linter.all false
set_option maxRecDepth 100000
set_option maxHeartbeats 4000000
/-! RuledSequence: small_cover, ruling_pair. -/
namespace Tf
open PySem PySem.Spec PyProof.Rows L2
section
variable {P : Program} {w : World} {K : PySem.W.Frag} {mg : Str → Option Value} {base : Heap} {f C D : Addr} {fd : FuncData} {Z : Nat → Prop}
theorem scSmall : FnScope ["self", "x", "known", "low", "member"] ["self", "x"] (defScope trSmall) := ⟨rfl, rfl, rfl, by decide +kernel, rfl, by decide +kernel, by decide +kernel⟩
theorem ok_small (F : Fun K "small_cover" "RuledSequence.small_cover" trSmall f fd) (T : SqC K D) (G : CellM P w K mg base C) : FnOk P w K mg base CX0 3 f fd ["self", "x"] (spS3 C D anyO 1000 fun _ A _ _ x => smallOf A x) := by
  refine F.ok scSmall (fun vs H Q E h => ?_) (fun cdv Ar outer s H vs Q E hr h => ?_)
  · obtain ⟨q, c, N, A, sv, off, x, rfl, _⟩ := h; rfl
  · obtain ⟨q, c, N, A, sv, off, x, rfl, S, _, hx, kn, ks⟩ := h
    obtain ⟨dx, hq⟩ := S.ob
    obtain ⟨cx, m, d, kk, tb, kn', h1, h2, h3, h4, h5, h6⟩ := id S.ce.ob
    have nd := scSmall.nd
    have hu := hu_of hr
    have ok := S.ce.arg
    refine ⟨_, pss_cons (ps_setDc (i := 2) (own := [("member", 4)]) (g := gName 4) (tt := tYes) (by rfl) nd rfl rfl (sw_trueD rfl rfl rfl (by decide +kernel)) (pi_tup (pe_pr (pe_fld (pv 0) rfl) G.members hr)) (blkOk_by (own := [("member", 4)]) (N := ["self", "x", "known", "low", "member"]) (sc := defScope trSmall) (by decide +kernel))
        (fun _ _ _ _ _ => pg_name (i := 4) nd rfl (Or.inl rfl)) (fun _ _ _ _ _ => pts_nil) (fun _ _ _ _ _ => pv 4) (fun _ _ _ _ _ => pe_bl))
      (pss_cons (ps_for PassesOwn.never rfl (pi_tup (pe_pr (pe_fld (pv 0) rfl) G.members hr)) (pg_name (i := 3) nd rfl (.inl rfl))
        (pss_one (ps_if (PW.pt (pw_and (pt_cmpR op_lt (pv 3) (pv 1) (nomark _)) (pw_and (pt_cmpR op_eq (pe_op op_mod (pe_op op_add (pv 3) (pv 1)) pe_int) pe_int (nomark _)) (pw_and1 (pt_cmp (pc_din hu (pe_op op_fdiv (pe_op op_add (pv 3) (pv 1)) pe_int) (pv 2)))))))
          (pss_one (ps_ret (pe_tup (pa_cons (pv 3) (pa_cons (pe_op op_fdiv (pe_op op_add (pv 3) (pv 1)) pe_int) pa_nil))))) pss_nil)))
      (pss_one (ps_ret pe_non))), ?_⟩
    have pr : ∀ {R : Hp → Addr → Nat → List Nat → Sv → VK → Prop} {H1 : Hp} {Q1 : VK}, Same H H1 → R H1 c N A sv Q1 → ∃ a dx fs, V.ref c = .ref a ∧ H1 a = some (.ins C dx fs) ∧ spC1 C R (.ref a :: []) H1 Q1 E0 := fun sm r => ⟨c, cx, _, rfl, sm _ _ h1, c, N, A, sv, rfl, S.ce.mono sm, r⟩
    refine ⟨_, rfl, q, D, dx, _, _, rfl, hq, T.cl, T.nC, seqF_C .., pr (.refl _) fun m' hm' => ⟨m', rfl, ⟨_, SqT.of hm'⟩, fun L hL => ?_⟩⟩
    refine known_rd hm' hL (by have := ok.len; omega) (fun i d H2 hd sm R ⟨kvs, h1, h2, h3⟩ => ?_) (fun H1 kw sm hk kws => ?_)
    · exact ⟨rfl, _, rfl, kvs, Sum.inl (d : Int), rfl, h1, h2, h3⟩
    · refine ⟨_, rfl, q, D, dx, _, _, rfl, sm _ _ hq, T.cl, T.nC, seqF_C .., pr sm fun m2 hm2 => ⟨m2, rfl, ⟨_, SqT.of hm2⟩, ?_⟩⟩
      refine for_tup (K := K) (a := m2) (xs := nV A) (fun i σ H2 => H1 = H2 ∧ ∃ v3, σ = [some (.ref q), some (.int (x : Nat)), some (.ref L), v3, none] ∧ ∀ j e, j < i → A[j]? = some e → (decide (e < x) && decide ((e + x) % 2 = 0) && A.contains ((e + x) / 2)) = false) ⟨rfl, none, rfl, fun j e h => absurd h (Nat.not_lt_zero _)⟩ (fun i σ H2 _ h => by rw [← h.1]; exact SqT.of hm2) ?_ ?_
      · rintro i y σ H2 hi ⟨rfl, v3, rfl, hb⟩
        obtain ⟨lo, hlo, rfl⟩ := nV_get hi
        have no : (decide (lo < x) && decide ((lo + x) % 2 = 0) && A.contains ((lo + x) / 2)) = false → ∀ j e, j < i + 1 → A[j]? = some e → (decide (e < x) && decide ((e + x) % 2 = 0) && A.contains ((e + x) / 2)) = false := fun z j e hj he => by
          by_cases h : j < i
          · exact hb j e h he
          · have : j = i := by omega
            subst this
            rw [hlo] at he
            cases he
            exact z
        refine ⟨_, rfl, _, rfl, _, _, rfl, rfl, _, rfl, ?_⟩
        by_cases c1 : lo < x
        · refine ite2 (fun _ => ?_) (fun hn => absurd (decide_eq_true (show (lo : Int) < (x : Int) by omega)) hn)
          refine ⟨_, rfl, _, rfl, _, _, rfl, rfl, _, _, rfl, rfl, (by show (0 : Int) < 2; decide), rfl, _, rfl, ?_⟩
          by_cases c2 : (lo + x) % 2 = 0
          · refine ite2 (fun _ => ?_) (fun hn => absurd (decide_eq_true (show V.int (((lo : Int) + (x : Int)) % 2) = V.int 0 by congr 1; omega)) hn)
            have e1 : ((lo : Int) + (x : Int)) / 2 = (((lo + x) / 2 : Nat) : Int) := by omega
            refine ⟨_, rfl, _, rfl, _, _, rfl, rfl, _, _, rfl, rfl, ⟨by decide, by decide⟩, _, rfl, L, _, rfl, DGet.k (k := Sum.inl (((lo : Int) + (x : Int)) / 2)) hk, _, rfl, ?_⟩
            rw [e1, kws.1]
            cases c3 : A.contains ((lo + x) / 2) with
            | true =>
              refine iteT ⟨_, rfl, _, rfl, _, rfl, _, _, rfl, rfl, _, _, rfl, rfl, ⟨by decide, by decide⟩, by show 2 ≤ sizeLine; decide, fun t ht => ?_⟩
              have e2 : smallOf A x = some (lo, (lo + x) / 2) := by
                unfold smallOf
                rw [find_at hlo (by rw [decide_eq_true c1, decide_eq_true c2, c3]; rfl) hb]
                rfl
              refine ks t lo ((lo + x) / 2) _ (same_upd sm (sm.free ht)) e2 (sm.free ht) ?_
              rw [upd_same]
              simp only [e1]
            | false => exact iteF ⟨rfl, _, rfl, no (by rw [c3, Bool.and_false])⟩
          · refine ite2 (fun he => absurd (of_decide_eq_true he) (fun z => c2 (by injection z with z; omega))) (fun _ => ?_)
            exact iteF ⟨rfl, _, rfl, no (by rw [decide_eq_false c2, Bool.and_false]; rfl)⟩
        · refine ite2 (fun he => absurd (of_decide_eq_true he) (by omega)) (fun _ => ?_)
          exact iteF ⟨rfl, _, rfl, no (by rw [decide_eq_false c1]; rfl)⟩
      · rintro σ H2 ⟨rfl, v3, rfl, hb⟩
        rw [nV_len] at hb
        refine kn _ sm ?_
        show smallOf A x = none
        unfold smallOf
        rw [find_no fun j e he => hb j e (List.getElem?_eq_some_iff.mp he).1 he]
        rfl
theorem scRuling : FnScope ["self", "x", "modulus", "quotient", "rest", "first", "second", "low", "middle"] ["self", "x"] (defScope trRuling) := ⟨rfl, rfl, rfl, by decide +kernel, rfl, by decide +kernel, by decide +kernel⟩
theorem ok_ruling {k0 : Nat} (F : Fun K "ruling_pair" "RuledSequence.ruling_pair" trRuling f fd) (T : SqC K D) (G : CellM P w K mg base C) (M : BaseM P w K mg base) (GS : Mt P w K mg base D "small_cover" 3 ["self", "x"] [] (spS3 C D anyO 1000 fun _ A _ _ x => smallOf A x)) :
    FnOk P w K mg base CX0 5 f fd ["self", "x"] (spS3 C D anyO 1000 fun N A sv _ x => rulOf N A sv x) := by
  refine F.ok scRuling (fun vs H Q E h => ?_) (fun cdv Ar outer s H vs Q E hr h => ?_)
  · obtain ⟨q, c, N, A, sv, off, x, rfl, _⟩ := h; rfl
  · obtain ⟨q, c, N, A, sv, off, x, rfl, S, _, hx, kn, ks⟩ := h
    obtain ⟨dx, hq⟩ := S.ob
    obtain ⟨cx, m, d, kk, tb, kn', h1, h2, h3, h4, h5, h6⟩ := id S.ce.ob
    have nd := scRuling.nd
    have hr2 := hr.mono (by decide : 2 ≤ 4)
    have hr3 := hr.mono (by decide : 3 ≤ 4)
    have ok := S.ce.arg
    have hN1 := ok.pos
    have hN2 := ok.le
    refine ⟨_, pss_cons (ps_if (pt_cmpR op_lt (pv 1) (pe_pr (pe_fld (pv 0) rfl) G.greatest hr2) (nomark _)) (pss_one (ps_ret (pe_mt (pv 0) GS hr3 (pa_cons (pv 1) pa_nil)))) pss_nil)
      (pss_cons (ps_set (i := 2) nd rfl (.inl rfl) (pe_pr (pe_fld (pv 0) rfl) G.modulus hr2))
      (pss_cons (ps_par (i := 3) (j := 4) (by rfl) nd rfl rfl (by decide) rfl rfl (pa_cons (pe_op op_fdiv (pv 1) (pv 2)) (pa_cons (pe_op op_mod (pv 1) (pv 2)) pa_nil)) (by rfl))
      (pss_cons (ps_if (pt_val (pe_mt (pe_fld (pv 0) rfl) G.has hr3 (pa_cons (pv 4) pa_nil)))
        (pss_cons (ps_asg (pe_fn M.pair hr3 (by rfl) (pa_cons (pv 3) pa_nil)) (pg_tup (by rfl) (pgs_cons (pg_name (i := 5) nd rfl (.inl rfl)) (pgs_cons (pg_name (i := 6) nd rfl (.inl rfl)) pgs_nil))))
        (pss_one (ps_ret (pe_tup (pa_cons (pe_op op_add (pv 4) (pe_op op_mul (pv 2) (pv 5))) (pa_cons (pe_op op_add (pv 4) (pe_op op_mul (pv 2) (pv 6))) pa_nil)))))) pss_nil)
      (pss_cons (ps_asg (pe_mt (pe_fld (pv 0) rfl) G.serving hr (pa_cons (pv 4) pa_nil)) (pg_tup (by rfl) (pgs_cons (pg_name (i := 7) nd rfl (.inl rfl)) (pgs_cons (pg_name (i := 8) nd rfl (.inl rfl)) pgs_nil))))
      (pss_cons (ps_asg (pe_fn M.pair hr3 (by rfl) (pa_cons (pe_op op_sub (pv 3) (pe_mt (pe_fld (pv 0) rfl) G.carry hr (pa_cons (pv 4) pa_nil))) pa_nil)) (pg_tup (by rfl) (pgs_cons (pg_name (i := 5) nd rfl (.inl rfl)) (pgs_cons (pg_name (i := 6) nd rfl (.inl rfl)) pgs_nil))))
      (pss_one (ps_ret (pe_tup (pa_cons (pe_op op_add (pv 7) (pe_op op_mul (pv 2) (pv 5))) (pa_cons (pe_op op_add (pv 8) (pe_op op_mul (pv 2) (pv 6))) pa_nil)))))))))), ?_⟩
    have pr : ∀ {R : Hp → Addr → Nat → List Nat → Sv → VK → Prop} {H1 : Hp} {Q1 : VK}, Same H H1 → R H1 c N A sv Q1 → ∃ a dx fs, V.ref c = .ref a ∧ H1 a = some (.ins C dx fs) ∧ spC1 C R (.ref a :: []) H1 Q1 E0 := fun sm r => ⟨c, cx, _, rfl, sm _ _ h1, c, N, A, sv, rfl, S.ce.mono sm, r⟩
    refine ⟨_, rfl, _, rfl, q, D, dx, _, _, rfl, hq, T.cl, T.nC, seqF_C .., pr (.refl _) ⟨_, _, rfl, rfl, _, rfl, ?_⟩⟩
    by_cases ht : x < top A
    · refine ite2 (fun _ => ?_) (fun hn => absurd (decide_eq_true (show (x : Int) < (top A : Int) by omega)) hn)
      have er : rulOf N A sv x = smallOf A x := by unfold rulOf; rw [if_pos ht]
      refine ⟨_, rfl, q, dx, _, rfl, hq, seqF_no _ _ (by decide +kernel), _, rfl, q, c, N, A, sv, off, x, rfl, S, trivial, hx, fun H1 sm1 e => kn H1 sm1 (er.trans e), fun t a b H1 sm1 e nt et => ks t a b H1 sm1 (er.trans e) nt et⟩
    · refine ite2 (fun he => absurd (of_decide_eq_true he) (by omega)) (fun _ => ?_)
      refine ⟨_, rfl, q, D, dx, _, _, rfl, hq, T.cl, T.nC, seqF_C .., pr (.refl _) ?_⟩
      refine ⟨_, rfl, _, rfl, _, _, rfl, rfl, ⟨by omega, by omega⟩, _, rfl, _, rfl, _, _, rfl, rfl, (by show (0 : Int) < (N : Int); omega), _, _, rfl, ?_⟩
      have hrN := Nat.mod_lt x hN1
      have hqx : x / N < 2 ^ 1000 := Nat.lt_of_le_of_lt (Nat.div_le_self ..) hx
      refine ⟨_, rfl, q, D, dx, _, _, rfl, hq, T.cl, T.nC, seqF_C .., c, cx, _, rfl, h1, cellF_no _ _ _ _ (by decide +kernel), _, rfl, c, N, A, sv, x % N, rfl, S.ce, hrN, _, rfl, ?_⟩
      cases hh : A.contains (x % N) with
      | true =>
        refine iteT ⟨_, rfl, x / N, rfl, hqx, fun t H1 sm1 nt et => ⟨_, _, rfl, SqT.of et, rfl, _, _, rfl, _, _, rfl, rfl, ?_⟩⟩
        refine ⟨_, rfl, _, rfl, _, rfl, _, _, rfl, rfl, .inl ⟨by omega, by omega⟩, _, _, rfl, rfl, ?_⟩
        refine ⟨_, rfl, _, rfl, _, rfl, _, _, rfl, rfl, .inl ⟨by omega, by omega⟩, _, _, rfl, rfl, ?_⟩
        refine ⟨by show 2 ≤ sizeLine; decide, fun u hu => ?_⟩
        have er : rulOf N A sv x = some (x % N + N * lowOf (x / N), x % N + N * upOf (x / N)) := by unfold rulOf; rw [if_neg ht, hh, if_pos rfl]
        refine ks u _ _ _ (same_upd sm1 (sm1.free hu)) er (sm1.free hu) ?_
        rw [upd_same]
        push_cast
        rfl
      | false =>
        have hn : x % N ∉ A := fun z => by rw [List.contains_iff_mem.mpr z] at hh; cases hh
        have R := S.ce.sv (x % N) hrN hn
        refine iteF ⟨_, rfl, q, D, dx, _, _, rfl, hq, T.cl, T.nC, seqF_C .., c, cx, _, rfl, h1, cellF_no _ _ _ _ (by decide +kernel), _, rfl, c, N, A, sv, x % N, rfl, S.ce, hrN, hn, fun t H1 sm1 nt et => ⟨_, _, rfl, SqT.of et, rfl, _, _, rfl, _, _, rfl, rfl, ?_⟩⟩
        refine ⟨_, rfl, _, rfl, q, D, dx, _, _, rfl, sm1 _ _ hq, T.cl, T.nC, seqF_C .., c, cx, _, rfl, sm1 _ _ h1, cellF_no _ _ _ _ (by decide +kernel), _, rfl, c, N, A, sv, x % N, rfl, S.ce.mono sm1, hrN, hn, _, _, rfl, rfl, ?_⟩
        have hc : (sv (x % N)).1 ≤ x / N := by
          rcases R.carry ok.toCellOk with z | ⟨z, z'⟩
          · rw [z]; exact Nat.zero_le _
          · rw [z]
            refine Nat.div_pos ?_ hN1
            by_cases hlt : x < N
            · rw [Nat.mod_eq_of_lt hlt] at z'
              omega
            · omega
        have e1 : (x : Int) / (N : Int) - ((sv (x % N)).1 : Int) = ((x / N - (sv (x % N)).1 : Nat) : Int) := by
          have : (x : Int) / (N : Int) = ((x / N : Nat) : Int) := rfl
          omega
        refine ⟨x / N - (sv (x % N)).1, by rw [← e1]; rfl, Nat.lt_of_le_of_lt (Nat.sub_le ..) hqx, fun t2 H2 sm2 nt2 et2 => ⟨_, _, rfl, SqT.of et2, rfl, _, _, rfl, _, _, rfl, rfl, ?_⟩⟩
        refine ⟨_, rfl, _, rfl, _, rfl, _, _, rfl, rfl, .inl ⟨by omega, by omega⟩, _, _, rfl, rfl, ?_⟩
        refine ⟨_, rfl, _, rfl, _, rfl, _, _, rfl, rfl, .inl ⟨by omega, by omega⟩, _, _, rfl, rfl, ?_⟩
        refine ⟨by show 2 ≤ sizeLine; decide, fun u hu => ?_⟩
        have er : rulOf N A sv x = some ((sv (x % N)).2.1 + N * lowOf (x / N - (sv (x % N)).1), (sv (x % N)).2.2 + N * upOf (x / N - (sv (x % N)).1)) := by unfold rulOf; rw [if_neg ht, hh]; rfl
        have sm12 := sm1.trans sm2
        refine ks u _ _ _ (same_upd sm12 (sm12.free hu)) er (sm12.free hu) ?_
        rw [upd_same]
        push_cast
        rfl
end
end Tf

/-! ## TfRuled5 -/
set_option Elab.async false
set_option linter.all false
set_option maxRecDepth 100000
set_option maxHeartbeats 4000000
/-! RuledSequence: gap, check_cover, len, init, tripled; ShiftedSequence's own methods. -/
namespace Tf
open PySem PySem.Spec PyProof.Rows L2
/-- check_cover's answer -/
def chkOf (cnt : Nat → Bool) (x l h : Int) : Bool := decide (0 ≤ l ∧ 0 ≤ h) && (decide (l < h) && (decide (2 * h - l = x) && (cnt l.toNat && cnt h.toNat)))
abbrev cntO (N : Nat) (A : List Nat) (off x : Nat) : Bool := decide (off ≤ x) && cntOf N A (x - off)
def spCheck (C D : Addr) (Z : Nat → Prop) : Sp := fun vs H Q _ => ∃ (q c t : Addr) (N : Nat) (A : List Nat) (sv : Sv) (off x : Nat) (l h : Int), vs = [.ref q, .int (x : Nat), .ref t] ∧ SqAt C D H q c N A sv off ∧ Z off ∧ H t = some (.tup [.int l, .int h]) ∧ l < 2 ^ 1000 ∧ h < 2 ^ 1000 ∧
  ∀ H', Same H H' → Q (.bl (chkOf (cntO N A off) x l h)) H'
def spRInit (C D : Addr) : Sp := fun vs H Q _ => ∃ (q c dx : Addr) (N : Nat) (A : List Nat) (sv : Sv), vs = [.ref q, .ref c] ∧ H q = some (.ins D dx []) ∧ CellAt C H c N A sv ∧ ∀ H', SqAt C D H' q c N A sv 0 → (∀ b o, H b = some o → b ≠ q → H' b = some o) → Q .non H'
def spTriCell (C D : Addr) : Sp := fun vs H Q _ => ∃ (q c : Addr) (N : Nat) (A : List Nat) (sv : Sv) (off : Nat), vs = [.ref q] ∧ SqAt C D H q c N A sv off ∧ 3 * N ≤ 20000 ∧ 2 * A.length ≤ 256 ∧ ∀ p sv' H', Same H H' → CellAt C H' p (3 * N) (joinA N A [0, 1]) sv' → Q (.ref p) H'
section
variable {P : Program} {w : World} {K : PySem.W.Frag} {mg : Str → Option Value} {base : Heap} {f C D : Addr} {fd : FuncData} {Z : Nat → Prop}
theorem scGap : FnScope ["self", "number"] ["self", "number"] (defScope trGap) := ⟨rfl, rfl, rfl, by decide +kernel, rfl, by decide +kernel, by decide +kernel⟩
theorem ok_gap {j : Nat} (F : Fun K "gap" "RuledSequence.gap" trGap f fd) (M : BaseM P w K mg base) (GM : Mt P w K mg base D "member" (j + 1) ["self", "number"] [] (spS2 C D Z 0 1000 fMem)) : FnOk P w K mg base CX0 (j + 2) f fd ["self", "number"] (spS2 C D Z 1 1000 fGap) := by
  refine F.ok scGap (fun vs H Q E h => ?_) (fun cdv Ar outer s H vs Q E hr h => ?_)
  · obtain ⟨q, c, N, A, sv, off, x, rfl, _⟩ := h; rfl
  · obtain ⟨q, c, N, A, sv, off, x, rfl, S, hz, hx1, hx, k⟩ := h
    obtain ⟨dx, hq⟩ := S.ob
    have hr1 := hr.mono (by omega : 1 ≤ j + 1)
    refine ⟨_, pss_cons (ps_expr (pe_fn M.least hr1 (by rfl) (pa_cons (pv 1) (pa_cons pe_int pa_nil))))
      (pss_one (ps_ret (pe_op op_sub (pe_mt (pv 0) GM hr (pa_cons (pv 1) pa_nil)) (pe_mt (pv 0) GM hr (pa_cons (pe_op op_sub (pv 1) pe_int) pa_nil))))), ?_⟩
    refine ⟨_, rfl, _, _, rfl, by omega, ?_⟩
    refine ⟨_, rfl, q, dx, _, rfl, hq, seqF_no _ _ (by decide +kernel), _, rfl, q, c, N, A, sv, off, x, rfl, S, hz, Nat.zero_le _, hx, fun H1 sm1 => ?_⟩
    have e1 : (x : Int) - 1 = ((x - 1 : Nat) : Int) := by omega
    refine ⟨_, rfl, q, dx, _, rfl, sm1 _ _ hq, seqF_no _ _ (by decide +kernel), _, rfl, _, _, rfl, rfl, q, c, N, A, sv, off, x - 1, by rw [← e1]; rfl, S.mono sm1, hz, Nat.zero_le _, Nat.lt_of_le_of_lt (Nat.sub_le ..) hx, fun H2 sm2 => ?_⟩
    refine ⟨_, _, rfl, rfl, ?_⟩
    have := k H2 (sm1.trans sm2)
    have e2 : (memOf N A x + off : Nat) - (memOf N A (x - 1) + off : Nat) = (memOf N A x : Int) - (memOf N A (x - 1) : Int) := by push_cast; omega
    simp only [fGap] at this
    rw [← e2] at this
    exact this
theorem scLen : FnScope ["self"] ["self"] (defScope trLen) := ⟨rfl, rfl, rfl, by decide +kernel, rfl, by decide +kernel, by decide +kernel⟩
theorem ok_len (F : Fun K "__len__" "RuledSequence.__len__" trLen f fd) (B : Blt mg) (T : SqC K D) (G : CellM P w K mg base C) : FnOk P w K mg base CX0 3 f fd ["self"] (spS1 C D fun H _ _ _ A _ _ Q => Q (.int (A.length : Nat)) H) := by
  refine F.ok scLen (fun vs H Q E h => ?_) (fun cdv Ar outer s H vs Q E hr h => ?_)
  · obtain ⟨q, c, N, A, sv, off, rfl, _⟩ := h; rfl
  · obtain ⟨q, c, N, A, sv, off, rfl, S, k⟩ := h
    obtain ⟨dx, hq⟩ := S.ob
    obtain ⟨cx, m, d, kk, tb, kn, h1, h2, h3, h4, h5, h6⟩ := id S.ce.ob
    refine ⟨_, pss_one (ps_ret (pe_callB call_len_seq (by rfl) B.len PySem.boot_len (pa_cons (pe_pr (pe_fld (pv 0) rfl) G.members hr) pa_nil))), ?_⟩
    refine ⟨_, rfl, q, D, dx, _, _, rfl, hq, T.cl, T.nC, seqF_C .., c, cx, _, rfl, h1, c, N, A, sv, rfl, S.ce, fun m' hm' => ⟨m', _, rfl, .inr (SqT.of hm'), ?_⟩⟩
    rw [nV_len]
    exact k
theorem scCellP : FnScope ["self"] ["self"] (defScope trCell) := ⟨rfl, rfl, rfl, by decide +kernel, rfl, by decide +kernel, by decide +kernel⟩
theorem ok_cellP (F : Fun K "cell" "RuledSequence.cell" trCell f fd) (T : SqC K D) : FnOk P w K mg base CX0 1 f fd ["self"] (spS1 C D fun H _ c _ _ _ _ Q => Q (.ref c) H) := by
  refine F.ok scCellP (fun vs H Q E h => ?_) (fun cdv Ar outer s H vs Q E hr h => ?_)
  · obtain ⟨q, c, N, A, sv, off, rfl, _⟩ := h; rfl
  · obtain ⟨q, c, N, A, sv, off, rfl, S, k⟩ := h
    obtain ⟨dx, hq⟩ := S.ob
    exact ⟨_, pss_one (ps_ret (pe_fld (pv 0) rfl)), ⟨_, rfl, q, D, dx, _, _, rfl, hq, T.cl, T.nC, seqF_C .., k⟩⟩
theorem scShiftP : FnScope ["self"] ["self"] (defScope tsShift) := ⟨rfl, rfl, rfl, by decide +kernel, rfl, by decide +kernel, by decide +kernel⟩
theorem ok_shiftP (F : Fun K "shift" "ShiftedSequence.shift" tsShift f fd) (T : SqC K D) : FnOk P w K mg base CX0 1 f fd ["self"] (spS1 C D fun H _ _ _ _ _ off Q => Q (.int (off : Nat)) H) := by
  refine F.ok scShiftP (fun vs H Q E h => ?_) (fun cdv Ar outer s H vs Q E hr h => ?_)
  · obtain ⟨q, c, N, A, sv, off, rfl, _⟩ := h; rfl
  · obtain ⟨q, c, N, A, sv, off, rfl, S, k⟩ := h
    obtain ⟨dx, hq⟩ := S.ob
    exact ⟨_, pss_one (ps_ret (pe_fld (pv 0) rfl)), ⟨_, rfl, q, D, dx, _, _, rfl, hq, T.cl, T.nO, seqF_O .., k⟩⟩
theorem scRInit : FnScope ["self", "cell"] ["self", "cell"] (defScope trInit) := ⟨rfl, rfl, rfl, by decide +kernel, rfl, by decide +kernel, by decide +kernel⟩
theorem ok_rinit (F : Fun K "__init__" "RuledSequence.__init__" trInit f fd) (B : Blt mg) (T : SqC K D) (TC : CellC K mg C) (i : IsI K C) (ki : PySem.W.kitOne K (.ref C) (.ref C) = some true) : FnOk P w K mg base CX0 1 f fd ["self", "cell"] (spRInit C D) := by
  refine F.ok scRInit (fun vs H Q E h => ?_) (fun cdv Ar outer s H vs Q E hr h => ?_)
  · obtain ⟨q, c, dx, N, A, sv, rfl, _⟩ := h; rfl
  · obtain ⟨q, c, dx, N, A, sv, rfl, hq, ce, k⟩ := h
    obtain ⟨cx, m, d, kk, tb, kn, h1, h2, h3, h4, h5, h6⟩ := id ce.ob
    refine ⟨_, pss_cons (ps_if (pt_not (pt_val (pe_callB call_isi (by rfl) B.isinstance PyProof.Rows.boot_isinstance (pa_cons (pv 1) (pa_cons (pe_glob (v := .ref C) (by rfl) TC.mgC rfl) pa_nil))))) (pss_one ps_never) pss_nil)
      (pss_cons (ps_fld (pv 0) (pv 1) rfl) (pss_one (ps_fld (pv 0) pe_int rfl))), ?_⟩
    refine ⟨_, rfl, _, _, _, _, true, rfl, .own _, i.ty TC.cl h1, ki, _, rfl, iteF ?_⟩
    refine ⟨_, rfl, _, rfl, q, D, dx, _, rfl, hq, T.cl, T.nC, (by show 0 < 1000; decide), ?_⟩
    refine ⟨_, rfl, q, D, dx, _, rfl, upd_same, T.cl, T.nO, (by show 1 < 1000; decide), ?_⟩
    have o : ∀ u v b ob, H b = some ob → b ≠ q → upd (upd H q u) q v b = some ob := fun u v b ob e hb => by rw [upd_ne hb, upd_ne hb]; exact e
    have nq : ∀ {b : Addr} {ob : HO}, H b = some ob → (∀ C' d' fs, ob ≠ .ins C' d' fs) → b ≠ q := fun e hn z => by subst z; rw [hq] at e; cases e; exact hn _ _ _ rfl
    have ncq : c ≠ q := fun z => by
      subst z; rw [hq] at h1; injection h1 with h1; injection h1 with _ _ z
      rw [cellF_eq] at z
      cases z
    refine k _ ⟨⟨dx, upd_same⟩, ⟨cx, m, d, kk, tb, kn, o _ _ _ _ h1 ncq, o _ _ _ _ h2 (nq h2 fun _ _ _ z => nomatch z), o _ _ _ _ h3 (nq h3 fun _ _ _ z => nomatch z), o _ _ _ _ h4 (nq h4 fun _ _ _ z => nomatch z), h5, fun r hr hn => ?_⟩, ce.arg, ce.sv⟩ fun b ob e hb => o _ _ _ _ e hb
    obtain ⟨t, e1, e2⟩ := h6 r hr hn
    exact ⟨t, e1, o _ _ _ _ e2 (nq e2 fun _ _ _ z => nomatch z)⟩
end
end Tf

/-! ## TfShift -/
set_option Elab.async false
set_option linter.all false
set_option maxRecDepth 100000
set_option maxHeartbeats 4000000
/-! ShiftedSequence's own methods that call super(). -/
namespace Tf
open PySem PySem.Spec PyProof.Rows L2
theorem CellAt.but {C p q D dx : Addr} {H H' : Hp} {N off : Nat} {A : List Nat} {sv : Sv} {c0 : Addr} {fs : List (Str × V)} (c : CellAt C H p N A sv) (hq : H q = some (.ins D dx fs)) (hf : fs.lookup ("table" : Str) = none) (keep : ∀ b o, H b = some o → b ≠ q → H' b = some o) : CellAt C H' p N A sv := by
  obtain ⟨⟨cx, m, d, k, tb, kn, h1, h2, h3, h4, h5, h6⟩, h7, h8⟩ := c
  have nq : ∀ {b : Addr} {ob : HO}, H b = some ob → (∀ C' d' fs, ob ≠ .ins C' d' fs) → b ≠ q := fun e hn z => by subst z; rw [hq] at e; cases e; exact hn _ _ _ rfl
  have ncq : p ≠ q := fun z => by
    subst z; rw [hq] at h1; injection h1 with h1; injection h1 with _ _ z
    rw [z, cellF_T] at hf
    cases hf
  refine ⟨⟨cx, m, d, k, tb, kn, keep _ _ h1 ncq, keep _ _ h2 (nq h2 fun _ _ _ z => nomatch z), keep _ _ h3 (nq h3 fun _ _ _ z => nomatch z), keep _ _ h4 (nq h4 fun _ _ _ z => nomatch z), h5, fun r hr hn => ?_⟩, h7, h8⟩
  obtain ⟨t, e1, e2⟩ := h6 r hr hn
  exact ⟨t, e1, keep _ _ e2 (nq e2 fun _ _ _ z => nomatch z)⟩
def spSInit (C D : Addr) : Sp := fun vs H Q _ => ∃ (q c dx : Addr) (N : Nat) (A : List Nat) (sv : Sv) (sh : Nat), vs = [.ref q, .ref c, .int (sh : Nat)] ∧ H q = some (.ins D dx []) ∧ CellAt C H c N A sv ∧ ∀ H', SqAt C D H' q c N A sv sh → (∀ b o, H b = some o → b ≠ q → H' b = some o) → Q .non H'
/-- what a def that calls super() wants: itself, its class in the way of S, the def behind it -/
structure SupF (P : Program) (w : World) (K : PySem.W.Frag) (mg : Str → Option Value) (base : Heap) (S : Addr) (m : Str) (k : Nat) (ps : List Str) (sp : Sp) : Prop where
  ok : ∃ (g : Addr) (fdg : FuncData), SupC K S S m g ∧ FnOk P w K mg base CX0 k g fdg ps sp ∧ Binds K fdg ps []
section
variable {P : Program} {w : World} {K : PySem.W.Frag} {mg : Str → Option Value} {base : Heap} {f C S cda cc : Addr} {fd : FuncData}
theorem scsMember : ScS ["self", "number"] ["self", "number"] (defScope tsMember) := ⟨rfl, rfl, by decide +kernel, rfl, by decide +kernel, by decide +kernel, by decide +kernel⟩
theorem supT_member (B : Blt mg) (top : (P.main.scope.names.lookup ("super" : Str)).isSome = false) : SupT P mg tsMember ["self", "number"] := ⟨⟨_, rfl, rfl, rfl⟩, rfl, rfl, rfl, B.super, top⟩
theorem ok_smember (F : FunS P K "member" "ShiftedSequence.member" tsMember S f fd cda cc) (B : Blt mg) (top : (P.main.scope.names.lookup ("super" : Str)).isSome = false) (T : SqC K S) (U : SupF P w K mg base S "member" 4 ["self", "number"] (spS2 C S anyO 0 1000 fun N A _ _ n => .int (memOf N A n : Nat))) :
    FnOk P w K mg base CX0 5 f fd ["self", "number"] (spS2 C S anyO 0 1000 fMem) := by
  obtain ⟨g, fdg, sc, G, bg⟩ := U.ok
  refine F.ok scsMember rfl (fun vs H Q E h => ?_) (fun Ar outer s H vs Q E hr h => ?_)
  · obtain ⟨q, c, N, A, sv, off, x, rfl, _⟩ := h; rfl
  · obtain ⟨q, c, N, A, sv, off, x, rfl, X, _, _, hx, k⟩ := h
    obtain ⟨dx, hq⟩ := X.ob
    refine ⟨_, pssa_one (psa_ret (pea_op op_add (pea_super F (supT_member B top) sc G hr bg .nil (pa_cons (pv 1) pa_nil)) (pe_fld (pv 0) rfl))), ?_⟩
    refine ⟨q, dx, _, rfl, hq, _, rfl, q, c, N, A, sv, off, x, rfl, X, trivial, Nat.zero_le _, hx, fun H1 sm1 => ?_⟩
    refine ⟨_, rfl, q, S, dx, _, _, rfl, sm1 _ _ hq, T.cl, T.nO, seqF_O .., _, _, rfl, rfl, ?_⟩
    have := k H1 sm1
    simp only [fMem] at this
    push_cast at this
    exact this
theorem scsRank : ScS ["self", "x"] ["self", "x"] (defScope tsRank) := ⟨rfl, rfl, by decide +kernel, rfl, by decide +kernel, by decide +kernel, by decide +kernel⟩
theorem ok_srank (F : FunS P K "rank" "ShiftedSequence.rank" tsRank S f fd cda cc) (B : Blt mg) (top : (P.main.scope.names.lookup ("super" : Str)).isSome = false) (T : SqC K S) (M : BaseM P w K mg base) (U : SupF P w K mg base S "rank" 4 ["self", "x"] (spS2 C S anyO 0 1000 fun N A _ _ n => .int (rnkOf N A n : Nat))) :
    FnOk P w K mg base CX0 5 f fd ["self", "x"] (spS2 C S anyO 0 1000 fRnk) := by
  obtain ⟨g, fdg, sc, G, bg⟩ := U.ok
  refine F.ok scsRank rfl (fun vs H Q E h => ?_) (fun Ar outer s H vs Q E hr h => ?_)
  · obtain ⟨q, c, N, A, sv, off, x, rfl, _⟩ := h; rfl
  · obtain ⟨q, c, N, A, sv, off, x, rfl, X, _, _, hx, k⟩ := h
    obtain ⟨dx, hq⟩ := X.ob
    have hr1 := hr.mono (by decide : 1 ≤ 4)
    have ST : SupT P mg tsRank ["self", "x"] := ⟨⟨_, rfl, rfl, rfl⟩, rfl, rfl, rfl, B.super, top⟩
    refine ⟨_, pssa_cons (psa_of (ps_expr (pe_fn M.least hr1 (by rfl) (pa_cons (pv 1) (pa_cons pe_int pa_nil)))))
      (pssa_one (psa_ret (pea_super F ST sc G hr bg .nil (pa_cons (pe_callB (call_max2 (by rfl)) (by rfl) B.max PyProof.Rows.boot_max (pa_cons (pe_op op_sub (pv 1) (pe_fld (pv 0) rfl)) (pa_cons pe_int pa_nil))) pa_nil)))), ?_⟩
    refine ⟨_, rfl, _, _, rfl, by omega, ?_⟩
    refine ⟨q, dx, _, rfl, hq, _, rfl, _, rfl, q, S, dx, _, _, rfl, hq, T.cl, T.nO, seqF_O .., _, _, rfl, rfl, _, _, rfl, ?_⟩
    have e : (if (0 : Int) > (x : Int) - (off : Int) then (0 : Int) else (x : Int) - (off : Int)) = ((x - off : Nat) : Int) := by split <;> omega
    refine ⟨q, c, N, A, sv, off, x - off, by rw [← e]; rfl, X, trivial, Nat.zero_le _, Nat.lt_of_le_of_lt (Nat.sub_le ..) hx, k⟩
theorem scsContains : ScS ["self", "x"] ["self", "x"] (defScope tsContains) := ⟨rfl, rfl, by decide +kernel, rfl, by decide +kernel, by decide +kernel, by decide +kernel⟩
theorem ok_scontains (F : FunS P K "contains" "ShiftedSequence.contains" tsContains S f fd cda cc) (B : Blt mg) (top : (P.main.scope.names.lookup ("super" : Str)).isSome = false) (T : SqC K S) (M : BaseM P w K mg base) (U : SupF P w K mg base S "contains" 4 ["self", "x"] (spS2 C S anyO 0 1000 fun N A _ _ n => .bl (cntOf N A n))) :
    FnOk P w K mg base CX0 5 f fd ["self", "x"] (spS2 C S anyO 0 1000 fCnt) := by
  obtain ⟨g, fdg, sc, G, bg⟩ := U.ok
  refine F.ok scsContains rfl (fun vs H Q E h => ?_) (fun Ar outer s H vs Q E hr h => ?_)
  · obtain ⟨q, c, N, A, sv, off, x, rfl, _⟩ := h; rfl
  · obtain ⟨q, c, N, A, sv, off, x, rfl, X, _, _, hx, k⟩ := h
    obtain ⟨dx, hq⟩ := X.ob
    have hr1 := hr.mono (by decide : 1 ≤ 4)
    have ST : SupT P mg tsContains ["self", "x"] := ⟨⟨_, rfl, rfl, rfl⟩, rfl, rfl, rfl, B.super, top⟩
    refine ⟨_, pssa_cons (psa_of (ps_expr (pe_fn M.least hr1 (by rfl) (pa_cons (pv 1) (pa_cons pe_int pa_nil)))))
      (pssa_one (psa_ret (pea_and (pe_cmpR op_ge (pv 1) (pe_fld (pv 0) rfl) (nomark _)) (pea_super F ST sc G hr bg .nil (pa_cons (pe_op op_sub (pv 1) (pe_fld (pv 0) rfl)) pa_nil))))), ?_⟩
    refine ⟨_, rfl, _, _, rfl, by omega, ?_⟩
    refine ⟨_, rfl, _, rfl, q, S, dx, _, _, rfl, hq, T.cl, T.nO, seqF_O .., _, _, rfl, rfl, _, rfl, ?_⟩
    by_cases ho : off ≤ x
    · refine ite2 (fun _ => ?_) (fun hn => absurd (decide_eq_true (show (off : Int) ≤ (x : Int) by omega)) hn)
      have e : (x : Int) - (off : Int) = ((x - off : Nat) : Int) := by omega
      refine ⟨q, dx, _, rfl, hq, _, rfl, _, rfl, q, S, dx, _, _, rfl, hq, T.cl, T.nO, seqF_O .., _, _, rfl, rfl, q, c, N, A, sv, off, x - off, by rw [← e]; rfl, X, trivial, Nat.zero_le _, Nat.lt_of_le_of_lt (Nat.sub_le ..) hx, fun H1 sm1 => ?_⟩
      have := k H1 sm1
      simp only [fCnt, decide_eq_true ho, Bool.true_and] at this
      exact this
    · refine ite2 (fun he => absurd (of_decide_eq_true he) (by omega)) (fun _ => ?_)
      have := k H (.refl _)
      simp only [fCnt, decide_eq_false ho, Bool.false_and] at this
      exact this
theorem scsRuling : ScS ["self", "x", "pair"] ["self", "x"] (defScope tsRuling) := ⟨rfl, rfl, by decide +kernel, rfl, by decide +kernel, by decide +kernel, by decide +kernel⟩
theorem ok_sruling (F : FunS P K "ruling_pair" "ShiftedSequence.ruling_pair" tsRuling S f fd cda cc) (B : Blt mg) (top : (P.main.scope.names.lookup ("super" : Str)).isSome = false) (T : SqC K S) (U : SupF P w K mg base S "ruling_pair" 5 ["self", "x"] (spS3 C S anyO 1000 fun N A sv _ x => rulOf N A sv x)) :
    FnOk P w K mg base CX0 6 f fd ["self", "x"] (spS3 C S anyO 1000 fRul) := by
  obtain ⟨g, fdg, sc, G, bg⟩ := U.ok
  refine F.ok scsRuling rfl (fun vs H Q E h => ?_) (fun Ar outer s H vs Q E hr h => ?_)
  · obtain ⟨q, c, N, A, sv, off, x, rfl, _⟩ := h; rfl
  · obtain ⟨q, c, N, A, sv, off, x, rfl, X, _, hx, kn, ks⟩ := h
    obtain ⟨dx, hq⟩ := X.ob
    have nd := scsRuling.nd
    have ST : SupT P mg tsRuling ["self", "x", "pair"] := ⟨⟨_, rfl, rfl, rfl⟩, rfl, rfl, rfl, B.super, top⟩
    refine ⟨_, pssa_cons (psa_of (ps_if (pt_cmpR op_lt (pv 1) (pe_fld (pv 0) rfl) (nomark _)) (pss_one (ps_ret pe_non)) pss_nil))
      (pssa_cons (psa_set (i := 2) nd rfl (.inl rfl) (pea_super F ST sc G hr bg .nil (pa_cons (pe_op op_sub (pv 1) (pe_fld (pv 0) rfl)) pa_nil)))
      (pssa_of (pss_one (ps_ret (pe_ifExp (pt_cmpR op_isN (pv 2) pe_non (nomark _)) pe_non (pe_tup (pa_cons (pe_op op_add (pe_ix ix_tup (pv 2) pe_int (fun _ _ => rfl)) (pe_fld (pv 0) rfl)) (pa_cons (pe_op op_add (pe_ix ix_tup (pv 2) pe_int (fun _ _ => rfl)) (pe_fld (pv 0) rfl)) pa_nil)))))))), ?_⟩
    refine ⟨_, rfl, _, rfl, q, S, dx, _, _, rfl, hq, T.cl, T.nO, seqF_O .., _, _, rfl, rfl, _, rfl, ?_⟩
    by_cases ho : x < off
    · refine ite2 (fun _ => ?_) (fun hn => absurd (decide_eq_true (show (x : Int) < (off : Int) by omega)) hn)
      exact kn H (.refl _) (by simp only [fRul, if_pos ho])
    · refine ite2 (fun he => absurd (of_decide_eq_true he) (by omega)) (fun _ => ?_)
      have e : (x : Int) - (off : Int) = ((x - off : Nat) : Int) := by omega
      refine ⟨q, dx, _, rfl, hq, _, rfl, _, rfl, q, S, dx, _, _, rfl, hq, T.cl, T.nO, seqF_O .., _, _, rfl, rfl, q, c, N, A, sv, off, x - off, by rw [← e]; rfl, X, trivial, Nat.lt_of_le_of_lt (Nat.sub_le ..) hx, fun H1 sm1 er => ?_, fun t a b H1 sm1 er nt et => ?_⟩
      · refine ⟨_, rfl, rfl, true, rfl, iteT ?_⟩
        exact kn H1 sm1 (by simp only [fRul, if_neg ho, er]; rfl)
      · refine ⟨_, rfl, rfl, false, rfl, iteF ?_⟩
        refine ⟨_, rfl, t, _, _, _, rfl, rfl, SqT.of et, rfl, _, rfl, q, S, dx, _, _, rfl, sm1 _ _ hq, T.cl, T.nO, seqF_O .., _, _, rfl, rfl, ?_⟩
        refine ⟨_, rfl, t, _, _, _, rfl, rfl, SqT.of et, rfl, _, rfl, q, S, dx, _, _, rfl, sm1 _ _ hq, T.cl, T.nO, seqF_O .., _, _, rfl, rfl, ?_⟩
        refine ⟨by show 2 ≤ sizeLine; decide, fun u hu => ?_⟩
        refine ks u (a + off) (b + off) _ (same_upd sm1 (sm1.free hu)) (by simp only [fRul, if_neg ho, er]; rfl) (sm1.free hu) ?_
        rw [upd_same]
        push_cast
        rfl
theorem scsInit : ScS ["self", "cell", "shift"] ["self", "cell", "shift"] (defScope tsInit) := ⟨rfl, rfl, by decide +kernel, rfl, by decide +kernel, by decide +kernel, by decide +kernel⟩
theorem ok_sinit (F : FunS P K "__init__" "ShiftedSequence.__init__" tsInit S f fd cda cc) (B : Blt mg) (top : (P.main.scope.names.lookup ("super" : Str)).isSome = false) (T : SqC K S) (M : BaseM P w K mg base) (U : SupF P w K mg base S "__init__" 1 ["self", "cell"] (spRInit C S)) :
    FnOk P w K mg base CX0 2 f fd ["self", "cell", "shift"] (spSInit C S) := by
  obtain ⟨g, fdg, sc, G, bg⟩ := U.ok
  refine F.ok scsInit rfl (fun vs H Q E h => ?_) (fun Ar outer s H vs Q E hr h => ?_)
  · obtain ⟨q, c, dx, N, A, sv, sh, rfl, _⟩ := h; rfl
  · obtain ⟨q, c, dx, N, A, sv, sh, rfl, hq, ce, k⟩ := h
    have ST : SupT P mg tsInit ["self", "cell", "shift"] := ⟨⟨_, rfl, rfl, rfl⟩, rfl, rfl, rfl, B.super, top⟩
    refine ⟨_, pssa_cons (psa_expr (pea_super F ST sc G hr bg .nil (pa_cons (pv 1) pa_nil)) rfl)
      (pssa_of (pss_cons (ps_expr (pe_fn M.least hr (by rfl) (pa_cons (pv 2) (pa_cons pe_int pa_nil)))) (pss_one (ps_fld (pv 0) (pv 2) rfl)))), ?_⟩
    refine ⟨q, dx, _, rfl, hq, _, rfl, q, c, dx, N, A, sv, rfl, hq, ce, fun H1 X1 o1 => ?_⟩
    obtain ⟨dx1, hq1⟩ := X1.ob
    refine ⟨_, rfl, _, _, rfl, by omega, ?_⟩
    refine ⟨_, rfl, _, rfl, q, S, dx1, _, rfl, hq1, T.cl, T.nO, (by rw [seqF_eq]; show 2 < 1000; decide), ?_⟩
    have e : putF "offset" (.int (sh : Nat)) (seqF c 0) = seqF c sh := by
      rw [seqF_eq, seqF_eq]
      have h1 : ¬ (("own_cell" : Str) = "offset") := by decide +kernel
      simp only [putF, if_neg h1, if_pos]
    refine k _ ⟨⟨dx1, by rw [upd_same, e]⟩, X1.ce.but (off := 0) (c0 := q) hq1 (seqF_no _ _ (by decide +kernel)) fun b o z hb => by rw [upd_ne hb]; exact z⟩ fun b o z hb => by rw [upd_ne hb]; exact o1 b o z hb
end
end Tf

/-! ## TfRuled6 -/
set_option Elab.async false
set_option linter.all false
set_option maxRecDepth 100000
set_option maxHeartbeats 4000000
/-! check_cover, tripled, the sequences' ==. -/
namespace Tf
open PySem PySem.Spec PyProof.Rows L2
theorem isiK {X : Cx} {K : PySem.W.Frag} (h : X.K = K) : CallR X (.builtin "isinstance") (rIsi K) := by subst h; exact call_isi
section
variable {P : Program} {w : World} {K : PySem.W.Frag} {mg : Str → Option Value} {base : Heap} {f C D R S : Addr} {fd : FuncData} {Z : Nat → Prop}
theorem scCheck : FnScope ["self", "x", "pair", "item"] ["self", "x", "pair"] (defScope trCheck) := ⟨rfl, rfl, rfl, by decide +kernel, rfl, by decide +kernel, by decide +kernel⟩
theorem ok_check {j : Nat} (F : Fun K "check_cover" "RuledSequence.check_cover" trCheck f fd) (B : Blt mg) (M : BaseM P w K mg base) (GC : Mt P w K mg base D "contains" (j + 1) ["self", "x"] [] (spS2 C D Z 0 1000 fCnt)) : FnOk P w K mg base CX0 (j + 2) f fd ["self", "x", "pair"] (spCheck C D Z) := by
  refine F.ok scCheck (fun vs H Q E h => ?_) (fun cdv Ar outer s H vs Q E hr h => ?_)
  · obtain ⟨q, c, t, N, A, sv, off, x, l, h, rfl, _⟩ := h; rfl
  · obtain ⟨q, c, t, N, A, sv, off, x, l, h, rfl, X, hz, ht, hl, hh, k⟩ := h
    obtain ⟨dx, hq⟩ := X.ob
    have nd := scCheck.nd
    have hr1 := hr.mono (by omega : 1 ≤ j + 1)
    refine ⟨_, pss_cons (ps_expr (pe_fn M.least hr1 (by rfl) (pa_cons (pv 1) (pa_cons pe_int pa_nil))))
      (pss_cons (ps_if (PW.pt (pw_or (pt_not (pt_val (pe_callB call_isi (by rfl) B.isinstance PyProof.Rows.boot_isinstance (pa_cons (pv 2) (pa_cons (pe_bltn (v := .ty "tuple") (by rfl) B.tuple PyProof.Rows.boot_tuple rfl) pa_nil)))))
          (pw_or1 (pt_cmpR op_ne (pe_callB call_len_seq (by rfl) B.len PySem.boot_len (pa_cons (pv 2) pa_nil)) pe_int (nomark _))))) (pss_one (ps_ret pe_bl)) pss_nil)
      (pss_cons (ps_if (pt_not (pt_val (pe_callB (cr_all (by rfl)) (by rfl) B.all PyProof.Rows.boot_all (pa_cons
          (pe_lc (own := [("item", 3)]) (g := gName 3) (tt := tYes) (by rfl) nd (pi_tup (pv 2)) (blkOk_by (own := [("item", 3)]) (N := ["self", "x", "pair", "item"]) (sc := defScope trCheck) (by decide +kernel)) (fun _ _ _ _ _ => pg_name (i := 3) nd rfl (Or.inl rfl)) (fun _ _ _ _ _ => pts_nil)
            (fun _ _ _ _ _ => pe_and (pe_callB (isiK (K := K) rfl) (by rfl) B.isinstance PyProof.Rows.boot_isinstance (pa_cons (pv 3) (pa_cons (pe_bltn (v := .ty "int") (by rfl) B.int PyProof.Rows.boot_int rfl) pa_nil)))
              (pe_and (pe_not (pe_callB (isiK (K := K) rfl) (by rfl) B.isinstance PyProof.Rows.boot_isinstance (pa_cons (pv 3) (pa_cons (pe_bltn (v := .ty "bool") (by rfl) B.bool PyProof.Rows.boot_bool rfl) pa_nil))))
              (pe_one (pe_cmpR op_ge (pv 3) pe_int (nomark _)))))) pa_nil)))) (pss_one (ps_ret pe_bl)) pss_nil)
      (pss_cons (ps_if (PW.pt (pw_or (pt_cmpR op_ge (pe_ix ix_tup (pv 2) pe_int (fun _ _ => rfl)) (pe_ix ix_tup (pv 2) pe_int (fun _ _ => rfl)) (nomark _))
          (pw_or1 (pt_cmpR op_ne (pe_op op_sub (pe_op op_mul pe_int (pe_ix ix_tup (pv 2) pe_int (fun _ _ => rfl))) (pe_ix ix_tup (pv 2) pe_int (fun _ _ => rfl))) (pv 1) (nomark _))))) (pss_one (ps_ret pe_bl)) pss_nil)
      (pss_one (ps_ret (pe_and (pe_mt (pv 0) GC hr (pa_cons (pe_ix ix_tup (pv 2) pe_int (fun _ _ => rfl)) pa_nil)) (pe_one (pe_mt (pv 0) GC hr (pa_cons (pe_ix ix_tup (pv 2) pe_int (fun _ _ => rfl)) pa_nil)))))))))
      , ?_⟩
    have k' : ∀ {b : Bool} {H' : Hp}, Same H H' → chkOf (cntO N A off) x l h = b → Q (.bl b) H' := fun sm e => by rw [← e]; exact k _ sm
    refine ⟨_, rfl, _, _, rfl, by omega, ?_⟩
    refine ⟨_, rfl, _, _, _, _, true, rfl, .ty _, .base (.tup ht), kit_ty (by decide +kernel), _, rfl, iteF ?_⟩
    refine ⟨_, rfl, t, _, rfl, .inr (SqT.of ht), rfl, false, rfl, iteF ?_⟩
    refine ⟨_, rfl, t, rfl, ⟨_, SqT.of ht⟩, fun L hL => ?_⟩
    have ge : ∀ (z : Int), (decide (z ≥ 0)) = decide (0 ≤ z) := fun z => rfl
    refine lc_tup (K := K) (a := t) (xs := [.int l, .int h]) (fun i H1 => Same H H1 ∧ H1 L = some (.lst ((([l, h].take i).map fun z => decide (0 ≤ z)).map V.bl))) ⟨same_upd (.refl _) hL, upd_same⟩ (fun i H1 _ z => SqT.of (z.1 _ _ ht)) ?_ ?_
    · rintro i y H1 hi ⟨sm, hL1⟩
      have hi' : ([l, h].map V.int)[i]? = some y := hi
      rw [List.getElem?_map] at hi'
      cases e : [l, h][i]? with
      | none => rw [e] at hi'; cases hi'
      | some z =>
        rw [e] at hi'
        obtain rfl := Option.some.inj hi'
        have hil : i < 2 := (List.getElem?_eq_some_iff.mp e).1
        refine ⟨rfl, ?_⟩
        refine ⟨_, rfl, _, _, _, _, true, rfl, .ty _, .base (.int _), kit_ty (by decide +kernel), _, rfl, iteT ?_⟩
        refine ⟨_, rfl, _, _, _, _, false, rfl, .ty _, .base (.int _), kit_ty (by decide +kernel), _, rfl, _, rfl, iteT ?_⟩
        refine ⟨_, rfl, _, _, rfl, rfl, _, hL1, small1000 (by rw [List.length_map, List.length_map, List.length_take]; omega), same_upd sm hL, ?_⟩
        rw [upd_same, List.take_succ, e, Option.toList_some, List.map_append, List.map_append]
        rfl
    · rintro H1 ⟨sm, hL1⟩
      refine ⟨L, [decide (0 ≤ l), decide (0 ≤ h)], rfl, SqL.of hL1, _, rfl, ?_⟩
      by_cases h0 : 0 ≤ l ∧ 0 ≤ h
      · have e0 : ([decide (0 ≤ l), decide (0 ≤ h)] : List Bool).all id = true := by simp [h0.1, h0.2]
        rw [e0]
        refine iteF ?_
        have ht1 := sm _ _ ht
        refine ⟨_, rfl, t, _, _, _, rfl, rfl, SqT.of ht1, rfl, _, rfl, t, _, _, _, rfl, rfl, SqT.of ht1, rfl, _, _, rfl, rfl, _, rfl, ?_⟩
        by_cases h1 : l < h
        · refine ite2 (fun he => absurd (of_decide_eq_true he) (by omega)) (fun _ => ?_)
          refine ⟨_, rfl, t, _, _, _, rfl, rfl, SqT.of ht1, rfl, _, _, rfl, rfl, .inl ⟨by decide, by decide⟩, _, rfl, t, _, _, _, rfl, rfl, SqT.of ht1, rfl, _, _, rfl, rfl, _, rfl, rfl, _, rfl, ?_⟩
          by_cases h2 : 2 * h - l = (x : Int)
          · refine ite2 (fun he => absurd he (by simp [h2])) (fun _ => ?_)
            obtain ⟨l', rfl⟩ := Int.eq_ofNat_of_zero_le h0.1
            obtain ⟨h', rfl⟩ := Int.eq_ofNat_of_zero_le h0.2
            have hl' : l' < 2 ^ 1000 := by
              have : ((2 ^ 1000 : Nat) : Int) = (2 : Int) ^ 1000 := by push_cast; rfl
              omega
            have hh' : h' < 2 ^ 1000 := by
              have : ((2 ^ 1000 : Nat) : Int) = (2 : Int) ^ 1000 := by push_cast; rfl
              omega
            refine ⟨_, rfl, q, dx, _, rfl, sm _ _ hq, seqF_no _ _ (by decide +kernel), _, rfl, t, _, _, _, rfl, rfl, SqT.of ht1, rfl, q, c, N, A, sv, off, l', rfl, X.mono sm, hz, Nat.zero_le _, hl', fun H2 sm2 => ⟨_, rfl, ?_⟩⟩
            have kk : ∀ {b : Bool} {H' : Hp}, Same H H' → (cntO N A off l' && cntO N A off h') = b → Q (.bl b) H' := fun s' e => k' s' (by
              unfold chkOf
              rw [decide_eq_true h0, decide_eq_true h1, decide_eq_true h2, Int.toNat_natCast, Int.toNat_natCast]
              exact e)
            cases e1 : cntO N A off l' with
            | false =>
              have e1' : (decide (off ≤ l') && cntOf N A (l' - off)) = false := e1
              rw [e1']
              exact iteF (kk (sm.trans sm2) (by rw [e1]; rfl))
            | true =>
              have e1' : (decide (off ≤ l') && cntOf N A (l' - off)) = true := e1
              rw [e1']
              have sm12 := sm.trans sm2
              refine iteT ⟨_, rfl, q, dx, _, rfl, sm12 _ _ hq, seqF_no _ _ (by decide +kernel), _, rfl, t, _, _, _, rfl, rfl, SqT.of (sm12 _ _ ht), rfl, q, c, N, A, sv, off, h', rfl, X.mono sm12, hz, Nat.zero_le _, hh', fun H3 sm3 => ?_⟩
              exact kk (sm12.trans sm3) (by rw [e1]; rfl)
          · refine ite2 (fun _ => ?_) (fun hn => absurd hn (by simp [h2]))
            exact k' sm (by unfold chkOf; rw [decide_eq_false h2]; simp)
        · refine ite2 (fun _ => ?_) (fun hn => absurd (decide_eq_true (show h ≤ l by omega)) hn)
          exact k' sm (by unfold chkOf; rw [decide_eq_false h1]; simp)
      · have e0 : ([decide (0 ≤ l), decide (0 ≤ h)] : List Bool).all id = false := by
          rw [List.all_cons, List.all_cons, List.all_nil, Bool.and_true]
          by_cases a : 0 ≤ l
          · have b : ¬ 0 ≤ h := fun b => h0 ⟨a, b⟩
            simp [b]
          · simp [a]
        rw [e0]
        exact iteT (k' sm (by unfold chkOf; rw [decide_eq_false h0]; rfl))
end
end Tf

/-! ## TfRuled7 -/
set_option Elab.async false
set_option linter.all false
set_option maxRecDepth 100000
set_option maxHeartbeats 4000000
/-! tripled, the sequences' ==. -/
namespace Tf
open PySem PySem.Spec PyProof.Rows L2
/-- x(..) makes an instance of the class at C -/
def Mkr (P : Program) (w : World) (K : PySem.W.Frag) (mg : Str → Option Value) (base : Heap) (x : Str) (C : Addr) (k : Nat) (ps : List Str) (dv : List V) (sp : Sp) : Prop :=
  ∃ (f : Addr) (fd : FuncData) (ds : List Value), mg x = some (.ref C) ∧ Mk K C f ∧ FnOk P w K mg base CX0 k f fd ps sp ∧ Vals dv ds ∧ Binds K fd ps ds
theorem pe_mkr {X : Cx} {x : Str} {C : Addr} {k : Nat} {ps : List Str} {dv : List V} {sp : Sp} {p pos : Pos} {e : Expr} {es : List Expr} {t : TA} (F : Mkr X.prog X.w X.K X.mg X.base x C k ps dv sp) (hr : Room (k + 1) X.A) (hg : Gl X x) (ha : PA X (e :: es) t) (hdb : (x == ("__debug__" : Str)) = false := by decide)
    (he : starEach (e :: es) X.env = (false, eval e X.env) :: starEach es X.env := by rfl) (hpl : (backTo pos (starEach es X.env)).any (·.1) = false := by rfl) : PE X (.Call (.Name x p) (e :: es) [] pos) (tMake C sp dv E0 t) := by
  obtain ⟨f, fd, ds, hm, M, G, hv, hb⟩ := F
  exact pe_make M G hr hg hm hb hv pass0 ha hdb he hpl
/-- x(e, .., k = v) -/
def MkrN (P : Program) (w : World) (K : PySem.W.Frag) (mg : Str → Option Value) (base : Heap) (x : Str) (C : Addr) (k n : Nat) (ks : List Str) (gV : List V → List V → List V) (sp : Sp) : Prop :=
  ∃ (f : Addr) (fd : FuncData) (ps : List Str) (g : List Value → List Value → List Value), mg x = some (.ref C) ∧ Mk K C f ∧ FnOk P w K mg base CX0 k f fd ps sp ∧ KBn K fd ps (n + 1) ks g gV
theorem pe_mkrN {X : Cx} {x : Str} {C : Addr} {k n : Nat} {ks : List Str} {gV : List V → List V → List V} {sp : Sp} {p pos : Pos} {e : Expr} {es : List Expr} {kws : List Keyword} {t tk : TA} (F : MkrN X.prog X.w X.K X.mg X.base x C k n ks gV sp) (hr : Room (k + 1) X.A) (hg : Gl X x)
    (ha : PA X (e :: es) t) (hkw : PK X kws tk) (hall : (backToKw pos (keywordEach kws X.env)).all (·.1.isSome) = true := by rfl) (hks : (backToKw pos (keywordEach kws X.env)).filterMap (·.1) = ks := by rfl)
    (hdb : (x == ("__debug__" : Str)) = false := by decide) (he : starEach (e :: es) X.env = (false, eval e X.env) :: starEach es X.env := by rfl)
    (hpl : ((backTo pos (starEach (e :: es) X.env)).any (·.1) || (backToKw pos (keywordEach kws X.env)).any (·.1.isNone)) = false := by rfl) :
    PE X (.Call (.Name x p) (e :: es) kws pos) (tMakeN C n ks.length sp gV E0 t tk) := by
  obtain ⟨f, fd, ps, g, hm, M, G, hb⟩ := F
  exact pe_makeN M G hr hg hm hb pass0 ha hkw hall hks hdb he hpl
theorem join01 (N : Nat) (A : List Nat) : joinA N A [0, 1] = A ++ A.map (· + N) := by
  unfold joinA
  simp
theorem tri_arg {N : Nat} {A : List Nat} (c : CellArg N A) (h1 : 3 * N ≤ 20000) (h2 : 2 * A.length ≤ 256) : CellArg (3 * N) (joinA N A [0, 1]) := by
  have k := join_ok c.toCellOk (small_ok (3, [0, 1]) (by decide))
  rw [Nat.mul_comm] at k
  exact ⟨k, h1, by rw [join_len]; show A.length * 2 ≤ 256; omega⟩
section
variable {P : Program} {w : World} {K : PySem.W.Frag} {mg : Str → Option Value} {base : Heap} {f C D R S : Addr} {fd : FuncData} {Z : Nat → Prop}
theorem scTriCell : FnScope ["self", "modulus", "members", "member"] ["self"] (defScope trTriCell) := ⟨rfl, rfl, rfl, by decide +kernel, rfl, by decide +kernel, by decide +kernel⟩
theorem ok_triCell (F : Fun K "tripled_cell" "RuledSequence.tripled_cell" trTriCell f fd) (B : Blt mg) (T : SqC K D) (G : CellM P w K mg base C) (MC : Mkr P w K mg base "Cell" C 3 ["self", "modulus", "members"] [] (spCInit C)) : FnOk P w K mg base CX0 5 f fd ["self"] (spTriCell C D) := by
  refine F.ok scTriCell (fun vs H Q E h => ?_) (fun cdv Ar outer s H vs Q E hr h => ?_)
  · obtain ⟨q, c, N, A, sv, off, rfl, _⟩ := h; rfl
  · obtain ⟨q, c, N, A, sv, off, rfl, X, n3, l2, k⟩ := h
    obtain ⟨dx, hq⟩ := X.ob
    obtain ⟨cx, m, d, kk, tb, kn, h1, h2, h3, h4, h5, h6⟩ := id X.ce.ob
    obtain ⟨mc, u1, u2, cr, c1, c2⟩ := G.T.cr
    have nd := scTriCell.nd
    have hr2 := hr.mono (by decide : 2 ≤ 4)
    have ok := X.ce.arg
    refine ⟨_, pss_cons (ps_asg (pe_tup (pa_cons (pe_pr (pe_fld (pv 0) rfl) G.modulus hr2) (pa_cons (pe_pr (pe_fld (pv 0) rfl) G.members hr2) pa_nil))) (pg_tup (by rfl) (pgs_cons (pg_name (i := 1) nd rfl (.inr rfl)) (pgs_cons (pg_name (i := 2) nd rfl (.inl rfl)) pgs_nil))))
      (pss_cons (ps_if (pt_cmpR op_gt (pe_op op_mul pe_int (pv 1)) (ClX.pe_cval (pe_glob (v := .ref C) (by rfl) G.T.mgC rfl)) (nomark _)) (pss_one ps_never) pss_nil)
      (pss_cons (ps_if (pt_cmpR op_gt (pe_op op_mul pe_int (pe_callB call_len_seq (by rfl) B.len PySem.boot_len (pa_cons (pv 2) pa_nil))) (ClX.pe_cval (pe_glob (v := .ref C) (by rfl) G.T.mgC rfl)) (nomark _)) (pss_one ps_never) pss_nil)
      (pss_one (ps_ret (pe_mkr MC hr (by rfl) (pa_cons (pe_op op_mul pe_int (pv 1)) (pa_cons (pe_op op_catT (pv 2) (pe_callTy call_tuple_of (by rfl) B.tuple PyProof.Rows.boot_tuple (pa_cons
        (pe_lc (own := [("member", 3)]) (g := gName 3) (tt := tYes) (by rfl) nd (pi_tup (pv 2)) (blkOk_by (own := [("member", 3)]) (N := ["self", "modulus", "members", "member"]) (sc := defScope trTriCell) (by decide +kernel)) (fun _ _ _ _ _ => pg_name (i := 3) nd rfl (Or.inl rfl)) (fun _ _ _ _ _ => pts_nil)
          (fun _ _ _ _ _ => pe_op op_add (pv 3) (pv 1))) pa_nil))) pa_nil))))))), ?_⟩
    have pr : ∀ {R : Hp → Addr → Nat → List Nat → Sv → VK → Prop} {H1 : Hp} {Q1 : VK}, Same H H1 → R H1 c N A sv Q1 → ∃ a dx fs, V.ref c = .ref a ∧ H1 a = some (.ins C dx fs) ∧ spC1 C R (.ref a :: []) H1 Q1 E0 := fun sm r => ⟨c, cx, _, rfl, sm _ _ h1, c, N, A, sv, rfl, X.ce.mono sm, r⟩
    refine ⟨_, rfl, q, D, dx, _, _, rfl, hq, T.cl, T.nC, seqF_C .., pr (.refl _) ?_⟩
    refine ⟨_, rfl, q, D, dx, _, _, rfl, hq, T.cl, T.nC, seqF_C .., pr (.refl _) fun m' hm' => ?_⟩
    refine ⟨by show 2 ≤ sizeLine; decide, fun tt htt => ⟨_, _, rfl, SqT.of upd_same, rfl, _, _, rfl, _, _, rfl, rfl, ?_⟩⟩
    have sm0 : Same H (upd H tt (.tup [.int (N : Nat), .ref m'])) := same_upd (.refl _) htt
    have hm0 := sm0 _ _ hm'
    refine ⟨_, rfl, _, _, rfl, rfl, .inl ⟨by decide, by decide⟩, C, mc, _, _, rfl, cr, c1, _, _, rfl, rfl, _, rfl, ?_⟩
    refine ite2 (fun he => absurd (of_decide_eq_true he) (by omega)) (fun _ => ?_)
    refine ⟨_, rfl, m', _, rfl, .inr (SqT.of hm0), _, _, rfl, rfl, .inl ⟨by decide, by decide⟩, C, mc, _, _, rfl, cr, c2, _, _, rfl, rfl, _, rfl, ?_⟩
    refine ite2 (fun he => absurd (of_decide_eq_true he) (by rw [nV_len]; omega)) (fun _ => ?_)
    refine ⟨_, rfl, _, _, rfl, rfl, .inl ⟨by decide, by decide⟩, _, rfl, _, rfl, m', rfl, ⟨_, SqT.of hm0⟩, fun L hL => ?_⟩
    refine lc_tup (K := K) (a := m') (xs := nV A) (fun i H1 => Same H H1 ∧ H1 L = some (.lst (nV ((A.take i).map (· + N))))) ⟨same_upd sm0 (sm0.free hL), upd_same⟩ (fun i H1 _ z => SqT.of (z.1 _ _ hm')) ?_ ?_
    · rintro i y H1 hi ⟨sm, hL1⟩
      obtain ⟨a, ha, rfl⟩ := nV_get hi
      have hl := ok.len
      refine ⟨rfl, ?_⟩
      refine ⟨_, rfl, _, rfl, _, _, rfl, rfl, _, hL1, small1000 (by rw [nV_len, List.length_map, List.length_take]; omega), same_upd sm (sm0.free hL), ?_⟩
      rw [upd_same, ← nV_take (· + N) ha]
      push_cast
      rfl
    · rintro H1 ⟨sm, hL1⟩
      rw [nV_len, List.take_length] at hL1
      refine ⟨L, _, rfl, .inl ⟨SqL.of hL1, fun l hl => ?_⟩⟩
      have hl0 := ok.len
      have s1 := same_upd (u := .tup (nV (A.map (· + N)))) sm (sm.free hl)
      have hpos := List.length_pos_iff.mpr ok.ne
      have hne : ∀ g : Nat → Nat, nV (A.map g) ≠ [] := fun g z => by
        have := congrArg List.length z
        rw [nV_len, List.length_map] at this
        simp at this
        exact ok.ne this
      have hne0 : nV A ≠ [] := fun z => hne id (by rw [List.map_id]; exact z)
      refine ⟨_, _, _, _, rfl, rfl, SqT.of (s1 _ _ hm'), SqT.of upd_same, hne0, ?_, fun z => absurd z (hne _), fun _ p hp => ?_⟩
      · rw [nV_len, nV_len, List.length_map]
        exact Nat.le_of_lt (small1000 (by omega))
      · have eA : nV A ++ nV (A.map (· + N)) = nV (joinA N A [0, 1]) := by rw [join01]; unfold nV; rw [List.map_append]
        rw [eA]
        intro x dx' hx hdx hne'
        have s2 := same_upd (u := .tup (nV (joinA N A [0, 1]))) s1 (s1.free hp)
        generalize hH3 : upd (upd H1 l (.tup (nV (A.map (· + N))))) p (.tup (nV (joinA N A [0, 1]))) = H3 at s2 hx hdx
        have np : H3 p = some (.tup (nV (joinA N A [0, 1]))) := by rw [← hH3]; exact upd_same
        have n1 : p ≠ dx' := ne_of_none np hdx
        have n2 : p ≠ x := ne_of_none np hx
        refine ⟨x, dx', p, 3 * N, joinA N A [0, 1], by push_cast; rfl, upd_same, by rw [upd_ne n2, upd_ne n1]; exact np, tri_arg ok n3 l2, fun sv' H' ce keep => ⟨rfl, k x sv' H' (Same.made hx hdx keep |> s2.trans) ce⟩⟩
end
end Tf

/-! ## TfEq -/
set_option Elab.async false
set_option linter.all false
set_option maxRecDepth 100000
set_option maxHeartbeats 4000000
/-! == and != of instances by their own __eq__. -/
namespace Tf
open PySem PySem.Spec PyProof.Rows L2

/-- the class at C compares by the def at f -/
structure EqF (P : Program) (w : World) (K : PySem.W.Frag) (mg : Str → Option Value) (base : Heap) (C : Addr) (k : Nat) (ps : List Str) (sp : Sp) : Prop where
  ok : ∃ (f : Addr) (fd : FuncData), PySem.W.findIn K (.ref C) "__eq__" = some (some (.ref f)) ∧ PySem.W.isFn K (.ref f) = true ∧ FnOk P w K mg base CX0 k f fd ps sp ∧ Binds K fd ps []
section
variable {X : Cx} {C : Addr} {k : Nat} {ps : List Str} {sp : Sp}
theorem run_eq {f : Addr} {fd : FuncData} {A : Around} {pins : List (Addr × Obj)} {σ : L2.St} {H : Hp} {s : Shared} {Q : VK} {us : List Value} {vs : List V} (G : FnOk X.prog X.w X.K X.mg X.base CX0 k f fd ps sp) (hr : Room k A) (hf : A.frames = X.A.frames) (hb : Binds X.K fd ps [])
    (I : Inv X pins σ H s) (r : Vals vs us) (h : sp vs H Q E0) : wpAny (model X.prog X.w) A (call (.ref f) us) (EP X pins σ Q) (fun _ _ => False) s := by
  have e0 : Env0 X.prog X.w X.K X.mg X.base A X.stack s H := by
    have e := I.env0
    exact ⟨by rw [hf]; exact e.frames, e.mod, e.bs, e.bsz, e.funs, e.frf, e.hok, e.bare⟩
  have hl : (us ++ []).length = ps.length := by rw [List.append_nil, ← r.length]; exact G.len _ _ _ _ h
  have bd := hb s us I.kIn hl
  rw [List.append_nil] at bd
  refine wpAny_call (codeAny_mono (G.run A X.stack s H ⟨us, []⟩ us vs Q E0 hr e0 bd r h) fun r s' hq => ?_)
  cases r with
  | error er => exact False.elim hq
  | ok fl =>
    cases fl with
    | ret u => exact I.after hq
    | next => exact False.elim hq
    | brk => exact False.elim hq
    | cont => exact False.elim hq
/-- x == y: x of the class at C, y's class not below it -/
def rEqI (K : PySem.W.Frag) (C : Addr) (sp : Sp) : R2 := fun x y H Q => ∃ a dx fs b C' dy gs, x = .ref a ∧ y = .ref b ∧ H a = some (.ins C dx fs) ∧ H b = some (.ins C' dy gs) ∧ PySem.W.notFirst K C (.ref C') = true ∧ sp [x, y] H Q E0
theorem op_eqI (F : EqF X.prog X.w X.K X.mg X.base C k ps sp) (hr : Room k X.A) : OpR X (compareOp .Eq) (rEqI X.K C sp) := by
  intro pins s σ H x y v u Q I rx ry h
  obtain ⟨a, dx, fs, b, C', dy, gs, rfl, rfl, ha, hb', hn, q⟩ := h
  obtain ⟨f, fd, hs, hf, G, hb⟩ := F.ok
  cases (show v = Value.ref a from rx)
  cases (show u = Value.ref b from ry)
  obtain ⟨mA, J, _⟩ := ins_get I.hok ha
  obtain ⟨mB, J', _⟩ := ins_get I.hok hb'
  obtain ⟨od, J, _⟩ := J.look
  obtain ⟨od', J', _⟩ := J'.look
  obtain ⟨m, hF⟩ := I.fr
  refine PySem.W.cmp_K (op := .Eq) (tb := .ref C') hr.units0 hF I.ok.mod.kin J J'.type hn hs hf ?_
  refine wpAny_mono (run_eq (us := [.ref a, .ref b]) (vs := [.ref a, .ref b]) G hr rfl hb I (.cons rfl (.cons rfl .nil)) q) (fun w s' z => ?_) fun _ _ z => False.elim z
  obtain ⟨z', H', I', rz, qz⟩ := z
  exact SlX.cmpback rz ⟨z', H', I', rz, qz⟩
/-- x == y: y's class stands below x's, and is asked first -/
def rEqB (K : PySem.W.Frag) (C : Addr) (sp : Sp) : R2 := fun x y H Q => ∃ a C' dx fs b dy gs, x = .ref a ∧ y = .ref b ∧ H a = some (.ins C' dx fs) ∧ H b = some (.ins C dy gs) ∧ C ≠ C' ∧ PySem.W.subIn K (.ref C) (.ref C') = some true ∧ sp [y, x] H Q E0
theorem op_eqB (F : EqF X.prog X.w X.K X.mg X.base C k ps sp) (hr : Room k X.A) : OpR X (compareOp .Eq) (rEqB X.K C sp) := by
  intro pins s σ H x y v u Q I rx ry h
  obtain ⟨a, C', dx, fs, b, dy, gs, rfl, rfl, ha, hb', hne, hsub, q⟩ := h
  obtain ⟨f, fd, hs, hf, G, hb⟩ := F.ok
  cases (show v = Value.ref a from rx)
  cases (show u = Value.ref b from ry)
  obtain ⟨mA, J, _⟩ := ins_get I.hok ha
  obtain ⟨mB, J', _⟩ := ins_get I.hok hb'
  obtain ⟨od, J, _⟩ := J.look
  obtain ⟨od', J', _⟩ := J'.look
  have KX := I.kIn
  have one : wpAny (model X.prog X.w) X.A (tryCompare (.ref b) "__eq__" (.ref a)) (fun r s' => ∃ v, r = some v ∧ EP X pins σ Q v s') X.xe s := by
    unfold tryCompare
    refine wpAny_bind (PySem.W.ifBound_K KX J' hs hf (wpAny_mono (run_eq (us := [.ref b, .ref a]) (vs := [.ref b, .ref a]) G hr rfl hb I (.cons rfl (.cons rfl .nil)) q) (fun v s' hv => ?_) fun _ _ e => False.elim e))
    obtain ⟨z', H', I', rz, qz⟩ := hv
    have hv : PySem.W.CmpBack (EP X pins σ Q) v s' := SlX.cmpback rz ⟨z', H', I', rz, qz⟩
    cases v <;> first | exact hv.elim | exact wpAny_pure ⟨_, rfl, hv⟩
  show wpAny _ _ (richCompare .Eq (.ref a) (.ref b)) _ _ s
  unfold richCompare
  simp only [oneThing_ref]
  refine wpAny_holding (wpAny_bind (wpAny_cRoomFor hr.units0 ?_))
  refine wpAny_bind (J.type.here (wpAny_bind (J'.type.here ?_)))
  rw [if_pos (show (Value.ref C' != Value.ref C) = true from by simp [Ne.symm hne])]
  refine wpAny_bind ((PySem.W.looks_subIn KX hsub).here ?_)
  simp only [if_true]
  refine wpAny_bind (wpAny_mono one (fun r s' z => ?_) fun _ _ e => e)
  obtain ⟨v, rfl, hq⟩ := z
  first | exact wpAny_bind (wpAny_rule (wpAny_pure hq)) | exact wpAny_pure (wpAny_pure hq) | exact wpAny_bind (wpAny_rule (wpAny_pure (wpAny_pure hq)))
/-- x != y of one class, by the own __eq__ -/
def rNeI (C : Addr) (sp : Sp) : R2 := fun x y H Q => ∃ a dx fs b dy gs, x = .ref a ∧ y = .ref b ∧ H a = some (.ins C dx fs) ∧ H b = some (.ins C dy gs) ∧ sp [x, y] H (fun v H' => ∃ c, v = .bl c ∧ Q (.bl (!c)) H') E0
theorem op_neI (F : EqF X.prog X.w X.K X.mg X.base C k ps sp) (hne : PySem.W.findIn X.K (.ref C) "__ne__" = some (some (.builtin "object.__ne__"))) (ho : PySem.W.subIn X.K (.ref C) (.type "object") = some true) (hr : Room (k + 1) X.A) : OpR X (compareOp .NotEq) (rNeI C sp) := by
  intro pins s σ H x y v u Q I rx ry h
  obtain ⟨a, dx, fs, b, dy, gs, rfl, rfl, ha, hb', q⟩ := h
  obtain ⟨f, fd, hs, hf, G, hb⟩ := F.ok
  cases (show v = Value.ref a from rx)
  cases (show u = Value.ref b from ry)
  obtain ⟨mA, J, _⟩ := ins_get I.hok ha
  obtain ⟨mB, J', _⟩ := ins_get I.hok hb'
  obtain ⟨od, J, _⟩ := J.look
  obtain ⟨od', J', _⟩ := J'.look
  have KX := I.kIn
  have inner : wpAny (model X.prog X.w) X.A.in1 (Builtin.«object.__ne__» ⟨[.ref a, .ref b], []⟩) (fun fin s' => ∃ c, fin = .done (.ret (.bool c)) ∧ EP X pins σ Q (.bool c) s') (fun _ _ => False) s := by
    unfold Builtin.«object.__ne__»
    show wpAny _ _ (cRoomFor "comparison" [.ref a, .ref b] >>= _) _ _ s
    refine wpAny_bind (wpAny_cRoomFor hr.in1.units0 ?_)
    show wpAny _ _ (callSpecialIfBound? (.ref a) "__eq__" [.ref b] >>= _) _ _ s
    refine wpAny_bind (PySem.W.ifBound_K KX J hs hf (wpAny_mono (run_eq (us := [.ref a, .ref b]) (vs := [.ref a, .ref b]) G hr.in1 rfl hb I (.cons rfl (.cons rfl .nil)) q) (fun v s' hv => ?_) fun _ _ e => False.elim e))
    obtain ⟨z', H', I', rz, c, rfl, qz⟩ := hv
    cases (show v = Value.bool c from rz)
    show wpAny _ _ (truthy (.bool c) >>= _) _ _ s'
    refine wpAny_bind (wpAny_truthy_bool ?_)
    exact wpAny_pure ⟨!c, rfl, ⟨.bl (!c), H', I', rfl, qz⟩⟩
  have one : wpAny (model X.prog X.w) X.A (tryCompare (.ref a) "__ne__" (.ref b)) (fun r s' => ∃ v, r = some v ∧ EP X pins σ Q v s') X.xe s := by
    unfold tryCompare
    refine wpAny_bind ?_
    simp only [callSpecialIfBound?, bindSpecialIfBound?]
    refine wpAny_holding (wpAny_bind (wpAny_bind (wpAny_bind (J.type.here ((PySem.W.looks_findIn KX hne).here ?_)))))
    simp only [PySem.F.cmp_object.ne.bind]
    refine wpAny_bind (wpAny_askSetting (wpAny_ite ?_))
    have hi : PySem.W.Looks (model X.prog X.w) s.heap (isInstance (.ref a) (.type "object")) true := J.type.andThen (PySem.W.looks_subIn KX ho)
    have fin : wpAny (model X.prog X.w) X.A (call (.builtin "object.__ne__") ([.ref a] ++ [.ref b]) >>= fun v => pure (some v)) (fun r s' => wpAny (model X.prog X.w) X.A (match r with | some .notImplemented | none => pure none | some v => pure (some v)) (fun r s' => ∃ v, r = some v ∧ EP X pins σ Q v s') X.xe s') X.xe s := by
      refine wpAny_bind (wpAny_call (codeAny_call_builtin PySem.F.cmp_object.ne.plain PySem.F.cmpEntry_ne (PySem.W.check_slot PySem.F.cmpKind_ne PySem.F.cmpSplit_ne hi (PySem.F.cmpArgs_ne _ _) (wpAny_mono inner (fun r s' z => ?_) fun _ _ e => False.elim e))))
      obtain ⟨c, rfl, qq⟩ := z
      exact wpAny_pure (wpAny_pure ⟨_, rfl, qq⟩)
    split
    · exact wpAny_bind (wpAny_pure (wpAny_pure fin))
    · exact wpAny_tryCatch (wpAny_bind (wpAny_pure (wpAny_pure fin)))
  show wpAny _ _ (richCompare .NotEq (.ref a) (.ref b)) _ _ s
  unfold richCompare
  simp only [oneThing_ref]
  refine wpAny_holding (wpAny_bind (wpAny_cRoomFor hr.units0 ?_))
  refine wpAny_bind (J.type.here (wpAny_bind (J'.type.here ?_)))
  rw [show (Value.ref C != Value.ref C) = false from by simp]
  simp only [Bool.false_eq_true, if_false]
  refine wpAny_bind (wpAny_pure ?_)
  simp only [Bool.false_eq_true, if_false]
  refine wpAny_bind (wpAny_mono one (fun r s' z => ?_) fun _ _ e => e)
  obtain ⟨v, rfl, hq⟩ := z
  first | exact wpAny_pure hq | exact wpAny_pure (wpAny_pure hq)
end
end Tf

/-! ## TfEq2 -/
set_option Elab.async false
set_option linter.all false
set_option maxRecDepth 100000
set_option maxHeartbeats 4000000
/-! The sequences' __eq__, tripled. -/
namespace Tf
open PySem PySem.Spec PyProof.Rows L2
/-- the two classes of sequences, as the top has made them -/
structure Two (K : PySem.W.Frag) (mg : Str → Option Value) (R S : Addr) : Prop where
  mgR : mg "RuledSequence" = some (.ref R)
  mgS : mg "ShiftedSequence" = some (.ref S)
  tR : SqC K R
  tS : SqC K S
  iR : IsI K R
  iS : IsI K S
  nR : ∃ u, Con K R "NAME" (.str "RuledSequence") u
  nS : ∃ u, Con K S "NAME" (.str "ShiftedSequence") u
  rr : PySem.W.kitOne K (.ref R) (.ref R) = some true
  sr : PySem.W.kitOne K (.ref S) (.ref R) = some true
  fS : PySem.W.notFirst K S (.ref S) = true
  fR : PySem.W.notFirst K S (.ref R) = true
  sub : PySem.W.subIn K (.ref S) (.ref R) = some true
  ne : S ≠ R
  neS : PySem.W.findIn K (.ref S) "__ne__" = some (some (.builtin "object.__ne__"))
  obS : PySem.W.subIn K (.ref S) (.type "object") = some true
def spREq (C R S : Addr) : Sp := fun vs H Q _ => ∃ (p q c : Addr) (N : Nat) (A : List Nat) (sv : Sv) (off : Nat), vs = [.ref p, .ref q] ∧ SqAt C S H p c N A sv off ∧
  ((∃ c' N' A' sv' off', SqAt C R H q c' N' A' sv' off' ∧ Q (.bl false) H) ∨ ∃ c' sv' off', SqAt C S H q c' N A sv' off' ∧ Q (.bl (decide (off = off'))) H)
section
variable {P : Program} {w : World} {K : PySem.W.Frag} {mg : Str → Option Value} {base : Heap} {f C D R S : Addr} {fd : FuncData} {Z : Nat → Prop}
theorem scREq : FnScope ["self", "other"] ["self", "other"] (defScope trEq) := ⟨rfl, rfl, rfl, by decide +kernel, rfl, by decide +kernel, by decide +kernel⟩
theorem ok_req (F : Fun K "__eq__" "RuledSequence.__eq__" trEq f fd) (B : Blt mg) (W : Two K mg R S) (nfC : PySem.W.notFirst K C (.ref C) = true) (EC : EqF P w K mg base C 1 ["self", "other"] (spCEq C)) : FnOk P w K mg base CX0 2 f fd ["self", "other"] (spREq C R S) := by
  refine F.ok scREq (fun vs H Q E h => ?_) (fun cdv Ar outer s H vs Q E hr h => ?_)
  · obtain ⟨p, q, c, N, A, sv, off, rfl, _⟩ := h; rfl
  · obtain ⟨p, q, c, N, A, sv, off, rfl, X, k⟩ := h
    obtain ⟨dx, hp⟩ := X.ob
    obtain ⟨uS, cS⟩ := W.nS
    obtain ⟨uR, cR⟩ := W.nR
    refine ⟨_, pss_cons (ps_if (PW.pt (pw_or (pt_not (pt_val (pe_callB call_isi (by rfl) B.isinstance PyProof.Rows.boot_isinstance (pa_cons (pv 1) (pa_cons (pe_glob (v := .ref R) (by rfl) W.mgR rfl) pa_nil)))))
        (pw_or1 (pt_cmpR op_ne (pe_con (pv 0) rfl) (pe_con (pv 1) rfl) (nomark _))))) (pss_one (ps_ret pe_bl)) pss_nil)
      (pss_one (ps_ret (pe_and (pe_cmpR (op_eqI EC hr) (pe_fld (pv 0) rfl) (pe_fld (pv 1) rfl) (nomark _)) (pe_one (pe_cmpR op_eq (pe_fld (pv 0) rfl) (pe_fld (pv 1) rfl) (nomark _)))))), ?_⟩
    rcases k with ⟨c', N', A', sv', off', Y, k⟩ | ⟨c', sv', off', Y, k⟩
    · obtain ⟨dy, hq⟩ := Y.ob
      refine ⟨_, rfl, _, _, _, _, true, rfl, .own _, W.iR.ty W.tR.cl hq, W.rr, _, rfl, iteF ?_⟩
      refine ⟨_, rfl, p, S, dx, _, _, _, rfl, hp, W.tS.cl, cS, seqF_no _ _ (by decide +kernel), _, rfl, q, R, dy, _, _, _, rfl, hq, W.tR.cl, cR, seqF_no _ _ (by decide +kernel), rfl, true, by decide +kernel, iteT k⟩
    · obtain ⟨dy, hq⟩ := Y.ob
      refine ⟨_, rfl, _, _, _, _, true, rfl, .own _, W.iS.ty W.tS.cl hq, W.sr, _, rfl, iteF ?_⟩
      refine ⟨_, rfl, p, S, dx, _, _, _, rfl, hp, W.tS.cl, cS, seqF_no _ _ (by decide +kernel), _, rfl, q, S, dy, _, _, _, rfl, hq, W.tS.cl, cS, seqF_no _ _ (by decide +kernel), rfl, false, by decide +kernel, iteF ?_⟩
      obtain ⟨cx, m, d, kk, tb, kn, h1, _⟩ := X.ce.ob
      obtain ⟨cx', m', d', kk', tb', kn', g1, _⟩ := Y.ce.ob
      refine ⟨_, rfl, p, S, dx, _, _, rfl, hp, W.tS.cl, W.tS.nC, seqF_C .., _, rfl, q, S, dy, _, _, rfl, hq, W.tS.cl, W.tS.nC, seqF_C .., ?_⟩
      refine ⟨c, cx, _, c', C, cx', _, rfl, rfl, h1, g1, nfC, c, c', N, A, sv, sv', rfl, X.ce, Y.ce, true, rfl, iteT ?_⟩
      refine ⟨_, rfl, p, S, dx, _, _, rfl, hp, W.tS.cl, W.tS.nO, seqF_O .., _, rfl, q, S, dy, _, _, rfl, hq, W.tS.cl, W.tS.nO, seqF_O .., rfl, ?_⟩
      have e : decide (V.int (off : Nat) = V.int (off' : Nat)) = decide (off = off') := by
        by_cases h : off = off'
        · subst h; simp
        · have h2 : ¬ V.int (off : Nat) = V.int (off' : Nat) := fun z => h (by injection z with z; omega)
          rw [decide_eq_false h, decide_eq_false h2]
      rw [e]
      exact k
/-- a tripled sequence: of the class D', at the offset g off -/
def spTri (C D D' : Addr) (Z : Nat → Prop) : Sp := fun vs H Q _ => ∃ (q c : Addr) (N : Nat) (A : List Nat) (sv : Sv) (off : Nat), vs = [.ref q] ∧ SqAt C D H q c N A sv off ∧ Z off ∧ 3 * N ≤ 20000 ∧ 2 * A.length ≤ 256 ∧ ∀ p c' sv' H', Same H H' → SqAt C D' H' p c' (3 * N) (joinA N A [0, 1]) sv' off → Q (.ref p) H'
theorem scRTri : FnScope ["self"] ["self"] (defScope trTripled) := ⟨rfl, rfl, rfl, by decide +kernel, rfl, by decide +kernel, by decide +kernel⟩
theorem ok_rtri (F : Fun K "tripled" "RuledSequence.tripled" trTripled f fd) (GT : Mt P w K mg base R "tripled_cell" 5 ["self"] [] (spTriCell C R)) (MR : Mkr P w K mg base "RuledSequence" R 1 ["self", "cell"] [] (spRInit C R)) : FnOk P w K mg base CX0 6 f fd ["self"] (spTri C R R (· = 0)) := by
  refine F.ok scRTri (fun vs H Q E h => ?_) (fun cdv Ar outer s H vs Q E hr h => ?_)
  · obtain ⟨q, c, N, A, sv, off, rfl, _⟩ := h; rfl
  · obtain ⟨q, c, N, A, sv, off, rfl, X, rfl, n3, l2, k⟩ := h
    obtain ⟨dx, hq⟩ := X.ob
    refine ⟨_, pss_one (ps_ret (pe_mkr MR (hr.mono (by decide)) (by rfl) (pa_cons (pe_mt0 (pv 0) GT hr) pa_nil))), ?_⟩
    refine ⟨_, rfl, q, dx, _, rfl, hq, seqF_no _ _ (by decide +kernel), q, c, N, A, sv, 0, rfl, X, n3, l2, fun p sv' H1 sm ce => ?_⟩
    intro x dx' hx hdx hne
    obtain ⟨cx, m, d, kk, tb, kn, h1, _⟩ := id ce.ob
    have s2 : Same H1 (upd (upd H1 dx' (.own x)) x (.ins R dx' [])) := same_upd (same_upd (.refl _) hdx) hx
    exact ⟨x, p, dx', _, _, sv', rfl, upd_same, ce.mono s2, fun H' Y keep => ⟨rfl, k x p sv' H' (sm.trans (Same.made hx hdx keep)) Y⟩⟩
theorem scSTri : FnScope ["self"] ["self"] (defScope tsTripled) := ⟨rfl, rfl, rfl, by decide +kernel, rfl, by decide +kernel, by decide +kernel⟩
theorem ok_stri (F : Fun K "tripled" "ShiftedSequence.tripled" tsTripled f fd) (T : SqC K S) (GT : Mt P w K mg base S "tripled_cell" 5 ["self"] [] (spTriCell C S)) (MS : MkrN P w K mg base "ShiftedSequence" S 2 1 ["shift"] (fun vs zs => vs ++ zs) (spSInit C S)) : FnOk P w K mg base CX0 6 f fd ["self"] (spTri C S S anyO) := by
  refine F.ok scSTri (fun vs H Q E h => ?_) (fun cdv Ar outer s H vs Q E hr h => ?_)
  · obtain ⟨q, c, N, A, sv, off, rfl, _⟩ := h; rfl
  · obtain ⟨q, c, N, A, sv, off, rfl, X, _, n3, l2, k⟩ := h
    obtain ⟨dx, hq⟩ := X.ob
    refine ⟨_, pss_one (ps_ret (pe_mkrN MS (hr.mono (by decide)) (by rfl) (pa_cons (pe_mt0 (pv 0) GT hr) pa_nil) (pk_cons (pe_fld (pv 0) rfl) pk_nil))), ?_⟩
    refine ⟨_, rfl, q, dx, _, rfl, hq, seqF_no _ _ (by decide +kernel), q, c, N, A, sv, off, rfl, X, n3, l2, fun p sv' H1 sm ce => ?_⟩
    refine ⟨_, rfl, q, S, dx, _, _, rfl, sm _ _ hq, T.cl, T.nO, seqF_O .., rfl, rfl, ?_⟩
    intro x dx' hx hdx hne
    have s2 : Same H1 (upd (upd H1 dx' (.own x)) x (.ins S dx' [])) := same_upd (same_upd (.refl _) hdx) hx
    exact ⟨x, p, dx', _, _, sv', off, rfl, upd_same, ce.mono s2, fun H' Y keep => ⟨rfl, k x p sv' H' (sm.trans (Same.made hx hdx keep)) Y⟩⟩
end
end Tf

/-! ## TfExc -/
set_option Elab.async false
set_option linter.all false
set_option maxRecDepth 100000
set_option maxHeartbeats 4000000
/-! Exceptions of own classes over RuntimeError: made, raised. -/
namespace Tf
open PySem PySem.Spec PyProof.Rows L2
open Builtin Builtin.ObjectAttr

abbrev reTail : List Value := [.type "RuntimeError", .type "Exception", .type "BaseException", .type "object"]
/-- own classes, then RuntimeError's -/
def refsRE (l : List Value) : Prop := ∃ cs : List Addr, l = cs.map Value.ref ++ reTail
theorem refsRE_cons {C : Addr} {l : List Value} (h : refsRE l) : refsRE (.ref C :: l) := let ⟨cs, e⟩ := h; ⟨C :: cs, by rw [e]; rfl⟩
theorem refsRE_pass (self : Value) {l : List Value} (h : refsRE l) : refuseLoop self "__setattr__" l = pure () := by
  obtain ⟨cs, rfl⟩ := h
  induction cs with
  | nil => exact PySem.F.store_RuntimeError.passes self
  | cons c cs ih => rw [List.map_cons, List.cons_append, refuseLoop_ref]; exact ih
theorem refsRE_contains (X : String) {l : List Value} (h : refsRE l) : l.contains (.type X) = reTail.contains (.type X) := by
  obtain ⟨cs, rfl⟩ := h
  induction cs with
  | nil => rfl
  | cons c cs ih => rw [List.map_cons, List.cons_append, List.contains_cons, ih]; rfl
theorem refsRE_ne {l : List Value} (h : refsRE l) : l.isEmpty = false := by
  obtain ⟨cs, rfl⟩ := h
  cases cs <;> rfl
section
variable {prog : Program} {w : World} {A : Around} {E : Value → Shared → Prop} {R : Result → Shared → Prop} {hp : Heap} {g : Array GenState} {d : Drawn} {t : Nat} {os : OsState}
theorem re_osa {K : PySem.W.Frag} {name : Str} {tk : Tok} {v : Value} {x C : Addr} {fv : Array Value} {cd : ClassData}
    (X : K.In hp) (hx : hp.get? x = some { cls := .ref C, data := .fields fv }) (hcd : PySem.W.clsIn K C = some cd) (hm : refsRE cd.mro) (hh : cd.hasDict = true) (ha : PySem.W.findIn K (.ref C) name = some none)
    (hq : ∀ h' tk' dx, (∀ b o, b ≠ x → hp.get? b = some o → h'.get? b = some o) → hp.objs.size ≤ dx → dx ≠ x → h'.get? x = some { cls := .ref C, dict := some dx, data := .fields fv } →
      h'.Ns1 dx (fun y => if y = name then some v else none) → R (.ok (.ret .none)) ⟨h', g, d, tk', os⟩) :
    codeAny (model prog w) A (.call (.builtin "object.__setattr__") ⟨[.ref x, .str name tk, v], []⟩) R ⟨hp, g, d, t, os⟩ := by
  have I : PySem.W.InstAt hp x { cls := .ref C, data := .fields fv } C none := ⟨hx, rfl, rfl, trivial⟩
  have SF := PySem.F.store_object
  have ne := refsRE_ne hm
  have hob : cd.mro.contains (.type "object") = true := (refsRE_contains "object" hm).trans (by decide +kernel)
  have hxs : x ≠ hp.objs.size := Nat.ne_of_lt (Heap.lt_size hx)
  have sub : PySem.W.Looks (model prog w) hp (isInstance (.ref x) (.type "object")) true := I.type.andThen (PySem.W.looks_mroIn X (by unfold PySem.W.mroIn; rw [hcd, Option.bind_some, if_neg (by rw [ne]; decide), hob]))
  refine codeAny_call_builtin SF.slot.plain SF.entry (@PySem.W.check_slot (model prog w) _ _ ⟨hp, g, d, t, os⟩ "object.__setattr__" "object" "__setattr__" (.ref x) [.str name tk, v] [] _ SF.kind SF.split sub (SF.args (.ref x) (.str name tk) v) ?_)
  have hmr : PySem.W.Looks (model prog w) hp (mroOf (.ref C)) cd.mro := (PySem.W.looks_clsIn X hcd).andThen .now
  have L3 : PySem.W.Looks (model prog w) hp (storeTaker? none) none := .now
  have hcls : PySem.W.Looks (model prog w) hp (classData C) cd := PySem.W.looks_clsIn X hcd
  rw [PySem.W.osa_eq, refuse_eq]
  refine wpAny_bind (wpAny_bind (I.type.at (wpAny_bind (hmr.at ?_))))
  rw [refsRE_pass _ hm]
  refine wpAny_pure (wpAny_bind (I.type.at (wpAny_bind ((PySem.W.looks_findIn X ha).at (wpAny_bind (L3.at ?_))))))
  show wpAny _ _ (storeInOwnDict (.ref x) (.ref C) (.str name tk) name v false) _ _ _
  obtain ⟨nm, bs, mro, ns, qn, hd, sn, sb, ab, col, del⟩ := cd
  dsimp only at hh
  subst hh
  unfold storeInOwnDict ownDictForStores
  repeat (first | with_reducible refine HandSPX.store_in_new ?_ ?_ | with_reducible refine wpAny_loadPart_at hx ?_ | with_reducible refine hcls.at ?_ | wp_step)
  · exact ⟨_, #[], _, (Heap.get?_update_ne _ _ _ _ hxs.symm).trans (Heap.get?_push_at rfl rfl), rfl, fun e he => absurd he (by simp), fun _ => rfl⟩
  · intro h' tk' hn' hs
    have hx₁ : (hp.push { cls := .type "dict", data := .dict #[] }).get? x = some { cls := .ref C, data := .fields fv } := Heap.get?_push_of_some _ hx
    refine hq h' tk' hp.objs.size (fun b o hb ho => ?_) (Nat.le_refl _) hxs.symm ?_ hn'
    · exact (hs.2 b (Nat.ne_of_lt (Heap.lt_size ho))).trans ((Heap.get?_update_ne _ _ _ _ hb).trans (Heap.get?_push_of_some _ ho))
    · exact (hs.2 x hxs).trans (Heap.get?_update_self _ hx₁ rfl)
end
/-- what the written part says of the class -/
structure OexR (K : PySem.W.Frag) (C : Addr) : Prop where
  cls : ∃ nm q N bs bm sn sub ab col dd k0 k1 k2 k3 k5, K.lookup C = some (excClassObj nm q C N bs bm true sn sub ab col dd k0 k1 k2 k3 k5 "RuntimeError.__new__") ∧ refsRE bm
  sa : PySem.W.findIn K (.ref C) "__setattr__" = some (some (.builtin "object.__setattr__"))
  exC : PySem.W.subIn K (.ref C) (.type "BaseException") = some true
  tyC : PySem.W.typeIn K (.ref C) = some (.type "type")
  kC : PySem.W.keepIn K (.ref C) = true
section
variable {X : Cx} {pins : List (Addr × Obj)} {σ : L2.St} {H : Hp} {s : Shared} {a C dx : Addr} {f : Str} {y : V} {u : Value} {fs : List (Str × V)} {Q : Unit → Shared → Prop} {E : Value → Shared → Prop} {A : Around}
/-- self.f = y, the first one -/
theorem ost_newR (T : OexR X.K C) (I : Inv X pins σ H s) (e : H a = some (exo a C none)) (hno : PySem.W.findIn X.K (.ref C) f = some none) (ry : RelV y u)
    (h : ∀ dx s', H dx = none → dx ≠ a → Inv X pins σ (upd (upd H dx (exd dx [(f, y)])) a (exo a C (some dx))) s' → Q () s') : wpAny (model X.prog X.w) A (setAttr (.ref a) f u) Q E s := by
  obtain ⟨nm, q, N, bs, bm, sn, sub, ab, col, dd, k0, k1, k2, k3, k5, hC, hbm⟩ := T.cls
  have hcl : PySem.W.clsIn X.K C = some { name := nm, bases := bs, mro := .ref C :: bm, ns := N, qualname := q, hasDict := true, slotNames := sn, subclasses := sub, abstract := ab, collection := col, hasDel := false } := by unfold PySem.W.clsIn; rw [hC] <;> rfl
  obtain ⟨t1, ho⟩ := exo_at I.hok e
  obtain ⟨hp, g, d, t, os⟩ := s
  refine PySem.W.set_plain I.kIn (ox := { cls := .ref C, dict := none, data := .fields #[.ref t1, .none, .none, .none, .bool false, .none] }) (od := none) ⟨ho, rfl, rfl, trivial⟩ T.sa ?_
  refine re_osa I.kIn ho hcl (refsRE_cons hbm) rfl hno (fun h' tk' dx k dn dne hx hn => ?_)
  have hnd : H dx = none := I.hok.fresh dn
  have nd : ∀ {b : Addr} {o : Obj}, hp.get? b = some o → b ≠ dx := fun {b o} q => Nat.ne_of_lt (Nat.lt_of_lt_of_le (Heap.lt_size q) dn)
  have na : ∀ {b : Addr}, H b = none → b ≠ a := fun {b} n z => by
    rw [z, e] at n
    cases n
  have Un1 : Un X.fs [] H (upd (upd H dx (exd dx [(f, y)])) a (exo a C (some dx))) hp h' := {
    keep := fun b o q n _ _ => k b o (na n) q
    slot := fun b o q n _ _ => ⟨o.slots, k b o (na n) q⟩
    free := fun b o q n _ => by rw [upd_ne (na n), upd_ne (nd q)]; exact n
    there := fun b o q _ => by
      by_cases hb : b = a
      · exact ⟨_, by rw [hb]; exact hx⟩
      · exact ⟨o, k b o hb q⟩
    tups := fun b xs q => by rw [upd_ne (at_ne e q exo_tup), upd_ne (ne_of_none q hnd)]; exact q
    frzs := fun b o v q => by rw [upd_ne (at_ne e q exo_frz), upd_ne (ne_of_none q hnd)]; exact q
    tbls := fun b ps q => ⟨#[], by rw [upd_ne (at_ne e q exo_tbl), upd_ne (ne_of_none q hnd), q]; simp⟩ }
  refine h dx _ hnd dne (I.un (t' := tk') Un1 fun b o q => ?_)
  by_cases hb : b = a
  · subst hb
    rw [upd_same] at q
    cases q
    exact exo_ok hx
  · rw [upd_ne hb] at q
    by_cases hd : b = dx
    · subst hd
      rw [upd_same] at q
      cases q
      exact exd_ok hn (relO_put (fs := []) ry fun g => True.intro)
    · rw [upd_ne hd] at q
      exact (I.hok b o q).stay (fun c v hc z => k c v (by
          rcases hc with hc | hc
          · rw [hc]
            exact hb
          · exact at_ne e hc exo_own) z)
        (fun c hc => by rw [upd_ne (at_ne e hc exo_own), upd_ne (ne_of_none hc hnd)]; exact hc) (fun c xs hc => by rw [upd_ne (at_ne e hc exo_tup), upd_ne (ne_of_none hc hnd)]; exact hc)
/-- RuntimeError.__init__(self, ..) -/
theorem oinitR {us : List Value} {Q : Value → Shared → Prop} (T : OexR X.K C) (I : Inv X pins σ H s) (e : H a = some (exo a C none)) (hl : us.length ≤ sizeLine) (h : ∀ s', Inv X pins σ H s' → Q .none s') :
    wpAny (model X.prog X.w) A (call (.builtin "RuntimeError.__init__") (.ref a :: us)) Q E s := by
  obtain ⟨nm, q, N, bs, bm, sn, sub, ab, col, dd, k0, k1, k2, k3, k5, hC, hbm⟩ := T.cls
  obtain ⟨t1, ho⟩ := exo_at I.hok e
  obtain ⟨hp, g, d, t, os⟩ := s
  refine wpAny_call (PySem.HandSPX.init_base F.excBase_RuntimeError (fun Y => refsRE_contains Y hbm) (I.kIn _ _ hC) ho hl fun h' t2 k hx => ?_)
  have J := I.write (t' := t) (x := a) (e := a) (o := exo a C none) (by rw [e]; exact True.intro) (.inl rfl) k ⟨_, hx⟩ (exo_ok hx)
  have eu : upd H a (exo a C none) = H := by
    funext b
    by_cases hb : b = a
    · rw [hb, upd_same, e]
    · rw [upd_ne hb]
  rw [eu] at J
  exact h _ J
end
/-- the class at C0 hands out RuntimeError's __init__ -/
structure InitR (K : PySem.W.Frag) (mg : Str → Option Value) (x : Str) (C0 : Addr) : Prop where
  mg_ : mg x = some (.ref C0)
  at_ : ∃ mc, ClX.CRead K C0 mc ∧ PySem.W.findCls K (.ref C0) mc "__init__" = some (.val (.builtin "RuntimeError.__init__"))
def tReI (K : PySem.W.Frag) (ta : TA) : TE := fun σ H Q => ta σ H fun vs H1 => ∃ (a C : Addr) (ws : List V), vs = .ref a :: ws ∧ ws.length ≤ 1000 ∧ OexR K C ∧ H1 a = some (exo a C none) ∧ Q .non H1
def tOstR (K : PySem.W.Frag) (f : Str) (to te : TE) : TS := fun D σ H => te σ H fun y H1 => to σ H1 fun x H2 => ∃ a C : Addr, x = .ref a ∧ OexR K C ∧ PySem.W.findIn K (.ref C) f = some none ∧
  H2 a = some (exo a C none) ∧ ∀ dx, H2 dx = none → dx ≠ a → D.nx σ (upd (upd H2 dx (exd dx [(f, y)])) a (exo a C (some dx)))
section
variable {X : Cx} {o e : Expr} {es : List Expr} {to te : TE} {ta : TA} {x f : Str} {p p' p1 p2 pos : Pos} {C0 : Addr}
theorem pe_reinit {pl : Sem Bool} (N : InitR X.K X.mg x C0) (hg : Gl X x) (ha : PA X (e :: es) ta) (hdb : (x == ("__debug__" : Str)) = false := by decide)
    (hc : eval (.Call (.Attribute (.Name x p1) "__init__" p2) (e :: es) [] pos) X.env = (do
      let ov ← eval (.Name x p1) X.env
      standAt p2.atName
      let (f, first) ← holding [ov] (getMethod ov "__init__" pl)
      callWith pos f first (backTo pos (starEach (e :: es) X.env)) (backToKw pos (keywordEach [] X.env))) := by rfl)
    (he : starEach (e :: es) X.env = (false, eval e X.env) :: starEach es X.env := by rfl) (hpl : (backTo pos (starEach es X.env)).any (·.1) = false := by rfl) :
    PE X (.Call (.Attribute (.Name x p1) "__init__" p2) (e :: es) [] pos) (tReI X.K ta) := by
  refine ⟨fun pins s σ H Q I h => ?_⟩
  obtain ⟨mc, rd, fc⟩ := N.at_
  refine PySem.W.methodCall_KW (ld_glob I hg N.mg_ ?_ hdb) hc
  refine PySem.W.method_cls I.kIn rd.ga (PySem.W.cls_value I.kIn rd.rd fc rfl ?_)
  show wpAny _ _ (callWith pos (Value.builtin "RuntimeError.__init__") [] (backTo pos (starEach (e :: es) X.env)) []) _ _ _
  refine PyProof.Rows.callWith_method1 (thn (ha.run pos pins _ σ H _ (I.tok _) h) fun us s1 ⟨vs, H1, I1, r1, a, C, ws, ev, hl, T, ea, q⟩ => ?_) he hpl
  subst ev
  cases r1 with
  | @cons _ u0 _ ur ra rw' =>
    obtain rfl : u0 = Value.ref a := ra
    have hlen : ur.length ≤ sizeLine := by
      rw [← Paired.length rw', sizeLine_eq]
      omega
    exact oinitR T I1 ea hlen fun s' J => ⟨.non, H1, J, rfl, q⟩
theorem ps_ostR (ho : PE X o to) (he : PE X e te) (hs : swapsWith e (some (.Attribute o f p')) pos.line X.env = pure false := by rfl) : PS X (.Assign [.Attribute o f p'] e pos) (tOstR X.K f to te) := by
  refine ⟨fun pins s σ H D I h => ?_⟩
  refine plainObj_wpAny_Assign_Attribute (thn (he.run pins s σ H _ I h) fun v s1 ⟨y, H1, I1, r1, q1⟩ => thn (ho.run pins s1 σ H1 _ I1 q1) fun u s2 ⟨x, H2, I2, r2, a, C, ex, T, hno, ea, q⟩ => ?_) hs
  subst ex
  obtain rfl : u = Value.ref a := r2
  exact ost_newR T I2 ea hno r1 fun dx s' n ne J => ⟨σ, _, J, q dx n ne⟩
theorem pmk_oexR {CX : CXT} {C fI : Addr} {k : Nat} {fd : FuncData} {ps : List Str} {sp : Sp} {ds : List Value} {dvs : List V} (T : OexR X.K C) (iC : PySem.W.findIn X.K (.ref C) "__init__" = some (some (.ref fI))) (tI : PySem.W.typeIn X.K (.ref fI) = some (.type "function"))
    (F1 : FnOk X.prog X.w X.K X.mg X.base CX k fI fd ps sp) (hr : Room (k + 1) X.A) (hb : Binds X.K fd ps ds) (hd : Vals dvs ds) (hx : Passes CX X (fun _ _ _ => False)) (hg : Gl X x) (hm : X.mg x = some (.ref C)) (ha : PA X (e :: es) ta)
    (hdb : (x == ("__debug__" : Str)) = false := by decide) (he : starEach (e :: es) X.env = (false, eval e X.env) :: starEach es X.env := by rfl) (hpl : (backTo pos (starEach es X.env)).any (·.1) = false := by rfl) :
    PMk X (.Call (.Name x p) (e :: es) [] pos) (tMkO C sp dvs ta) := by
  intro pins s σ H Q I h
  obtain ⟨nm, q, N, bs, bm, sn, sub, ab, col, dd, k0, k1, k2, k3, k5, hC, hbm⟩ := T.cls
  refine wpAny_Call_Name_kw (ld_glob I hg hm ?_ hdb)
  refine PySem.W.callWith_K (h₀ := X.base) I.ok.mod.kin T.kC (thn (ha.run pos pins s σ H _ I h) fun us s1 ⟨vs, H1, I1, r1, hz, q1⟩ => ⟨I1.kIn, ?_⟩) he hpl
  show wpAny _ _ (call (.ref C) us) _ _ _
  obtain ⟨hp, g, dr, tk, os⟩ := s1
  have hsz : hp.objs.size ≤ hp.objs.size + 1 := Nat.le_succ _
  have hn : H1 (hp.objs.size + 1) = none := I1.hok.fresh hsz
  have hq := q1 (hp.objs.size + 1) hn
  have kk : ∀ b o, hp.get? b = some o → ((hp.push (PySem.W.kdv_tup us)).push (PySem.HandSPX.excO C hp.objs.size)).get? b = some o := fun b o e => Heap.get?_push_of_some _ (Heap.get?_push_of_some _ e)
  have hget : ((hp.push (PySem.W.kdv_tup us)).push (PySem.HandSPX.excO C hp.objs.size)).get? (hp.objs.size + 1) = some (PySem.HandSPX.excO C hp.objs.size) := by heap_get
  have I2 : Inv X pins σ (upd H1 (hp.objs.size + 1) (exo (hp.objs.size + 1) C none)) ⟨(hp.push (PySem.W.kdv_tup us)).push (PySem.HandSPX.excO C hp.objs.size), g, dr, tk, os⟩ :=
    I1.laid (t' := tk) (a := hp.objs.size + 1) (o := exo (hp.objs.size + 1) C none) (h' := (hp.push (PySem.W.kdv_tup us)).push (PySem.HandSPX.excO C hp.objs.size)) kk hsz (exo_ok hget)
  have r2 : Vals (V.ref (hp.objs.size + 1) :: (vs ++ dvs)) (Value.ref (hp.objs.size + 1) :: (us ++ ds)) := .cons rfl (r1.append hd)
  have hl : (Value.ref (hp.objs.size + 1) :: us ++ ds).length = ps.length := by
    have e := r2.length
    rw [F1.len _ _ _ _ hq] at e
    exact e.symm
  have hus : us.length ≤ sizeLine := by
    rw [← Paired.length r1, sizeLine_eq]
    omega
  refine wpAny_call (PySem.HandSPX.call_own F.excBase_RuntimeError (fun Y => refsRE_contains Y hbm) (I1.kIn _ _ hC) (PySem.W.looks_findIn I1.kIn iC) (fun self => PySem.W.bind_fn I1.kIn self tI) hus
    (codeAny_mono (F1.run _ X.stack _ _ ⟨Value.ref (hp.objs.size + 1) :: us, []⟩ (Value.ref (hp.objs.size + 1) :: (us ++ ds)) _ _ (fun _ _ _ => False) (hr.make C us []) (I2.env0.make C us []) (hb _ (Value.ref (hp.objs.size + 1) :: us) I2.kIn hl) r2 hq) fun r s' hq' => ?_))
  cases r with
  | error er => exact hx pins σ _ _ er s' I2 hq'
  | ok fl =>
    cases fl with
    | ret u =>
      obtain ⟨v, H2, os2, bare2, un2, hok2, rv, ev, d, fs, ea, ed, hd1, q2⟩ := hq'
      subst ev
      obtain ⟨h2, g2, d2, t2, os'⟩ := s'
      exact ⟨rv, mk_end (raises_own T.exC T.tyC) I1 hsz kk un2 hok2 os2 bare2 ea ed hd1 q2⟩
    | next => exact False.elim hq'
    | brk => exact False.elim hq'
    | cont => exact False.elim hq'
end
end Tf

/-! ## TfExc2 -/
set_option Elab.async false
set_option linter.all false
set_option maxRecDepth 100000
set_option maxHeartbeats 4000000
/-! An exception caught by a tuple of classes and kept: its class, its fields. -/
namespace Tf
open PySem PySem.Spec PyProof.Rows L2

/-- an exception that was caught stands at a -/
def ExA (cls : Value) (d : Option Addr) (a : Addr) : HO := .ext fun h => ∃ (oe : Obj) (vs : Array Value), h.get? a = some oe ∧ Zc cls d oe ∧ oe.data = .fields vs
theorem exA_ok {P : Program} {w : World} {H : Hp} {h : Heap} {a : Addr} {cls : Value} {d : Option Addr} {oe : Obj} {vs : Array Value} (e : h.get? a = some oe) (z : Zc cls d oe) (k : oe.data = .fields vs) : ObjOk P w H h a (ExA cls d a) :=
  ⟨⟨oe, vs, e, z, k⟩, ⟨oe, e⟩, fun _ _ ⟨o, v, q, r⟩ k => ⟨o, v, k o q, r⟩⟩
theorem flying_grow {base h h' : Heap} {l : List Env} {e : Addr} {Z : Obj → Prop} (x : HandSPX.FlyingZ base l e Z h) (k : ∀ b o, h.get? b = some o → h'.get? b = some o) : HandSPX.FlyingZ base l e Z h' := by
  obtain ⟨f1, f2, f3, oe, vs, T, oT, ts, he, hz, hd, h1, hnT, hTe, hT, hdT, h3⟩ := x
  exact ⟨fun b o q => k b o (f1 b o q), f2, f3.of_keeps fun b o hb _ => ⟨o, k b o hb, rfl⟩, oe, vs, T, oT, ts, k _ _ he, hz, hd, h1, hnT, hTe, k _ _ hT, hdT, h3⟩
section
variable {X : Cx} {pins : List (Addr × Obj)} {σ : L2.St} {H : Hp} {s s' sI : Shared} {B : Heap} {a : Addr}
/-- landed, and tracked from now on -/
theorem Inv.landedA {u : HO} (I : Inv X pins σ H sI) (nb : ∀ b o, sI.heap.get? b = some o → b ∉ frs X.stack → B.get? b = some o) (st : B.StaysIn s'.heap) (up : sI.heap.UpToSlots s'.heap) (os : s'.os = sI.os) (ag : AllBare s'.gens)
    (na : sI.heap.get? a = none) (hn : H a = none) (new : ObjOk X.prog X.w (upd H a u) s'.heap a u) : Inv X pins σ (upd H a u) s' := by
  have nf : ∀ b ∈ frs X.stack, ∀ o, sI.heap.get? b = some o → ∃ sl, s'.heap.get? b = some { o with slots := sl } := fun b hb o e => by
    obtain ⟨_, o', e', hd⟩ := I.stack.mem hb
    rw [e] at e'; cases e'
    exact up b o e hd
  have ne : ∀ {b : Addr} {o : Obj}, sI.heap.get? b = some o → b ≠ a := fun {b o} e z => by rw [z, na] at e; cases e
  have okk : HOk X.prog X.w (upd H a u) s'.heap := fun b v e => by
    by_cases hb : b = a
    · subst hb
      rw [upd_same] at e
      cases e
      exact new
    · rw [upd_ne hb] at e
      exact (((I.inGround nb).kept st) b v e).stay (fun _ _ _ z => z) (fun c z => by rw [upd_ne (ne_of_none z hn)]; exact z) fun c xs z => by rw [upd_ne (ne_of_none z hn)]; exact z
  have J := I.call (ch := []) (h' := s'.heap) (g' := s'.gens) (t' := s'.toks) (d' := s'.drawn) (H' := upd H a u)
    ⟨fun b o e _ hb _ => st b o (nb b o e hb), fun b o e _ hb _ => nf b hb o e, fun b o e n _ => by rw [upd_ne (ne e)]; exact n, fun b o e _ => by
      by_cases hb : b ∈ frs X.stack
      · obtain ⟨sl, q⟩ := nf b hb o e
        exact ⟨_, q⟩
      · exact ⟨o, st b o (nb b o e hb)⟩, fun b xs e => by rw [upd_ne (ne_of_none e hn)]; exact e, fun b o v e => by rw [upd_ne (ne_of_none e hn)]; exact e, fun b ps e => ⟨#[], by rw [upd_ne (ne_of_none e hn), e]; simp⟩⟩
    okk ag (fun _ z => nomatch z)
  obtain ⟨a1, a2, a3, a4, a5⟩ := s'
  have e5 : a5 = sI.os := os
  subst e5
  exact J
/-- into an except suite, no pin for the exception -/
theorem Inv.suite0 (I : Inv X pins σ H s) : Inv (X.suite a (X.pn ++ pins)) [] σ H s :=
  ⟨I.ok.suite _ _, I.os, I.bare, I.base, I.loc, I.cell, I.free, I.freeC, fun p hp => I.pin p (by rw [List.append_nil] at hp; exact hp), I.hok, I.len⟩
theorem Inv.unsuite0 {pn' : List (Addr × Obj)} (I : Inv (X.suite a (X.pn ++ pins)) pn' σ H s) (ok : X.Ok) : Inv X pins σ H s :=
  ⟨ok, I.os, I.bare, I.base, I.loc, I.cell, I.free, I.freeC, fun p hp => I.pin p (List.mem_append_left _ hp), I.hok, I.len⟩
end
/-- what the clause 'except (c1, c2) as n' wishes of an exception of the body: slot i is n's; it is always taken -/
def wTup (K : PySem.W.Frag) (c1 c2 : Value) (i : Nat) (ts : TS) (D : Ends) : WX := fun cls d σ H => PySem.W.exmAny K cls [c1, c2] = some true ∧ ∀ a, H a = none →
  ts { nx := fun σ' H' => D.nx (σ'.set i none) H', rt := D.rt, bk := fun σ' H' => D.bk (σ'.set i none) H', ct := fun σ' H' => D.ct (σ'.set i none) H' } (σ.set i (some (.ref a))) (upd H a (ExA cls d a))
section
variable {X : Cx} {x1 x2 n : Str} {c1 c2 : Value} {i kk : Nat} {body suite : List Stmt} {b₀ : Stmt} {p1 p2 tp pos pos' : Pos} {tb : WX → TS} {ts : TS}
theorem ps_try_tup (hs : X.stack = X.env :: X.outer) (hf : X.env.frame = some X.env.locals) (hN : X.N.Nodup) (hi : X.N[i]? = some n) (hln : X.env.kindOf n = some .local) (g1 : Gl X x1) (g2 : Gl X x2) (m1 : X.mg x1 = some c1) (m2 : X.mg x2 = some c2)
    (hb : ∀ (W : WX) (pn : List (Addr × Obj)) (xe : Value → Shared → Prop), Takes (X.tr pn xe) W → PassesOwn (model X.prog X.w) X.A X.env xe → PSs (X.tr pn xe) body (tb W))
    (hsu : ∀ (a : Addr) (pn : List (Addr × Obj)), PSs (X.suite a pn) (b₀ :: suite) ts)
    (d1 : (x1 == ("__debug__" : Str)) = false := by decide) (d2 : (x2 == ("__debug__" : Str)) = false := by decide)
    (st1 : starEach [.Name x1 p1, .Name x2 p2] X.env = (false, eval (.Name x1 p1) X.env) :: starEach [.Name x2 p2] X.env := by rfl) (st2 : starEach [.Name x2 p2] X.env = (false, eval (.Name x2 p2) X.env) :: starEach [] X.env := by rfl) :
    PS X (.Try body [.ExceptHandler (some (.Tuple [.Name x1 p1, .Name x2 p2] kk tp)) (some n) (b₀ :: suite) pos'] [] [] pos) (fun D σ H => tb (wTup X.K c1 c2 i ts D) D σ H) := by
  refine ⟨fun pins s σ H D I h => ?_⟩
  have ok := I.ok
  have hfr : X.A.frames = some (X.env :: X.outer) := by rw [ok.frames, hs]
  have hloc : Loc X.env.scope n := .inl hln
  refine wpAny_Try_except ?_
  refine wpAny_mono ((hb (wTup X.K c1 c2 i ts D) (X.pn ++ pins) (fun e s₁ => wpAny (model X.prog X.w) X.A (noteFrame e X.env) (fun _ s₂ => wpAny (model X.prog X.w) X.A (setFlight e none) (fun _ s₃ =>
    wpAny (model X.prog X.w) X.A (handleBy e X.env [.ExceptHandler (some (.Tuple [.Name x1 p1, .Name x2 p2] kk tp)) (some n) (b₀ :: suite) pos']) (SP X pins D) X.xe s₃) X.xe s₂) X.xe s₁) (fun u s' xx => ?_) PassesOwn.looking).run [] s σ H D (I.toTry _) h) (fun f s1 hsp => ?_) (fun e s1 he => he)
  · obtain ⟨a, B, sI, pins', σ', H', cls, d, rfl, J', nb, up, sky, na, os, ag, hx, hyes⟩ := xx
    have J : Inv X pins σ' H' sI := J'.ofTry ok
    have sky' : Sky B (X.env :: X.outer) a (Zc cls d) X.env.locals s'.heap := by rw [← hs]; exact sky
    show wpAny (model X.prog X.w) X.A (noteFrame (.ref a) X.env) _ _ _
    refine Sky.land Zc.steady hfr hf sky' fun h3 fl3 up3 => ?_
    have J3 : Inv X pins σ' H' { s' with heap := h3 } := J.landed nb fl3.1 (up.trans up3) os ag
    obtain ⟨oe3, vs3, he3, hz3, hd3⟩ := fl3.there
    have notFr : ∀ {h : Heap} {o : Obj} {vs : Array Value}, h.FunFrames B (X.env :: X.outer) → h.get? a = some o → o.data = .fields vs → a ∉ frs (X.env :: X.outer) := fun {h o vs} ff e dd hm => by
      obtain ⟨_, o', e', hnf⟩ := ff.mem hm
      rw [e] at e'; cases e'
      exact hnf _ dd
    have nfr := notFr fl3.2.2.1 he3 hd3
    have naI : sI.heap.get? a = none := by
      cases e : sI.heap.get? a with
      | none => rfl
      | some o =>
        have q := nb a o e (by rw [hs]; exact nfr)
        rw [fl3.2.1] at q
        cases q
    have S3 : Inv (X.suite a (X.pn ++ pins)) [] σ' H' { s' with heap := h3 } := Inv.suite0 J3
    refine wpAny_handleBy_cons (codeAny_handlers_test ?_) (by intro q; cases q)
    refine wpAny_Tuple_spliced ?_
    refine spliced_more (ld_glob (X := X.suite a (X.pn ++ pins)) S3 g1 m1 ?_ d1) st1
    refine spliced_more (ld_glob (X := X.suite a (X.pn ++ pins)) S3 g2 m2 ?_ d2) st2
    refine spliced_none ⟨by show 2 ≤ sizeLine; decide, ?_⟩
    have grow : ∀ b o, h3.get? b = some o → (h3.push { cls := .type "tuple", data := .seq [c1, c2].toArray }).get? b = some o := fun b o e => Heap.get?_push_of_some _ e
    have fl4 := flying_grow fl3 grow
    have LT : PySem.W.Looks (model X.prog X.w) (h3.push { cls := .type "tuple", data := .seq [c1, c2].toArray }) (typeOf (.ref a)) cls := fun A Q E s k q => wpAny_typeOf_ref (k _ _ (grow _ _ he3)) (by rw [hz3.1]; exact q)
    have LM := PySem.W.exm_tup2 (M := model X.prog X.w) (J3.kIn.keeps grow) LT (Heap.get?_push_size h3 rfl) hx
    refine LM.here ?_
    refine codeAny_handlers_suite_as ?_
    refine HandSPX.lands_againZ (s := { s' with heap := h3.push { cls := .type "tuple", data := .seq [c1, c2].toArray } }) fl4 fun h5 fl5 up5 => ?_
    obtain ⟨oe5, vs5, he5, hz5, hd5⟩ := fl5.there
    have J5 : Inv X pins σ' (upd H' a (ExA cls d a)) { s' with heap := h5 } := Inv.landedA J nb fl5.1 (((up.trans up3).trans (Heap.UpToSlots.of_keeps grow)).trans up5) os ag naI na (exA_ok he5 hz5 hd5)
    have S5 : Inv (X.suite a (X.pn ++ pins)) [] σ' (upd H' a (ExA cls d a)) { s' with heap := h5 } := Inv.suite0 J5
    refine store_ok (X := X.suite a (X.pn ++ pins)) (v := .ref a) S5 hN hi hloc rfl (fun s6 S6 => ?_) (.inr hln)
    refine wpAny_mono ((hsu a (X.pn ++ pins)).run [] s6 _ _ _ S6 (hyes a na)) (fun f s7 hsp => ?_) (fun _ _ z => False.elim z)
    have end_ : ∀ {σ6 : L2.St} {H6 : Hp} {Q : Shared → Prop}, Inv (X.suite a (X.pn ++ pins)) [] σ6 H6 s7 → (∀ s8, Inv X pins (σ6.set i none) H6 s8 → Q s8) →
        wpAny (model X.prog X.w) X.A (do bindName X.env n .none; unbindBehindTheSuite X.env n pos') (fun _ s8 => Q s8) X.xe s7 := fun {σ6 H6 Q} S6 hq => gone_ok (Inv.unsuite0 S6 ok) hN hi hln hq
    cases f with
    | next =>
      obtain ⟨σ6, H6, S6, q6⟩ := hsp
      exact end_ S6 fun s7 J7 => ⟨_, _, J7, q6⟩
    | brk =>
      obtain ⟨σ6, H6, S6, q6⟩ := hsp
      exact end_ S6 fun s7 J7 => ⟨_, _, J7, q6⟩
    | cont =>
      obtain ⟨σ6, H6, S6, q6⟩ := hsp
      exact end_ S6 fun s7 J7 => ⟨_, _, J7, q6⟩
    | ret u =>
      obtain ⟨v6, σ6, H6, S6, r6, q6⟩ := hsp
      exact end_ S6 fun s7 J7 => ⟨_, _, _, J7, r6, q6⟩
  · cases f with
    | next =>
      obtain ⟨σ', H', J', q⟩ := hsp
      exact wpAny_execs_nil ⟨σ', H', J'.ofTry ok, q⟩
    | brk =>
      obtain ⟨σ', H', J', q⟩ := hsp
      exact ⟨σ', H', J'.ofTry ok, q⟩
    | cont =>
      obtain ⟨σ', H', J', q⟩ := hsp
      exact ⟨σ', H', J'.ofTry ok, q⟩
    | ret u =>
      obtain ⟨v, σ', H', J', r, q⟩ := hsp
      exact ⟨v, σ', H', J'.ofTry ok, r, q⟩
end

/-! ### its class, its fields -/
section
variable {K : PySem.W.Frag} {prog : Program} {w : World} {A : Around} {E : Value → Shared → Prop} {s : Shared} {x D : Addr} {ox od : Obj}
theorem kin_classA {Q : Option Value → Shared → Prop} (C : ExcC K D) (X : K.In s.heap) (I : PySem.W.InstAt s.heap x ox D (some od)) (h : Q (some (.ref D)) { s with toks := s.toks + 1 }) : wpAny (model prog w) A (getAttr? (.ref x) "__class__") Q E s := by
  have hf : PySem.W.findObj K D (some od) "__class__" = some (.bind (.builtin "getset_descriptor.__get__") (.builtin "object.__class__")) := PySem.W.findObj_data (by obtain ⟨cd, hc, _⟩ := PySem.W.any_some C.hd; rw [hc]; rfl) C.ha C.hn C.ht
  obtain ⟨hp, g, d, t, os⟩ := s
  have L0 := I.type (M := model prog w)
  have L1 := PySem.W.looks_findIn (M := model prog w) X C.hg
  have L2 := PySem.W.looks_findIn (M := model prog w) X C.hk
  have L3 := PySem.W.looks_find (M := model prog w) X I hf
  have sub : PySem.W.Looks (model prog w) hp (isInstance (.ref x) (.type "BaseException")) true := L0.andThen (PySem.W.looks_subIn X C.hs)
  have hx0 : (false && onTheHeap (Value.builtin "BaseException.__getattribute__")) = false := rfl
  have hx2 : (Value.builtin "BaseException.__getattribute__" == Value.builtin "object.__getattribute__") = false := by decide +kernel
  have hx1 : (onTheHeap (Value.ref D) && Value.builtin "BaseException.__getattribute__" == Value.builtin "object.__getattribute__") = false := by rw [hx2]; rfl
  unfold getAttr? getAttrBy? getAttrBy
  refine wpAny_bind (wpAny_mkText (wpAny_bind (wpAny_attempt (wpAny_holding (wpAny_bind (L0.at (wpAny_bind (L1.at ?_))))))))
  show wpAny _ _ (if (onTheHeap (Value.ref D) && Value.builtin "BaseException.__getattribute__" == Value.builtin "object.__getattribute__") = true then _ else _) _ _ _
  rw [hx1, if_neg Bool.false_ne_true]
  unfold getAttrByItsOwn hookBefore
  refine wpAny_bind ?_
  rw [if_pos (show onTheHeap (Value.ref D) = true from rfl)]
  refine L2.at ?_
  refine wpAny_bind (wpAny_attempt (wpAny_holding ?_))
  unfold callGetattribute
  rw [hx0, if_neg Bool.false_ne_true]
  unfold boundAndCalled
  rw [PySem.F.excAttr_ValueError.ga.bind (.ref x)]
  refine wpAny_bind (wpAny_pure ?_)
  show wpAny _ _ (call (.builtin "BaseException.__getattribute__") [.ref x, .str "__class__" t]) _ _ _
  refine wpAny_call (codeAny_call_builtin PySem.F.excAttr_ValueError.ga.plain PySem.F.entry_bexc_ga ?_)
  refine @PySem.W.check_slot (model prog w) _ _ ⟨hp, g, d, t + 1, os⟩ "BaseException.__getattribute__" "BaseException" "__getattribute__" (.ref x) [.str "__class__" t] [] _ (by decide +kernel) (by decide +kernel) sub (PySem.F.args_bexc_ga (.ref x) (.str "__class__" t)) ?_
  unfold Builtin.«object.__getattribute__»
  refine wpAny_bind (wpAny_of_eq (a := ((Value.ref x : Value), [Value.str "__class__" t])) (by first | rfl | (simp only [slotArgs]; rfl)) ?_)
  refine wpAny_bind (wpAny_pure (wpAny_bind (L0.at (wpAny_bind (L3.at ?_)))))
  show wpAny _ _ (holding [Value.builtin "object.__class__"] (call (.builtin "getset_descriptor.__get__") [.builtin "object.__class__", .ref x, .ref D]) >>= ret) _ _ _
  refine wpAny_bind (wpAny_holding (wpAny_call (PySem.W.class_get (s := ⟨hp, g, d, t + 1, os⟩) (ox := ox) (od := some od) X I C.hm ?_)))
  refine wpAny_pure ?_
  show wpAny _ _ (handedOut (.ref D)) _ _ _
  rw [PySem.W.handedOut_of (v := .ref D) rfl]
  first
    | exact wpAny_pure (wpAny_pure h)
    | exact wpAny_pure h
    | exact wpAny_pure (wpAny_bind (wpAny_pure (wpAny_pure h)))
theorem kitx_excA (C : ExcC K D) : PySem.W.KitX K (.ref x) (.ref D) (fun h => PySem.W.InstAt h x ox D (some od)) where
  ty := fun _ _ _ I => I.type
  it := fun _ _ X _ => by
    obtain ⟨cdD, hcD, _⟩ := PySem.W.any_some C.hd
    unfold PySem.W.clsIn at hcD
    split at hcD
    · rename_i c' d' cd' sl' ho
      intro A' Q' E' s' k q
      unfold isType loadHead
      exact wpAny_bind (wpAny_loadPart (k _ _ (X _ _ ho)) (wpAny_pure q))
    · cases hcD
  ne := fun h tp dd its n sl X htp => by
    obtain ⟨cdD, hcD, _⟩ := PySem.W.any_some C.hd
    refine Bool.eq_false_iff.mpr fun q => ?_
    have e : D = tp := Value.ref.inj (beq_iff_eq.mp q)
    subst e
    unfold PySem.W.clsIn at hcD
    split at hcD
    · rename_i c' d' cd' sl' ho
      have z := (X _ _ ho).symm.trans htp
      cases z
    · cases hcD
  ca := fun X I k => kin_classA C X I k
end
section
variable {X : Cx} {pins : List (Addr × Obj)} {σ : L2.St} {H : Hp} {s : Shared} {a D dd : Addr} {fs : List (Str × V)}
theorem excA_at (I : Inv X pins σ H s) (e : H a = some (ExA (.ref D) (some dd) a)) (ed : H dd = some (.xd fs)) : ∃ (oe od : Obj) (mA : Str → Option Value), PySem.W.InstAt s.heap a oe D (some od) ∧ (∀ name, PySem.W.lookIn name od = some (mA name)) ∧ ∀ f, RelO (fs.lookup f) (mA f) := by
  have hx : ObjOk X.prog X.w H s.heap a (.ext fun h => ∃ (oe : Obj) (vs : Array Value), h.get? a = some oe ∧ Zc (.ref D) (some dd) oe ∧ oe.data = .fields vs) := I.hok a _ e
  obtain ⟨⟨oe, vs, he, hz, hd⟩, _⟩ := hx
  obtain ⟨mA, hns, hr⟩ := (show ObjOk X.prog X.w H s.heap dd (.xd fs) from I.hok dd _ ed)
  obtain ⟨od, ho, hl⟩ := lookIn_ns hns
  exact ⟨oe, od, mA, ⟨he, hz.1, by unfold PySem.W.notCls; rw [hd] <;> rfl, by rw [hz.2]; exact ho⟩, hl, hr⟩
end
/-- isinstance(e, c), e a kept exception -/
def rIsA (K : PySem.W.Frag) : List V → Hp → VK → Prop := fun xs H Q => ∃ (a D dd : Addr) (fs : List (Str × V)) (c : V) (cv : Value) (b : Bool), xs = [.ref a, c] ∧ ExcC K D ∧ H a = some (ExA (.ref D) (some dd) a) ∧ H dd = some (.xd fs) ∧ (∀ u, RelV c u → u = cv) ∧ PySem.W.kitOne K (.ref D) cv = some b ∧ Q (.bl b) H
theorem call_isA {X : Cx} : CallR X (.builtin "isinstance") (rIsA X.K) := by
  intro pins s σ H xs us Q I r h
  obtain ⟨a, D, dd, fs, c, cv, b, rfl, C, ea, ed, hcv, e, q⟩ := h
  cases r with
  | cons rx rr =>
    cases rr with
    | cons rt rr =>
      cases rr
      cases rx
      have ec := hcv _ rt
      subst ec
      obtain ⟨oe, od, mA, J, _⟩ := excA_at I ea ed
      exact PySem.W.kia_one (kitx_excA (ox := oe) (od := od) C) I.kIn J e (fun z => nomatch z) fun tk => ⟨.bl b, H, I.kept (t' := tk) fun _ _ z => z, rfl, q⟩
/-- e.f, e a kept exception -/
def tXfA (K : PySem.W.Frag) (f : Str) (te : TE) : TE := fun σ H Q => te σ H fun x H1 => ∃ (a D dd : Addr) (fs : List (Str × V)) (v : V), x = .ref a ∧ XfC K D ∧ PySem.W.findIn K (.ref D) f = some none ∧ H1 a = some (ExA (.ref D) (some dd) a) ∧ H1 dd = some (.xd fs) ∧ fs.lookup f = some v ∧ Q v H1
theorem pe_xfA {X : Cx} {e : Expr} {te : TE} {pos : Pos} {n : Str} (he : PE X e te) (hb : attributeBase e n X.env (eval e X.env) = eval e X.env := by rfl) : PE X (.Attribute e n pos) (tXfA X.K n te) := by
  refine ⟨fun pins s σ H Q I h => ?_⟩
  refine attr_of hb (thn (he.run pins s σ H _ I h) fun u s1 hh => ?_)
  obtain ⟨x, H1, I1, rx, a, D, dd, fs, v, ex, T, hno, ea, ed, l, q⟩ := hh
  subst ex
  obtain rfl : u = Value.ref a := rx
  obtain ⟨oe, od, mA, J, hl, hr⟩ := excA_at I1 ea ed
  obtain ⟨u, hu, ru⟩ := RelO.some_of (v := v) (o := mA n) (by rw [← l]; exact hr n)
  exact HandSPX.exc_get I1.kIn J T.ga T.gg T.exC (PySem.W.findObj_own T.hdC hno rfl (by rw [hl, hu])) (handed_of ru) ⟨v, H1, I1.tok _, ru, q⟩
end Tf

/-! ## TfCover -/
set_option Elab.async false
set_option linter.all false
set_option maxRecDepth 100000
set_option maxHeartbeats 4000000
/-! The exceptions' __init__, cover. -/
namespace Tf
open PySem PySem.Spec PyProof.Rows L2
abbrev txMember := inClass (topS 10) 0
abbrev txCovered := inClass (topS 11) 0
def spXInit (C : Addr) : Sp := fun vs H Q _ => ∃ (a : Addr) (v : V), vs = [.ref a, v] ∧ H a = some (exo a C none) ∧ ∀ dx, H dx = none → dx ≠ a → Q .non (upd (upd H dx (exd dx [("given", v)])) a (exo a C (some dx)))
/-- an exception class of the text with its __init__ -/
structure ExcF (P : Program) (w : World) (K : PySem.W.Frag) (mg : Str → Option Value) (base : Heap) (x : Str) (C : Addr) : Prop where
  mgC : mg x = some (.ref C)
  T : OexR K C
  ini : ∃ (fI : Addr) (fd : FuncData), PySem.W.findIn K (.ref C) "__init__" = some (some (.ref fI)) ∧ PySem.W.typeIn K (.ref fI) = some (.type "function") ∧ FnOk P w K mg base CX0 1 fI fd ["self", "given"] (spXInit C) ∧ Binds K fd ["self", "given"] []
  xc : ExcC K C
  xf : XfC K C
  no : PySem.W.findIn K (.ref C) "given" = some none
/-- cover: a pair comes out, or one of the two exceptions -/
def spCover (C D M N' : Addr) (Z : Nat → Prop) : Sp := fun vs H Q E => ∃ (q c : Addr) (N : Nat) (A : List Nat) (sv : Sv) (off x : Nat), vs = [.ref q, .int (x : Nat)] ∧ SqAt C D H q c N A sv off ∧ Z off ∧ x < 2 ^ 900 ∧
  (∀ d H', Same H H' → cntO N A off x = true → H' d = some (.xd [("given", .int (x : Nat))]) → E (.ref M) (some d) H') ∧
  (∀ d H', Same H H' → cntO N A off x = false → fRul N A sv off x = none → H' d = some (.xd [("given", .int (x : Nat))]) → E (.ref N') (some d) H') ∧
  ∀ t a b H', Same H H' → cntO N A off x = false → fRul N A sv off x = some (a, b) → H' t = some (.tup [.int (a : Nat), .int (b : Nat)]) → Q (.ref t) H'
section
variable {P : Program} {w : World} {K : PySem.W.Frag} {mg : Str → Option Value} {base : Heap} {f C D CM CN C0 : Addr} {fd : FuncData} {Z : Nat → Prop}
theorem scXM : FnScope ["self", "given"] ["self", "given"] (defScope txMember) := ⟨rfl, rfl, rfl, by decide +kernel, rfl, by decide +kernel, by decide +kernel⟩
theorem ok_xm (F : Fun K "__init__" "IsMember.__init__" txMember f fd) (T : OexR K CM) (no : PySem.W.findIn K (.ref CM) "given" = some none) (N : InitR K mg "StateError" C0) : FnOk P w K mg base CX0 1 f fd ["self", "given"] (spXInit CM) := by
  refine F.ok scXM (fun vs H Q E h => ?_) (fun cdv Ar outer s H vs Q E hr h => ?_)
  · obtain ⟨a, v, rfl, _⟩ := h; rfl
  · obtain ⟨a, v, rfl, ha, k⟩ := h
    refine ⟨_, pss_cons (ps_expr (pe_reinit N (by rfl) (pa_cons (pv 0) (pa_cons pe_str pa_nil)))) (pss_one (ps_ostR (pv 0) (pv 1))), ?_⟩
    exact ⟨_, rfl, a, CM, _, rfl, by show 1 ≤ 1000; decide, T, ha, _, rfl, _, rfl, a, CM, rfl, T, no, ha, k⟩
theorem scXN : FnScope ["self", "given"] ["self", "given"] (defScope txCovered) := ⟨rfl, rfl, rfl, by decide +kernel, rfl, by decide +kernel, by decide +kernel⟩
theorem ok_xn (F : Fun K "__init__" "NotCovered.__init__" txCovered f fd) (T : OexR K CM) (no : PySem.W.findIn K (.ref CM) "given" = some none) (N : InitR K mg "StateError" C0) : FnOk P w K mg base CX0 1 f fd ["self", "given"] (spXInit CM) := by
  refine F.ok scXN (fun vs H Q E h => ?_) (fun cdv Ar outer s H vs Q E hr h => ?_)
  · obtain ⟨a, v, rfl, _⟩ := h; rfl
  · obtain ⟨a, v, rfl, ha, k⟩ := h
    refine ⟨_, pss_cons (ps_expr (pe_reinit N (by rfl) (pa_cons (pv 0) (pa_cons pe_str pa_nil)))) (pss_one (ps_ostR (pv 0) (pv 1))), ?_⟩
    exact ⟨_, rfl, a, CM, _, rfl, by show 1 ≤ 1000; decide, T, ha, _, rfl, _, rfl, a, CM, rfl, T, no, ha, k⟩
/-- what the making leaves, for the one who raises -/
theorem made_x {H : Hp} {v : V} {Q : XK} {C : Addr} (q : ∀ d H', Same H H' → H' d = some (.xd [("given", v)]) → Q (.ref C) (some d) H') : ∀ a, H a = none → spXInit C (.ref a :: [v]) (upd H a (exo a C none))
    (fun u H2 => u = .non ∧ ∃ (d : Addr) (fs : List (Str × V)), H2 a = some (exo a C (some d)) ∧ H2 d = some (exd d fs) ∧ H d = none ∧ Q (.ref C) (some d) (upd (L2.del H2 a) d (.xd fs))) (fun _ _ _ => False) := fun a na => by
  refine ⟨a, v, rfl, upd_same, fun dx hdx hne => ⟨rfl, dx, [("given", v)], upd_same, by rw [upd_ne hne, upd_same], ?_, q dx _ (fun b o e => ?_) upd_same⟩⟩
  · rw [upd_ne hne] at hdx; exact hdx
  · have nd : H dx = none := by rw [upd_ne hne] at hdx; exact hdx
    have h1 : b ≠ dx := ne_of_none e nd
    have h2 : b ≠ a := ne_of_none e na
    rw [upd_ne h1, del_ne h2, upd_ne h2, upd_ne h1, upd_ne h2]
    exact e
theorem scCover : FnScope ["self", "x", "pair"] ["self", "x"] (defScope trCover) := ⟨rfl, rfl, rfl, by decide +kernel, rfl, by decide +kernel, by decide +kernel⟩
theorem passX {X : Cx} {CX : CXT} (h : CX = CX0) : Passes CX X (fun _ _ _ => False) := by subst h; exact fun _ _ _ _ _ _ _ z => z.elim
theorem pe_mtL {X : Cx} {k : Nat} {C : Addr} {ps : List Str} {dv : List V} {sp : Sp} {m : Str} {pos apos : Pos} {e o : Expr} {es : List Expr} {ta : TE} {t : TA} {pl : Sem Bool} (he : PE X o ta) (F : Mt X.prog X.w X.K X.mg X.base C m k ps dv sp) (hr : Room k X.A) (ha : PA X (e :: es) t)
    (hst : starEach (e :: es) X.env = (false, eval e X.env) :: starEach es X.env := by rfl) (hpl : (backTo pos (starEach es X.env)).any (·.1) = false := by rfl)
    (ht : eval (.Call (.Attribute o m apos) (e :: es) [] pos) X.env = (do
      let ov ← eval o X.env
      standAt apos.atName
      let (f, first) ← holding [ov] (getMethod ov m pl)
      callWith pos f first (backTo pos (starEach (e :: es) X.env)) (backToKw pos (keywordEach [] X.env))) := by rfl) :
    PE X (.Call (.Attribute o m apos) (e :: es) [] pos) (tMeth C m sp dv E0 ta t) := pe_mt he F hr ha hst hpl ht
theorem ok_cover {j : Nat} (F : Fun K "cover" "RuledSequence.cover" trCover f fd) (GC : Mt P w K mg base D "contains" (j + 1) ["self", "x"] [] (spS2 C D Z 0 1000 fCnt)) (GR : Mt P w K mg base D "ruling_pair" (j + 2) ["self", "x"] [] (spS3 C D Z 1000 fRul))
    (XM : ExcF P w K mg base "IsMember" CM) (XN : ExcF P w K mg base "NotCovered" CN) : FnOk P w K mg base (L2.CX P w) (j + 3) f fd ["self", "x"] (spCover C D CM CN Z) := by
  refine F.okX scCover (fun vs H Q E h => ?_) (fun cdv Ar outer s H vs Q E hr h => ?_)
  · obtain ⟨q, c, N, A, sv, off, x, rfl, _⟩ := h; rfl
  · obtain ⟨q, c, N, A, sv, off, x, rfl, X, hz, hx, kM, kN, kP⟩ := h
    obtain ⟨dx, hq⟩ := X.ob
    obtain ⟨fI, fdI, iM, tM, FM, bM⟩ := XM.ini
    obtain ⟨gI, gdI, iN, tN, FN, bN⟩ := XN.ini
    have nd := scCover.nd
    have hr1 := hr.mono (by omega : j + 1 ≤ j + 2)
    have hr2 := hr.mono (by omega : 1 + 1 ≤ j + 2)
    have p10 : (2 : Nat) ^ 900 ≤ 2 ^ 1000 := Nat.pow_le_pow_right (by omega) (by omega)
    have hx0 := Nat.lt_of_lt_of_le hx p10
    refine ⟨_, pss_cons (ps_if (pt_val (pe_mtL (pv 0) GC hr1 (pa_cons (pv 1) pa_nil))) (pss_one (ps_raise rfl (takes_of rfl rfl rfl rfl) (pmk_oexR XM.T iM tM FM hr2 bM .nil (passX rfl) (by rfl) XM.mgC (pa_cons (pv 1) pa_nil)))) pss_nil)
      (pss_cons (ps_set (i := 2) nd rfl (.inl rfl) (pe_mtL (pv 0) GR hr (pa_cons (pv 1) pa_nil)))
      (pss_cons (ps_if (pt_cmpR op_isN (pv 2) pe_non (nomark _)) (pss_one (ps_raise rfl (takes_of rfl rfl rfl rfl) (pmk_oexR XN.T iN tN FN hr2 bN .nil (passX rfl) (by rfl) XN.mgC (pa_cons (pv 1) pa_nil)))) pss_nil)
      (pss_one (ps_ret (pv 2))))), ?_⟩
    refine ⟨_, rfl, q, dx, _, rfl, hq, seqF_no _ _ (by decide +kernel), _, rfl, q, c, N, A, sv, off, x, rfl, X, hz, Nat.zero_le _, hx0, fun H1 sm1 => ⟨_, rfl, ?_⟩⟩
    cases hc : cntO N A off x with
    | true =>
      have hc' : (decide (off ≤ x) && cntOf N A (x - off)) = true := hc
      rw [hc']
      refine iteT ⟨_, rfl, by show 1 ≤ 1000; decide, made_x fun d H2 sm2 e => ?_⟩
      exact kM d H2 (sm1.trans sm2) hc e
    | false =>
      have hc' : (decide (off ≤ x) && cntOf N A (x - off)) = false := hc
      rw [hc']
      refine iteF ⟨_, rfl, q, dx, _, rfl, sm1 _ _ hq, seqF_no _ _ (by decide +kernel), _, rfl, q, c, N, A, sv, off, x, rfl, X.mono sm1, hz, hx0, fun H2 sm2 e => ?_, fun t a b H2 sm2 e nt et => ?_⟩
      · refine ⟨_, rfl, rfl, true, rfl, iteT ⟨_, rfl, by show 1 ≤ 1000; decide, made_x fun d H3 sm3 ed => ?_⟩⟩
        exact kN d H3 ((sm1.trans sm2).trans sm3) hc e ed
      · refine ⟨_, rfl, rfl, false, rfl, iteF ⟨_, rfl, ?_⟩⟩
        exact kP t a b H2 (sm1.trans sm2) hc e et
end
end Tf

/-! ## TfWalk -/
set_option Elab.async false
set_option linter.all false
set_option maxRecDepth 100000
set_option maxHeartbeats 4000000
/-! The sequences' generators: walk. -/
namespace Tf
open PySem PySem.Spec PyProof.Rows L2
open PySem.W.X (SegX)
def spWalk (C D : Addr) (Z : Nat → Prop) : SpGe := fun vs H need item => ∃ (q c : Addr) (N : Nat) (A : List Nat) (sv : Sv) (off st : Nat), vs = [.ref q, .int (st : Nat)] ∧ Z off ∧ st < 2 ^ 900 ∧ need = (fun H' => SqAt C D H' q c N A sv off) ∧ item = fun i => some (fMem N A sv off (st + i))
theorem scWalk : ScS ["self", "start", "number"] ["self", "start"] (defScope trWalk) := ⟨rfl, rfl, by decide +kernel, rfl, by decide +kernel, by decide +kernel, by decide +kernel⟩
abbrev ngX (P : Program) (w : World) (K : PySem.W.Frag) (mg : Str → Option Value) (base : Heap) (env : Env) (A : Around) (outer : List Env) (lo : Addr) (s : Shared) (H : Hp) : Cx := gX P w K mg base ["self", "start", "number"] env A outer lo s H
section
variable {P : Program} {w : World} {K : PySem.W.Frag} {mg : Str → Option Value} {base : Heap} {f C D : Addr} {fd : FuncData} {cdv : Value} {Z : Nat → Prop}
def whT : Stmt → Expr | .While t _ _ _ => t | _ => .Constant .none default default
def whB : Stmt → List Stmt | .While _ b _ _ => b | _ => []
def whE : Stmt → List Stmt | .While _ _ e _ => e | _ => []
abbrev walkW : Stmt := (defBody trWalk).getD 2 (.Pass ⟨0, 0, 0, 0⟩)
abbrev walkC (env : Env) : Code := .whileLoop (whT walkW) (whB walkW) (whE walkW) env
abbrev wkS (q : Addr) (st n : Nat) : L2.St := [some (.ref q), some (.int (st : Nat)), some (.int (n : Nat))]
abbrev wkE (lo f : Addr) (cdv : Value) : Env := PySem.W.envX "RuledSequence.walk" (defScope trWalk) lo f cdv []
theorem walk_loop {j : Nat} {lo own : Nat} {q c : Addr} {Nn : Nat} {Am : List Nat} {sv : Sv} {off st : Nat} (M : BaseM P w K mg base) (GM : Mt P w K mg base D "member" (j + 1) ["self", "number"] [] (spS2 C D Z 0 1000 fMem)) (hZ : Z off) (hst : st < 2 ^ 900)
    (g : GEnv base ["self", "start", "number"] ["self", "start"] (wkE lo f cdv) lo) : ∀ (n i : Nat), i + n ≤ 2 ^ 62 → ∀ (A : Around) (outer : List Env) (s : Shared) (H : Hp) (s1 : Shared) (H1 : Hp) (fs : List Frame),
      Room (j + 2) A → Env0 P w K mg base A outer s H → (∀ b ∈ frs outer, b < lo) → lo < s.heap.objs.size → SqAt C D H q c Nn Am sv off → Inv (ngX P w K mg base (wkE lo f cdv) A outer lo s H) [] (wkS q st (st + i)) H1 s1 → Same (held lo [lo] s.heap H) H1 →
      splitAtGen fs = none → fs.any Frame.guarded = false → (∀ A : Around, A.over (walkC (wkE lo f cdv)) fs = A.deeper (wkE lo f cdv)) →
      SegX (model P w) A (walkC (wkE lo f cdv)) ((model P w).den (walkC (wkE lo f cdv))) fs s1 (Turn P w K mg base (j + 2) lo own (fun H' => SqAt C D H' q c Nn Am sv off) (fun i => some (fMem Nn Am sv off (st + i))) n i outer H [lo] s) := by
  have nd := scWalk.nd
  intro n
  induction n using Nat.strongRecOn with
  | ind n ih =>
    intro i hi A outer s H s1 H1 fs hr e0 hfr hsz S I sm h1 h2 h3
    refine xs_while (X := ngX P w K mg base (wkE lo f cdv) A outer lo s H) (h3 A) rfl (pt_val pe_bl) I (R := fun b H' => b = true ∧ H' = H1) ⟨_, rfl, rfl, rfl⟩ (fun H2 s2 I2 ⟨_, e⟩ => ?_) (fun H2 s2 I2 ⟨e, _⟩ => nomatch e)
    subst e
    refine x_cons ?_
    have hr1 : Room (j + 1) (A.deeper (wkE lo f cdv)) := hr.deeper _
    have S1 : SqAt C D H2 q c Nn Am sv off := (S.mono (same_held s.heap)).mono sm
    obtain ⟨dx, hq⟩ := S1.ob
    refine xs_yield (X := ngX P w K mg base (wkE lo f cdv) A outer lo s H) (Q := fun v H' => v = fMem Nn Am sv off (st + i) ∧ Same H2 H') (h3 A) rfl h1 rfl h2 (pe_mt (pv 0) GM hr1 (pa_cons (pv 2) pa_nil)) I2 ?_ (fun x v H3 s3 I3 rx ⟨ex, sm3⟩ l k p hk => ?_) rfl rfl
    · exact ⟨_, rfl, q, dx, _, rfl, hq, seqF_no _ _ (by decide +kernel), _, rfl, q, c, Nn, Am, sv, off, st + i, rfl, S1, hZ, Nat.zero_le _, by omega, fun H' sm' => ⟨rfl, sm'⟩⟩
    · subst ex
      refine turn_yield e0 hfr hsz g I3 (sm.trans sm3) rfl rx ?_
      cases n with
      | zero => trivial
      | succ m =>
        intro A' outer' s' H' hr' e0' hn' hown' hfr' hpv' hk' hgp'
        have sl := (SlotsIn.of I3 g.loc).keeps (h' := s'.heap) fun o e => hk' lo (by simp) o e
        have hsz' : lo < s'.heap.objs.size := by obtain ⟨m', hn, _⟩ := sl; exact hn.lt
        have I4 := inv_woken g hr'.hd e0' hfr' hpv' (by simp) sl rfl
        refine hk A' s' _ ?_
        show SegX (model P w) A' (walkC (wkE lo f cdv)) ((execs _ (wkE lo f cdv)).wrap _ _ _ _) fs s' _
        refine x_cons (xs_stmt (X := ngX P w K mg base (wkE lo f cdv) A' outer' lo s' H') (R := fun σ' H'' => σ' = wkS q st (st + (i + 1)) ∧ H'' = held lo [lo] s'.heap H') (h3 A') rfl (ps_aug (i := 2) nd rfl (.inl rfl) pe_int ip_add) I4 ?_ fun σ5 H5 s5 I5 ⟨eσ, eH⟩ => ?_)
        · refine ⟨_, rfl, _, _, rfl, rfl, ?_, rfl⟩
          show [some (V.ref q), some (V.int (st : Nat)), some (V.int ((st + i : Nat) + 1 : Int))] = wkS q st (st + (i + 1))
          have e : ((st + i : Nat) + 1 : Int) = ((st + (i + 1) : Nat) : Int) := by omega
          rw [e]
        · subst eσ eH
          refine x_nil ?_
          exact x_again rfl (ih m (Nat.lt_succ_self _) (i + 1) (by omega) A' outer' s' H' s5 _ fs hr' e0' hfr' hsz' hn' I5 (fun _ _ e => e) h1 h2 h3)
theorem ok_walk {j : Nat} (F : FunG K "walk" "RuledSequence.walk" trWalk f fd [] cdv) (M : BaseM P w K mg base) (GM : Mt P w K mg base D "member" (j + 1) ["self", "number"] [] (spS2 C D Z 0 1000 fMem)) : GenOk P w K mg base (j + 2) f fd ["self", "start"] (spWalk C D Z) := by
  refine F.ok scWalk rfl (by decide +kernel) (fun vs H need item h => ?_) (fun lo own n vs H0 need item h hn62 hsp g sl => ?_)
  · obtain ⟨q, c, N, A, sv, off, st, rfl, _⟩ := h; rfl
  obtain ⟨q, c, N, A, sv, off, st, rfl, hZ, hst, rfl, rfl⟩ := hsp
  have nd := scWalk.nd
  cases n with
  | zero => trivial
  | succ m =>
    intro A' outer' s' H' hr' e0' hn' hown' hfr' hpv' hk' hgp'
    have sl := sl.keeps (h' := s'.heap) fun o e => hk' lo (by simp) o e
    have hsz' : lo < s'.heap.objs.size := by obtain ⟨m', hn, _⟩ := sl; exact hn.lt
    have I4 := inv_woken g hr'.hd e0' hfr' hpv' (by simp) sl rfl
    have hr1 : Room 1 (A'.deeper (wkE lo f cdv)) := (hr'.deeper _).mono (by omega)
    show SegX (model P w) A' (.func (defBody trWalk) (wkE lo f cdv)) ((model P w).den (.func (defBody trWalk) (wkE lo f cdv))) [] s' _
    refine x_func (x_cons (xs_stmt (X := ngX P w K mg base (wkE lo f cdv) A' outer' lo s' H') (R := fun σ' H'' => σ' = [some (.ref q), some (.int (st : Nat)), none] ∧ H'' = held lo [lo] s'.heap H') GenW.over_func rfl (ps_expr (pe_fn M.least hr1 (by rfl) (pa_cons (pv 1) (pa_cons pe_int pa_nil)))) I4 ?_ fun σ5 H5 s5 I5 ⟨eσ, eH⟩ => ?_))
    · exact ⟨_, rfl, _, _, rfl, by omega, rfl, rfl⟩
    subst eσ eH
    refine x_cons (xs_stmt (X := ngX P w K mg base (wkE lo f cdv) A' outer' lo s' H') (R := fun σ' H'' => σ' = wkS q st (st + 0) ∧ H'' = held lo [lo] s'.heap H') GenW.over_func rfl (ps_set (i := 2) nd rfl (.inl rfl) (pv 1)) I5 ⟨_, rfl, rfl, rfl⟩ fun σ6 H6 s6 I6 ⟨eσ, eH⟩ => ?_)
    subst eσ eH
    refine x_cons (x_while fun p => ?_)
    exact walk_loop M GM hZ hst g m 0 (by omega) A' outer' s' H' s6 _ _ hr' e0' hfr' hsz' hn' I6 (fun _ _ e => e) rfl rfl fun A => (GenW.over_loop rfl rfl).trans GenW.over_func
end
end Tf

/-! ## TfUncov -/
set_option Elab.async false
set_option linter.all false
set_option maxRecDepth 100000
set_option maxHeartbeats 4000000
/-! RuledSequence.uncovered. -/
namespace Tf
open PySem PySem.Spec PyProof.Rows L2
open PySem.W.X (SegX)
def ugood (A : List Nat) (x : Nat) : Bool := !A.contains x && (smallOf A x).isNone
def uncA (A : List Nat) : List Nat := (List.range (top A)).filter (ugood A)
def ucnt (A : List Nat) (x : Nat) : Nat := ((List.range x).filter (ugood A)).length
theorem ucnt_succ (A : List Nat) (x : Nat) : ucnt A (x + 1) = ucnt A x + (if ugood A x then 1 else 0) := by
  unfold ucnt
  rw [List.range_succ, List.filter_append, List.length_append]
  cases h : ugood A x <;> simp [h]
theorem ucnt_top (A : List Nat) : (uncA A)[ucnt A (top A)]? = none := List.getElem?_eq_none (Nat.le_refl _)
theorem ucnt_at {A : List Nat} {x : Nat} (h : x < top A) (g : ugood A x = true) : (uncA A)[ucnt A x]? = some x := by
  unfold uncA ucnt
  obtain ⟨d, e⟩ : ∃ d, top A = (x + 1) + d := ⟨top A - (x + 1), by omega⟩
  rw [e, List.range_add, List.filter_append, List.range_succ, List.filter_append]
  rw [List.append_assoc, List.getElem?_append_right (Nat.le_refl _), Nat.sub_self]
  simp [g]
theorem top_lt {N : Nat} {A : List Nat} (c : CellArg N A) : top A < N := c.lt _ (top_mem c.ne)
/-- what is handed out: the numbers off + u -/
def unI (A : List Nat) (off : Nat) (i : Nat) : Option V := ((uncA A)[i]?).map fun u => .int (u + off : Nat)
def spUncov (C D : Addr) : SpGe := fun vs H need item => ∃ (q c : Addr) (N : Nat) (A : List Nat) (sv : Sv) (off : Nat), vs = [.ref q] ∧ need = (fun H' => SqAt C D H' q c N A sv off) ∧ item = unI A 0
theorem scUncov : ScS ["self", "x"] ["self"] (defScope trUncov) := ⟨rfl, rfl, by decide +kernel, rfl, by decide +kernel, by decide +kernel, by decide +kernel⟩
def foT : Stmt → Expr | .For t _ _ _ _ => t | _ => .Constant .none default default
def foB : Stmt → List Stmt | .For _ _ b _ _ => b | _ => []
abbrev uncF : Stmt := (defBody trUncov).getD 0 (.Pass ⟨0, 0, 0, 0⟩)
abbrev ucE (lo f : Addr) (cdv : Value) : Env := PySem.W.envX "RuledSequence.uncovered" (defScope trUncov) lo f cdv []
abbrev ucC (it : Addr) (env : Env) : Code := .forLoop (foT uncF) (.ref it) (foB uncF) [] env
abbrev ugX (P : Program) (w : World) (K : PySem.W.Frag) (mg : Str → Option Value) (base : Heap) (env : Env) (A : Around) (outer : List Env) (lo : Addr) (s : Shared) (H : Hp) : Cx := gX P w K mg base ["self", "x"] env A outer lo s H
section
variable {P : Program} {w : World} {K : PySem.W.Frag} {mg : Str → Option Value} {base : Heap} {f C D : Addr} {fd : FuncData} {cdv : Value}
/-- the iterator's objects at a wake-up -/
theorem fp_woken {lo : Addr} {fp : List Addr} {N ps : List Str} {env : Env} {A : Around} {outer : List Env} {s : Shared} {H : Hp} (g : GEnv base N ps env lo) (hcl : env.cells = []) (hfr : ∀ b ∈ frs outer, b < lo) (hsz : lo < s.heap.objs.size) (hpv : ∀ b ∈ lo :: fp, H b = none) (hlt : ∀ b ∈ fp, lo < b) :
    ∀ b ∈ fp, FpOk (gX P w K mg base N env A outer lo s H) [] (held lo (lo :: fp) s.heap H) b := fun b hb => by
  refine ⟨held_pv (List.mem_cons_of_mem _ hb) (hpv b (List.mem_cons_of_mem _ hb)), ?_, fun z => absurd (hfr b z) (Nat.not_lt.mpr (Nat.le_of_lt (hlt b hb))), .inr ?_, fun x c e => ?_, fun p hp => no_mem hp⟩
  · show b ≠ env.locals
    rw [g.at_]; exact Nat.ne_of_gt (hlt b hb)
  · show (cut lo s).heap.objs.size ≤ b
    rw [cut_size (Nat.le_of_lt hsz)]
    exact Nat.le_of_lt (hlt b hb)
  · have e : env.cells.lookup x = some c := e
    rw [hcl] at e
    cases e
theorem turn_yieldP {k own n i : Nat} {need : Hp → Prop} {item : Nat → Option V} {lo : Addr} {fp pv : List Addr} {N ps : List Str} {env : Env} {A : Around} {outer : List Env} {s : Shared} {H : Hp} {σ1 : L2.St} {H1 : Hp} {s1 : Shared} {v : Value} {g0 : Bool} {l : List Value} {k' : Resume → Sem PySem.Fin} {c : Code} {p : Pos} {fs : List Frame} {x : V}
    (e0 : Env0 P w K mg base A outer s H) (hfr : ∀ b ∈ frs outer, b < lo) (hsz : lo < s.heap.objs.size) (hlo : lo ∈ pv) (g : GEnv base N ps env lo)
    (I : Inv (gX P w K mg base N env A outer lo s H) [] σ1 H1 s1) (sm : Same (held lo pv s.heap H) H1) (hf : ∀ b ∈ fp, H1 b = none ∧ (b ∈ pv ∨ s.heap.objs.size ≤ b) ∧ ∃ o, s1.heap.get? b = some o ∧ ∀ v, o.data ≠ .cell v) (hx : item i = some x) (rx : RelV x v)
    (hR : Ready P w K mg base k lo own need item n (i + 1) (.suspended k' l c p fs false) (lo :: fp) [] s1.heap) : Turn P w K mg base k lo own need item n i outer H pv s (.susp v g0 l k' c p fs) s1 := by
  refine ⟨unheld lo pv s.heap H H1, lo :: fp, [], aft_woken e0 hfr hlo hsz I sm fun b hb => ?_, .nil, x, hx, rx, hR⟩
  rcases List.mem_cons.mp hb with e | hb
  · subst e
    have f := I.free
    have f : H1 env.locals = none := f
    rw [g.at_] at f
    obtain ⟨m, hn, _⟩ := I.loc
    have hn : s1.heap.Ns env.locals m := hn
    rw [g.at_] at hn
    obtain ⟨o, es, ep, ho, hd, _⟩ := hn
    exact ⟨f, .inl hlo, o, ho, fun v z => by rw [hd] at z; cases z⟩
  · exact hf b hb
theorem uncov_loop {lo own : Nat} {q c : Addr} {Nn : Nat} {Am : List Nat} {sv : Sv} {off : Nat} (T : SqC K D) (G : CellM P w K mg base C) (GS : Mt P w K mg base D "small_cover" 3 ["self", "x"] [] (spS3 C D anyO 1000 fun _ A _ _ x => smallOf A x))
    (g : GEnv base ["self", "x"] ["self"] (ucE lo f cdv) lo) {it : Addr} {fp : List Addr} {tn : Nat → Heap → Prop} (Tu : L2.Turn P w K (foT uncF) (Itr 0 (top Am)) fp it tn) (hlt : ∀ b ∈ fp, lo < b) (fs : List Frame) (h1 : splitAtGen fs = none) (h2 : fs.any Frame.guarded = false)
    (h3 : ∀ A : Around, A.over (ucC it (ucE lo f cdv)) fs = A.deeper (ucE lo f cdv)) (h4 : ∀ (A : Around) (s1 : Shared) (Φ : End → Shared → Prop), Φ (.ret (.ok (.ret .none))) s1 → SegX (model P w) A (.block [] (ucE lo f cdv)) (leafOf (.ok .next)) fs s1 Φ) :
    ∀ (m x : Nat), x + m = top Am → ∀ (n i : Nat), i = ucnt Am x → ∀ (A : Around) (outer : List Env) (s : Shared) (H : Hp) (s1 : Shared) (H1 : Hp) (v1 : Option V) (po : List Addr),
      Room 4 A → Env0 P w K mg base A outer s H → (∀ b ∈ frs outer, b < lo) → lo < s.heap.objs.size → lo ∈ po → SqAt C D H q c Nn Am sv off → Inv (ugX P w K mg base (ucE lo f cdv) A outer lo s H) [] [some (.ref q), v1] H1 s1 → Same (held lo po s.heap H) H1 →
      (∀ b ∈ fp, FpOk (ugX P w K mg base (ucE lo f cdv) A outer lo s H) [] H1 b ∧ (b ∈ po ∨ s.heap.objs.size ≤ b)) → tn x s1.heap →
      SegX (model P w) A (ucC it (ucE lo f cdv)) ((model P w).den (ucC it (ucE lo f cdv))) fs s1 (Turn P w K mg base 4 lo own (fun H' => SqAt C D H' q c Nn Am sv off) (unI Am 0) n i outer H po s) := by
  have nd := scUncov.nd
  intro m
  induction m with
  | zero =>
    intro x hxm n i hi A outer s H s1 H1 v1 po hr e0 hfr hsz hlo S I sm hf st
    have hx : x = top Am := by omega
    subst hx
    refine xs_stop (X := ugX P w K mg base (ucE lo f cdv) A outer lo s H) (h3 A) rfl Tu I (fun b hb => (hf b hb).1) st (Nat.le_refl _) fun s2 I2 => h4 A s2 _ ?_
    refine turn_end e0 hfr hsz hlo I2 sm ?_ (.inl rfl)
    rw [hi]; unfold unI; rw [ucnt_top]; rfl
  | succ m ih =>
    intro x hxm n i hi A outer s H s1 H1 v1 po hr e0 hfr hsz hlo S I sm hf st
    have hr3 : Room 3 (A.deeper (ucE lo f cdv)) := hr.deeper _
    refine xs_turn (X := ugX P w K mg base (ucE lo f cdv) A outer lo s H) (R := fun σ' H' => σ' = [some (.ref q), some (.int (x : Nat))] ∧ H' = H1) (h3 A) rfl rfl Tu I (fun b hb => (hf b hb).1) st (by show x < top Am; omega) (pg_name (i := 1) nd rfl (.inl rfl)) (fun y H' ⟨e1, e2⟩ => ?_) fun σ2 H2 s2 h5 st2 ho I2 ⟨eσ, eH⟩ => ?_
    · subst e1 e2
      refine ⟨?_, rfl⟩
      show [some (V.ref q), some (V.int (0 + (x : Nat)))] = _
      rw [Int.zero_add]
    · subst eσ eH
      have S1 : SqAt C D H2 q c Nn Am sv off := (S.mono (same_held s.heap)).mono sm
      obtain ⟨dx, hq⟩ := S1.ob
      obtain ⟨cx, m', d, kk, tb, kn', g1, g2, g3, g4, g5, g6⟩ := id S1.ce.ob
      have ok := S1.ce.arg
      have htop := top_lt ok
      have hle := ok.le
      have hxN : x < Nn := by omega
      have hpn : ∀ b ∈ fp, b ∈ po ∨ s.heap.objs.size ≤ b := fun b hb => (hf b hb).2
      have hfp : ∀ {H5 : Hp} {b : Addr}, b ∈ fp → H5 b = none → FpOk (ugX P w K mg base (ucE lo f cdv) A outer lo s H) [] H5 b := fun hb n => ⟨n, (hf _ hb).1.2⟩
      refine x_cons (xs_if (X := ugX P w K mg base (ucE lo f cdv) A outer lo s H) (R := fun b H' => b = ugood Am x ∧ Same H2 H') (h3 A) rfl
        (PW.pt (pw_and (pt_not (pt_val (pe_mt (pe_fld (pv 0) rfl) G.has hr3 (pa_cons (pv 1) pa_nil)))) (pw_and1 (pt_cmpR op_isN (pe_mt (pv 0) GS hr3 (pa_cons (pv 1) pa_nil)) pe_non (nomark _))))) I2 ?_ (fun H3 s3 I3 ⟨eb, sm3⟩ => ?_) (fun H3 s3 I3 ⟨eb, sm3⟩ => ?_))
      · refine ⟨_, rfl, q, D, dx, _, _, rfl, hq, T.cl, T.nC, seqF_C .., c, cx, _, rfl, g1, cellF_no _ _ _ _ (by decide +kernel), _, rfl, c, Nn, Am, sv, x, rfl, S1.ce, hxN, _, rfl, ?_⟩
        cases hc : Am.contains x with
        | true => exact iteF ⟨by unfold ugood; rw [hc]; rfl, .refl _⟩
        | false =>
          refine iteT ⟨_, rfl, q, dx, _, rfl, hq, seqF_no _ _ (by decide +kernel), _, rfl, q, c, Nn, Am, sv, off, x, rfl, S1, trivial, by omega, fun H' sm' e => ?_, fun t a b H' sm' e nt et => ?_⟩
          · exact ⟨rfl, true, rfl, by have e : smallOf Am x = _ := e; unfold ugood; rw [hc, e]; rfl, sm'⟩
          · exact ⟨rfl, false, rfl, by have e : smallOf Am x = _ := e; unfold ugood; rw [hc, e]; rfl, sm'⟩
      · refine x_cons (xs_yield (X := ugX P w K mg base (ucE lo f cdv) A outer lo s H) (Q := fun v H' => v = .int (x : Nat) ∧ H' = H3) (h3 A) rfl h1 rfl h2 (pv 1) I3 ⟨_, rfl, rfl, rfl⟩ (fun y v H4 s4 I4 ry ⟨ey, eH⟩ l k p hk => ?_) rfl rfl)
        subst ey eH
        obtain ⟨st3, fr3⟩ := kept_turn (X := ugX P w K mg base (ucE lo f cdv) A outer lo s H) Tu st2 ho I4
        have I4 := Inv.unpinned (pins := []) I4
        refine turn_yieldP e0 hfr hsz hlo g I4 (sm.trans sm3) (fun b hb => ⟨(fr3 b hb).1, hpn b hb, (fr3 b hb).2⟩) (by rw [hi]; unfold unI; rw [ucnt_at (by omega) eb.symm]; rfl) ry ?_
        cases n with
        | zero => trivial
        | succ n =>
          intro A' outer' s' H' hr' e0' hn' hown' hfr' hpv' hk' hgp'
          have sl := (SlotsIn.of I4 g.loc).keeps (h' := s'.heap) fun o e => hk' lo (by simp) o e
          have hsz' : lo < s'.heap.objs.size := by obtain ⟨m', hn, _⟩ := sl; exact hn.lt
          have I5 := inv_woken g hr'.hd e0' hfr' hpv' (by simp) sl rfl
          refine hk A' s' _ ?_
          refine x_nil (x_nil (x_again rfl ?_))
          refine ih (x + 1) (by omega) n (i + 1) (by rw [ucnt_succ, ← eb, hi]; rfl) A' outer' s' H' s' _ _ (lo :: fp) hr' e0' hfr' hsz' (by simp) hn' I5 (fun _ _ e => e) (fun b hb => ⟨fp_woken g rfl hfr' hsz' hpv' hlt b hb, .inl (by simp [hb])⟩) ?_
          exact Tu.keep _ _ _ st3 fun b hb o e => hk' b (by simp [hb]) o e
      · obtain ⟨st3, fr3⟩ := kept_turn (X := ugX P w K mg base (ucE lo f cdv) A outer lo s H) Tu st2 ho I3
        have I3 := Inv.unpinned (pins := []) I3
        refine x_nil (x_nil (x_again rfl ?_))
        exact ih (x + 1) (by omega) n i (by rw [ucnt_succ, ← eb]; exact hi) A outer s H s3 H3 _ po hr e0 hfr hsz hlo S I3 (sm.trans sm3) (fun b hb => ⟨hfp hb (fr3 b hb).1, hpn b hb⟩) st3
theorem ok_uncov (F : FunG K "uncovered" "RuledSequence.uncovered" trUncov f fd [] cdv) (B : Blt mg) (T : SqC K D) (G : CellM P w K mg base C) (GS : Mt P w K mg base D "small_cover" 3 ["self", "x"] [] (spS3 C D anyO 1000 fun _ A _ _ x => smallOf A x)) : GenOk P w K mg base 4 f fd ["self"] (spUncov C D) := by
  refine F.ok scUncov rfl (by decide +kernel) (fun vs H need item h => ?_) (fun lo own n vs H0 need item h hn62 hsp g sl => ?_)
  · obtain ⟨q, c, N, A, sv, off, rfl, _⟩ := h; rfl
  obtain ⟨q, c, N, Am, sv, off, rfl, rfl, rfl⟩ := hsp
  have nd := scUncov.nd
  cases n with
  | zero => trivial
  | succ n =>
    intro A' outer' s' H' hr' e0' hn' hown' hfr' hpv' hk' hgp'
    have sl := sl.keeps (h' := s'.heap) fun o e => hk' lo (by simp) o e
    have hsz' : lo < s'.heap.objs.size := by obtain ⟨m', hn, _⟩ := sl; exact hn.lt
    have I4 := inv_woken g hr'.hd e0' hfr' hpv' (by simp) sl rfl
    have hr2 : Room 2 (A'.deeper (ucE lo f cdv)) := (hr'.deeper _).mono (by omega)
    have S1 : SqAt C D (held lo [lo] s'.heap H') q c N Am sv off := SqAt.mono hn' (same_held s'.heap)
    obtain ⟨dx, hq⟩ := S1.ob
    obtain ⟨cx, m', d, kk, tb, kn', g1, g2, g3, g4, g5, g6⟩ := id S1.ce.ob
    have ok := S1.ce.arg
    have htop := top_lt ok
    have hle := ok.le
    show SegX (model P w) A' (.func (defBody trUncov) (ucE lo f cdv)) ((model P w).den (.func (defBody trUncov) (ucE lo f cdv))) [] s' _
    refine x_func (x_cons (xs_for (X := ugX P w K mg base (ucE lo f cdv) A' outer' lo s' H') (R := fun Jt H'' => Jt = Itr 0 (top Am) ∧ H'' = held lo [lo] s'.heap H') GenW.over_func rfl (pin_range1 (by rfl) B.range (pa_cons (pe_pr (pe_fld (pv 0) rfl) G.greatest hr2) pa_nil)) I4 ?_ fun it fp tn Jt H5 s5 I5 Tu st5 f5 ⟨eJ, eH⟩ p => ?_))
    · exact ⟨_, rfl, q, D, dx, _, _, rfl, hq, T.cl, T.nC, seqF_C .., c, cx, _, rfl, g1, c, N, Am, sv, rfl, S1.ce, _, rfl, by omega, by omega, rfl, rfl⟩
    subst eJ eH
    refine uncov_loop T G GS g (f := f) (cdv := cdv) Tu (fun b hb => Nat.lt_of_lt_of_le hsz' (f5 b hb).2) _ rfl rfl (fun A => (GenW.over_loop rfl rfl).trans GenW.over_func) (fun A s1 Φ hΦ => ?_) (top Am) 0 (Nat.zero_add _) n 0 rfl A' outer' s' H' s5 _ _ [lo] hr' e0' hfr' hsz' (by simp) hn' I5 (fun _ _ e => e) (fun b hb => ⟨(f5 b hb).1, .inr (f5 b hb).2⟩) st5
    refine x_pop (.ok .next) (x_nil (env := ucE lo f cdv) ?_)
    refine x_nil (env := ucE lo f cdv) ?_
    exact x_end (.ok (.ret .none)) hΦ
end
end Tf

/-! ## TfSupG -/
set_option Elab.async false
set_option linter.all false
set_option maxRecDepth 100000
set_option maxHeartbeats 4000000
/-! super().g() where g is a generator def; a generator that draws from another. -/
namespace Tf
open PySem PySem.Spec PyProof.Rows L2
open PySem.W.X (SegX)
open Sem (wp)
section
variable {M : Model} {A : Around}
theorem wpAt_grow {α : Type} {c : Code} {s : Shared} {t : Sem α} {Q : α → Shared → Prop} {E : Value → Shared → Prop} {m n : Nat} (hm : m ≤ s.heap.objs.size) (hn : n ≤ s.gens.size) (h : PySem.wpAt M A c t (fun a s' => m ≤ s'.heap.objs.size → n ≤ s'.gens.size → Q a s') E s) : PySem.wpAt M A c t Q E s := fun Γ p hc hΓ => by
  have z := GenW.wp_gsz M Γ n t _ _ p s hn (wp_hsz M Γ m t _ _ p s hm (h Γ p hc hΓ))
  exact Sem.wp_mono M Γ t (fun a p' s' y => y.2.2 y.2.1 y.1) (fun e p' s' y => y.2.2) _ _ z
theorem wpAny_grow {α : Type} {s : Shared} {t : Sem α} {Q : α → Shared → Prop} {E : Value → Shared → Prop} {m n : Nat} (hm : m ≤ s.heap.objs.size) (hn : n ≤ s.gens.size) (h : wpAny M A t (fun a s' => m ≤ s'.heap.objs.size → n ≤ s'.gens.size → Q a s') E s) : wpAny M A t Q E s := fun Γ p hΓ => by
  have z := GenW.wp_gsz M Γ n t _ _ p s hn (wp_hsz M Γ m t _ _ p s hm (h Γ p hΓ))
  exact Sem.wp_mono M Γ t (fun a p' s' y => y.2.2 y.2.1 y.1) (fun e p' s' y => y.2.2) _ _ z
end
section
variable {P : Program} {w : World} {K : PySem.W.Frag} {mg : Str → Option Value} {base : Heap} {x qual : Str} {st : Stmt} {D C f g cda cc L : Addr} {fd : FuncData} {N : List Str} {A : Around} {outer : List Env} {s0 : Shared} {H0 : Hp}
theorem super_gen {k : Nat} {fdg : FuncData} {psg : List Str} {sp : SpGe} {m : Str} {p0 p1 apos pos : Pos} {pl : Sem Bool} {body : List Stmt} {σ : L2.St} {H : Hp} {s : Shared} {a dx : Addr} {fs : List (Str × V)} {need : Hp → Prop} {item : Nat → Option V} {Q : Value → Shared → Prop}
    (F : FunS P K x qual st D f fd cda cc) (T : SupT P mg st N) (S : SupC K C D m g) (G : GenOk P w K mg base k g fdg psg sp) (hr : Room k (A.deeper (clEnv qual (defScope st) L f cda cc))) (hb : Binds K fdg psg [])
    (I : Inv (cxS P w K mg base N (clEnv qual (defScope st) L f cda cc) A outer s0 H0) [] σ H s) (hs : σ[0]? = some (some (.ref a))) (ha : H a = some (.ins C dx fs)) (hsp : sp [.ref a] H need item)
    (go : ∀ s1 s2 b lo, s.heap.objs.size ≤ s1.heap.objs.size → s.gens.size ≤ s1.gens.size → Inv (cxS P w K mg base N (clEnv qual (defScope st) L f cda cc) A outer s0 H0) [] σ H s1 → Made P w K mg base k need item s1 s2 b lo → Q (.ref b) s2) (hmc : (m == ("__class__" : Str)) = false := by decide +kernel)
    (ht : eval (.Call (.Attribute (.Call (.Name "super" p0) [] [] p1) m apos) [] [] pos) (clEnv qual (defScope st) L f cda cc) = (do
      let ov ← attributeBase (.Call (.Name "super" p0) [] [] p1) m (clEnv qual (defScope st) L f cda cc) (eval (.Call (.Name "super" p0) [] [] p1) (clEnv qual (defScope st) L f cda cc))
      standAt apos.atName
      let (f', first) ← holding [ov] (getMethod ov m pl)
      callWith pos f' first (backTo pos (starEach [] (clEnv qual (defScope st) L f cda cc))) []) := by rfl) :
    PySem.wpAt (model P w) (A.deeper (clEnv qual (defScope st) L f cda cc)) (.func body (clEnv qual (defScope st) L f cda cc)) (eval (.Call (.Attribute (.Call (.Name "super" p0) [] [] p1) m apos) [] [] pos) (clEnv qual (defScope st) L f cda cc)) Q Nox s := by
  refine PySem.ks_wpAt_MethodCall (pl := pl) ?_ ht
  refine wpAt_grow (Nat.le_refl _) (Nat.le_refl _) (wpAt_thn (sup_bound (Q := fun r s' => s.heap.objs.size ≤ s'.heap.objs.size → s.gens.size ≤ s'.gens.size → wpAny (model P w) (A.deeper (clEnv qual (defScope st) L f cda cc)) (callWith pos r.1 r.2 (backTo pos (starEach [] (clEnv qual (defScope st) L f cda cc))) []) Q Nox s') F T S hmc I hs ha fun q s' hq I' h1 h2 => ?_) fun ov s1 h h1 h2 => wpAny_grow h1 h2 h)
  refine PySem.W.callWith_M0 ⟨ClX.pin_at I', I'.kIn⟩ S.fi ?_
  refine wpAny_call (PySem.W.method_call (ClX.pin_at I') (codeAny_mono (G.run _ _ s' H ⟨[.ref a], []⟩ [.ref a] [.ref a] need item hr I'.env0 (hb s' [.ref a] I'.kIn (by
    have hl := G.len _ _ _ _ hsp
    exact hl)) (.cons rfl .nil) hsp) fun r s2 hq' => ?_))
  obtain ⟨b, lo, rfl, M⟩ := hq'
  exact go s' s2 b lo h1 h2 (Inv.unpinned (pins := []) I') M
end
end Tf

/-! ## TfSUnc -/
set_option Elab.async false
set_option linter.all false
set_option maxRecDepth 100000
set_option maxHeartbeats 4000000
/-! ShiftedSequence.uncovered. -/
namespace Tf
open PySem PySem.Spec PyProof.Rows L2
open PySem.W.X (SegX)
section
variable {P : Program} {w : World} {K : PySem.W.Frag} {mg : Str → Option Value} {base : Heap}
theorem turn_yieldG {k own n i : Nat} {need : Hp → Prop} {item : Nat → Option V} {lo : Addr} {fp pv : List Addr} {gp : Gp} {N ps : List Str} {env : Env} {A : Around} {outer : List Env} {s : Shared} {H : Hp} {σ1 : L2.St} {H1 : Hp} {s1 : Shared} {v : Value} {g0 : Bool} {l : List Value} {k' : Resume → Sem PySem.Fin} {c : Code} {p : Pos} {fs : List Frame} {x : V}
    (e0 : Env0 P w K mg base A outer s H) (hfr : ∀ b ∈ frs outer, b < lo) (hsz : lo < s.heap.objs.size) (hlo : lo ∈ pv) (g : GEnv base N ps env lo)
    (I : Inv (gX P w K mg base N env A outer lo s H) [] σ1 H1 s1) (sm : Same (held lo pv s.heap H) H1) (hf : ∀ b ∈ fp, H1 b = none ∧ (b ∈ pv ∨ s.heap.objs.size ≤ b) ∧ ∃ o, s1.heap.get? b = some o ∧ ∀ v, o.data ≠ .cell v) (hgp : GpOk own gp s1.gens) (hx : item i = some x) (rx : RelV x v)
    (hR : Ready P w K mg base k lo own need item n (i + 1) (.suspended k' l c p fs false) (lo :: fp) gp s1.heap) : Turn P w K mg base k lo own need item n i outer H pv s (.susp v g0 l k' c p fs) s1 := by
  refine ⟨unheld lo pv s.heap H H1, lo :: fp, gp, aft_woken e0 hfr hlo hsz I sm fun b hb => ?_, hgp, x, hx, rx, hR⟩
  rcases List.mem_cons.mp hb with e | hb
  · subst e
    have f := I.free
    have f : H1 env.locals = none := f
    rw [g.at_] at f
    obtain ⟨m, hn, _⟩ := I.loc
    have hn : s1.heap.Ns env.locals m := hn
    rw [g.at_] at hn
    obtain ⟨o, es, ep, ho, hd, _⟩ := hn
    exact ⟨f, .inl hlo, o, ho, fun v z => by rw [hd] at z; cases z⟩
  · exact hf b hb
/-- the objects of its own at a wake-up -/
theorem fp_woken2 {lo : Addr} {fp : List Addr} {N ps : List Str} {env : Env} {A : Around} {outer : List Env} {s : Shared} {H : Hp} (g : GEnv base N ps env lo) (hfr : ∀ b ∈ frs outer, b < lo) (hsz : lo < s.heap.objs.size) (hpv : ∀ b ∈ lo :: fp, H b = none) (hlt : ∀ b ∈ fp, lo < b) :
    ∀ b ∈ fp, FpOk (gX P w K mg base N env A outer lo s H) [] (held lo (lo :: fp) s.heap H) b := fun b hb => by
  refine ⟨held_pv (List.mem_cons_of_mem _ hb) (hpv b (List.mem_cons_of_mem _ hb)), ?_, fun z => absurd (hfr b z) (Nat.not_lt.mpr (Nat.le_of_lt (hlt b hb))), .inr ?_, fun x c e => ?_, fun p hp => no_mem hp⟩
  · show b ≠ env.locals
    rw [g.at_]; exact Nat.ne_of_gt (hlt b hb)
  · show (cut lo s).heap.objs.size ≤ b
    rw [cut_size (Nat.le_of_lt hsz)]
    exact Nat.le_of_lt (hlt b hb)
  · have e : env.cells.lookup x = some c := e
    rcases g.cl with ⟨z, _⟩ | ⟨cc, v, z, o, ho, _⟩
    · rw [z] at e; cases e
    · rw [z, List.lookup_cons] at e
      have hc : c = cc := by
        split at e
        · exact (Option.some.inj e).symm
        · cases e
      rw [hc]
      exact Nat.ne_of_lt (Nat.lt_trans (Nat.lt_of_lt_of_le (Heap.lt_size ho) g.le) (hlt b hb))
end
/-- what is handed out: the numbers below the shift, then the moved ones -/
def sunI (A : List Nat) (off : Nat) (i : Nat) : Option V := if i < off then some (.int (i : Nat)) else unI A off (i - off)
def spSUncov (C D : Addr) : SpGe := fun vs H need item => ∃ (q c : Addr) (N : Nat) (A : List Nat) (sv : Sv) (off : Nat), vs = [.ref q] ∧ need = (fun H' => SqAt C D H' q c N A sv off) ∧ item = sunI A off
theorem scSUncov : ScS ["self", "x", "rest"] ["self"] (defScope tsUncov) := ⟨rfl, rfl, by decide +kernel, rfl, by decide +kernel, by decide +kernel, by decide +kernel⟩
abbrev suW : Stmt := (defBody tsUncov).getD 1 (.Pass ⟨0, 0, 0, 0⟩)
abbrev suF : Stmt := (defBody tsUncov).getD 2 (.Pass ⟨0, 0, 0, 0⟩)
abbrev suE (lo f cda cc : Addr) : Env := clEnv "ShiftedSequence.uncovered" (defScope tsUncov) lo f cda cc
abbrev suCW (env : Env) : Code := .whileLoop (whT suW) (whB suW) (whE suW) env
abbrev suCF (it : Addr) (env : Env) : Code := .forLoop (foT suF) (.ref it) (foB suF) [] env
abbrev suX (P : Program) (w : World) (K : PySem.W.Frag) (mg : Str → Option Value) (base : Heap) (env : Env) (A : Around) (outer : List Env) (lo : Addr) (s : Shared) (H : Hp) : Cx := gX P w K mg base ["self", "x", "rest"] env A outer lo s H
section
variable {P : Program} {w : World} {K : PySem.W.Frag} {mg : Str → Option Value} {base : Heap} {f C S cda cc : Addr} {fd : FuncData}
theorem unc_len (A : List Nat) : (uncA A).length ≤ top A := by
  unfold uncA
  exact Nat.le_trans (List.length_filter_le ..) (by simp)
theorem suncov_for {lo own : Nat} {q c : Addr} {Nn : Nat} {Am : List Nat} {sv : Sv} {off : Nat} (T : SqC K S)
    (g : GEnv base ["self", "x", "rest"] ["self"] (suE lo f cda cc) lo) {a2 lo2 : Addr} {own2 : Nat} (hlt : lo < lo2 ∧ own < own2) (fs : List Frame) (h1 : splitAtGen fs = none) (h2 : fs.any Frame.guarded = false)
    (h3 : ∀ A : Around, A.over (suCF a2 (suE lo f cda cc)) fs = A.deeper (suE lo f cda cc)) (h4 : ∀ (A : Around) (s1 : Shared) (Φ : End → Shared → Prop), Φ (.ret (.ok (.ret .none))) s1 → SegX (model P w) A (.block [] (suE lo f cda cc)) (leafOf (.ok .next)) fs s1 Φ) :
    ∀ (n i2 : Nat) (A : Around) (outer : List Env) (s : Shared) (H : Hp) (s1 : Shared) (H1 : Hp) (v1 v2 : Option V) (po pv2 : List Addr),
      Room 6 A → Env0 P w K mg base A outer s H → (∀ b ∈ frs outer, b < lo) → lo < s.heap.objs.size → lo ∈ po → SqAt C S H q c Nn Am sv off → Inv (suX P w K mg base (suE lo f cda cc) A outer lo s H) [] [some (.ref q), v1, v2] H1 s1 → Same (held lo po s.heap H) H1 → s.heap.objs.size ≤ s1.heap.objs.size →
      (∀ b ∈ a2 :: pv2, FpOk (suX P w K mg base (suE lo f cda cc) A outer lo s H) [] H1 b ∧ (b ∈ po ∨ s.heap.objs.size ≤ b) ∧ lo < b) → i2 ≤ (uncA Am).length → GSt P w K mg base [] 4 (fun H' => SqAt C S H' q c Nn Am sv off) (unI Am 0) ((uncA Am).length + 1) a2 lo2 own2 i2 pv2 s1 →
      SegX (model P w) A (suCF a2 (suE lo f cda cc)) ((model P w).den (suCF a2 (suE lo f cda cc))) fs s1 (Turn P w K mg base 6 lo own (fun H' => SqAt C S H' q c Nn Am sv off) (sunI Am off) n (off + i2) outer H po s) := by
  have nd := scSUncov.nd
  intro n
  induction n using Nat.strongRecOn with
  | ind n ih =>
    intro i2 A outer s H s1 H1 v1 v2 po pv2 hr e0 hfr hsz hlo Sq I sm hgr hf hi2 g2
    have hr5 : Room 5 (A.deeper (suE lo f cda cc)) := hr.deeper _
    have S1 : SqAt C S H1 q c Nn Am sv off := (Sq.mono (same_held s.heap)).mono sm
    obtain ⟨gs, gp, e1, e2, e3, e4⟩ := g2.st
    have fa := (hf a2 (List.mem_cons_self ..)).1
    have hfr2 : ∀ b ∈ frs ((suE lo f cda cc) :: outer), b < lo2 := fun b hb => by
      have hb : b ∈ lo :: frs outer := hb
      rcases List.mem_cons.mp hb with e | hb
      · rw [e]; exact hlt.1
      · exact Nat.lt_trans (hfr b hb) hlt.1
    have fr : a2 ∉ frs ((suE lo f cda cc) :: outer) := fp_nofr (X := suX P w K mg base (suE lo f cda cc) A outer lo s H) I fa
    have hpv2 : ∀ b ∈ pv2, FpOk (suX P w K mg base (suE lo f cda cc) A outer lo s H) [] H1 b := fun b hb => (hf b (List.mem_cons_of_mem _ hb)).1
    have hN : (uncA Am).length + 1 - i2 = ((uncA Am).length - i2) + 1 := by omega
    rw [hN] at e3
    refine x_forLoop ?_
    rw [h3 A]
    refine wpAny_mono (next_ready e3 hr5 (Inv.env0 (X := suX P w K mg base (suE lo f cda cc) A outer lo s H) I) S1 g2.gen e1 hfr2 (fun b hb => (hpv2 b hb).1) ⟨g2.ne, fa.1, fr⟩ e2) (fun r s2 ⟨H2, pv3, gp3, gs3, hA, hgp, hgen, hr1⟩ => ?_) fun _ _ z => z
    have I2 := inv_aft (X := suX P w K mg base (suE lo f cda cc) A outer lo s H) I ⟨rfl, rfl, rfl⟩ hA hpv2
    have sm2 := sm.trans hA.same
    cases r with
    | none =>
      have hx : unI Am 0 i2 = none := hr1
      refine x_block0 (h4 A s2 _ ?_)
      refine turn_end e0 hfr hsz hlo I2 sm2 ?_ (.inl rfl)
      unfold sunI
      rw [if_neg (by omega), Nat.add_sub_cancel_left]
      unfold unI at hx ⊢
      cases h : (uncA Am)[i2]? with
      | none => rfl
      | some u => rw [h] at hx; cases hx
    | some v =>
      obtain ⟨x, hx, rx, hgs, hb, hsu, R1⟩ := hr1
      obtain ⟨u, hu, ex⟩ : ∃ u, (uncA Am)[i2]? = some u ∧ x = .int (u : Nat) := by
        unfold unI at hx
        cases h : (uncA Am)[i2]? with
        | none => rw [h] at hx; cases hx
        | some u => rw [h] at hx; exact ⟨u, rfl, (Option.some.inj hx).symm⟩
      subst ex
      have hlt2 : i2 < (uncA Am).length := (List.getElem?_eq_some_iff.mp hu).1
      have gX2 : GSt P w K mg base ((suE lo f cda cc) :: outer) 4 (fun H' => SqAt C S H' q c Nn Am sv off) (unI Am 0) ((uncA Am).length + 1) a2 lo2 own2 i2 pv2 s1 := ⟨g2.gen, g2.le, g2.st, g2.obj, hfr2, g2.ne⟩
      have g3 : GSt P w K mg base ((suE lo f cda cc) :: outer) 4 (fun H' => SqAt C S H' q c Nn Am sv off) (unI Am 0) ((uncA Am).length + 1) a2 lo2 own2 (i2 + 1) pv3 s2 :=
        GSt.next (X := suX P w K mg base (suE lo f cda cc) A outer lo s H) (pins := []) (σ := [some (.ref q), v1, v2]) gX2 (by omega) ⟨fa.1, fr⟩ hA hgp hgen hgs hsu (by rw [show (uncA Am).length + 1 - (i2 + 1) = (uncA Am).length - i2 by omega]; exact R1)
      have f3 : ∀ b ∈ a2 :: pv3, FpOk (suX P w K mg base (suE lo f cda cc) A outer lo s H) [] H2 b := fun b hb => by
        rcases List.mem_cons.mp hb with e | hb
        · subst e
          obtain ⟨o', _, _, ho', _⟩ := g2.gen
          exact fpOther fa (hA.un.free _ o' ho' fa.1 g2.ne)
        · exact fp_new (X := suX P w K mg base (suE lo f cda cc) A outer lo s H) I hA hpv2 b hb
      have n3 : ∀ b ∈ a2 :: pv3, (b ∈ po ∨ s.heap.objs.size ≤ b) ∧ lo < b := fun b hb => by
        rcases List.mem_cons.mp hb with e | hb
        · subst e; exact (hf b (List.mem_cons_self ..)).2
        · rcases (hA.pvs b hb).2.1 with z | z
          · exact (hf b (List.mem_cons_of_mem _ z)).2
          · exact ⟨.inr (Nat.le_trans hgr z), Nat.lt_of_lt_of_le hsz (Nat.le_trans hgr z)⟩
      have o3 : ∀ b ∈ a2 :: pv3, ∃ o, s2.heap.get? b = some o ∧ ∀ v, o.data ≠ .cell v := fun b hb => by
        rcases List.mem_cons.mp hb with e | hb
        · subst e
          obtain ⟨o, nm, qn, ho, hc, hd, _⟩ := hgen
          exact ⟨o, ho, fun v z => by rw [hd] at z; cases z⟩
        · exact (hA.pvs b hb).2.2
      obtain ⟨o, nm, qn, ho, hcl, hd, hsl⟩ := id hgen
      refine go_of (n := "generator") ho hcl hd (by decide) ?_
      have I2p := Inv.pinned (X := suX P w K mg base (suE lo f cda cc) A outer lo s H) I2 f3 o3
      refine thnZ (PG.run (X := suX P w K mg base (suE lo f cda cc) A outer lo s H) (pg_name (i := 2) nd rfl (.inl rfl)) _ _ _ _ _ _ (fun σ' H' => σ' = [some (.ref q), v1, some (.int (u : Nat))] ∧ H' = H2) (Inv.lulled I2p) rx ⟨rfl, rfl⟩) fun _ a6 s6 e6 T6 z6 ⟨σ6, H6, I6, eσ, eH⟩ => ?_
      subst eσ eH
      have I6 := Inv.back I6 T6 e6
      have S6 : SqAt C S H6 q c Nn Am sv off := S1.mono hA.same
      obtain ⟨dx, hq⟩ := S6.ob
      refine x_cons (x_yieldS h1 rfl h2 ?_ rfl rfl)
      rw [h3 A]
      refine thnZ (PE.run (X := suX P w K mg base (suE lo f cda cc) A outer lo s H) (pe_op op_add (pv 2) (pe_fld (pv 0) rfl)) _ _ _ _ (fun v H' => v = .int ((u + off : Nat)) ∧ H' = H6) (Inv.lulled I6) ?_) fun v7 a7 s7 e7 T7 z7 ⟨x7, H7, I7, r7, ex7, eH7⟩ l k p hk => ?_
      · refine ⟨_, rfl, _, rfl, q, S, dx, _, _, rfl, hq, T.cl, T.nO, seqF_O .., _, _, rfl, rfl, ?_, rfl⟩
        show V.int ((u : Int) + (off : Int)) = V.int ((u + off : Nat) : Int)
        push_cast
        rfl
      subst ex7 eH7
      have I7 := Inv.back I7 T7 e7
      have at7 : ∀ b ∈ a2 :: pv3, ∀ o, s2.heap.get? b = some o → s7.heap.get? b = some o := fun b hb o e => (I7.pin (b, o) (List.mem_append_right _ (List.mem_append_right _ (mem_pinsAt hb e)))).1
      obtain ⟨gs', gp', E1, E2, E3, E4⟩ := g3.st
      obtain ⟨kk, ll, cc', pp, ff, cl', rfl⟩ := E4 (Nat.succ_pos _)
      have z27 := z6.trans z7
      have gpo : GpOk own ((own2, .suspended kk ll cc' pp ff cl') :: gp') s7.gens := by
        refine ⟨fun y hy => ?_, fun y hy => ?_, fun y hy => ?_⟩
        · rcases List.mem_cons.mp hy with e | hy
          · subst e
            exact (z27 _ _ _ _ _ _ _ E1).trans E1
          · obtain ⟨k1, l1, c1, p1, f1, cl1, e⟩ := E2.sl y hy
            have w1 := E2.at_ y hy
            rw [e] at w1
            rw [z27 _ _ _ _ _ _ _ w1, w1, e]
        · rcases List.mem_cons.mp hy with e | hy
          · subst e; exact hlt.2
          · exact Nat.lt_trans hlt.2 (E2.ne y hy)
        · rcases List.mem_cons.mp hy with e | hy
          · subst e; exact ⟨_, _, _, _, _, _, rfl⟩
          · exact E2.sl y hy
      refine turn_yieldG e0 hfr hsz hlo g (Inv.unpinned (pins := []) I7) sm2 (fp := a2 :: pv3) (fun b hb => ⟨(f3 b hb).1, (n3 b hb).1, ?_⟩) gpo ?_ r7 ?_
      · obtain ⟨o, e, d⟩ := o3 b hb
        exact ⟨o, at7 b hb o e, d⟩
      · unfold sunI
        rw [if_neg (by omega), Nat.add_sub_cancel_left]
        unfold unI
        rw [hu]
        rfl
      cases n with
      | zero => trivial
      | succ n =>
        intro A' outer' s' H' hr' e0' hn' hown' hfr' hpv' hk' hgp'
        have sl := (SlotsIn.of (Inv.unpinned (pins := []) I7) g.loc).keeps (h' := s'.heap) fun o e => hk' lo (by simp) o e
        have hsz' : lo < s'.heap.objs.size := by obtain ⟨m', hn, _⟩ := sl; exact hn.lt
        have I8 := inv_woken g hr'.hd e0' hfr' hpv' (by simp) sl rfl
        have at8 : ∀ b ∈ a2 :: pv3, ∀ o, s2.heap.get? b = some o → s'.heap.get? b = some o := fun b hb o e => hk' b (by simp only [List.mem_cons] at hb ⊢; exact .inr hb) o (at7 b hb o e)
        refine hk A' s' _ ?_
        refine x_nil (x_again rfl ?_)
        have fw := fp_woken2 (P := P) (w := w) (K := K) (mg := mg) (A := A') g hfr' hsz' hpv' (fun b hb => (n3 b hb).2)
        refine ih n (Nat.lt_succ_self _) (i2 + 1) A' outer' s' H' s' _ _ _ (lo :: a2 :: pv3) pv3 hr' e0' hfr' hsz' (by simp) hn' I8 (fun _ _ e => e) (Nat.le_refl _) (fun b hb => ⟨fw b hb, .inl (List.mem_cons_of_mem _ hb), (n3 b hb).2⟩) hlt2 ?_
        refine ⟨⟨o, nm, qn, at8 a2 (by simp) o ho, hcl, hd, hsl⟩, g3.le, ⟨_, gp', hgp'.at_ (own2, _) (by simp), ⟨fun y hy => hgp'.at_ y (by simp [hy]), E2.ne, E2.sl⟩, E3.at_ (fun b hb => at8 b (by simp [hb])), E4⟩, fun b hb => ?_, fun b hb => no_mem hb, g3.ne⟩
        obtain ⟨o, e, d⟩ := g3.obj b hb
        exact ⟨o, at8 b (by simp [hb]) o e, d⟩
end
end Tf

/-! ## TfSUnc2 -/
set_option Elab.async false
set_option linter.all false
set_option maxRecDepth 100000
set_option maxHeartbeats 4000000
/-! ShiftedSequence.uncovered, whole. -/
namespace Tf
open PySem PySem.Spec PyProof.Rows L2
open PySem.W.X (SegX)
/-- nothing has shrunk -/
def Grown (s s' : Shared) : Prop := s.heap.objs.size ≤ s'.heap.objs.size ∧ s.gens.size ≤ s'.gens.size
theorem Grown.trans {a b c : Shared} (h : Grown a b) (h' : Grown b c) : Grown a c := ⟨Nat.le_trans h.1 h'.1, Nat.le_trans h.2 h'.2⟩
theorem Grown.refl (s : Shared) : Grown s s := ⟨Nat.le_refl _, Nat.le_refl _⟩
section
variable {X : Cx} {A : Around} {c : Code} {fs : List Frame} {s : Shared} {Φ : End → Shared → Prop} {K : Flow → Sem PySem.Fin} {J : Value → Sem PySem.Fin} {gd : Bool → Bool} {lv : List Value → List Value} {pins : List (Addr × Obj)} {σ : L2.St} {H : Hp}
theorem xs_stmtG {st : Stmt} {t : TS} {R : L2.St → Hp → Prop} (hA : A.over c fs = X.A) (hx : X.xe = fun _ _ => False) (h : PS X st t) (I : Inv X pins σ H s) (q : t { nx := R, rt := fun _ _ => False } σ H)
    (go : ∀ σ' H' s', Inv X pins σ' H' s' → R σ' H' → Grown s s' → SegX (model X.prog X.w) A c (K .next) fs s' Φ) : SegX (model X.prog X.w) A c ((exec st X.env).wrap K J gd lv) fs s Φ := by
  refine x_wrap (PySem.wpAt_of_wpAny ?_)
  rw [hA]
  refine wpAny_grow (Nat.le_refl _) (Nat.le_refl _) (wpAny_mono (h.run pins s σ H _ I q) (fun f s' z g1 g2 => ?_) fun _ _ z => by rw [hx] at z; exact z.elim)
  cases f with
  | next => obtain ⟨σ', H', I', r⟩ := z; exact go σ' H' s' I' r ⟨g1, g2⟩
  | ret v => obtain ⟨_, _, _, _, _, r⟩ := z; exact r.elim
  | brk => obtain ⟨_, _, _, r⟩ := z; exact r.elim
  | cont => obtain ⟨_, _, _, r⟩ := z; exact r.elim
theorem xs_whileG {test : Expr} {body orelse : List Stmt} {tt : TT} {R : Bool → Hp → Prop} (hA : A.over (.whileLoop test body orelse X.env) fs = X.A) (hx : X.xe = fun _ _ => False) (h : PT X test tt) (I : Inv X pins σ H s) (q : tt σ H R)
    (go1 : ∀ H' s', Inv X pins σ H' s' → R true H' → Grown s s' → SegX (model X.prog X.w) A (.whileLoop test body orelse X.env) ((execs body X.env).wrap (fun f => match f with
            | .next | .cont => .pure (.again (.whileLoop test body orelse X.env))
            | .brk => .pure (.done .next)
            | .ret v => .pure (.done (.ret v))) (fun e => (do noteFrame e X.env; theTreesLotGoes e : Sem Unit).wrap (fun _ => .raise e) .raise id id) id id) fs s' Φ)
    (go0 : ∀ H' s', Inv X pins σ H' s' → R false H' → Grown s s' → SegX (model X.prog X.w) A (.whileLoop test body orelse X.env) ((execs orelse X.env).wrap (fun f => .pure (.done f)) (fun e => (do noteFrame e X.env; theTreesLotGoes e : Sem Unit).wrap (fun _ => .raise e) .raise id id) id id) fs s' Φ) :
    SegX (model X.prog X.w) A (.whileLoop test body orelse X.env) ((model X.prog X.w).den (.whileLoop test body orelse X.env)) fs s Φ := by
  refine x_whileLoop ?_
  rw [hA]
  refine wpAny_grow (Nat.le_refl _) (Nat.le_refl _) (wpAny_mono (h.run pins s σ H _ I q) (fun b s' ⟨H', I', r⟩ g1 g2 => ?_) fun _ _ z => by rw [hx] at z; exact z.elim)
  cases b with
  | true => rw [if_pos rfl]; exact go1 H' s' I' r ⟨g1, g2⟩
  | false => rw [if_neg Bool.false_ne_true]; exact go0 H' s' I' r ⟨g1, g2⟩
end
section
variable {P : Program} {w : World} {K : PySem.W.Frag} {mg : Str → Option Value} {base : Heap} {f C S cda cc : Addr} {fd : FuncData}
theorem suncov_while {lo own : Nat} {q c : Addr} {Nn : Nat} {Am : List Nat} {sv : Sv} {off : Nat} (T : SqC K S)
    (g : GEnv base ["self", "x", "rest"] ["self"] (suE lo f cda cc) lo) (fs : List Frame) (h1 : splitAtGen fs = none) (h2 : fs.any Frame.guarded = false)
    (h3 : ∀ A : Around, A.over (suCW (suE lo f cda cc)) fs = A.deeper (suE lo f cda cc))
    (h4 : ∀ (n : Nat) (A : Around) (outer : List Env) (s : Shared) (H : Hp) (s1 : Shared) (H1 : Hp), Room 6 A → Env0 P w K mg base A outer s H → (∀ b ∈ frs outer, b < lo) → lo < s.heap.objs.size → own < s.gens.size → SqAt C S H q c Nn Am sv off → Inv (suX P w K mg base (suE lo f cda cc) A outer lo s H) [] [some (.ref q), some (.int (off : Nat)), none] H1 s1 → Same (held lo [lo] s.heap H) H1 → Grown s s1 →
      SegX (model P w) A (suCW (suE lo f cda cc)) (leafOf (.ok .next)) fs s1 (Turn P w K mg base 6 lo own (fun H' => SqAt C S H' q c Nn Am sv off) (sunI Am off) n off outer H [lo] s)) :
    ∀ (n x : Nat), x ≤ off → ∀ (A : Around) (outer : List Env) (s : Shared) (H : Hp) (s1 : Shared) (H1 : Hp),
      Room 6 A → Env0 P w K mg base A outer s H → (∀ b ∈ frs outer, b < lo) → lo < s.heap.objs.size → own < s.gens.size → SqAt C S H q c Nn Am sv off → Inv (suX P w K mg base (suE lo f cda cc) A outer lo s H) [] [some (.ref q), some (.int (x : Nat)), none] H1 s1 → Same (held lo [lo] s.heap H) H1 → Grown s s1 →
      SegX (model P w) A (suCW (suE lo f cda cc)) ((model P w).den (suCW (suE lo f cda cc))) fs s1 (Turn P w K mg base 6 lo own (fun H' => SqAt C S H' q c Nn Am sv off) (sunI Am off) n x outer H [lo] s) := by
  have nd := scSUncov.nd
  intro n
  induction n using Nat.strongRecOn with
  | ind n ih =>
    intro x hxo A outer s H s1 H1 hr e0 hfr hsz hown Sq I sm hgr
    have S1 : SqAt C S H1 q c Nn Am sv off := (Sq.mono (same_held s.heap)).mono sm
    obtain ⟨dx, hq⟩ := S1.ob
    refine xs_whileG (X := suX P w K mg base (suE lo f cda cc) A outer lo s H) (h3 A) rfl (pt_cmpR op_lt (pv 1) (pe_fld (pv 0) rfl) (nomark _)) I (R := fun b H' => b = decide (x < off) ∧ H' = H1) ?_ (fun H2 s2 I2 ⟨eb, e⟩ gr2 => ?_) (fun H2 s2 I2 ⟨eb, e⟩ gr2 => ?_)
    · refine ⟨_, rfl, _, rfl, q, S, dx, _, _, rfl, hq, T.cl, T.nO, seqF_O .., _, _, rfl, rfl, _, rfl, ?_, rfl⟩
      by_cases h : x < off
      · rw [decide_eq_true h, decide_eq_true (by omega)]
      · rw [decide_eq_false h, decide_eq_false (by omega)]
    · subst e
      have hx : x < off := of_decide_eq_true eb.symm
      refine x_cons ?_
      refine xs_yield (X := suX P w K mg base (suE lo f cda cc) A outer lo s H) (Q := fun v H' => v = .int (x : Nat) ∧ H' = H2) (h3 A) rfl h1 rfl h2 (pv 1) I2 ⟨_, rfl, rfl, rfl⟩ (fun y v H3 s3 I3 ry ⟨ey, eH⟩ l k p hk => ?_) rfl rfl
      subst ey eH
      refine turn_yield e0 hfr hsz g I3 sm (by unfold sunI; rw [if_pos hx]) ry ?_
      cases n with
      | zero => trivial
      | succ m =>
        intro A' outer' s' H' hr' e0' hn' hown' hfr' hpv' hk' hgp'
        have sl := (SlotsIn.of I3 g.loc).keeps (h' := s'.heap) fun o e => hk' lo (by simp) o e
        have hsz' : lo < s'.heap.objs.size := by obtain ⟨m', hn, _⟩ := sl; exact hn.lt
        have I4 := inv_woken g hr'.hd e0' hfr' hpv' (by simp) sl rfl
        refine hk A' s' _ ?_
        show SegX (model P w) A' (suCW (suE lo f cda cc)) ((execs _ (suE lo f cda cc)).wrap _ _ _ _) fs s' _
        refine x_cons (xs_stmtG (X := suX P w K mg base (suE lo f cda cc) A' outer' lo s' H') (R := fun σ' H'' => σ' = [some (.ref q), some (.int ((x + 1 : Nat))), none] ∧ H'' = held lo [lo] s'.heap H') (h3 A') rfl (ps_aug (i := 1) nd rfl (.inl rfl) pe_int ip_add) I4 ⟨_, rfl, _, _, rfl, rfl, rfl, rfl⟩ fun σ5 H5 s5 I5 ⟨eσ, eH⟩ gr5 => ?_)
        subst eσ eH
        refine x_nil ?_
        exact x_again rfl (ih m (Nat.lt_succ_self _) (x + 1) hx A' outer' s' H' s5 _ hr' e0' hfr' hsz' hown' hn' I5 (fun _ _ e => e) gr5)
    · subst e
      have hx : x = off := by have := of_decide_eq_false eb.symm; omega
      subst hx
      exact x_nil (h4 n A outer s H s2 _ hr e0 hfr hsz hown Sq I2 sm (hgr.trans gr2))
/-- the generator def behind super().m -/
structure SupG (P : Program) (w : World) (K : PySem.W.Frag) (mg : Str → Option Value) (base : Heap) (S : Addr) (m : Str) (k : Nat) (ps : List Str) (sp : SpGe) : Prop where
  ok : ∃ (g : Addr) (fdg : FuncData), SupC K S S m g ∧ GenOk P w K mg base k g fdg ps sp ∧ Binds K fdg ps []
theorem FunS.gen {x qual : Str} {st : Stmt} {D f cda cc : Addr} {fd : FuncData} (F : FunS P K x qual st D f fd cda cc) : FunG K x qual st f fd [("__class__", cc)] (.ref cda) :=
  ⟨F.ex, F.cd, let ⟨c, d, sl, h⟩ := F.cl; .inr ⟨cc, c, d, _, sl, rfl, h⟩, F.kp⟩
theorem ok_suncov (F : FunS P K "uncovered" "ShiftedSequence.uncovered" tsUncov S f fd cda cc) (B : Blt mg) (top : (P.main.scope.names.lookup ("super" : Str)).isSome = false) (T : SqC K S) (U : SupG P w K mg base S "uncovered" 4 ["self"] (spUncov C S)) : GenOk P w K mg base 6 f fd ["self"] (spSUncov C S) := by
  obtain ⟨g0, fdg, sc, G, bg⟩ := U.ok
  refine F.gen.ok scSUncov rfl (by decide +kernel) (fun vs H need item h => ?_) (fun lo own n vs H0 need item h hn62 hsp g sl => ?_)
  · obtain ⟨q, c, N, A, sv, off, rfl, _⟩ := h; rfl
  obtain ⟨q, c, N, Am, sv, off, rfl, rfl, rfl⟩ := hsp
  have nd := scSUncov.nd
  have ST : SupT P mg tsUncov ["self", "x", "rest"] := ⟨⟨_, rfl, rfl, rfl⟩, rfl, rfl, rfl, B.super, top⟩
  cases n with
  | zero => trivial
  | succ n =>
    intro A' outer' s' H' hr' e0' hn' hown' hfr' hpv' hk' hgp'
    have sl := sl.keeps (h' := s'.heap) fun o e => hk' lo (by simp) o e
    have hsz' : lo < s'.heap.objs.size := by obtain ⟨m', hn, _⟩ := sl; exact hn.lt
    have I4 := inv_woken g hr'.hd e0' hfr' hpv' (by simp) sl rfl
    show SegX (model P w) A' (.func (defBody tsUncov) (suE lo f cda cc)) ((model P w).den (.func (defBody tsUncov) (suE lo f cda cc))) [] s' _
    refine x_func (x_cons (xs_stmtG (X := suX P w K mg base (suE lo f cda cc) A' outer' lo s' H') (R := fun σ' H'' => σ' = [some (.ref q), some (.int ((0 : Nat))), none] ∧ H'' = held lo [lo] s'.heap H') GenW.over_func rfl (ps_set (i := 1) nd rfl (.inl rfl) pe_int) I4 ⟨rfl, rfl⟩ fun σ5 H5 s5 I5 ⟨eσ, eH⟩ gr5 => ?_))
    subst eσ eH
    refine x_cons (x_while fun p => ?_)
    refine suncov_while T g _ rfl rfl (fun A => (GenW.over_loop rfl rfl).trans GenW.over_func) (fun n A outer s H s1 H1 hr e0 hfr hsz hown Sq I sm gr => ?_) n 0 (Nat.zero_le _) A' outer' s' H' s5 _ hr' e0' hfr' hsz' hown' hn' I5 (fun _ _ e => e) gr5
    refine x_pop (.ok .next) (x_cons (env := suE lo f cda cc) (x_for ?_))
    rw [GenW.over_func]
    have hr4 : Room 4 (A.deeper (suE lo f cda cc)) := (hr.deeper _).mono (by omega)
    have S1 : SqAt C S H1 q c N Am sv off := (SqAt.mono Sq (same_held s.heap)).mono sm
    obtain ⟨dx, hq⟩ := S1.ob
    refine super_gen F ST sc G hr4 bg I rfl hq ⟨q, c, N, Am, sv, off, rfl, rfl, rfl⟩ fun s2 s3 a2 lo2 gr1 gr2 I2 M => ?_
    have gr2' : Grown s s2 := gr.trans ⟨gr1, gr2⟩
    have I3 : Inv (suX P w K mg base (suE lo f cda cc) A outer lo s H) [] [some (.ref q), some (.int (off : Nat)), none] H1 s3 := by
      obtain ⟨c, hg, _⟩ := M.fresh
      refine Inv.call' (X := suX P w K mg base (suE lo f cda cc) A outer lo s H) I2 (ch := []) M.os (Un.kept M.kept) (HOk.kept (Inv.hok (X := suX P w K mg base (suE lo f cda cc) A outer lo s H) I2) M.kept) ?_ fun b hb => no_mem hb
      rw [hg]
      intro x hx
      rcases Array.mem_push.mp hx with z | z
      · exact Inv.bare (X := suX P w K mg base (suE lo f cda cc) A outer lo s H) I2 x z
      · rw [z]; rfl
    refine wpAny_pyIter_gen M.gen fun p => ?_
    have own2 : own < s2.gens.size := Nat.lt_of_lt_of_le hown gr2'.2
    have lo2 : lo < lo2 := Nat.lt_of_lt_of_le hsz (Nat.le_trans gr2'.1 M.low)
    have gr3 : s.heap.objs.size ≤ s3.heap.objs.size := Nat.le_trans gr2'.1 (Nat.le_trans M.low (Nat.le_trans (Nat.le_of_lt M.lt) (Nat.le_of_lt M.there)))
    have hl := unc_len Am
    have hle := S1.ce.arg.le
    have htop := top_lt S1.ce.arg
    refine suncov_for T g ⟨lo2, own2⟩ _ rfl rfl (fun A => (GenW.over_loop rfl rfl).trans GenW.over_func) (fun A s1 Φ hΦ => ?_) n 0 A outer s H s3 H1 _ _ [lo] [_] hr e0 hfr hsz (by simp) Sq I3 sm gr3 (fun b hb => ?_) (Nat.zero_le _) (GSt.of M (fun b hb => no_mem hb) _ (by omega))
    · refine x_pop (.ok .next) (x_nil (env := suE lo f cda cc) ?_)
      exact x_end (.ok (.ret .none)) hΦ
    · have ge : s2.heap.objs.size ≤ b := by
        rcases List.mem_cons.mp hb with e | hb
        · rw [e]; exact Nat.le_of_lt (Nat.lt_of_le_of_lt M.low M.lt)
        · have e := List.mem_singleton.mp hb
          rw [e]; exact M.low
      exact ⟨Inv.fpOk (X := suX P w K mg base (suE lo f cda cc) A outer lo s H) I2 ge ((Inv.hok (X := suX P w K mg base (suE lo f cda cc) A outer lo s H) I2).fresh ge), .inr (Nat.le_trans gr2'.1 ge), Nat.lt_of_lt_of_le hsz (Nat.le_trans gr2'.1 ge)⟩
end
end Tf

/-! ## TfRepr -/
set_option Elab.async false
set_option linter.all false
set_option maxRecDepth 100000
set_option maxHeartbeats 4000000
/-! repr of data; defs that are called with nothing under repr. -/
namespace Tf
open PySem PySem.Spec PyProof.Rows L2
/-- x is data that repr shows as z -/
structure Shn (K : PySem.W.Frag) (H : Hp) (x : V) (d : PyData) : Prop where
  dp : Dp K H x d
  ok : d.showable = true
  nd : d.hasDict = false
  ln : d.shown.length ≤ sizeLine
  ns : ∀ z, d ≠ .str z
  dh : d.depth ≤ 8
def rRepr (K : PySem.W.Frag) : List V → Hp → VK → Prop := fun xs H Q => ∃ x d, xs = [x] ∧ Shn K H x d ∧ Q (.str d.shown) H
section
variable {X : Cx} {k : Nat}
theorem call_repr (hg : X.A.guards = some []) (hr : Room k X.A) : CallR X (.builtin "repr") (rRepr X.K) := by
  intro pins s σ H xs us Q I r h
  obtain ⟨x, d, rfl, ⟨dp, ok, nd, ln, ns, dh⟩, q⟩ := h
  obtain ⟨u, rfl, ru⟩ := vals1 r
  have big : ∀ {a : Addr} {as : List Addr}, Reads s.heap (.ref a) d as → wpAny (model X.prog X.w) X.A (call (.builtin "repr") [.ref a]) (EP X pins σ Q) X.xe s := fun {a as} rd => by
    have hu := hr.un
    exact PySem.repr_of_reads' (s := s) rd ok (fun z => by rw [nd] at z; cases z) hg (by omega) (fun _ _ e => e) (fun h' u tk hk => ⟨.str _, H, I.kept (t' := tk) hk, ⟨_, rfl⟩, q⟩) ln
  cases dp with
  | non => cases ru; exact PySem.P.repr_of_none ⟨.str _, H, I.tok _, ⟨_, rfl⟩, q⟩
  | bl b => cases ru; exact PySem.P.repr_of_bool ⟨.str _, H, I.tok _, ⟨_, rfl⟩, q⟩
  | int i =>
    obtain ⟨t, rfl⟩ := ru
    exact PySem.P.repr_of_int (of_decide_eq_true ok) ⟨.str _, H, I.tok _, ⟨_, rfl⟩, q⟩
  | str z => exact absurd rfl (ns z)
  | lst h1 h2 =>
    obtain ⟨as, rd⟩ := Dp.reads I _ _ _ (Dp.lst h1 h2) ru
    cases ru
    exact big rd
  | tup h1 h2 =>
    obtain ⟨as, rd⟩ := Dp.reads I _ _ _ (Dp.tup h1 h2) ru
    cases ru
    exact big rd
end
section
variable {K : PySem.W.Frag} {H : Hp}
theorem int_log {a : Int} (h : a.natAbs < 2 ^ 1100) : a.natAbs.log2 < 1920 := by
  by_cases z : a.natAbs = 0
  · rw [z]; decide
  · exact (Nat.log2_lt z).mpr (Nat.lt_of_lt_of_le h (Nat.pow_le_pow_right (by decide) (by decide)))
theorem int_show {a : Int} (h : a.natAbs < 2 ^ 1100) : (Str.ofString (toString a)).length ≤ 1921 := int_text_len_1921 (int_log h)
theorem two_len (x y : Str) : (tupleText [x, y]).length = x.length + y.length + 4 := by
  have h1 := join_length_add [x, y] (by simp)
  unfold tupleText
  rw [Str.length_append, Str.length_append]
  have h2 : piled [x, y] = x.length + 2 + (y.length + 2) := by simp [piled]
  have h3 : (("(" : Str)).length = 1 := by decide +kernel
  have h4 : ((if [x, y].length == 1 then ",)" else ")" : String) : Str).length = 1 := by
    show ((")" : String) : Str).length = 1
    decide +kernel
  rw [h3, h4]
  omega
theorem shn_bl (b : Bool) : Shn K H (.bl b) (.bool b) := ⟨.bl b, rfl, rfl, by cases b <;> decide +kernel, (fun z e => nomatch e), by simp [PyData.depth]⟩
theorem shn_pair {t : Addr} {a b : Int} (ht : H t = some (.tup [.int a, .int b])) (ha : a.natAbs < 2 ^ 1100) (hb : b.natAbs < 2 ^ 1100) : Shn K H (.ref t) (.tuple [.int a, .int b]) := by
  refine ⟨.tup (SqT.of ht) (.cons (.int a) (.cons (.int b) .nil)), ?_, rfl, ?_, (fun z e => nomatch e), ?_⟩
  · simp only [PyData.showable, PyData.showableAll, decide_eq_true (int_log ha), decide_eq_true (int_log hb), Bool.and_true]
  · have h1 := int_show ha
    have h2 := int_show hb
    have e : (PyData.tuple [.int a, .int b]).shown = tupleText [Str.ofString (toString a), Str.ofString (toString b)] := by simp only [PyData.shown, PyData.shownAll]
    rw [e, two_len]
    unfold sizeLine
    omega
  · simp [PyData.depth, PyData.depthAll]
theorem shn_tag {t : Addr} {z : Str} {b : Int} (ht : H t = some (.tup [.str z, .int b])) (hz : (reprText z).length ≤ 100) (hb : b.natAbs < 2 ^ 1100) : Shn K H (.ref t) (.tuple [.str z, .int b]) := by
  refine ⟨.tup (SqT.of ht) (.cons (.str z) (.cons (.int b) .nil)), ?_, rfl, ?_, (fun z e => nomatch e), ?_⟩
  · simp only [PyData.showable, PyData.showableAll, decide_eq_true (int_log hb), Bool.and_true]
  · have h2 := int_show hb
    have e : (PyData.tuple [.str z, .int b]).shown = tupleText [reprText z, Str.ofString (toString b)] := by simp only [PyData.shown, PyData.shownAll]
    rw [e, two_len]
    unfold sizeLine
    omega
  · simp [PyData.depth, PyData.depthAll]
theorem shn_five {t : Addr} {a b c d e : Bool} (ht : H t = some (.lst [.bl a, .bl b, .bl c, .bl d, .bl e])) : Shn K H (.ref t) (.list [.bool a, .bool b, .bool c, .bool d, .bool e]) := by
  refine ⟨.lst (SqL.of ht) (.cons (.bl a) (.cons (.bl b) (.cons (.bl c) (.cons (.bl d) (.cons (.bl e) .nil))))), rfl, rfl, ?_, (fun z e => nomatch e), ?_⟩
  · cases a <;> cases b <;> cases c <;> cases d <;> cases e <;> decide +kernel
  · simp [PyData.depth, PyData.depthAll]
end
end Tf

/-! ## TfFnG -/
set_option Elab.async false
set_option linter.all false
set_option maxRecDepth 100000
set_option maxHeartbeats 4000000
/-! Defs that are called with nothing under repr (they use repr themselves). -/
namespace Tf
open PySem PySem.Spec PyProof.Rows L2
/-- as FnOk, where no repr is under way -/
structure FnG (P : Program) (w : World) (K : PySem.W.Frag) (mg : Str → Option Value) (base : Heap) (k : Nat) (f : Addr) (fd : FuncData) (ps : List Str) (sp : Sp) : Prop where
  len : ∀ vs H Q E, sp vs H Q E → vs.length = ps.length
  run : ∀ (A : Around) (outer : List Env) (s : Shared) (H : Hp) (args : Args) (us : List Value) (vs : List V) (Q : VK), Room k A → A.guards = some [] → Env0 P w K mg base A outer s H → BindsTo s fd args (ps.zip us) → Vals vs us → sp vs H Q E0 →
    codeAny (model P w) A (.call (.ref f) args) (CR CX0 outer P w H s Q E0) s
section
variable {P : Program} {w : World} {K : PySem.W.Frag} {mg : Str → Option Value} {base : Heap}
theorem Fun.toG {x qual : Str} {st : Stmt} {f : Addr} {fd : FuncData} (F : Fun K x qual st f fd) (h : ∀ y ∈ (defScope st).names, y.2 ≠ .free) : ∃ cdv, FunG K x qual st f fd [] cdv := by
  obtain ⟨oc, od, kV, doc, pm, an, cdv, ct, osl, e, lk, hcd⟩ := F.ex
  exact ⟨cdv, ⟨oc, od, .none, kV, doc, pm, an, ct, osl, e, lk⟩, hcd, .inl ⟨rfl, h⟩, F.kp⟩
theorem FunG.okG {x qual : Str} {st : Stmt} {f : Addr} {fd : FuncData} {cdv : Value} {N ps : List Str} {k : Nat} {sp : Sp} (F : FunG K x qual st f fd [] cdv) (S : ScS N ps (defScope st)) (hgen : (defScope st).isGenerator = false) (hfree : ∀ y ∈ (defScope st).names, y.2 ≠ .free) (len : ∀ vs H Q E, sp vs H Q E → vs.length = ps.length)
    (hbody : ∀ (A : Around) (outer : List Env) (s : Shared) (H : Hp) (vs : List V) (Q : VK), Room k (A.deeper (PySem.W.envX qual (defScope st) s.heap.objs.size f cdv [])) → A.guards = some [] → sp vs H Q E0 →
      ∃ t, PSs (cxS P w K mg base N (PySem.W.envX qual (defScope st) s.heap.objs.size f cdv []) A outer s H) (defBody st) t ∧ t { nx := fun _ H' => Q .non H', rt := Q } (L2.start N vs) H) :
    FnG P w K mg base (k + 1) f fd ps sp := by
  refine ⟨len, fun A outer s H args us vs Q hr hgd e0 hb r hsp => ?_⟩
  have hl := len _ _ _ _ hsp
  have KX : K.In s.heap := e0.mod.kin.keeps fun b o e => (e0.bs b o e).1
  have lim : s.heap.NoLimit := e0.mod.nolimit.keeps fun b o e => (e0.bs b o e).1
  obtain ⟨oc, od, dV, kV, doc, pm, an, ct, osl, rfl, lk⟩ := F.ex
  obtain ⟨t, ht, hq⟩ := hbody A outer s H vs Q (hr.deeper _) hgd hsp
  refine PySem.ks_codeAny_call_defAt hr.depth (KX _ _ lk) rfl lim (PySem.W.codeRec_of KX F.cd) rfl hb S.nocell (fun y hy => S.par _ (List.of_mem_zip hy).1) (fun h1 hn hk => ?_) S.co hgen S.kind
  have I : Inv (cxS P w K mg base N (PySem.W.envX qual (defScope st) s.heap.objs.size f cdv []) A outer s H) [] (L2.start N vs) H { s with heap := h1, toks := s.toks + (ps.zip us).length } :=
    inv_startS (env := PySem.W.envX qual (defScope st) s.heap.objs.size f cdv []) (cl := []) S rfl rfl rfl rfl rfl (.inl ⟨rfl, hfree⟩) hr.hd e0 hl r hn hk
  refine PySem.wpAt_mono (PySem.wpAt_of_wpAny (ht.run [] _ (L2.start N vs) H _ I hq)) (fun fl s' hs => ?_) fun e s' z => False.elim z
  have fin : ∀ {σ' : L2.St} {H' : Hp} {v : V} {u : Value}, Inv (cxS P w K mg base N (PySem.W.envX qual (defScope st) s.heap.objs.size f cdv []) A outer s H) [] σ' H' s' → RelV v u → Q v H' → CE outer P w H s Q u s' :=
    fun {σ' H' v u} J rv q => ⟨v, H', J.os, J.bare, J.base, J.hok, rv, q⟩
  cases fl with
  | ret u =>
    obtain ⟨v, σ', H', J, rv, q⟩ := hs
    exact fin J rv q
  | next =>
    obtain ⟨σ', H', J, q⟩ := hs
    exact fin (v := V.non) (u := Value.none) J rfl q
  | brk => obtain ⟨_, _, _, q⟩ := hs; exact False.elim q
  | cont => obtain ⟨_, _, _, q⟩ := hs; exact False.elim q
/-- such a def under a global name -/
def FnN' (P : Program) (w : World) (K : PySem.W.Frag) (mg : Str → Option Value) (base : Heap) (x : Str) (k : Nat) (ps : List Str) (sp : Sp) : Prop :=
  ∃ (f : Addr) (fd : FuncData), mg x = some (.ref f) ∧ PySem.W.keepIn K (.ref f) = true ∧ FnG P w K mg base k f fd ps sp ∧ Binds K fd ps []
end
section
variable {X : Cx} {k : Nat} {ps : List Str} {sp : Sp} {x : Str} {p pos : Pos} {e : Expr} {es : List Expr} {t : TA}
theorem pe_fnG (F : FnN' X.prog X.w X.K X.mg X.base x k ps sp) (hr : Room k X.A) (hgd : X.A.guards = some []) (hg : Gl X x) (ha : PA X (e :: es) t) (hdb : (x == ("__debug__" : Str)) = false := by decide)
    (he : starEach (e :: es) X.env = (false, eval e X.env) :: starEach es X.env := by rfl) (hpl : (backTo pos (starEach es X.env)).any (·.1) = false := by rfl) : PE X (.Call (.Name x p) (e :: es) [] pos) (tCall sp [] E0 t) := by
  obtain ⟨f, fd, hm, hk, G, hb⟩ := F
  refine ⟨fun pins s σ H Q I h => ?_⟩
  refine wpAny_Call_Name_kw (ld_glob I hg hm ?_ hdb)
  refine PySem.W.callWith_K (h₀ := X.base) I.ok.mod.kin hk (thn (ha.run pos pins s σ H _ I h) fun us s1 ⟨vs, H1, I1, r, q⟩ => ⟨I1.kIn, ?_⟩) he hpl
  have q : sp (vs ++ []) H1 Q E0 := q
  rw [List.append_nil] at q
  have hl : (us ++ []).length = ps.length := by rw [List.append_nil, ← r.length]; exact G.len _ _ _ _ q
  have bd := hb s1 us I1.kIn hl
  rw [List.append_nil] at bd
  refine wpAny_call (codeAny_mono (G.run X.A X.stack s1 H1 ⟨us, []⟩ us vs Q hr hgd I1.env0 bd r q) fun r' s' hq => ?_)
  cases r' with
  | error e => exact False.elim hq
  | ok fl =>
    cases fl with
    | ret u => exact I1.after hq
    | next => exact False.elim hq
    | brk => exact False.elim hq
    | cont => exact False.elim hq
end
end Tf

/-! ## TfLaw1 -/
set_option Elab.async false
set_option linter.all false
set_option maxRecDepth 100000
set_option maxHeartbeats 4000000
/-! The law's numbers: _law_next, _law_huge. -/
namespace Tf
open PySem PySem.Spec PyProof.Rows L2
abbrev kCells : Key := Sum.inr ("cells" : Str)
abbrev kAt : Key := Sum.inr ("at" : Str)
abbrev kLeft : Key := Sum.inr ("left" : Str)
def stK (l : Addr) (a f : Int) : List (Key × V) := [(kCells, .ref l), (kAt, .int a), (kLeft, .int f)]
theorem k12 : ¬ (("cells" : Str) = "at") := by decide +kernel
theorem k13 : ¬ (("cells" : Str) = "left") := by decide +kernel
theorem k23 : ¬ (("at" : Str) = "left") := by decide +kernel
theorem kne12 : ¬ kCells = kAt := fun h => k12 (Sum.inr.inj h)
theorem kne13 : ¬ kCells = kLeft := fun h => k13 (Sum.inr.inj h)
theorem kne23 : ¬ kAt = kLeft := fun h => k23 (Sum.inr.inj h)
theorem stK_at (l : Addr) (a f : Int) : valV (stK l a f) kAt = some (.int a) := by rw [stK, valV_neg kne12, valV_pos rfl]
theorem stK_cells (l : Addr) (a f : Int) : valV (stK l a f) kCells = some (.ref l) := by rw [stK, valV_pos rfl]
theorem stK_left (l : Addr) (a f : Int) : valV (stK l a f) kLeft = some (.int f) := by rw [stK, valV_neg kne13, valV_neg kne23, valV_pos rfl]
theorem stK_putAt (l : Addr) (a f b : Int) : putK (stK l a f) kAt (.int b) = stK l b f := by
  simp [putK, stK, k12, k23, Ne.symm k23, fun h : (("left" : Str) = "at") => k23 h.symm]
theorem stK_putLeft (l : Addr) (a f b : Int) : putK (stK l a f) kLeft (.int b) = stK l a b := by
  simp [putK, stK, k13, k23]
/-- a stream of the law's: at most m numbers have been drawn, or nearly -/
def StAt (H : Hp) (d : Addr) (m : Nat) : Prop := ∃ (l : Addr) (ns : List Int) (a f : Int), H d = some (.dK (stK l a f)) ∧ H l = some (.lst (ns.map V.int)) ∧ ns ≠ [] ∧ 0 ≤ a ∧ a ≤ m
/-- all but d stands as it stood -/
def SamB (d : Addr) (H H' : Hp) : Prop := ∀ b o, H b = some o → b ≠ d → H' b = some o
theorem SamB.refl (d : Addr) (H : Hp) : SamB d H H := fun _ _ e _ => e
theorem SamB.trans {d : Addr} {H H1 H2 : Hp} (h : SamB d H H1) (h' : SamB d H1 H2) : SamB d H H2 := fun b o e n => h' b o (h b o e n) n
theorem SamB.same {d : Addr} {H H1 H2 : Hp} (h : SamB d H H1) (h' : Same H1 H2) : SamB d H H2 := fun b o e n => h' b o (h b o e n)
theorem Same.samB {d : Addr} {H H1 : Hp} (h : Same H H1) : SamB d H H1 := fun b o e _ => h b o e
theorem StAt.mono {H H' : Hp} {d : Addr} {m n : Nat} (x : StAt H d m) (sm : Same H H') (h : m ≤ n) : StAt H' d n := by
  obtain ⟨l, ns, a, f, h1, h2, h3, h4, h5⟩ := x
  exact ⟨l, ns, a, f, sm _ _ h1, sm _ _ h2, h3, h4, by omega⟩
def spNext : Sp := fun vs H Q _ => ∃ (d : Addr) (m c : Nat), vs = [.ref d, .int (c : Nat)] ∧ StAt H d m ∧ m ≤ 1000000 ∧ 0 < c ∧ c < 2 ^ 30 ∧ ∀ r H', r < c → StAt H' d (m + 1) → SamB d H H' → Q (.int (r : Nat)) H'
section
variable {P : Program} {w : World} {K : PySem.W.Frag} {mg : Str → Option Value} {base : Heap} {f : Addr} {fd : FuncData}
theorem scNextL : FnScope ["_law_stream", "_law_count", "_law_found", "_law_at", "_law_cells", "_law_offset", "_law_own_number"] ["_law_stream", "_law_count"] (defScope tNext) := ⟨rfl, rfl, rfl, by decide +kernel, rfl, by decide +kernel, by decide +kernel⟩
theorem mod_nat {a c : Int} (h : 0 < c) : ∃ r : Nat, a % c = (r : Int) ∧ (r : Int) < c := ⟨(a % c).toNat, by have := Int.emod_nonneg a (by omega : c ≠ 0); omega, by have := Int.emod_nonneg a (by omega : c ≠ 0); have := Int.emod_lt_of_pos a h; omega⟩
theorem ok_next_ (F : Fun K "_law_next" "_law_next" tNext f fd) (B : Blt mg) : FnOk P w K mg base CX0 1 f fd ["_law_stream", "_law_count"] spNext := by
  refine F.ok scNextL (fun vs H Q E h => ?_) (fun cdv Ar outer s H vs Q E hr h => ?_)
  · obtain ⟨d, m, c, rfl, _⟩ := h; rfl
  · obtain ⟨d, m, c, rfl, S, hm, hc0, hc, k⟩ := h
    obtain ⟨l, ns, a, fl, h1, h2, h3, h4, h5⟩ := S
    have nd := scNextL.nd
    have hu := hu_of hr
    have hlen : (stK l a fl).length = 3 := rfl
    refine ⟨_, pss_cons (ps_dput hu (pv 0) pe_str (pe_op op_add (pe_dget hu (pv 0) pe_str (fun _ _ => rfl)) pe_int) rfl)
      (pss_cons (ps_if (pt_cmpR op_gt (pe_dget hu (pv 0) pe_str (fun _ _ => rfl)) pe_int (nomark _))
        (pss_cons (ps_set (i := 2) nd rfl (.inl rfl) (pe_op op_mod (pe_dget hu (pv 0) pe_str (fun _ _ => rfl)) (pv 1)))
        (pss_cons (ps_dput hu (pv 0) pe_str (pe_op op_fdiv (pe_dget hu (pv 0) pe_str (fun _ _ => rfl)) (pv 1)) rfl)
        (pss_one (ps_ret (pv 2))))) pss_nil)
      (pss_cons (ps_par (i := 3) (j := 4) (by rfl) nd rfl rfl (by decide) rfl rfl (pa_cons (pe_dget hu (pv 0) pe_str (fun _ _ => rfl)) (pa_cons (pe_dget hu (pv 0) pe_str (fun _ _ => rfl)) pa_nil)) (by rfl))
      (pss_cons (ps_set (i := 5) nd rfl (.inl rfl) (pe_op op_add (pe_op op_add (pe_op op_mul (pe_op op_mul pe_int (pv 3)) (pv 3)) (pe_op op_mul pe_int (pv 3))) pe_int))
      (pss_cons (ps_set (i := 6) nd rfl (.inl rfl) (pe_op op_add (pe_op op_mod (pe_ix ix_list (pv 4) (pe_op op_mod (pv 3) (pe_callB call_len_seq (by rfl) B.len PySem.boot_len (pa_cons (pv 4) pa_nil))) (fun _ _ => rfl)) pe_int) (pv 5)))
      (pss_cons (ps_set (i := 6) nd rfl (.inl rfl) (pe_op op_mod (pe_op op_pow (pv 6) pe_int) pe_int))
      (pss_one (ps_ret (pe_op op_mod (pe_op op_fdiv (pe_op op_mod (pe_op op_mul (pv 6) pe_int) pe_int) pe_int) (pv 1))))))))), ?_⟩
    have hd1 : ∀ (H1 : Hp) (a' f' : Int), H1 d = some (.dK (stK l a' f')) → DGet H1 d (.str "at") (some (.int a')) := fun H1 a' f' e => by
      have z := DGet.k (k := kAt) e
      rw [stK_at] at z
      exact z
    have hd2 : ∀ (H1 : Hp) (a' f' : Int), H1 d = some (.dK (stK l a' f')) → DGet H1 d (.str "cells") (some (.ref l)) := fun H1 a' f' e => by
      have z := DGet.k (k := kCells) e
      rw [stK_cells] at z
      exact z
    have hd3 : ∀ (H1 : Hp) (a' f' : Int), H1 d = some (.dK (stK l a' f')) → DGet H1 d (.str "left") (some (.int f')) := fun H1 a' f' e => by
      have z := DGet.k (k := kLeft) e
      rw [stK_left] at z
      exact z
    have dl : d ≠ l := fun z => by subst z; rw [h1] at h2; cases h2
    have e1 : (upd H d (.dK (stK l (a + 1) fl))) d = some (.dK (stK l (a + 1) fl)) := upd_same
    refine ⟨_, rfl, d, _, rfl, hd1 H a fl h1, _, _, rfl, rfl, _, rfl, d, _, rfl, (by have z := DPut.k (k := kAt) (v := .int (a + 1)) h1 (by rw [hlen]; unfold sizeLine; decide); rw [stK_putAt] at z; exact z), ?_⟩
    refine ⟨_, rfl, d, _, rfl, hd3 _ _ _ e1, _, _, rfl, rfl, _, rfl, ?_⟩
    have sm1 : SamB d H (upd H d (.dK (stK l (a + 1) fl))) := fun b o e n => by rw [upd_ne n]; exact e
    have h2' : (upd H d (.dK (stK l (a + 1) fl))) l = some (.lst (ns.map V.int)) := by rw [upd_ne (Ne.symm dl)]; exact h2
    refine ite2 (fun hp => ?_) (fun hn => ?_)
    · obtain ⟨r, er, hr1⟩ := mod_nat (a := fl) (c := (c : Int)) (by omega)
      refine ⟨_, rfl, d, _, rfl, hd3 _ _ _ e1, _, rfl, _, _, rfl, rfl, (by show (0 : Int) < (c : Int); omega), ?_⟩
      refine ⟨_, rfl, d, _, rfl, hd3 _ _ _ e1, _, rfl, _, _, rfl, rfl, ⟨by omega, by omega⟩, _, rfl, d, _, rfl, (by have z := DPut.k (k := kLeft) (v := .int (fl / (c : Int))) e1 (by show 3 < sizeLine; unfold sizeLine; decide); rw [stK_putLeft] at z; exact z), ?_⟩
      refine ⟨_, rfl, ?_⟩
      have k' := k r (upd (upd H d (.dK (stK l (a + 1) fl))) d (.dK (stK l (a + 1) (fl / (c : Int))))) (by omega) ⟨l, ns, a + 1, _, upd_same, by rw [upd_ne (Ne.symm dl)]; exact h2', h3, by omega, by omega⟩ fun b o e n => by rw [upd_ne n]; exact sm1 b o e n
      rw [← er] at k'
      exact k'
    · have hl0 : 0 < ns.length := List.length_pos_iff.mpr h3
      refine ⟨_, rfl, d, _, rfl, hd1 _ _ _ e1, _, rfl, d, _, rfl, hd2 _ _ _ e1, _, _, rfl, ?_⟩
      refine ⟨_, rfl, _, _, rfl, rfl, .inl ⟨by omega, by omega⟩, _, rfl, _, _, rfl, rfl, .inr ⟨by omega, by omega⟩, _, rfl, _, _, rfl, rfl, .inl ⟨by omega, by omega⟩, _, _, rfl, rfl, _, _, rfl, rfl, ?_⟩
      obtain ⟨j, ej, hj⟩ := mod_nat (a := a + 1) (c := (ns.length : Int)) (by omega)
      obtain ⟨y, hy⟩ : ∃ y, ns[j]? = some y := ⟨_, List.getElem?_eq_getElem (by omega : j < ns.length)⟩
      have hy' : (ns.map V.int)[j]? = some (.int y) := by rw [List.getElem?_map, hy]; rfl
      have hll : (ns.map V.int).length = ns.length := List.length_map ..
      refine ⟨_, rfl, _, rfl, _, rfl, l, _, rfl, .inl (SqL.of h2'), _, _, rfl, rfl, (by show (0 : Int) < ((ns.map V.int).length : Int); omega), ?_⟩
      rw [hll]
      refine ⟨l, _, _, .int y, rfl, rfl, SqL.of h2', (by rw [ej]; exact atI_nat hy'), ?_⟩
      obtain ⟨r1, er1, hr1⟩ := mod_nat (a := y) (c := 2147483629) (by omega)
      have b1 : (a + 1) * (a + 1) ≤ 1000001 * 1000001 := Int.mul_le_mul (by omega) (by omega) (by omega) (by omega)
      have b0 : 0 ≤ (a + 1) * (a + 1) := Int.mul_nonneg (by omega) (by omega)
      have b2 : (7907 * (a + 1)) * (a + 1) = 7907 * ((a + 1) * (a + 1)) := Int.mul_assoc ..
      refine ⟨_, _, rfl, rfl, (by show (0 : Int) < 2147483629; decide), _, rfl, _, _, rfl, rfl, ?_⟩
      rw [er1, b2]
      refine ⟨_, rfl, _, _, rfl, rfl, ⟨by omega, by omega, by omega⟩, _, _, rfl, rfl, (by show (0 : Int) < 2147483647; decide), ?_⟩
      obtain ⟨r2, er2, hr2⟩ := mod_nat (a := (((r1 : Int) + (7907 * ((a + 1) * (a + 1)) + 104723 * (a + 1) + 11)) ^ (5 : Int).toNat)) (c := 2147483647) (by omega)
      simp only [er2]
      refine ⟨_, rfl, _, _, rfl, rfl, .inl ⟨by omega, by omega⟩, _, _, rfl, rfl, (by show (0 : Int) < 2147483629; decide), _, _, rfl, rfl, ⟨by show (0 : Int) < 7; decide, by show (7 : Int) < 1073741824; decide⟩, _, rfl, _, _, rfl, rfl, (by show (0 : Int) < (c : Int); omega), ?_⟩
      obtain ⟨r3, er3, hr3⟩ := mod_nat (a := ((r2 : Int) * 48271) % 2147483629 / 7) (c := (c : Int)) (by omega)
      have k' := k r3 _ (by omega) ⟨l, ns, a + 1, fl, e1, h2', h3, by omega, by omega⟩ sm1
      rw [← er3] at k'
      exact k'
theorem cast_ma (x y b : Nat) : (x : Int) * (b : Int) + (y : Int) = ((x * b + y : Nat) : Int) := by push_cast; rfl
def spHuge : Sp := fun vs H Q _ => ∃ (d : Addr) (m : Nat), vs = [.ref d] ∧ StAt H d m ∧ m ≤ 900000 ∧ ∀ x H', x < 10 ^ 64 → StAt H' d (m + 9) → SamB d H H' → Q (.int (x : Nat)) H'
theorem scHuge : FnScope ["_law_stream", "_law_found", "_law_k"] ["_law_stream"] (defScope tHuge) := ⟨rfl, rfl, rfl, by decide +kernel, rfl, by decide +kernel, by decide +kernel⟩
theorem ok_huge (F : Fun K "_law_huge" "_law_huge" tHuge f fd) (B : Blt mg) (G : Fn P w K mg base "_law_next" 1 ["_law_stream", "_law_count"] [] spNext) : FnOk P w K mg base CX0 2 f fd ["_law_stream"] spHuge := by
  refine F.ok scHuge (fun vs H Q E h => ?_) (fun cdv Ar outer s H vs Q E hr h => ?_)
  · obtain ⟨d, m, rfl, _⟩ := h; rfl
  · obtain ⟨d, m, rfl, S, hm, k⟩ := h
    have nd := scHuge.nd
    refine ⟨_, pss_cons (ps_set (i := 1) nd rfl (.inl rfl) pe_int)
      (pss_cons (ps_for PassesOwn.never rfl (pi_range1 (by rfl) B.range (pa_cons (pe_op op_add pe_int (pe_fn G hr (by rfl) (pa_cons (pv 0) (pa_cons pe_int pa_nil)))) pa_nil)) (pg_name (i := 2) nd rfl (.inl rfl))
        (pss_one (ps_set (i := 1) nd rfl (.inl rfl) (pe_op op_add (pe_op op_mul (pv 1) (pe_op op_pow pe_int pe_int)) (pe_fn G hr (by rfl) (pa_cons (pv 0) (pa_cons (pe_op op_pow pe_int pe_int) pa_nil)))))))
      (pss_one (ps_ret (pv 1)))), ?_⟩
    refine ⟨_, rfl, d, m, 8, rfl, S, by omega, by decide, by decide, fun r H1 hr8 S1 sb1 => ?_⟩
    refine ⟨_, _, rfl, rfl, _, rfl, by omega, by omega, ?_⟩
    have hn : (1 + (r : Int)).toNat = r + 1 := by omega
    rw [hn]
    refine for_range (lo := 0) (n := r + 1) (fun i σ H2 => ∃ (x : Nat) (v : Option V), σ = [some (.ref d), some (.int (x : Nat)), v] ∧ x < 10 ^ (8 * i) ∧ StAt H2 d (m + 1 + i) ∧ SamB d H H2) ⟨0, none, rfl, by decide, S1, sb1⟩ ?_ ?_
    · rintro i σ H2 hi ⟨x, v, rfl, hx, S2, sb2⟩
      refine ⟨_, rfl, _, _, rfl, rfl, ⟨by decide, by decide, by decide⟩, _, _, rfl, rfl, .inr ⟨by decide, by decide⟩, ?_⟩
      refine ⟨_, rfl, _, _, rfl, rfl, ⟨by decide, by decide, by decide⟩, d, m + 1 + i, 10 ^ 8, rfl, S2, by omega, by decide, by decide, fun y H3 hy S3 sb3 => ?_⟩
      refine ⟨_, _, rfl, rfl, x * 10 ^ 8 + y, some (.int (0 + (i : Int))), ?_, ?_, S3, sb2.trans sb3⟩
      · have e : (x : Int) * 10 ^ (8 : Int).toNat + (y : Int) = ((x * 10 ^ 8 + y : Nat) : Int) := by
          rw [show (10 : Int) ^ (8 : Int).toNat = ((10 ^ 8 : Nat) : Int) from by decide]
          exact cast_ma x y _
        show [some (V.ref d), some (V.int ((x : Int) * 10 ^ (8 : Int).toNat + (y : Int))), some (V.int (0 + (i : Int)))] = _
        rw [e]
      · have e : 10 ^ (8 * (i + 1)) = 10 ^ (8 * i) * 10 ^ 8 := by rw [← Nat.pow_add]; rfl
        rw [e]
        have : (x + 1) * 10 ^ 8 ≤ 10 ^ (8 * i) * 10 ^ 8 := Nat.mul_le_mul_right _ hx
        omega
    · rintro σ H2 ⟨x, v, rfl, hx, S2, sb2⟩
      refine ⟨_, rfl, k x H2 (Nat.lt_of_lt_of_le hx (Nat.pow_le_pow_right (by decide) (by omega))) (S2.mono (.refl _) (by omega)) sb2⟩
end
end Tf

/-! ## TfLaw2 -/
set_option Elab.async false
set_option linter.all false
set_option maxRecDepth 100000
set_option maxHeartbeats 4000000
/-! The law's cells: _law_joined, _law_random_cell. -/
namespace Tf
open PySem PySem.Spec PyProof.Rows L2
/-- a pair (modulus, members) -/
def PrT (H : Hp) (t : Addr) (N : Nat) (A : List Nat) : Prop := ∃ m : Addr, H t = some (.tup [.int (N : Nat), .ref m]) ∧ H m = some (.tup (nV A))
theorem PrT.mono {H H' : Hp} {t : Addr} {N : Nat} {A : List Nat} (x : PrT H t N A) (sm : Same H H') : PrT H' t N A := let ⟨m, h1, h2⟩ := x; ⟨m, sm _ _ h1, sm _ _ h2⟩
def spJoined : Sp := fun vs H Q _ => ∃ (t1 t2 : Addr) (N1 N2 : Nat) (A1 A2 : List Nat), vs = [.ref t1, .ref t2] ∧ PrT H t1 N1 A1 ∧ PrT H t2 N2 A2 ∧ CellOk N1 A1 ∧ CellOk N2 A2 ∧ A1.length * A2.length ≤ 5000 ∧ N1 < 2 ^ 30 ∧
  ∀ t H', Same H H' → PrT H' t (N1 * N2) (joinA N1 A1 A2) → Q (.ref t) H'
theorem asc_perm {l l' : List Int} (p : l'.Perm l) (h' : l'.Pairwise (· ≤ ·)) (h : l.Pairwise (· < ·)) : l' = l :=
  p.eq_of_pairwise (le := (· ≤ ·)) (fun a b _ _ h1 h2 => Int.le_antisymm h1 h2) h' (h.imp fun h => Int.le_of_lt h)
theorem join_take {N : Nat} {A B : List Nat} {i b : Nat} (h : B[i]? = some b) : joinA N A (B.take (i + 1)) = joinA N A (B.take i) ++ A.map (· + N * b) := by
  unfold joinA
  rw [List.take_succ, h, List.flatMap_append]
  simp
theorem join_sub (N : Nat) (A B : List Nat) (i : Nat) : (joinA N A (B.take i)).length ≤ A.length * B.length := by
  rw [join_len]
  exact Nat.mul_le_mul_left _ (by rw [List.length_take]; omega)
theorem small1000' {n : Nat} (h : n ≤ 100000) : n < sizeLine := by unfold sizeLine; omega
theorem ix_tupK {X : Cx} {K : PySem.W.Frag} (h : X.K = K) : IxR X (rIxT K) := by subst h; exact ix_tup
section
variable {P : Program} {w : World} {K : PySem.W.Frag} {mg : Str → Option Value} {base : Heap} {f : Addr} {fd : FuncData}
theorem scJoined : FnScope ["_law_first", "_law_second", "_law_found", "_law_high", "_law_low"] ["_law_first", "_law_second"] (defScope tJoined) := ⟨rfl, rfl, rfl, by decide +kernel, rfl, by decide +kernel, by decide +kernel⟩
theorem ok_joined (F : Fun K "_law_joined" "_law_joined" tJoined f fd) (B : Blt mg) : FnOk P w K mg base CX0 1 f fd ["_law_first", "_law_second"] spJoined := by
  refine F.ok scJoined (fun vs H Q E h => ?_) (fun cdv Ar outer s H vs Q E hr h => ?_)
  · obtain ⟨t1, t2, N1, N2, A1, A2, rfl, _⟩ := h; rfl
  · obtain ⟨t1, t2, N1, N2, A1, A2, rfl, ⟨m1, h1, h2⟩, ⟨m2, h3, h4⟩, C1, C2, hl, hN, k⟩ := h
    have nd := scJoined.nd
    refine ⟨_, pss_cons (ps_set (i := 2) nd rfl (.inl rfl) (pe_lst pa_nil))
      (pss_cons (ps_for PassesOwn.never rfl (pi_tup (pe_ix ix_tup (pv 1) pe_int (fun _ _ => rfl))) (pg_name (i := 3) nd rfl (.inr rfl))
        (pss_one (ps_set (i := 2) nd rfl (.inl rfl) (pe_op op_cat (pv 2)
          (pe_lc (own := [("_law_low", 4)]) (g := gName 4) (tt := tYes) (by rfl) nd (pi_tup (pe_ix ix_tup (pv 0) pe_int (fun _ _ => rfl))) (blkOk_by (own := [("_law_low", 4)]) (N := ["_law_first", "_law_second", "_law_found", "_law_high", "_law_low"]) (sc := defScope tJoined) (by decide +kernel))
            (fun _ _ _ _ _ => pg_name (i := 4) nd rfl (Or.inl rfl)) (fun _ _ _ _ _ => pts_nil) (fun _ _ _ _ _ => pe_op op_add (pv 4) (pe_op op_mul (pe_ix (ix_tupK (K := K) rfl) (pv 0) pe_int (fun _ _ => rfl)) (pv 3))))))))
      (pss_one (ps_ret (pe_tup (pa_cons (pe_op op_mul (pe_ix ix_tup (pv 0) pe_int (fun _ _ => rfl)) (pe_ix ix_tup (pv 1) pe_int (fun _ _ => rfl))) (pa_cons (pe_callTy call_tuple_of (by rfl) B.tuple PyProof.Rows.boot_tuple (pa_cons
        (pe_callB cr_sortedI (by rfl) B.sorted PyProof.Rows.boot_sorted (pa_cons (pv 2) pa_nil)) pa_nil)) pa_nil)))))), ?_⟩
    refine ⟨Nat.zero_le _, fun L0 hL0 => ?_⟩
    have s0 : Same H (upd H L0 (.lst [])) := same_upd (.refl _) hL0
    refine ⟨_, rfl, t2, _, _, _, rfl, rfl, SqT.of (s0 _ _ h3), rfl, m2, rfl, ⟨_, SqT.of (s0 _ _ h4)⟩, ?_⟩
    refine for_tup (K := K) (a := m2) (xs := nV A2) (fun i σ H1 => Same H H1 ∧ ∃ L v, σ = [some (.ref t1), some (.ref t2), some (.ref L), v, none] ∧ H1 L = some (.lst (nV (joinA N1 A1 (A2.take i))))) ⟨s0, L0, none, rfl, upd_same⟩ (fun i σ H1 _ z => SqT.of (z.1 _ _ h4)) ?_ ?_
    · rintro i y σ H1 hi ⟨sm, L, v, rfl, hL⟩
      obtain ⟨b, hb, rfl⟩ := nV_get hi
      refine ⟨_, rfl, _, rfl, t1, _, _, _, rfl, rfl, SqT.of (sm _ _ h1), rfl, m1, rfl, ⟨_, SqT.of (sm _ _ h2)⟩, fun D hD => ?_⟩
      refine lc_tup (K := K) (a := m1) (xs := nV A1) (fun j H2 => Same H1 H2 ∧ H2 D = some (.lst (nV ((A1.take j).map (· + N1 * b))))) ⟨same_upd (.refl _) hD, upd_same⟩ (fun j H2 _ z => SqT.of (z.1 _ _ (sm _ _ h2))) ?_ ?_
      · rintro j y H2 hj ⟨sm2, hD2⟩
        obtain ⟨a, ha, rfl⟩ := nV_get hj
        have hlA : A1.length ≤ 5000 := by
          have := List.length_pos_iff.mpr C2.ne
          exact Nat.le_trans (Nat.le_mul_of_pos_right _ this) hl
        refine ⟨rfl, ?_⟩
        refine ⟨_, rfl, _, rfl, t1, _, _, _, rfl, rfl, SqT.of (sm2 _ _ (sm _ _ h1)), rfl, _, rfl, _, _, rfl, rfl, .inl ⟨by omega, by omega⟩, _, _, rfl, rfl, _, hD2, ?_, same_upd sm2 hD, ?_⟩
        · rw [nV_len, List.length_map, List.length_take]
          exact small1000' (by omega)
        · rw [upd_same, ← nV_take (· + N1 * b) ha]
          push_cast
          rfl
      · rintro H2 ⟨sm2, hD2⟩
        rw [nV_len, List.take_length] at hD2
        have hb2 : b ∈ A2 := List.mem_of_getElem? hb
        refine ⟨L, D, _, _, rfl, rfl, sm2 _ _ hL, hD2, ?_, fun p hp => ?_⟩
        · have hj := join_sub N1 A1 A2 (i + 1)
          rw [join_take hb, List.length_append, List.length_map] at hj
          rw [nV_len, nV_len, List.length_map]
          exact Nat.le_of_lt (small1000' (by omega))
        · refine ⟨(sm.trans sm2).trans (same_upd (.refl _) hp), p, _, rfl, ?_⟩
          rw [upd_same, join_take hb]
          unfold nV
          rw [List.map_append]
    · rintro σ H1 ⟨sm, L, v, rfl, hL⟩
      rw [nV_len, List.take_length] at hL
      have asc : (joinA N1 A1 A2).Pairwise (· < ·) := join_asc C1.asc C1.lt C2.asc
      have hL' : H1 L = some (.lst (((joinA N1 A1 A2).map fun n : Nat => (n : Int)).map V.int)) := by rw [List.map_map]; exact hL
      refine ⟨_, rfl, t1, _, _, _, rfl, rfl, SqT.of (sm _ _ h1), rfl, _, rfl, t2, _, _, _, rfl, rfl, SqT.of (sm _ _ h3), rfl, _, _, rfl, rfl, .inl ⟨by omega, by omega⟩, _, rfl, L, _, rfl, SqL.of hL', fun ns' p perm rise hp => ?_⟩
      have en : ns' = (joinA N1 A1 A2).map fun n : Nat => (n : Int) := asc_perm perm rise (List.pairwise_map.mpr (asc.imp fun h => by omega))
      subst en
      have s1 := same_upd (u := .lst (((joinA N1 A1 A2).map fun n : Nat => (n : Int)).map V.int)) sm (sm.free hp)
      refine ⟨p, _, rfl, .inl ⟨SqL.of upd_same, fun l hl => ?_⟩⟩
      have s2 := same_upd (u := .tup (((joinA N1 A1 A2).map fun n : Nat => (n : Int)).map V.int)) s1 (s1.free hl)
      refine ⟨by show 2 ≤ sizeLine; decide, fun t ht => ?_⟩
      refine k t _ (same_upd s2 (s2.free ht)) ⟨l, ?_, ?_⟩
      · rw [upd_same]
        push_cast
        rfl
      · rw [upd_ne (ne_of_none upd_same ht), upd_same, List.map_map]
        rfl
end
end Tf

/-! ## TfLaw3 -/
set_option Elab.async false
set_option linter.all false
set_option maxRecDepth 100000
set_option maxHeartbeats 4000000
/-! _law_random_cell. -/
namespace Tf
open PySem PySem.Spec PyProof.Rows L2
theorem StAt.dk {H : Hp} {d : Addr} {m : Nat} (x : StAt H d m) : ∃ kvs, H d = some (.dK kvs) := let ⟨l, _, a, f, h, _⟩ := x; ⟨_, h⟩
theorem PrT.sam {H H' : Hp} {d t : Addr} {N : Nat} {A : List Nat} {kvs : List (Key × V)} (x : PrT H t N A) (hd : H d = some (.dK kvs)) (sb : SamB d H H') : PrT H' t N A := by
  obtain ⟨m, h1, h2⟩ := x
  have n : ∀ {b : Addr} {xs : List V}, H b = some (.tup xs) → b ≠ d := fun e z => by subst z; rw [hd] at e; cases e
  exact ⟨m, sb _ _ h1 (n h1), sb _ _ h2 (n h2)⟩
/-- a cell of the law's -/
structure GoodC (N : Nat) (A : List Nat) : Prop where
  ok : CellOk N A
  le : N ≤ 300
  len : A.length ^ 3 ≤ N ^ 2
theorem small_good : ∀ q ∈ smalls, GoodC q.1 q.2 := fun q hq => ⟨small_ok q hq, by
  have h : ∀ q ∈ smalls, q.1 ≤ 300 := by decide
  exact h q hq, by
  have h : ∀ q ∈ smalls, q.2.length ^ 3 ≤ q.1 ^ 2 := by decide
  exact h q hq⟩
theorem GoodC.join {N1 N2 : Nat} {A1 A2 : List Nat} (h1 : GoodC N1 A1) (h2 : GoodC N2 A2) (h : N1 * N2 ≤ 300) : GoodC (N1 * N2) (joinA N1 A1 A2) := by
  refine ⟨join_ok h1.ok h2.ok, h, ?_⟩
  rw [join_len, Nat.mul_pow, Nat.mul_pow]
  exact Nat.mul_le_mul h1.len h2.len
theorem GoodC.small {N : Nat} {A : List Nat} (h : GoodC N A) : A.length ≤ 44 := by
  have h1 := h.len
  have h2 : N ^ 2 ≤ 300 ^ 2 := Nat.pow_le_pow_left h.le 2
  by_cases z : A.length ≤ 44
  · exact z
  · have h3 : 45 ^ 3 ≤ A.length ^ 3 := Nat.pow_le_pow_left (by omega) 3
    omega
def SmallsAt (H : Hp) (L : Addr) : Prop := ∃ ts : List Addr, H L = some (.lst (ts.map V.ref)) ∧ ts.length = 6 ∧ ∀ t ∈ ts, ∃ q ∈ smalls, PrT H t q.1 q.2
theorem SmallsAt.sam {H H' : Hp} {d L : Addr} {kvs : List (Key × V)} (x : SmallsAt H L) (hd : H d = some (.dK kvs)) (sb : SamB d H H') : SmallsAt H' L := by
  obtain ⟨ts, h1, h2, h3⟩ := x
  refine ⟨ts, sb _ _ h1 (fun z => by subst z; rw [hd] at h1; cases h1), h2, fun t ht => ?_⟩
  obtain ⟨q, hq, p⟩ := h3 t ht
  exact ⟨q, hq, p.sam hd sb⟩
theorem SmallsAt.mono {H H' : Hp} {L : Addr} (x : SmallsAt H L) (sm : Same H H') : SmallsAt H' L := by
  obtain ⟨ts, h1, h2, h3⟩ := x
  refine ⟨ts, sm _ _ h1, h2, fun t ht => ?_⟩
  obtain ⟨q, hq, p⟩ := h3 t ht
  exact ⟨q, hq, p.mono sm⟩
theorem rd_pair {σ : L2.St} {H : Hp} {N : Nat} {A : List Nat} {Q : List V → Hp → Prop} {tI tr : TA} (hA : A.length ≤ 100) (hI : ∀ Q' : List V → Hp → Prop, Q' (nV A) H → tI σ H Q') (k : ∀ t H', Same H H' → PrT H' t N A → tr σ H' fun xs H2 => Q (.ref t :: xs) H2) :
    tCons (tTup (tCons (tC (.int (N : Nat))) (tCons (tTup tI) tNil))) tr σ H Q := by
  refine hI _ ⟨by rw [nV_len]; exact Nat.le_of_lt (small1000' (by omega)), fun m hm => ⟨by show 2 ≤ sizeLine; decide, fun t ht => ?_⟩⟩
  have s1 := same_upd (u := .tup (nV A)) (.refl H) hm
  refine k t _ (same_upd s1 (s1.free ht)) ⟨m, upd_same, ?_⟩
  rw [upd_ne (ne_of_none upd_same ht), upd_same]
theorem rd_set {t : TA} {g : TG} {u : TS} {D : Ends} {σ : L2.St} {H : Hp} (h : t σ H fun xs H1 => (xs.length ≤ sizeLine ∧ ∀ p, H1 p = none → g (.ref p) σ (upd H1 p (.lst xs)) fun σ2 H2 => u D σ2 H2)) : tSeq (tAsg (tLst t) g) u D σ H := h
def spRandom : Sp := fun vs H Q _ => ∃ (d : Addr) (m : Nat), vs = [.ref d, .int 300] ∧ StAt H d m ∧ m ≤ 900000 ∧ ∀ t N A H', PrT H' t N A → GoodC N A → StAt H' d (m + 5) → SamB d H H' → Q (.ref t) H'
section
variable {P : Program} {w : World} {K : PySem.W.Frag} {mg : Str → Option Value} {base : Heap} {f : Addr} {fd : FuncData}
theorem scRandom : FnScope ["_law_stream", "_law_most", "_law_small", "_law_found", "_law_k", "_law_other"] ["_law_stream", "_law_most"] (defScope tRandom) := ⟨rfl, rfl, rfl, by decide +kernel, rfl, by decide +kernel, by decide +kernel⟩
theorem ok_random (F : Fun K "_law_random_cell" "_law_random_cell" tRandom f fd) (B : Blt mg) (G : Fn P w K mg base "_law_next" 1 ["_law_stream", "_law_count"] [] spNext) (GJ : Fn P w K mg base "_law_joined" 1 ["_law_first", "_law_second"] [] spJoined) : FnOk P w K mg base CX0 2 f fd ["_law_stream", "_law_most"] spRandom := by
  refine F.ok scRandom (fun vs H Q E h => ?_) (fun cdv Ar outer s H vs Q E hr h => ?_)
  · obtain ⟨d, m, rfl, _⟩ := h; rfl
  · obtain ⟨d, m, rfl, S, hm, k⟩ := h
    have nd := scRandom.nd
    refine ⟨_, pss_cons (ps_set (i := 2) nd rfl (.inl rfl) (pe_lst (pa_cons (pe_tup (pa_cons pe_int (pa_cons (pe_tup (pa_cons pe_int (pa_cons pe_int pa_nil))) pa_nil)))
        (pa_cons (pe_tup (pa_cons pe_int (pa_cons (pe_tup (pa_cons pe_int (pa_cons pe_int pa_nil))) pa_nil)))
        (pa_cons (pe_tup (pa_cons pe_int (pa_cons (pe_tup (pa_cons pe_int (pa_cons pe_int pa_nil))) pa_nil)))
        (pa_cons (pe_tup (pa_cons pe_int (pa_cons (pe_tup (pa_cons pe_int (pa_cons pe_int (pa_cons pe_int (pa_cons pe_int pa_nil))))) pa_nil)))
        (pa_cons (pe_tup (pa_cons pe_int (pa_cons (pe_tup (pa_cons pe_int (pa_cons pe_int (pa_cons pe_int (pa_cons pe_int pa_nil))))) pa_nil)))
        (pa_cons (pe_tup (pa_cons pe_int (pa_cons (pe_tup (pa_cons pe_int pa_nil)) pa_nil))) pa_nil))))))))
      (pss_cons (ps_set (i := 3) nd rfl (.inl rfl) (pe_ix ix_list (pv 2) (pe_fn G hr (by rfl) (pa_cons (pv 0) (pa_cons pe_int pa_nil))) (fun _ _ => rfl)))
      (pss_cons (ps_for PassesOwn.never rfl (pi_range1 (by rfl) B.range (pa_cons (pe_fn G hr (by rfl) (pa_cons (pv 0) (pa_cons pe_int pa_nil))) pa_nil)) (pg_name (i := 4) nd rfl (.inl rfl))
        (pss_cons (ps_set (i := 5) nd rfl (.inl rfl) (pe_ix ix_list (pv 2) (pe_fn G hr (by rfl) (pa_cons (pv 0) (pa_cons pe_int pa_nil))) (fun _ _ => rfl)))
        (pss_one (ps_if (pt_cmpR op_le (pe_op op_mul (pe_ix ix_tup (pv 3) pe_int (fun _ _ => rfl)) (pe_ix ix_tup (pv 5) pe_int (fun _ _ => rfl))) (pv 1) (nomark _))
          (pss_one (ps_set (i := 3) nd rfl (.inl rfl) (pe_fn GJ hr (by rfl) (pa_cons (pv 3) (pa_cons (pv 5) pa_nil))))) pss_nil))))
      (pss_one (ps_ret (pv 3))))), ?_⟩
    refine rd_set ?_
    refine rd_pair (N := 3) (A := [0, 1]) (by decide) (by intro _ q; exact q) fun t1 H1 s1 p1 => ?_
    refine rd_pair (N := 3) (A := [1, 2]) (by decide) (by intro _ q; exact q) fun t2 H2 s2 p2 => ?_
    refine rd_pair (N := 3) (A := [0, 2]) (by decide) (by intro _ q; exact q) fun t3 H3 s3 p3 => ?_
    refine rd_pair (N := 10) (A := [0, 1, 7, 8]) (by decide) (by intro _ q; exact q) fun t4 H4 s4 p4 => ?_
    refine rd_pair (N := 9) (A := [0, 3, 4, 7]) (by decide) (by intro _ q; exact q) fun t5 H5 s5 p5 => ?_
    refine rd_pair (N := 1) (A := [0]) (by decide) (by intro _ q; exact q) fun t6 H6 s6 p6 => ?_
    refine ⟨by show 6 ≤ sizeLine; decide, fun L hL => ?_⟩
    have sAll : Same H H6 := s1.trans (s2.trans (s3.trans (s4.trans (s5.trans s6))))
    have q1 := p1.mono (s2.trans (s3.trans (s4.trans (s5.trans s6))))
    have q2 := p2.mono (s3.trans (s4.trans (s5.trans s6)))
    have q3 := p3.mono (s4.trans (s5.trans s6))
    have q4 := p4.mono (s5.trans s6)
    have q5 := p5.mono s6
    have sL : Same H6 (upd H6 L (.lst [.ref t1, .ref t2, .ref t3, .ref t4, .ref t5, .ref t6])) := same_upd (.refl _) hL
    have SM : SmallsAt (upd H6 L (.lst [.ref t1, .ref t2, .ref t3, .ref t4, .ref t5, .ref t6])) L := by
      refine ⟨[t1, t2, t3, t4, t5, t6], upd_same, rfl, fun t ht => ?_⟩
      simp only [List.mem_cons, List.not_mem_nil, or_false] at ht
      rcases ht with e | e | e | e | e | e <;> subst e
      · exact ⟨(3, [0, 1]), by decide, q1.mono sL⟩
      · exact ⟨(3, [1, 2]), by decide, q2.mono sL⟩
      · exact ⟨(3, [0, 2]), by decide, q3.mono sL⟩
      · exact ⟨(10, [0, 1, 7, 8]), by decide, q4.mono sL⟩
      · exact ⟨(9, [0, 3, 4, 7]), by decide, q5.mono sL⟩
      · exact ⟨(1, [0]), by decide, p6.mono sL⟩
    have SS := S.mono (n := m) (sAll.trans sL) (Nat.le_refl _)
    have sb0 : SamB d H _ := Same.samB (sAll.trans sL)
    generalize upd H6 L (.lst [.ref t1, .ref t2, .ref t3, .ref t4, .ref t5, .ref t6]) = H0 at SM SS sb0
    -- one draw of the six
    have draw : ∀ {Hx : Hp} {mm : Nat} {σ : L2.St} {R : VK}, SmallsAt Hx L → StAt Hx d mm → mm ≤ 900010 → (∀ t q H', q ∈ smalls → PrT H' t q.1 q.2 → SmallsAt H' L → StAt H' d (mm + 1) → SamB d Hx H' → R (.ref t) H') →
        ∃ (d' : Addr) (m' c' : Nat), ([V.ref d, V.int 6] : List V) = [.ref d', .int (c' : Nat)] ∧ StAt Hx d' m' ∧ m' ≤ 1000000 ∧ 0 < c' ∧ c' < 2 ^ 30 ∧ ∀ r H', r < c' → StAt H' d' (m' + 1) → SamB d' Hx H' → (rIxL K) (.ref L) (.int (r : Nat)) H' R := by
      intro Hx mm σ R SMx Sx hmm kx
      obtain ⟨kvs, hdk⟩ := Sx.dk
      refine ⟨d, mm, 6, rfl, Sx, by omega, by decide, by decide, fun r H' hr' S' sb' => ?_⟩
      have SM' := SMx.sam hdk sb'
      obtain ⟨ts, e1, e2, e3⟩ := id SM'
      obtain ⟨t, ht⟩ : ∃ t, ts[r]? = some t := ⟨_, List.getElem?_eq_getElem (by omega : r < ts.length)⟩
      obtain ⟨q, hq, pq⟩ := e3 t (List.mem_of_getElem? ht)
      refine ⟨L, _, _, .ref t, rfl, rfl, SqL.of e1, atI_nat (by rw [List.getElem?_map, ht]; rfl), kx t q H' hq pq SM' S' sb'⟩
    refine ⟨_, rfl, _, rfl, draw (σ := []) SM SS (by omega) fun tf q H1 hq pq SM1 S1 sb1 => ?_⟩
    refine ⟨_, rfl, d, m + 1, 4, rfl, S1, by omega, by decide, by decide, fun r H2 hr4 S2 sb2 => ?_⟩
    obtain ⟨kvs, hdk⟩ := S1.dk
    refine ⟨_, rfl, by omega, by omega, ?_⟩
    rw [Int.toNat_natCast]
    refine for_range (lo := 0) (n := r) (fun i σ H3 => ∃ (t : Addr) (N : Nat) (A : List Nat) (v4 v5 : Option V), σ = [some (.ref d), some (.int 300), some (.ref L), some (.ref t), v4, v5] ∧ PrT H3 t N A ∧ GoodC N A ∧ SmallsAt H3 L ∧ StAt H3 d (m + 2 + i) ∧ SamB d H H3) ⟨tf, q.1, q.2, none, none, rfl, pq.sam hdk sb2, small_good q hq, SM1.sam hdk sb2, S2, (sb0.trans sb1).trans sb2⟩ ?_ ?_
    · rintro i σ H3 hi ⟨t, N, A, v4, v5, rfl, pA, gA, SM3, S3, sb3⟩
      obtain ⟨kvs3, hdk3⟩ := S3.dk
      refine ⟨_, rfl, _, rfl, draw (σ := []) SM3 S3 (by omega) fun to qo H4 hqo po SM4 S4 sb4 => ?_⟩
      have pA4 := pA.sam hdk3 sb4
      obtain ⟨mA, g1, g2⟩ := id pA4
      obtain ⟨mB, g3, g4⟩ := id po
      have go := small_good qo hqo
      have hNle := gA.le
      have hNle2 := go.le
      refine ⟨_, rfl, t, _, _, _, rfl, rfl, SqT.of g1, rfl, _, rfl, to, _, _, _, rfl, rfl, SqT.of g3, rfl, _, _, rfl, rfl, .inl ⟨by omega, by omega⟩, _, rfl, _, _, rfl, rfl, _, rfl, ?_⟩
      have S4' : StAt H4 d (m + 2 + (i + 1)) := S4
      refine ite2 (fun hp => ?_) (fun hn => ?_)
      · have hle : N * qo.1 ≤ 300 := by
          have := of_decide_eq_true hp
          have e : ((N * qo.1 : Nat) : Int) = (N : Int) * (qo.1 : Int) := by push_cast; rfl
          omega
        have l1 := gA.small
        have l2 := go.small
        have l3 : A.length * qo.2.length ≤ 44 * 44 := Nat.mul_le_mul l1 l2
        refine ⟨_, rfl, _, rfl, t, to, N, qo.1, A, qo.2, rfl, pA4, po, gA.ok, go.ok, by omega, by omega, fun t' H5 sm5 p5 => ?_⟩
        exact ⟨t', N * qo.1, joinA N A qo.2, _, _, rfl, p5, gA.join go hle, SM4.mono sm5, S4'.mono sm5 (Nat.le_refl _), (sb3.trans sb4).same sm5⟩
      · exact ⟨t, N, A, _, _, rfl, pA4, gA, SM4, S4', sb3.trans sb4⟩
    · rintro σ H3 ⟨t, N, A, v4, v5, rfl, pA, gA, SM3, S3, sb3⟩
      exact ⟨_, rfl, k t N A H3 pA gA (S3.mono (.refl _) (by omega)) sb3⟩
end
end Tf

/-! ## TfLaw4 -/
set_option Elab.async false
set_option linter.all false
set_option maxRecDepth 100000
set_option maxHeartbeats 4000000
/-! _law_streams. -/
namespace Tf
open PySem PySem.Spec PyProof.Rows L2
/-- the reading of a for over enumerate(a list) -/
theorem for_enumL {K : PySem.W.Frag} {a : Addr} {xs : List V} {g : TG} {tb : TS} {D : Ends} {σ : L2.St} {H : Hp} (Pv : Nat → L2.St → Hp → Prop) (h0 : Pv 0 σ H) (hl : ∀ i σ H, i ≤ xs.length → Pv i σ H → SqL K H a xs)
    (hs : ∀ i x T σ H, xs[i]? = some x → Pv i σ H → H T = none → g (.ref T) σ (upd H T (.tup [.int (i : Nat), x])) fun σ2 H2 => tb { D with nx := Pv (i + 1), ct := Pv (i + 1), bk := D.nx } σ2 H2) (hd : ∀ σ H, Pv xs.length σ H → D.nx σ H) :
    ∃ W : Nat → Nat → L2.St → Hp → Prop, (∃ m, W 0 m σ H) ∧ ∀ i m σ H, W i m σ H →
      ((Ite K a).stop i H ∧ D.nx σ H) ∨ ((Ite K a).go i H ∧ ∃ N : L2.St → Hp → Prop, (∀ σ' H', N σ' H' → ∃ m', m' < m ∧ W (i + 1) m' σ' H') ∧ ∀ x H', (Ite K a).yld i H x H' → g x σ H' fun σ2 H2 => tb { D with nx := N, ct := N, bk := D.nx } σ2 H2) := by
  refine ⟨fun i m σ H => m = xs.length - i ∧ i ≤ xs.length ∧ Pv i σ H, ⟨xs.length, by simp, Nat.zero_le _, h0⟩, ?_⟩
  rintro i m σ H ⟨rfl, hi, p⟩
  have q := hl i σ H hi p
  by_cases hlt : i < xs.length
  · refine .inr ⟨⟨xs, xs[i], q, by simp [hlt]⟩, Pv (i + 1), fun σ' H' p' => ⟨xs.length - (i + 1), by omega, rfl, hlt, p'⟩, fun x H' y => ?_⟩
    obtain ⟨T, z, rfl, hT, rfl, hz⟩ := y
    exact hs i z T σ H (hz _ q) p hT
  · have e : i = xs.length := by omega
    subst e
    exact .inl ⟨⟨xs, q, Nat.le_refl _⟩, hd σ H p⟩
theorem dp_ints (K : PySem.W.Frag) (H : Hp) : ∀ ns : List Int, DpAll K H (ns.map V.int) (ns.map PyData.int)
  | [] => .nil
  | n :: r => .cons (.int n) (dp_ints K H r)
theorem lay_ints : ∀ ns : List Int, PyData.canLayAll0 (ns.map PyData.int) = true
  | [] => rfl
  | n :: r => by
    have h := lay_ints r
    show (PyData.canLay0 (.int n) && PyData.canLayAll0 (r.map PyData.int)) = true
    rw [h]; rfl
theorem dep_ints : ∀ ns : List Int, PyData.depthAll (ns.map PyData.int) ≤ 1
  | [] => by simp [PyData.depthAll]
  | n :: r => by
    have h := dep_ints r
    simp only [List.map_cons, PyData.depthAll, PyData.depth]
    omega
theorem shaped_ints (ns : List Int) : SeqAt.shaped (.list (ns.map PyData.int)) = true := by
  unfold SeqAt.shaped
  rw [Bool.and_eq_true]
  refine ⟨lay_ints ns, decide_eq_true ?_⟩
  have := dep_ints ns
  simp only [PyData.depth]
  omega
theorem eqv_nil (ns : List Int) : PyData.eqv (.list (ns.map PyData.int)) (.list []) = decide (ns = []) := by
  cases ns with
  | nil => rfl
  | cons n r => rfl
theorem cut_ints (ns : List Int) (lo hi : Option Int) : ∃ ns' : List Int, cutV (ns.map V.int) lo hi = ns'.map V.int := ⟨_, by unfold cutV; rw [List.length_map, ← List.map_drop, ← List.map_take]⟩
theorem cut_from_len (xs : List V) (k : Nat) : (cutV xs (some (k : Int)) none).length = xs.length - k := by
  unfold cutV
  rw [HT.sIx_none, HT.sIx_nat, List.length_take, List.length_drop]
  omega
theorem cut_to_len (xs : List V) (k : Nat) : (cutV xs none (some (k : Int))).length = min k xs.length := by
  unfold cutV
  rw [HT.sIx_none, HT.sIx_nat, List.length_take, List.length_drop]
  omega
theorem StAt.other {H : Hp} {d Lf : Addr} {m : Nat} {ds : List Addr} {u : HO} (x : StAt H d m) (h : H Lf = some (.lst (ds.map V.ref))) : StAt (upd H Lf u) d m := by
  obtain ⟨l, ns, a, f, h1, h2, h3, h4⟩ := x
  refine ⟨l, ns, a, f, ?_, ?_, h3, h4⟩
  · rw [upd_ne (fun z => by subst z; rw [h] at h1; cases h1)]; exact h1
  · rw [upd_ne (fun z => ?_)]
    · exact h2
    · subst z
      rw [h] at h2
      have e : ds.map V.ref = ns.map V.int := by injection h2 with h2; injection h2
      cases ns with
      | nil => exact h3 rfl
      | cons n r =>
        cases ds with
        | nil => cases e
        | cons d r => injection e with e1; cases e1
theorem stK_merge (l : Addr) (a f : Int) : mergeK [] (stK l a f) = stK l a f := by
  simp [mergeK, putK, stK, k12, k13, k23]
def spStreams (K : PySem.W.Frag) : Sp := fun vs H Q _ => ∃ (a : Addr) (ns : List Int), vs = [.ref a] ∧ SqL K H a (ns.map V.int) ∧ ns.length ≤ 63 ∧ ∀ (L : Addr) (ds : List Addr) H', Same H H' → H' L = some (.lst (ds.map V.ref)) → ds.length ≤ 6 → ds.Nodup → (∀ d ∈ ds, StAt H' d 1000) → Q (.ref L) H'
/-- a value that comes one of two ways -/
theorem two_ways {c : Bool} {tA tB : VK → Prop} {Q : VK} (Pd : V → Hp → Prop) (hQ : ∀ v H1, Pd v H1 → Q v H1) (hA : c = true → ∀ Q' : VK, (∀ v H1, Pd v H1 → Q' v H1) → tA Q') (hB : c = false → ∀ Q' : VK, (∀ v H1, Pd v H1 → Q' v H1) → tB Q') :
    if c = true then tA Q else tB Q := by
  cases c with
  | true => rw [if_pos rfl]; exact hA rfl Q hQ
  | false => rw [if_neg Bool.false_ne_true]; exact hB rfl Q hQ
theorem sqL_same {K : PySem.W.Frag} {H H' : Hp} {a : Addr} {xs : List V} (h : SqL K H a xs) (sm : Same H H') : SqL K H' a xs := by
  rcases h with h | h
  · rcases h with h | ⟨o, h⟩
    · exact .inl (.inl (sm _ _ h))
    · exact .inl (.inr ⟨o, sm _ _ h⟩)
  · exact .inr h
section
variable {P : Program} {w : World} {K : PySem.W.Frag} {mg : Str → Option Value} {base : Heap} {f : Addr} {fd : FuncData}
theorem scStreams : FnScope ["_law_script", "_law_cells", "_law_found", "_law_k", "_law_own_cell"] ["_law_script"] (defScope tStreams) := ⟨rfl, rfl, rfl, by decide +kernel, rfl, by decide +kernel, by decide +kernel⟩
theorem ok_streams (F : Fun K "_law_streams" "_law_streams" tStreams f fd) (B : Blt mg) : FnOk P w K mg base CX0 1 f fd ["_law_script"] (spStreams K) := by
  refine F.ok scStreams (fun vs H Q E h => ?_) (fun cdv Ar outer s H vs Q E hr h => ?_)
  · obtain ⟨a, ns, rfl, _⟩ := h; rfl
  · obtain ⟨a, ns, rfl, hS, hn63, k⟩ := h
    have nd := scStreams.nd
    have hu := hu_of hr
    have hun : (Ar.deeper (envOfC "_law_streams" (defScope tStreams) s.heap.objs.size f cdv)).units + 64 < cLine := by have := hr.un; omega
    refine ⟨_, pss_cons (ps_set (i := 1) nd rfl (.inl rfl) (pe_ifExp (pt_cmpR (op_neD hun) (pv 0) (pe_lst pa_nil) (nomark _)) (pe_callTy call_list_of (by rfl) B.list PyProof.Rows.boot_list (pa_cons (pv 0) pa_nil)) (pe_lst (pa_cons pe_int pa_nil))))
      (pss_cons (ps_set (i := 2) nd rfl (.inl rfl) (pe_lst pa_nil))
      (pss_cons (ps_for PassesOwn.never rfl (pi_enum (by rfl) B.enumerate (pa_cons (pe_slice sl_list (pv 1) po_none (po_some pe_int)) pa_nil)) (pg_tup (by rfl) (pgs_cons (pg_name (i := 3) nd rfl (.inl rfl)) (pgs_cons (pg_name (i := 4) nd rfl (.inl rfl)) pgs_nil)))
        (pss_one (ps_expr (pe_bm PySem.F.plainAttrs_list PySem.F.slot_list_append PySem.F.type_list_append mt_append (pv 2) (pa_cons
          (pe_disp (pps_cons pe_str (pe_op op_cat (pe_slice sl_list (pv 1) (po_some (pv 3)) po_none) (pe_slice sl_list (pv 1) po_none (po_some (pv 3))))
            (pps_cons pe_str (pe_op op_mul pe_int (pv 3))
            (pps_cons pe_str (pe_ifExp (pt_cmpR op_ge (pv 4) (pe_op op_pow pe_int pe_int) (nomark _)) (pv 4) pe_int) pps_nil))) (by rfl) (by rfl) (fun z => by cases z) (by decide)) pa_nil)))))
      (pss_one (ps_ret (pv 2))))), ?_⟩
    refine ⟨_, rfl, Nat.zero_le _, fun L0 hL0 => ?_⟩
    have s0 : Same H (upd H L0 (.lst [])) := same_upd (.refl _) hL0
    refine ⟨_, _, .lst (sqL_same hS s0) (dp_ints K _ ns), .lst (SqL.of upd_same) .nil, shaped_ints ns, by decide, _, rfl, ?_⟩
    refine two_ways (fun v H1 => ∃ (lc : Addr) (ns' : List Int), v = .ref lc ∧ Same H H1 ∧ H1 lc = some (.lst (ns'.map V.int)) ∧ ns' ≠ [] ∧ ns'.length ≤ 63) (fun v H1 ⟨lc, ns', ev, sm1, hlc, hne, hn63'⟩ => ?_) (fun hc Q' q => ?_) (fun hc Q' q => ?_)
    · subst ev
      refine ⟨Nat.zero_le _, fun Lf hLf => ?_⟩
      have s2 := same_upd (u := .lst []) sm1 (sm1.free hLf)
      have hlc2 : (upd H1 Lf (.lst [])) lc = some (.lst (ns'.map V.int)) := by rw [upd_ne (ne_of_none hlc hLf)]; exact hlc
      refine ⟨_, rfl, 6, rfl, lc, _, rfl, SqL.of hlc2, fun p6 hp6 => ⟨p6, _, rfl, SqL.of upd_same, ?_⟩⟩
      have s3 := same_upd (u := .lst (cutV (ns'.map V.int) none (some 6))) s2 (s2.free hp6)
      have hlc3 : (upd (upd H1 Lf (.lst [])) p6 (.lst (cutV (ns'.map V.int) none (some 6)))) lc = some (.lst (ns'.map V.int)) := by rw [upd_ne (ne_of_none hlc2 hp6)]; exact hlc2
      have hLf3 : (upd (upd H1 Lf (.lst [])) p6 (.lst (cutV (ns'.map V.int) none (some 6)))) Lf = some (.lst []) := by rw [upd_ne (ne_of_none upd_same hp6)]; exact upd_same
      have ncf : lc ≠ Lf := ne_of_none hlc hLf
      have npf : p6 ≠ Lf := fun z => by subst z; rw [upd_same] at hp6; cases hp6
      have hnf : H Lf = none := sm1.free hLf
      obtain ⟨n6, e6⟩ := cut_ints ns' none (some 6)
      have l6 : (cutV (ns'.map V.int) none (some 6)).length = min 6 ns'.length := by
        have z := cut_to_len (ns'.map V.int) 6
        rw [List.length_map] at z
        exact z
      refine for_enumL (K := K) (a := p6) (xs := cutV (ns'.map V.int) none (some 6)) (fun i σ H4 => Same H H4 ∧ H4 lc = some (.lst (ns'.map V.int)) ∧ H4 p6 = some (.lst (cutV (ns'.map V.int) none (some 6))) ∧ ∃ (ds : List Addr) (v3 v4 : Option V), σ = [some (.ref a), some (.ref lc), some (.ref Lf), v3, v4] ∧ H4 Lf = some (.lst (ds.map V.ref)) ∧ ds.length = i ∧ ds.Nodup ∧ ∀ d ∈ ds, StAt H4 d 1000)
        ⟨s3, hlc3, upd_same, [], none, none, rfl, hLf3, rfl, List.nodup_nil, fun d hd => no_mem hd⟩ (fun i σ H4 _ z => SqL.of z.2.2.1) ?_ ?_
      · rintro i x T σ H4 hx ⟨sm4, hc4, h64, ds, v3, v4, rfl, hf4, hl4, nd4, st4⟩ hT
        have hi := (List.getElem?_eq_some_iff.mp hx).1
        obtain ⟨y, rfl⟩ : ∃ y, x = V.int y := by
          rw [e6, List.getElem?_map] at hx
          cases h : n6[i]? with
          | none => rw [h] at hx; cases hx
          | some y => rw [h] at hx; exact ⟨y, (Option.some.inj hx).symm⟩
        refine ⟨_, _, rfl, SqT.of upd_same, rfl, _, _, rfl, _, _, rfl, rfl, ?_⟩
        have sT := same_upd (u := .tup [.int (i : Nat), .int y]) (.refl H4) hT
        refine ⟨_, rfl, .inl ⟨rfl, _, SqL.of (sT _ _ hf4)⟩, ?_⟩
        intro d hd
        have sd := same_upd (u := .dK []) sT (sT.free hd)
        refine ⟨_, rfl, _, rfl, _, rfl, lc, _, rfl, SqL.of (sd _ _ hc4), fun q1 hq1 => ?_⟩
        have sq1 := same_upd (u := .lst (cutV (ns'.map V.int) (some (i : Int)) none)) sd (sd.free hq1)
        refine ⟨_, rfl, _, rfl, _, rfl, lc, _, rfl, SqL.of (sq1 _ _ hc4), fun q2 hq2 => ?_⟩
        have sq2 := same_upd (u := .lst (cutV (ns'.map V.int) none (some (i : Int)))) sq1 (sq1.free hq2)
        have hq12 := ne_of_none (upd_same (H := upd (upd H4 T (.tup [.int (i : Nat), .int y])) d (.dK [])) (a := q1) (o := .lst (cutV (ns'.map V.int) (some (i : Int)) none))) hq2
        obtain ⟨m1, em1⟩ := cut_ints ns' (some (i : Int)) none
        obtain ⟨m2, em2⟩ := cut_ints ns' none (some (i : Int))
        have lm1 := cut_from_len (ns'.map V.int) i
        have lm2 := cut_to_len (ns'.map V.int) i
        rw [em1, List.length_map, List.length_map] at lm1
        rw [em2, List.length_map, List.length_map] at lm2
        refine ⟨_, _, _, _, rfl, rfl, (by rw [upd_ne hq12]; exact upd_same), upd_same, ?_, fun q3 hq3 => ?_⟩
        · rw [em1, em2, List.length_map, List.length_map]
          exact Nat.le_of_lt (small1000' (by omega))
        have sq3 := same_upd (u := .lst (cutV (ns'.map V.int) (some (i : Int)) none ++ cutV (ns'.map V.int) none (some (i : Int)))) sq2 (sq2.free hq3)
        have tq1 := same_upd (u := .lst (cutV (ns'.map V.int) (some (i : Int)) none)) (.refl (upd (upd H4 T (.tup [.int (i : Nat), .int y])) d (.dK []))) hq1
        have tq2 := same_upd (u := .lst (cutV (ns'.map V.int) none (some (i : Int)))) tq1 (tq1.free hq2)
        have tq3 := same_upd (u := .lst (cutV (ns'.map V.int) (some (i : Int)) none ++ cutV (ns'.map V.int) none (some (i : Int)))) tq2 (tq2.free hq3)
        have hd5 := tq3 d _ upd_same
        have hq35 : (upd (upd (upd (upd (upd H4 T (.tup [.int (i : Nat), .int y])) d (.dK [])) q1 (.lst (cutV (ns'.map V.int) (some (i : Int)) none))) q2 (.lst (cutV (ns'.map V.int) none (some (i : Int))))) q3 (.lst (cutV (ns'.map V.int) (some (i : Int)) none ++ cutV (ns'.map V.int) none (some (i : Int))))) q3 = some (.lst ((m1 ++ m2).map V.int)) := by rw [upd_same, List.map_append, em1, em2]
        have hdn : H4 d = none := sT.free hd
        obtain ⟨H5, eH5⟩ : ∃ H5 : Hp, H5 = upd (upd (upd (upd (upd H4 T (.tup [.int (i : Nat), .int y])) d (.dK [])) q1 (.lst (cutV (ns'.map V.int) (some (i : Int)) none))) q2 (.lst (cutV (ns'.map V.int) none (some (i : Int))))) q3 (.lst (cutV (ns'.map V.int) (some (i : Int)) none ++ cutV (ns'.map V.int) none (some (i : Int)))) := ⟨_, rfl⟩
        rw [← eH5] at sq3 hd5 hq35 ⊢
        refine ⟨_, rfl, _, _, rfl, rfl, .inl ⟨by decide, by decide⟩, ?_⟩
        refine ⟨_, rfl, _, _, rfl, rfl, ⟨by decide, by decide, by decide⟩, _, _, rfl, rfl, _, rfl, ?_⟩
        refine two_ways (fun v H' => ∃ fz : Int, v = .int fz ∧ H' = H5) (fun v H' ⟨fz, ev, eH⟩ => ?_) (fun hc Q' q => ?_) (fun hc Q' q => ?_)
        · have eH := eH.symm
          subst ev eH
          refine ⟨hd5, stK q3 (89 * (i : Int)) fz, rfl, by show 3 ≤ 15; decide, ?_⟩
          rw [stK_merge]
          have ndf : d ≠ Lf := fun z => by subst z; rw [hdn] at hf4; cases hf4
          have hf5 : (upd H5 d (.dK (stK q3 (89 * (i : Int)) fz))) Lf = some (.lst (ds.map V.ref)) := by rw [upd_ne (Ne.symm ndf)]; exact sq3 _ _ hf4
          have nq3d : q3 ≠ d := fun z => by subst z; rw [hd5] at hq35; cases hq35
          have nq3f : q3 ≠ Lf := fun z => by
            subst z
            have z := sq3 _ _ hf4
            rw [hq35] at z
            have e : (m1 ++ m2).map V.int = ds.map V.ref := by injection z with z; injection z
            have hpos : 0 < (m1 ++ m2).length := by rw [List.length_append]; omega
            cases hm : m1 ++ m2 with
            | nil => rw [hm] at hpos; cases hpos
            | cons n r =>
              rw [hm] at e
              cases ds with
              | nil => cases e
              | cons d r => injection e with e1; cases e1
          have sm5 : Same H4 (upd H5 d (.dK (stK q3 (89 * (i : Int)) fz))) := same_upd sq3 hdn
          have stn : StAt (upd H5 d (.dK (stK q3 (89 * (i : Int)) fz))) d 1000 := by
            refine ⟨q3, m1 ++ m2, 89 * (i : Int), fz, upd_same, by rw [upd_ne nq3d]; exact hq35, fun z => ?_, by omega, by omega⟩
            have hpos : 0 < (m1 ++ m2).length := by rw [List.length_append]; omega
            rw [z] at hpos
            cases hpos
          refine ⟨Lf, _, _, rfl, rfl, hf5, ?_, ?_⟩
          · rw [List.length_map]
            exact small1000' (by omega)
          have smf : Same H (upd (upd H5 d (.dK (stK q3 (89 * (i : Int)) fz))) Lf (.lst (ds.map V.ref ++ [.ref d]))) := same_upd (sm4.trans sm5) hnf
          refine ⟨smf, by rw [upd_ne ncf]; exact sm5 _ _ hc4, by rw [upd_ne npf]; exact sm5 _ _ h64, ds ++ [d], _, _, rfl, by rw [upd_same, List.map_append]; rfl, by rw [List.length_append, hl4]; rfl, ?_, fun d' hd' => ?_⟩
          · refine List.nodup_append.mpr ⟨nd4, by simp, fun x hx y hy => ?_⟩
            have e := List.mem_singleton.mp hy
            subst e
            intro z
            subst z
            obtain ⟨kvs, hk⟩ := (st4 x hx).dk
            rw [hdn] at hk
            cases hk
          · rcases List.mem_append.mp hd' with z | z
            · exact StAt.other ((st4 d' z).mono sm5 (Nat.le_refl _)) hf5
            · have e := List.mem_singleton.mp z
              subst e
              exact StAt.other stn hf5
        · exact ⟨_, rfl, q _ _ ⟨y, rfl, rfl⟩⟩
        · exact q _ _ ⟨0, rfl, rfl⟩
      · rintro σ H4 ⟨sm4, hc4, h64, ds, v3, v4, rfl, hf4, hl4, nd4, st4⟩
        exact ⟨_, rfl, k Lf ds H4 sm4 hf4 (by rw [hl4, l6]; omega) nd4 st4⟩
    · rw [eqv_nil] at hc
      have hne : ns ≠ [] := of_decide_eq_false (by simpa using hc)
      refine ⟨_, rfl, a, _, rfl, .inl (sqL_same hS s0), fun l hl => q _ _ ⟨l, ns, rfl, same_upd s0 (s0.free hl), upd_same, hne, hn63⟩⟩
    · refine ⟨by show 1 ≤ sizeLine; decide, fun l hl => q _ _ ⟨l, [0], rfl, same_upd s0 (s0.free hl), upd_same, by simp, by decide⟩⟩
end
end Tf

/-! ## TfLaw5 -/
set_option Elab.async false
set_option linter.all false
set_option maxRecDepth 100000
set_option maxHeartbeats 4000000
/-! _law_answer, _law_moved. -/
namespace Tf
open PySem PySem.Spec PyProof.Rows L2
/-- a method that may raise -/
def MtX (P : Program) (w : World) (K : PySem.W.Frag) (mg : Str → Option Value) (base : Heap) (C : Addr) (m : Str) (k : Nat) (ps : List Str) (sp : Sp) : Prop :=
  Cls K C ∧ ∃ (f : Addr) (fd : FuncData), Meth K C m f ∧ FnOk P w K mg base (L2.CX P w) k f fd ps sp ∧ Binds K fd ps []
def tMethS (C : Addr) (m : Str) (sp : Sp) (W : WX) (to : TE) (ta : TA) : TE := fun σ H Q => to σ H fun x H1 => ∃ a dx fs, x = .ref a ∧ H1 a = some (.ins C dx fs) ∧ fs.lookup m = none ∧ ta σ H1 fun vs H2 => sp (.ref a :: vs) H2 Q (WE W σ)
theorem pe_mtS {X : Cx} {W : WX} {k : Nat} {C : Addr} {m : Str} {ps : List Str} {sp : Sp} {o e : Expr} {es : List Expr} {to : TE} {ta : TA} {pos apos : Pos} {pl : Sem Bool} (tk : Takes X W) (ho : PE X o to) (F : MtX X.prog X.w X.K X.mg X.base C m k ps sp) (hr : Room k X.A) (ha : PA X (e :: es) ta)
    (hst : starEach (e :: es) X.env = (false, eval e X.env) :: starEach es X.env := by rfl) (hpl : (backTo pos (starEach es X.env)).any (·.1) = false := by rfl)
    (ht : eval (.Call (.Attribute o m apos) (e :: es) [] pos) X.env = (do
      let ov ← eval o X.env
      standAt apos.atName
      let (f, first) ← holding [ov] (getMethod ov m pl)
      callWith pos f first (backTo pos (starEach (e :: es) X.env)) (backToKw pos (keywordEach [] X.env))) := by rfl) :
    PE X (.Call (.Attribute o m apos) (e :: es) [] pos) (tMethS C m sp W to ta) := by
  obtain ⟨c, f, fd, hm, G, hb⟩ := F
  refine ⟨fun pins s σ H Q I h => ?_⟩
  refine PySem.W.methodCall_KW (pl := pl) (thn (ho.run pins s σ H _ I h) fun u s1 ⟨x, H1, I1, rx, a, dx, fs, ex, ea, l, q⟩ => ?_) ht
  subst ex
  obtain rfl : u = Value.ref a := rx
  refine getmeth_ok I1 ea c hm l ?_
  refine PySem.W.callWith_K (first := [.ref a]) (h₀ := X.base) I.ok.mod.kin hm.kp (thn (ha.run pos pins s1 σ H1 _ I1 q) fun us s2 ⟨vs, H2, I2, r, q2⟩ => ⟨I2.kIn, ?_⟩) hst hpl
  exact run_fnSD (us := .ref a :: us) (vs := .ref a :: vs) (ds := []) (dvs := []) (E := WE W) G hr hb .nil (passAt tk σ) I2 (.cons rfl r) (by rw [List.append_nil]; exact q2)
def ansL (N : Nat) (A : List Nat) (sv : Sv) (off x : Nat) : List V :=
  if cntO N A off x = true then [.str "member", .int (x : Nat)] else match fRul N A sv off x with
    | none => [.str "open", .int (x : Nat)]
    | some (a, b) => [.int (a : Nat), .int (b : Nat)]
/-- one of the two classes; the first has no shift -/
def OneOf (R S D : Addr) (off : Nat) : Prop := D = R ∧ off = 0 ∨ D = S
def spAnswer (C R S : Addr) : Sp := fun vs H Q _ => ∃ (q c D : Addr) (N : Nat) (A : List Nat) (sv : Sv) (off x : Nat), vs = [.ref q, .int (x : Nat)] ∧ OneOf R S D off ∧ SqAt C D H q c N A sv off ∧ x < 2 ^ 900 ∧ ∀ t H', Same H H' → H' t = some (.tup (ansL N A sv off x)) → Q (.ref t) H'
structure TwoX (K : PySem.W.Frag) (CM CN : Addr) : Prop where
  mm : PySem.W.exmAny K (.ref CM) [.ref CM, .ref CN] = some true
  nn : PySem.W.exmAny K (.ref CN) [.ref CM, .ref CN] = some true
  mi : PySem.W.kitOne K (.ref CM) (.ref CM) = some true
  ni : PySem.W.kitOne K (.ref CN) (.ref CM) = some false
section
variable {P : Program} {w : World} {K : PySem.W.Frag} {mg : Str → Option Value} {base : Heap} {f C R S CM CN : Addr} {fd : FuncData}
theorem scAnswer : FnScope ["_law_track", "_law_own_x", "_law_caught", "_law_found", "e"] ["_law_track", "_law_own_x"] (defScope tAnswer) := ⟨rfl, rfl, rfl, by decide +kernel, rfl, by decide +kernel, by decide +kernel⟩
theorem ok_answer {j : Nat} (F : Fun K "_law_answer" "_law_answer" tAnswer f fd) (B : Blt mg) (XM : ExcF P w K mg base "IsMember" CM) (XN : ExcF P w K mg base "NotCovered" CN) (TX : TwoX K CM CN) (hj : 1 ≤ j)
    (GR : MtX P w K mg base R "cover" j ["self", "x"] (spCover C R CM CN (· = 0))) (GS : MtX P w K mg base S "cover" j ["self", "x"] (spCover C S CM CN anyO)) : FnOk P w K mg base CX0 (j + 1) f fd ["_law_track", "_law_own_x"] (spAnswer C R S) := by
  refine F.ok scAnswer (fun vs H Q E h => ?_) (fun cdv Ar outer s H vs Q E hr h => ?_)
  · obtain ⟨q, c, D, N, A, sv, off, x, rfl, _⟩ := h; rfl
  · obtain ⟨q, c, D, N, A, sv, off, x, rfl, hD, X, hx, k⟩ := h
    obtain ⟨dx, hq⟩ := X.ob
    have nd := scAnswer.nd
    obtain ⟨Z, hZ, G⟩ : ∃ Z : Nat → Prop, Z off ∧ MtX P w K mg base D "cover" j ["self", "x"] (spCover C D CM CN Z) := by
      rcases hD with ⟨rfl, rfl⟩ | rfl
      · exact ⟨fun o => o = 0, rfl, GR⟩
      · exact ⟨anyO, trivial, GS⟩
    refine ⟨_, pss_cons (ps_asg (pe_tup (pa_cons pe_non (pa_cons pe_non pa_nil))) (pg_tup (by rfl) (pgs_cons (pg_name (i := 2) nd rfl (.inl rfl)) (pgs_cons (pg_name (i := 3) nd rfl (.inl rfl)) pgs_nil))))
      (pss_cons (ps_try_tup (i := 4) rfl rfl nd rfl rfl (by rfl) (by rfl) XM.mgC XN.mgC (fun W pn xe tk _ => pss_one (ps_set (i := 3) nd rfl (.inl rfl) (pe_mtS tk (pv 0) G hr (pa_cons (pv 1) pa_nil)))) (fun a pn => pss_one (ps_set (i := 2) nd rfl (.inl rfl) (pv 4))))
      (pss_cons (ps_if (pt_cmpR op_isN (pv 2) pe_non (nomark _)) (pss_one (ps_ret (pv 3))) pss_nil)
      (pss_one (ps_ret (pe_ifExp (pt_val (pe_callB call_isA (by rfl) B.isinstance PyProof.Rows.boot_isinstance (pa_cons (pv 2) (pa_cons (pe_glob (v := .ref CM) (by rfl) XM.mgC rfl) pa_nil)))) (pe_tup (pa_cons pe_str (pa_cons (pe_xfA (pv 2)) pa_nil))) (pe_tup (pa_cons pe_str (pa_cons (pe_xfA (pv 2)) pa_nil)))))))), ?_⟩
    refine ⟨by show 2 ≤ sizeLine; decide, fun tt htt => ⟨_, _, rfl, SqT.of upd_same, rfl, _, _, rfl, _, _, rfl, rfl, ?_⟩⟩
    have s0 := same_upd (u := .tup [.non, .non]) (.refl H) htt
    -- an exception came: what follows
    have after : ∀ (cls : Addr) (b : Bool) (d : Addr) (H1 : Hp), Same H H1 → True := fun _ _ _ _ _ => trivial
    refine ⟨_, rfl, q, dx, _, rfl, s0 _ _ hq, seqF_no _ _ (by decide +kernel), _, rfl, q, c, N, A, sv, off, x, rfl, X.mono s0, hZ, hx, fun d H1 sm1 ec ed => ?_, fun d H1 sm1 ec er ed => ?_, fun t a b H1 sm1 ec er et => ?_⟩
    · refine ⟨TX.mm, fun ax hax => ?_⟩
      have s1 := same_upd (u := ExA (.ref CM) (some d) ax) (s0.trans sm1) ((s0.trans sm1).free hax)
      have ed1 : (upd H1 ax (ExA (.ref CM) (some d) ax)) d = some (.xd [("given", .int (x : Nat))]) := by rw [upd_ne (ne_of_none ed hax)]; exact ed
      refine ⟨_, rfl, _, rfl, rfl, false, rfl, iteF ?_⟩
      refine ⟨_, rfl, ax, CM, d, _, _, .ref CM, true, rfl, XM.xc, upd_same, ed1, fun u r => r, TX.mi, _, rfl, iteT ?_⟩
      refine ⟨_, rfl, ax, CM, d, _, .int (x : Nat), rfl, XM.xf, XM.no, upd_same, ed1, rfl, by show 2 ≤ sizeLine; decide, fun t ht => ?_⟩
      refine k t _ (same_upd s1 (s1.free ht)) ?_
      rw [upd_same]
      unfold ansL; rw [if_pos ec]
    · refine ⟨TX.nn, fun ax hax => ?_⟩
      have s1 := same_upd (u := ExA (.ref CN) (some d) ax) (s0.trans sm1) ((s0.trans sm1).free hax)
      have ed1 : (upd H1 ax (ExA (.ref CN) (some d) ax)) d = some (.xd [("given", .int (x : Nat))]) := by rw [upd_ne (ne_of_none ed hax)]; exact ed
      refine ⟨_, rfl, _, rfl, rfl, false, rfl, iteF ?_⟩
      refine ⟨_, rfl, ax, CN, d, _, _, .ref CM, false, rfl, XN.xc, upd_same, ed1, fun u r => r, TX.ni, _, rfl, iteF ?_⟩
      refine ⟨_, rfl, ax, CN, d, _, .int (x : Nat), rfl, XN.xf, XN.no, upd_same, ed1, rfl, by show 2 ≤ sizeLine; decide, fun t ht => ?_⟩
      refine k t _ (same_upd s1 (s1.free ht)) ?_
      rw [upd_same]
      unfold ansL; rw [if_neg (by rw [ec]; exact Bool.false_ne_true), er]
    · refine ⟨_, rfl, rfl, true, rfl, iteT ⟨_, rfl, ?_⟩⟩
      refine k t H1 (s0.trans sm1) ?_
      rw [et]
      unfold ansL
      rw [if_neg (by rw [ec]; exact Bool.false_ne_true), er]
end
end Tf

/-! ## TfRules3 -/
set_option Elab.async false
set_option linter.all false
set_option maxRecDepth 100000
set_option maxHeartbeats 4000000
/-! len(o), o.m(k = v), C(k = v); steps of a reading. -/
namespace Tf
open PySem PySem.Spec PyProof.Rows L2
/-- the class at C has its own length -/
structure LenF (P : Program) (w : World) (K : PySem.W.Frag) (mg : Str → Option Value) (base : Heap) (C : Addr) (k : Nat) (sp : Sp) : Prop where
  ok : ∃ (f : Addr) (fd : FuncData), PySem.W.findIn K (.ref C) "__len__" = some (some (.ref f)) ∧ PySem.W.isFn K (.ref f) = true ∧ FnOk P w K mg base CX0 k f fd ["self"] sp ∧ Binds K fd ["self"] []
def rLenO (C : Addr) (sp : Sp) : List V → Hp → VK → Prop := fun xs H Q => ∃ a dx fs, xs = [.ref a] ∧ H a = some (.ins C dx fs) ∧ sp [.ref a] H (fun v H' => ∃ n : Nat, v = .int (n : Nat) ∧ n < 2 ^ 62 ∧ Q (.int (n : Nat)) H') E0
theorem call_lenO {X : Cx} {C : Addr} {k : Nat} {sp : Sp} (F : LenF X.prog X.w X.K X.mg X.base C k sp) (hr : Room (k + 1) X.A) : CallR X (.builtin "len") (rLenO C sp) := by
  intro pins s σ H xs us Q I r h
  obtain ⟨a, dx, fs, rfl, ha, q⟩ := h
  obtain ⟨u, rfl, ru⟩ := vals1 r
  obtain rfl : u = Value.ref a := ru
  obtain ⟨f, fd, hs, hf, G, hb⟩ := F.ok
  obtain ⟨mA, J, _⟩ := ins_get I.hok ha
  obtain ⟨od, J, _⟩ := J.look
  obtain ⟨m, hF⟩ := I.fr
  refine PySem.W.len_K hF I.ok.mod.kin J hs hf ?_
  refine wpAny_mono (run_eq (us := [.ref a]) (vs := [.ref a]) G hr.in1 rfl hb I (.cons rfl .nil) q) (fun v s' z => ?_) fun _ _ z => False.elim z
  obtain ⟨z', H', I', rz, n, rfl, hn, qz⟩ := z
  obtain ⟨t, rfl⟩ := rz
  exact ⟨⟨by omega, by omega⟩, ⟨.int n, H', I'.tok _, ⟨_, rfl⟩, qz⟩⟩
/-- a method of one keyword and itself -/
def MtK (P : Program) (w : World) (K : PySem.W.Frag) (mg : Str → Option Value) (base : Heap) (C : Addr) (m : Str) (k : Nat) (ks : List Str) (sp : Sp) : Prop :=
  Cls K C ∧ ∃ (f : Addr) (fd : FuncData) (ps : List Str), Meth K C m f ∧ FnOk P w K mg base CX0 k f fd ps sp ∧ KBn K fd ps 1 ks (fun us ws => us ++ ws) (fun vs zs => vs ++ zs)
def tMethK (C : Addr) (m : Str) (n : Nat) (sp : Sp) (to : TE) (tk : TA) : TE := fun σ H Q => to σ H fun x H1 => ∃ a dx fs, x = .ref a ∧ H1 a = some (.ins C dx fs) ∧ fs.lookup m = none ∧ tk σ H1 fun zs H2 => zs.length = n ∧ sp (.ref a :: zs) H2 Q E0
section
variable {X : Cx} {C : Addr} {k : Nat} {m x : Str} {ks : List Str} {sp : Sp} {o : Expr} {to : TE} {tk : TA} {p pos apos : Pos} {kws : List Keyword}
theorem pe_mtK {pl : Sem Bool} (ho : PE X o to) (F : MtK X.prog X.w X.K X.mg X.base C m k ks sp) (hr : Room k X.A) (hkw : PK X kws tk)
    (hall : (backToKw pos (keywordEach kws X.env)).all (·.1.isSome) = true := by rfl) (hks : (backToKw pos (keywordEach kws X.env)).filterMap (·.1) = ks := by rfl)
    (hpl : ((backTo pos (starEach [] X.env)).any (·.1) || (backToKw pos (keywordEach kws X.env)).any (·.1.isNone)) = false := by rfl)
    (ht : eval (.Call (.Attribute o m apos) [] kws pos) X.env = (do
      let ov ← eval o X.env
      standAt apos.atName
      let (f, first) ← holding [ov] (getMethod ov m pl)
      callWith pos f first (backTo pos (starEach [] X.env)) (backToKw pos (keywordEach kws X.env))) := by rfl) :
    PE X (.Call (.Attribute o m apos) [] kws pos) (tMethK C m ks.length sp to tk) := by
  obtain ⟨c, f, fd, ps, hm, G, hb⟩ := F
  refine ⟨fun pins s σ H Q I h => ?_⟩
  refine PySem.W.methodCall_KW (pl := pl) (thn (ho.run pins s σ H _ I h) fun u s1 ⟨x, H1, I1, rx, a, dx, fs, ex, ea, l, q⟩ => ?_) ht
  subst ex
  obtain rfl : u = Value.ref a := rx
  refine getmeth_ok I1 ea c hm l ?_
  refine PySem.W.callWith_KW0 (first := [.ref a]) (h₀ := X.base) I.ok.mod.kin hm.kp hall ?_ hpl
  refine thn (hkw.run pos pins s1 σ H1 _ I1 q) fun ws s2 ⟨zs, H2, I2, rz, l2, q2⟩ => ⟨I2.kIn, ?_⟩
  rw [hks]
  exact run_fnN (us := [.ref a]) (vs := [.ref a]) G hr hb pass0 I2 (.cons rfl .nil) rz rfl l2 q2
/-- x(k = v) -/
theorem pe_mkrK {gV : List V → List V → List V} (F : MkrN X.prog X.w X.K X.mg X.base x C k 0 ks gV sp) (hr : Room (k + 1) X.A) (hg : Gl X x) (hkw : PK X kws tk)
    (hall : (backToKw pos (keywordEach kws X.env)).all (·.1.isSome) = true := by rfl) (hks : (backToKw pos (keywordEach kws X.env)).filterMap (·.1) = ks := by rfl) (hdb : (x == ("__debug__" : Str)) = false := by decide)
    (hpl : ((backTo pos (starEach [] X.env)).any (·.1) || (backToKw pos (keywordEach kws X.env)).any (·.1.isNone)) = false := by rfl) : PE X (.Call (.Name x p) [] kws pos) (tMakeK C 0 ks.length sp gV E0 tNil tk) := by
  obtain ⟨f, fd, ps, g, hm, M, G, hb⟩ := F
  exact pe_makeK0 M G hr hg hm hb pass0 hkw hall hks hdb hpl
end
/-! ### steps -/
theorem set_cut {te : TE} {i : Nat} {u : TS} {D : Ends} {σ : L2.St} {H : Hp} (Pd : V → Hp → Prop) (h1 : ∀ Q' : VK, (∀ v H', Pd v H' → Q' v H') → te σ H Q') (h2 : ∀ v H', Pd v H' → u D (σ.set i (some v)) H') : tSeq (tAsg te (gName i)) u D σ H := h1 _ h2
theorem if_no {tt : TT} {t u : TS} {D : Ends} {σ : L2.St} {H : Hp} (h1 : ∀ Q' : Bool → Hp → Prop, (∀ H', Same H H' → Q' false H') → tt σ H Q') (h2 : ∀ H', Same H H' → u D σ H') : tSeq (tIfS tt t L2.tNext) u D σ H :=
  h1 _ fun H' sm => iteF (h2 H' sm)
theorem if_no1 {tt : TT} {t : TS} {D : Ends} {σ : L2.St} {H : Hp} (h1 : ∀ Q' : Bool → Hp → Prop, (∀ H', Same H H' → Q' false H') → tt σ H Q') (h2 : ∀ H', Same H H' → D.nx σ H') : tIfS tt t L2.tNext D σ H :=
  h1 _ fun H' sm => iteF (h2 H' sm)
theorem Fn.up {P : Program} {w : World} {K : PySem.W.Frag} {mg : Str → Option Value} {base : Heap} {x : Str} {k k' : Nat} {ps : List Str} {dv : List V} {sp : Sp} (F : Fn P w K mg base x k ps dv sp) (h : k ≤ k') : Fn P w K mg base x k' ps dv sp :=
  let ⟨f, fd, ds, a, b, G, c⟩ := F; ⟨f, fd, ds, a, b, ⟨G.len, fun A o s H args us vs Q E hr => G.run A o s H args us vs Q E (hr.mono h)⟩, c⟩
theorem Mt.up {P : Program} {w : World} {K : PySem.W.Frag} {mg : Str → Option Value} {base : Heap} {C : Addr} {m : Str} {k k' : Nat} {ps : List Str} {dv : List V} {sp : Sp} (F : Mt P w K mg base C m k ps dv sp) (h : k ≤ k') : Mt P w K mg base C m k' ps dv sp :=
  let ⟨cl, f, fd, ds, a, G, c⟩ := F; ⟨cl, f, fd, ds, a, ⟨G.len, fun A o s H args us vs Q E hr => G.run A o s H args us vs Q E (hr.mono h)⟩, c⟩
theorem MtX.up {P : Program} {w : World} {K : PySem.W.Frag} {mg : Str → Option Value} {base : Heap} {C : Addr} {m : Str} {k k' : Nat} {ps : List Str} {sp : Sp} (F : MtX P w K mg base C m k ps sp) (h : k ≤ k') : MtX P w K mg base C m k' ps sp :=
  let ⟨cl, f, fd, a, G, c⟩ := F; ⟨cl, f, fd, a, ⟨G.len, fun A o s H args us vs Q E hr => G.run A o s H args us vs Q E (hr.mono h)⟩, c⟩
theorem MtK.up {P : Program} {w : World} {K : PySem.W.Frag} {mg : Str → Option Value} {base : Heap} {C : Addr} {m : Str} {k k' : Nat} {ks : List Str} {sp : Sp} (F : MtK P w K mg base C m k ks sp) (h : k ≤ k') : MtK P w K mg base C m k' ks sp :=
  let ⟨cl, f, fd, ps, a, G, c⟩ := F; ⟨cl, f, fd, ps, a, ⟨G.len, fun A o s H args us vs Q E hr => G.run A o s H args us vs Q E (hr.mono h)⟩, c⟩
end Tf

/-! ## TfLaw6 -/
set_option Elab.async false
set_option linter.all false
set_option maxRecDepth 100000
set_option maxHeartbeats 4000000
/-! What the law asks of coverings, in plain numbers; _law_moved. -/
namespace Tf
open PySem PySem.Spec PyProof.Rows L2
/-- the ruling pair rules -/
theorem rul_law {N : Nat} {A : List Nat} {sv : Sv} (C : CellOk N A) (hs : ∀ r < N, r ∉ A → Rules N A r (sv r).1 (sv r).2.1 (sv r).2.2) {x a b : Nat} (h : rulOf N A sv x = some (a, b)) : 2 * b = a + x ∧ a ≤ b := by
  have hN := C.pos
  unfold rulOf at h
  by_cases ht : x < top A
  · rw [if_pos ht] at h
    unfold smallOf at h
    obtain ⟨lo, hf, he⟩ := Option.map_eq_some_iff.mp h
    have hp := List.find?_some hf
    simp only [Bool.and_eq_true, decide_eq_true_eq] at hp
    obtain ⟨⟨h1, h2⟩, h3⟩ := hp
    injection he with e1 e2
    omega
  · rw [if_neg ht] at h
    have dm : N * (x / N) + x % N = x := Nat.div_add_mod x N
    cases hh : A.contains (x % N) with
    | true =>
      rw [hh, if_pos rfl] at h
      injection h with h
      injection h with e1 e2
      have pl := pair_law (x / N)
      have ll := Nat.mul_le_mul_left N (low_le (x / N))
      have pm : N * (2 * upOf (x / N)) = N * (x / N + lowOf (x / N)) := by rw [pl]
      rw [Nat.mul_add, Nat.mul_left_comm] at pm
      omega
    | false =>
      rw [hh, if_neg Bool.false_ne_true] at h
      have hn : x % N ∉ A := fun z => by rw [List.contains_iff_mem.mpr z] at hh; cases hh
      have R := hs (x % N) (Nat.mod_lt _ hN) hn
      have hc : (sv (x % N)).1 ≤ x / N := by
        rcases R.carry C with z | ⟨z, z'⟩
        · rw [z]; exact Nat.zero_le _
        · rw [z]
          refine Nat.div_pos ?_ hN
          by_cases hlt : x < N
          · rw [Nat.mod_eq_of_lt hlt] at z'
            omega
          · omega
      generalize hcc : (sv (x % N)).1 = c at h hc R
      generalize hlo : (sv (x % N)).2.1 = lo at h R
      generalize hmi : (sv (x % N)).2.2 = mi at h R
      injection h with h
      injection h with e1 e2
      have pl := pair_law (x / N - c)
      have ll := Nat.mul_le_mul_left N (low_le (x / N - c))
      have pm : N * (2 * upOf (x / N - c)) = N * (x / N - c + lowOf (x / N - c)) := by rw [pl]
      rw [Nat.mul_add, Nat.mul_left_comm, Nat.mul_sub] at pm
      have hcN : N * c ≤ N * (x / N) := Nat.mul_le_mul_left N hc
      have r1 := R.eq
      have r2 := R.lt
      have r3 : N * c = c * N := Nat.mul_comm ..
      omega
theorem cntO_move (N : Nat) (A : List Nat) (g x : Nat) : cntO N A g (x + g) = cntOf N A x := by
  show (decide (g ≤ x + g) && cntOf N A (x + g - g)) = _
  rw [decide_eq_true (by omega : g ≤ x + g), Nat.add_sub_cancel, Bool.true_and]
theorem fRul_move (N : Nat) (A : List Nat) (sv : Sv) (g x : Nat) : fRul N A sv g (x + g) = (rulOf N A sv x).map fun p => (p.1 + g, p.2 + g) := by
  show (if x + g < g then none else (rulOf N A sv (x + g - g)).map fun p => (p.1 + g, p.2 + g)) = _
  rw [if_neg (by omega), Nat.add_sub_cancel]
theorem cntO_below {N : Nat} {A : List Nat} {g x : Nat} (h : x < g) : cntO N A g x = false := by
  show (decide (g ≤ x) && _) = _
  rw [decide_eq_false (by omega), Bool.false_and]
theorem ans_below {N : Nat} {A : List Nat} {sv : Sv} {g x : Nat} (h : x < g) : ansL N A sv g x = [.str "open", .int (x : Nat)] := by
  unfold ansL
  rw [if_neg (by rw [cntO_below h]; exact Bool.false_ne_true)]
  have e : fRul N A sv g x = none := if_pos h
  rw [e]
/-- an answer and the same answer moved -/
inductive Ans (N : Nat) (A : List Nat) (sv : Sv) (x g : Nat) : Prop
  | tag (z : Str) (hz : z = "member" ∨ z = "open") (h0 : ansL N A sv 0 x = [.str z, .int (x : Nat)]) (hg : ansL N A sv g (x + g) = [.str z, .int (x + g : Nat)])
  | pair (a b : Nat) (h0 : ansL N A sv 0 x = [.int (a : Nat), .int (b : Nat)]) (hg : ansL N A sv g (x + g) = [.int (a + g : Nat), .int (b + g : Nat)]) (e : 2 * b = a + x) (le : a ≤ b)
theorem ans_move {N : Nat} {A : List Nat} {sv : Sv} (C : CellOk N A) (hs : ∀ r < N, r ∉ A → Rules N A r (sv r).1 (sv r).2.1 (sv r).2.2) (x g : Nat) : Ans N A sv x g := by
  have c0 := cntO_move N A 0 x
  have cg := cntO_move N A g x
  have r0 := fRul_move N A sv 0 x
  have rg := fRul_move N A sv g x
  rw [Nat.add_zero] at c0 r0
  cases hc : cntOf N A x with
  | true =>
    rw [hc] at c0 cg
    refine .tag "member" (.inl rfl) ?_ ?_
    · unfold ansL; rw [if_pos c0]
    · unfold ansL; rw [if_pos cg]
  | false =>
    rw [hc] at c0 cg
    have n0 : ¬ cntO N A 0 x = true := by rw [c0]; exact Bool.false_ne_true
    have ng : ¬ cntO N A g (x + g) = true := by rw [cg]; exact Bool.false_ne_true
    cases hr : rulOf N A sv x with
    | none =>
      rw [hr] at r0 rg
      refine .tag "open" (.inr rfl) ?_ ?_
      · unfold ansL; rw [if_neg n0, r0]; rfl
      · unfold ansL; rw [if_neg ng, rg]; rfl
    | some p =>
      obtain ⟨a, b⟩ := p
      rw [hr] at r0 rg
      obtain ⟨e, le⟩ := rul_law C hs hr
      refine .pair a b ?_ ?_ e le
      · unfold ansL; rw [if_neg n0, r0]; rfl
      · unfold ansL; rw [if_neg ng, rg]; rfl
def spMoved : Sp := fun vs H Q _ => ∃ (t : Addr) (g : Nat), vs = [.ref t, .int (g : Nat)] ∧
  ((∃ (z : Str) (n : Nat), (z = "member" ∨ z = "open") ∧ H t = some (.tup [.str z, .int (n : Nat)]) ∧ ∀ t' H', Same H H' → H' t' = some (.tup [.str z, .int (n + g : Nat)]) → Q (.ref t') H') ∨
   ∃ a b : Nat, H t = some (.tup [.int (a : Nat), .int (b : Nat)]) ∧ ∀ t' H', Same H H' → H' t' = some (.tup [.int (a + g : Nat), .int (b + g : Nat)]) → Q (.ref t') H')
theorem in_tags {z : Str} (h : z = "member" ∨ z = "open") : inV (.str z) [.str "member", .str "open"] = true := by
  rcases h with rfl | rfl <;> decide +kernel
theorem out_tags (n : Int) : inV (.int n) [.str "member", .str "open"] = false := rfl
section
variable {P : Program} {w : World} {K : PySem.W.Frag} {mg : Str → Option Value} {base : Heap} {f : Addr} {fd : FuncData}
theorem scMoved : FnScope ["_law_answer_here", "_law_gap"] ["_law_answer_here", "_law_gap"] (defScope tMoved) := ⟨rfl, rfl, rfl, by decide +kernel, rfl, by decide +kernel, by decide +kernel⟩
theorem ok_moved (F : Fun K "_law_moved" "_law_moved" tMoved f fd) : FnOk P w K mg base CX0 1 f fd ["_law_answer_here", "_law_gap"] spMoved := by
  refine F.ok scMoved (fun vs H Q E h => ?_) (fun cdv Ar outer s H vs Q E hr h => ?_)
  · obtain ⟨t, g, rfl, _⟩ := h; rfl
  · obtain ⟨t, g, rfl, h⟩ := h
    refine ⟨_, pss_cons (ps_if (pt_cmpR op_in_seq (pe_ix ix_tup (pv 0) pe_int (fun _ _ => rfl)) (pe_tup (pa_cons pe_str (pa_cons pe_str pa_nil))) (by rfl))
        (pss_one (ps_ret (pe_tup (pa_cons (pe_ix ix_tup (pv 0) pe_int (fun _ _ => rfl)) (pa_cons (pe_op op_add (pe_ix ix_tup (pv 0) pe_int (fun _ _ => rfl)) (pv 1)) pa_nil))))) pss_nil)
      (pss_one (ps_ret (pe_tup (pa_cons (pe_op op_add (pe_ix ix_tup (pv 0) pe_int (fun _ _ => rfl)) (pv 1)) (pa_cons (pe_op op_add (pe_ix ix_tup (pv 0) pe_int (fun _ _ => rfl)) (pv 1)) pa_nil))))), ?_⟩
    rcases h with ⟨z, n, hz, ht, k⟩ | ⟨a, b, ht, k⟩
    · refine ⟨_, rfl, t, _, _, _, rfl, rfl, SqT.of ht, rfl, (by show 2 ≤ sizeLine; decide), fun p hp => ?_⟩
      have sm := same_upd (u := .tup [.str "member", .str "open"]) (.refl H) hp
      refine ⟨p, _, rfl, .inr (SqT.of upd_same), rfl, rfl, _, rfl, ?_⟩
      rw [show (if false = true then !inV (V.str z) [.str "member", .str "open"] else inV (V.str z) [.str "member", .str "open"]) = true from in_tags hz]
      refine iteT ⟨_, rfl, t, _, _, _, rfl, rfl, SqT.of (sm _ _ ht), rfl, _, rfl, t, _, _, _, rfl, rfl, SqT.of (sm _ _ ht), rfl, _, rfl, _, _, rfl, rfl, (by show 2 ≤ sizeLine; decide), fun p2 hp2 => ?_⟩
      exact k p2 _ (same_upd sm (sm.free hp2)) (by rw [upd_same]; push_cast; rfl)
    · refine ⟨_, rfl, t, _, _, _, rfl, rfl, SqT.of ht, rfl, (by show 2 ≤ sizeLine; decide), fun p hp => ?_⟩
      have sm := same_upd (u := .tup [.str "member", .str "open"]) (.refl H) hp
      refine ⟨p, _, rfl, .inr (SqT.of upd_same), rfl, rfl, _, rfl, ?_⟩
      refine iteF ⟨_, rfl, t, _, _, _, rfl, rfl, SqT.of (sm _ _ ht), rfl, _, rfl, _, _, rfl, rfl, _, rfl, t, _, _, _, rfl, rfl, SqT.of (sm _ _ ht), rfl, _, rfl, _, _, rfl, rfl, (by show 2 ≤ sizeLine; decide), fun p2 hp2 => ?_⟩
      exact k p2 _ (same_upd sm (sm.free hp2)) (by rw [upd_same]; push_cast; rfl)
end
end Tf

/-! ## TfLaw7 -/
set_option Elab.async false
set_option linter.all false
set_option maxRecDepth 100000
set_option maxHeartbeats 4000000
/-! _law_number_holds. -/
namespace Tf
open PySem PySem.Spec PyProof.Rows L2
/-- the methods of a class of sequences -/
structure SeqM (P : Program) (w : World) (K : PySem.W.Frag) (mg : Str → Option Value) (base : Heap) (C D : Addr) (Z : Nat → Prop) (L : Nat) : Prop where
  tc : SqC K D
  member : Mt P w K mg base D "member" L ["self", "number"] [] (spS2 C D Z 0 1000 fMem)
  rank : Mt P w K mg base D "rank" L ["self", "x"] [] (spS2 C D Z 0 1000 fRnk)
  contains : Mt P w K mg base D "contains" L ["self", "x"] [] (spS2 C D Z 0 1000 fCnt)
  next : Mt P w K mg base D "next_member" L ["self", "x"] [] (spS2 C D Z 0 900 fNext)
  last : Mt P w K mg base D "last_member" L ["self", "x"] [] (spS2 C D Z 0 900 fLast)
  gap : Mt P w K mg base D "gap" L ["self", "number"] [] (spS2 C D Z 1 1000 fGap)
  check : Mt P w K mg base D "check_cover" L ["self", "x", "pair"] [] (spCheck C D Z)
def spNum (C R S : Addr) : Sp := fun vs H Q _ => ∃ (qs qp c : Addr) (N : Nat) (A : List Nat) (sv : Sv) (g x : Nat), vs = [.ref qs, .ref qp, .int (g : Nat), .int (x : Nat)] ∧ SqAt C S H qs c N A sv g ∧ SqAt C R H qp c N A sv 0 ∧ g < 2 ^ 300 ∧ x < 2 ^ 300 ∧ ∀ H', Same H H' → Q (.bl true) H'
theorem p2_le {a b n : Nat} (h : n < 2 ^ a) (hab : a ≤ b) : n < 2 ^ b := Nat.lt_of_lt_of_le h (Nat.pow_le_pow_right (by decide) hab)
theorem p2_add {a m n : Nat} (hm : m < 2 ^ a) (hn : n < 2 ^ a) : m + n < 2 ^ (a + 1) := by rw [Nat.pow_succ]; omega
/-- what _law_due holds -/
def dueOf (cnt : Nat → Bool) (l h : Int) : Bool := decide (0 ≤ l) && (decide (l < h) && (cnt l.toNat && cnt h.toNat))
theorem due_chk {cnt : Nat → Bool} {x l h : Int} (e : 2 * h - l = x) : chkOf cnt x l h = dueOf cnt l h := by
  unfold chkOf dueOf
  rw [decide_eq_true e, Bool.true_and]
  by_cases h0 : 0 ≤ l
  · by_cases h1 : l < h
    · rw [decide_eq_true h0, decide_eq_true h1, decide_eq_true (⟨h0, by omega⟩ : 0 ≤ l ∧ 0 ≤ h)]
    · rw [decide_eq_false h1]; simp
  · rw [decide_eq_false h0, decide_eq_false (fun z : 0 ≤ l ∧ 0 ≤ h => h0 z.1)]
theorem of_nat {i : Int} (h : 0 ≤ i) : V.int i = V.int (i.toNat : Nat) := by rw [Int.toNat_of_nonneg h]
def steps : List Int := [0, -1, 1, 2]
theorem steps_rd {i : Nat} {x : V} (h : (steps.map V.int)[i]? = some x) : ∃ s : Int, x = .int s ∧ -1 ≤ s ∧ s ≤ 2 := by
  rw [List.getElem?_map] at h
  cases e : steps[i]? with
  | none => rw [e] at h; cases h
  | some s =>
    rw [e] at h
    have hm := List.mem_of_getElem? e
    have hb : ∀ s ∈ steps, -1 ≤ s ∧ s ≤ 2 := by decide
    exact ⟨s, (Option.some.inj h).symm, hb s hm⟩
theorem nx_mk {f : L2.St → Hp → Prop} {rt : VK} {bk ct : L2.St → Hp → Prop} {σ : L2.St} {H : Hp} (h : f σ H) : Ends.nx ⟨f, rt, bk, ct⟩ σ H := h
section
variable {P : Program} {w : World} {K : PySem.W.Frag} {mg : Str → Option Value} {base : Heap} {f C R S : Addr} {fd : FuncData} {L : Nat}
theorem scNum : ScS ["_law_moved_here", "_law_plain", "_law_gap", "_law_own_x", "_law_early", "_law_answer_here", "_law_step", "_law_low", "_law_high", "_law_due"] ["_law_moved_here", "_law_plain", "_law_gap", "_law_own_x"] (defScope tNumHolds) := ⟨rfl, rfl, by decide +kernel, rfl, by decide +kernel, by decide +kernel, by decide +kernel⟩
theorem ok_num (F : Fun K "_law_number_holds" "_law_number_holds" tNumHolds f fd) (B : Blt mg) (GS : SeqM P w K mg base C S anyO (L + 1)) (GR : SeqM P w K mg base C R (· = 0) (L + 1)) (GA : Fn P w K mg base "_law_answer" (L + 1) ["_law_track", "_law_own_x"] [] (spAnswer C R S)) (GV : Fn P w K mg base "_law_moved" (L + 1) ["_law_answer_here", "_law_gap"] [] spMoved) :
    FnG P w K mg base (L + 2) f fd ["_law_moved_here", "_law_plain", "_law_gap", "_law_own_x"] (spNum C R S) := by
  obtain ⟨cdv, FG⟩ := Fun.toG F (by decide +kernel)
  refine FG.okG scNum rfl (by decide +kernel) (fun vs H Q E h => ?_) (fun Ar outer s H vs Q hr hgd h => ?_)
  · obtain ⟨qs, qp, c, N, A, sv, g, x, rfl, _⟩ := h; rfl
  · obtain ⟨qs, qp, c, N, A, sv, g, x, rfl, XS, XP, hg, hx, k⟩ := h
    have nd := scNum.nd
    obtain ⟨ds, hs⟩ := XS.ob
    obtain ⟨dp, hp⟩ := XP.ob
    have hgd' : (Ar.deeper (PySem.W.envX "_law_number_holds" (defScope tNumHolds) s.heap.objs.size f cdv [])).guards = some [] := hgd
    refine ⟨_, pss_cons (ps_if (PW.pt (pw_or (pt_cmpR op_ne (pe_mt (pv 0) GS.rank hr (pa_cons (pe_op op_add (pv 3) (pv 2)) pa_nil)) (pe_mt (pv 1) GR.rank hr (pa_cons (pv 3) pa_nil)) (nomark _))
        (pw_or1 (pt_cmpR op_ne (pe_mt (pv 0) GS.contains hr (pa_cons (pe_op op_add (pv 3) (pv 2)) pa_nil)) (pe_mt (pv 1) GR.contains hr (pa_cons (pv 3) pa_nil)) (nomark _))))) (pss_one (ps_ret pe_bl)) pss_nil)
      (pss_cons (ps_if (pt_cmpR op_ne (pe_mt (pv 0) GS.next hr (pa_cons (pe_op op_add (pv 3) (pv 2)) pa_nil)) (pe_op op_add (pe_mt (pv 1) GR.next hr (pa_cons (pv 3) pa_nil)) (pv 2)) (nomark _)) (pss_one (ps_ret pe_bl)) pss_nil)
      (pss_cons (ps_set (i := 4) nd rfl (.inl rfl) (pe_mt (pv 1) GR.last hr (pa_cons (pv 3) pa_nil)))
      (pss_cons (ps_if (pt_cmpR op_ne (pe_mt (pv 0) GS.last hr (pa_cons (pe_op op_add (pv 3) (pv 2)) pa_nil)) (pe_ifExp (pt_cmpR op_isN (pv 4) pe_non (nomark _)) (pv 4) (pe_op op_add (pv 4) (pv 2))) (nomark _)) (pss_one (ps_ret pe_bl)) pss_nil)
      (pss_cons (ps_set (i := 5) nd rfl (.inl rfl) (pe_fn GA hr (by rfl) (pa_cons (pv 0) (pa_cons (pe_op op_add (pv 3) (pv 2)) pa_nil))))
      (pss_cons (ps_if (pt_cmpR op_ne (pe_callB (call_repr hgd' hr) (by rfl) B.repr (by decide +kernel) (pa_cons (pv 5) pa_nil))
          (pe_callB (call_repr hgd' hr) (by rfl) B.repr (by decide +kernel) (pa_cons (pe_fn GV hr (by rfl) (pa_cons (pe_fn GA hr (by rfl) (pa_cons (pv 1) (pa_cons (pv 3) pa_nil))) (pa_cons (pv 2) pa_nil))) pa_nil)) (nomark _)) (pss_one (ps_ret pe_bl)) pss_nil)
      (pss_cons (ps_if (pt_cmpR op_in_seq (pe_ix ix_tup (pv 5) pe_int (fun _ _ => rfl)) (pe_tup (pa_cons pe_str (pa_cons pe_str pa_nil))) (by rfl)) (pss_one (ps_ret pe_bl)) pss_nil)
      (pss_cons (ps_for PassesOwn.never rfl (pi_tup (pe_tup (pa_cons pe_int (pa_cons (pe_op op_sub pe_int pe_int) (pa_cons pe_int (pa_cons pe_int pa_nil)))))) (pg_name (i := 6) nd rfl (.inl rfl))
        (pss_cons (ps_par (i := 7) (j := 8) (by rfl) nd rfl rfl (by decide) rfl rfl (pa_cons (pe_op op_add (pe_ix ix_tup (pv 5) pe_int (fun _ _ => rfl)) (pe_op op_mul pe_int (pv 6))) (pa_cons (pe_op op_add (pe_ix ix_tup (pv 5) pe_int (fun _ _ => rfl)) (pv 6)) pa_nil)) (by rfl))
        (pss_cons (ps_set (i := 9) nd rfl (.inl rfl) (pe_and (pe_chain op_le op_lt pe_int (pv 7) (pv 8)) (pe_and (pe_mt (pv 0) GS.contains hr (pa_cons (pv 7) pa_nil)) (pe_one (pe_mt (pv 0) GS.contains hr (pa_cons (pv 8) pa_nil))))))
        (pss_one (ps_if (pt_cmpR op_ne (pe_callB (call_repr hgd' hr) (by rfl) B.repr (by decide +kernel) (pa_cons (pe_mt (pv 0) GS.check hr (pa_cons (pe_op op_add (pv 3) (pv 2)) (pa_cons (pe_tup (pa_cons (pv 7) (pa_cons (pv 8) pa_nil))) pa_nil))) pa_nil))
          (pe_callB (call_repr hgd' hr) (by rfl) B.repr (by decide +kernel) (pa_cons (pv 9) pa_nil)) (nomark _)) (pss_one (ps_ret pe_bl)) pss_nil)))))
      (pss_one (ps_ret pe_bl))))))))), ?_⟩
    have hxg : x + g < 2 ^ 301 := p2_add hx hg
    have b1 := p2_le hxg (by decide : 301 ≤ 1000)
    have b2 := p2_le hx (by decide : 300 ≤ 1000)
    have b3 := p2_le hxg (by decide : 301 ≤ 900)
    have b4 := p2_le hx (by decide : 300 ≤ 900)
    have sub0 : x + g - g = x := by omega
    have sub1 : x + g + 1 - g = x + 1 := by omega
    -- ranks, members
    refine if_no (fun Q' q => ?_) (fun H1 sm1 => ?_)
    · refine ⟨_, rfl, qs, ds, _, rfl, hs, seqF_no _ _ (by decide +kernel), _, rfl, _, rfl, _, _, rfl, rfl, qs, c, N, A, sv, g, x + g, rfl, XS, trivial, Nat.zero_le _, b1, fun Ha sa => ?_⟩
      refine ⟨_, rfl, qp, dp, _, rfl, sa _ _ hp, seqF_no _ _ (by decide +kernel), _, rfl, qp, c, N, A, sv, 0, x, rfl, XP.mono sa, rfl, Nat.zero_le _, b2, fun Hb sb => ?_⟩
      refine ⟨rfl, _, rfl, iteNS (by show V.int _ = V.int _; rw [sub0]; rfl) ?_⟩
      have sab := sa.trans sb
      refine ⟨_, rfl, qs, ds, _, rfl, sab _ _ hs, seqF_no _ _ (by decide +kernel), _, rfl, _, rfl, _, _, rfl, rfl, qs, c, N, A, sv, g, x + g, rfl, XS.mono sab, trivial, Nat.zero_le _, b1, fun Hc sc => ?_⟩
      refine ⟨_, rfl, qp, dp, _, rfl, sc _ _ (sab _ _ hp), seqF_no _ _ (by decide +kernel), _, rfl, qp, c, N, A, sv, 0, x, rfl, XP.mono (sab.trans sc), rfl, Nat.zero_le _, b2, fun Hd sd => ?_⟩
      refine ⟨rfl, _, rfl, ?_⟩
      have e : (V.bl (decide (g ≤ x + g) && cntOf N A (x + g - g))) = V.bl (decide (0 ≤ x) && cntOf N A (x - 0)) := by
        rw [sub0, decide_eq_true (by omega : g ≤ x + g), decide_eq_true (Nat.zero_le x)]; rfl
      have q' := q Hd ((sab.trans sc).trans sd)
      rw [show (!decide (V.bl (decide (g ≤ x + g) && cntOf N A (x + g - g)) = V.bl (decide (0 ≤ x) && cntOf N A (x - 0)))) = false from by rw [decide_eq_true e]; rfl]
      exact q'
    have XS1 := XS.mono sm1
    have XP1 := XP.mono sm1
    refine if_no (fun Q' q => ?_) (fun H2 sm2 => ?_)
    · refine ⟨_, rfl, qs, ds, _, rfl, sm1 _ _ hs, seqF_no _ _ (by decide +kernel), _, rfl, _, rfl, _, _, rfl, rfl, qs, c, N, A, sv, g, x + g, rfl, XS1, trivial, Nat.zero_le _, b3, fun Ha sa => ?_⟩
      refine ⟨_, rfl, qp, dp, _, rfl, sa _ _ (sm1 _ _ hp), seqF_no _ _ (by decide +kernel), _, rfl, qp, c, N, A, sv, 0, x, rfl, XP1.mono sa, rfl, Nat.zero_le _, b4, fun Hb sb => ?_⟩
      refine ⟨_, rfl, _, _, rfl, rfl, rfl, _, rfl, ?_⟩
      have e : V.int (memOf N A (rnkOf N A (x + g + 1 - g)) + g : Nat) = V.int ((memOf N A (rnkOf N A (x + 1 - 0)) + 0 : Nat) + (g : Int)) := by rw [sub1]; rfl
      have q' := q Hb (sa.trans sb)
      rw [show (!decide (V.int (memOf N A (rnkOf N A (x + g + 1 - g)) + g : Nat) = V.int ((memOf N A (rnkOf N A (x + 1 - 0)) + 0 : Nat) + (g : Int)))) = false from by rw [decide_eq_true e]; rfl]
      exact q'
    have s12 := sm1.trans sm2
    -- the last member
    refine set_cut (fun v H' => v = fLast N A sv 0 x ∧ Same H H') (fun Q' q => ?_) (fun v H3 ⟨ev, sm3⟩ => ?_)
    · exact ⟨_, rfl, qp, dp, _, rfl, s12 _ _ hp, seqF_no _ _ (by decide +kernel), _, rfl, qp, c, N, A, sv, 0, x, rfl, XP.mono s12, rfl, Nat.zero_le _, b4, fun Hb sb => q _ _ ⟨rfl, s12.trans sb⟩⟩
    subst ev
    refine if_no (fun Q' q => ?_) (fun H4 sm4' => ?_)
    · refine ⟨_, rfl, qs, ds, _, rfl, sm3 _ _ hs, seqF_no _ _ (by decide +kernel), _, rfl, _, rfl, _, _, rfl, rfl, qs, c, N, A, sv, g, x + g, rfl, XS.mono sm3, trivial, Nat.zero_le _, b3, fun Ha sa => ?_⟩
      have q' := q Ha sa
      by_cases h0 : rnkOf N A (x + 1) = 0
      · have e1 : fLast N A sv g (x + g) = .non := by show (if rnkOf N A (x + g + 1 - g) = 0 then _ else _) = _; rw [sub1, if_pos h0]
        have e2 : fLast N A sv 0 x = .non := if_pos h0
        rw [e1]
        refine ⟨_, rfl, rfl, _, rfl, ?_⟩
        rw [e2]
        exact iteT ⟨_, rfl, rfl, _, rfl, q'⟩
      · have e1 : fLast N A sv g (x + g) = .int (memOf N A (rnkOf N A (x + 1) - 1) + g : Nat) := by show (if rnkOf N A (x + g + 1 - g) = 0 then _ else _) = _; rw [sub1, if_neg h0]
        have e2 : fLast N A sv 0 x = .int (memOf N A (rnkOf N A (x + 1) - 1) + 0 : Nat) := if_neg h0
        rw [e1]
        refine ⟨_, rfl, rfl, _, rfl, ?_⟩
        rw [e2]
        refine iteF ⟨_, rfl, _, rfl, _, _, rfl, rfl, rfl, _, rfl, ?_⟩
        rw [show (!decide (V.int (memOf N A (rnkOf N A (x + 1) - 1) + g : Nat) = V.int ((memOf N A (rnkOf N A (x + 1) - 1) + 0 : Nat) + (g : Int)))) = false from by rw [decide_eq_true (by rfl)]; rfl]
        exact q'
    have sm4 := sm3.trans sm4'
    -- the answers
    refine set_cut (fun v H' => ∃ t, v = .ref t ∧ H' t = some (.tup (ansL N A sv g (x + g))) ∧ Same H H') (fun Q' q => ?_) (fun v H5 ⟨t, ev, ht, sm5⟩ => ?_)
    · exact ⟨_, rfl, _, rfl, _, rfl, _, _, rfl, rfl, qs, c, S, N, A, sv, g, x + g, rfl, .inr rfl, XS.mono sm4, b3, fun t H' sm et => q _ _ ⟨t, rfl, et, sm4.trans sm⟩⟩
    subst ev
    have AM := ans_move XS.ce.arg.toCellOk XS.ce.sv x g
    have hx11 : ((x : Int)).natAbs < 2 ^ 1100 := by rw [Int.natAbs_natCast]; exact p2_le hx (by decide)
    have hxg11 : ((x + g : Nat) : Int).natAbs < 2 ^ 1100 := by rw [Int.natAbs_natCast]; exact p2_le hxg (by decide)
    refine if_no (fun Q' q => ?_) (fun H6 sm6' => ?_)
    · cases AM with
      | tag z hz e0 eg =>
        rw [eg] at ht
        have hzl : (reprText z).length ≤ 100 := by rcases hz with rfl | rfl <;> decide +kernel
        refine ⟨_, rfl, _, _, rfl, shn_tag ht hzl hxg11, ?_⟩
        refine ⟨_, rfl, _, rfl, qp, c, R, N, A, sv, 0, x, rfl, .inl ⟨rfl, rfl⟩, XP.mono sm5, b4, fun t2 Ha sa et2 => ?_⟩
        rw [e0] at et2
        refine ⟨_, rfl, t2, g, rfl, .inl ⟨z, x, hz, et2, fun t3 Hb sb et3 => ?_⟩⟩
        refine ⟨_, _, rfl, shn_tag et3 hzl hxg11, rfl, _, rfl, ?_⟩
        rw [decide_eq_true rfl]
        exact q _ (sa.trans sb)
      | pair a b e0 eg e le =>
        rw [eg] at ht
        have ba : a + g < 2 ^ 1000 := Nat.lt_of_le_of_lt (by omega : a + g ≤ x + g) b1
        have bb : b + g < 2 ^ 1000 := Nat.lt_of_le_of_lt (by omega : b + g ≤ x + g) b1
        have ha11 : ((a + g : Nat) : Int).natAbs < 2 ^ 1100 := by rw [Int.natAbs_natCast]; exact p2_le ba (by decide)
        have hb11 : ((b + g : Nat) : Int).natAbs < 2 ^ 1100 := by rw [Int.natAbs_natCast]; exact p2_le bb (by decide)
        refine ⟨_, rfl, _, _, rfl, shn_pair ht ha11 hb11, ?_⟩
        refine ⟨_, rfl, _, rfl, qp, c, R, N, A, sv, 0, x, rfl, .inl ⟨rfl, rfl⟩, XP.mono sm5, b4, fun t2 Ha sa et2 => ?_⟩
        rw [e0] at et2
        refine ⟨_, rfl, t2, g, rfl, .inr ⟨a, b, et2, fun t3 Hb sb et3 => ?_⟩⟩
        refine ⟨_, _, rfl, shn_pair et3 ha11 hb11, rfl, _, rfl, ?_⟩
        rw [decide_eq_true rfl]
        exact q _ (sa.trans sb)
    have sm6 := sm5.trans sm6'
    have ht6 := sm6' _ _ ht
    cases AM with
    | tag z hz e0 eg =>
      rw [eg] at ht6
      refine ⟨_, rfl, t, _, _, _, rfl, rfl, SqT.of ht6, rfl, (by show 2 ≤ sizeLine; decide), fun p hp' => ?_⟩
      refine ⟨p, _, rfl, .inr (SqT.of upd_same), rfl, rfl, _, rfl, ?_⟩
      rw [show (if false = true then !inV (V.str z) [.str "member", .str "open"] else inV (V.str z) [.str "member", .str "open"]) = true from in_tags hz]
      exact iteT (k _ (same_upd sm6 (sm6.free hp')))
    | pair a b e0 eg e le =>
      rw [eg] at ht6
      refine if_no (fun Q' q => ?_) (fun H7 sm7' => ?_)
      · refine ⟨_, rfl, t, _, _, _, rfl, rfl, SqT.of ht6, rfl, (by show 2 ≤ sizeLine; decide), fun p hp' => ?_⟩
        exact ⟨p, _, rfl, .inr (SqT.of upd_same), rfl, rfl, _, rfl, q _ (same_upd (.refl _) hp')⟩
      have sm7 := sm6.trans sm7'
      have ht7 := sm7' _ _ ht6
      refine ⟨_, _, rfl, rfl, (by show 4 ≤ sizeLine; decide), fun T hT => ⟨T, rfl, ⟨_, SqT.of upd_same⟩, ?_⟩⟩
      have sT := same_upd (u := .tup (steps.map V.int)) sm7 (sm7.free hT)
      have sT7 := same_upd (u := .tup (steps.map V.int)) (.refl H7) hT
      refine for_tup (K := K) (a := T) (xs := steps.map V.int) (fun i σ H8 => Same (upd H7 T (.tup (steps.map V.int))) H8 ∧ ∃ (v6 v7 v8 v9 : Option V), σ = [some (.ref qs), some (.ref qp), some (.int (g : Nat)), some (.int (x : Nat)), some (fLast N A sv 0 x), some (.ref t), v6, v7, v8, v9]) ⟨.refl _, none, none, none, none, rfl⟩
        (fun i σ H8 _ z => SqT.of (z.1 _ _ upd_same)) ?_ (fun σ H8 z => k H8 (sT.trans z.1))
      rintro i y σ H8 hy ⟨sm8, v6, v7, v8, v9, rfl⟩
      obtain ⟨st, rfl, st0, st1⟩ := steps_rd hy
      have s8 := sT.trans sm8
      have ht8 := sm8 _ _ (sT7 _ _ ht7)
      refine ⟨_, rfl, t, _, _, _, rfl, rfl, SqT.of ht8, rfl, _, rfl, _, _, rfl, rfl, .inl ⟨by decide, by decide⟩, _, _, rfl, rfl, ?_⟩
      obtain ⟨l, el⟩ : ∃ l : Int, l = ((a + g : Nat) : Int) + 2 * st := ⟨_, rfl⟩
      obtain ⟨h, eh⟩ : ∃ h : Int, h = ((b + g : Nat) : Int) + st := ⟨_, rfl⟩
      refine ⟨_, rfl, t, _, _, _, rfl, rfl, SqT.of ht8, rfl, _, rfl, _, _, rfl, rfl, .int l, .int h, (by rw [el, eh]), ?_⟩
      refine nx_mk ?_
      have p9 : x + g + 10 < 2 ^ 302 := by have : (2 : Nat) ^ 302 = 2 ^ 301 * 2 := Nat.pow_succ ..; have : 16 < (2 : Nat) ^ 301 := Nat.lt_of_lt_of_le (by decide : 16 < 2 ^ 5) (Nat.pow_le_pow_right (by decide) (by decide)); omega
      have p10 : (2 : Nat) ^ 302 ≤ 2 ^ 1000 := Nat.pow_le_pow_right (by decide) (by decide)
      have bl : l.toNat < 2 ^ 1000 := by omega
      have bh : h.toNat < 2 ^ 1000 := by omega
      have cl : ((2 ^ 1000 : Nat) : Int) = 2 ^ 1000 := by push_cast; rfl
      have bl' : l < 2 ^ 1000 := by rw [← cl]; omega
      have bh' : h < 2 ^ 1000 := by rw [← cl]; omega
      have eq : 2 * h - l = ((x + g : Nat) : Int) := by rw [el, eh]; push_cast; omega
      refine set_cut (fun v H' => v = .bl (dueOf (cntO N A g) l h) ∧ Same H H' ∧ Same H8 H') (fun Q' q => ?_) (fun v H9 ⟨ev, sm9, sm89⟩ => ?_)
      · refine ⟨_, rfl, _, _, rfl, rfl, _, rfl, ?_⟩
        unfold dueOf at q
        by_cases h0 : 0 ≤ l
        · rw [decide_eq_true h0] at q ⊢
          refine iteT ⟨_, rfl, _, _, rfl, rfl, _, rfl, ?_⟩
          by_cases h1 : l < h
          · rw [decide_eq_true h1] at q ⊢
            refine iteT ?_
            refine ⟨_, rfl, qs, ds, _, rfl, s8 _ _ hs, seqF_no _ _ (by decide +kernel), _, rfl, qs, c, N, A, sv, g, l.toNat, by rw [of_nat h0]; rfl, XS.mono s8, trivial, Nat.zero_le _, bl, fun Ha sa => ?_⟩
            refine ⟨_, rfl, ?_⟩
            have h2 : 0 ≤ h := by omega
            cases hc : cntO N A g l.toNat with
            | false =>
              rw [hc] at q
              exact ite2 (fun z => absurd (hc.symm.trans z) Bool.false_ne_true) fun _ => q _ _ ⟨rfl, s8.trans sa, sa⟩
            | true =>
              rw [hc] at q
              refine ite2 (fun _ => ?_) (fun z => absurd hc z)
              exact ⟨_, rfl, qs, ds, _, rfl, sa _ _ (s8 _ _ hs), seqF_no _ _ (by decide +kernel), _, rfl, qs, c, N, A, sv, g, h.toNat, by rw [of_nat h2]; rfl, XS.mono (s8.trans sa), trivial, Nat.zero_le _, bh, fun Hb sb => q _ _ ⟨rfl, (s8.trans sa).trans sb, sa.trans sb⟩⟩
          · rw [decide_eq_false h1] at q ⊢
            exact iteF (q _ _ ⟨rfl, s8, .refl _⟩)
        · rw [decide_eq_false h0] at q ⊢
          exact iteF ⟨_, rfl, iteF (q _ _ ⟨rfl, s8, .refl _⟩)⟩
      subst ev
      refine if_no1 (fun Q' q => ?_) (fun H10 sm10 => ⟨(sm8.trans sm89).trans sm10, _, _, _, _, rfl⟩)
      refine ⟨_, rfl, qs, ds, _, rfl, sm9 _ _ hs, seqF_no _ _ (by decide +kernel), _, rfl, _, rfl, _, _, rfl, rfl, _, rfl, _, rfl, (by show 2 ≤ sizeLine; decide), fun p hp' => ?_⟩
      have sp := same_upd (u := .tup [.int l, .int h]) (.refl H9) hp'
      refine ⟨qs, c, p, N, A, sv, g, x + g, l, h, rfl, XS.mono (sm9.trans sp), trivial, upd_same, bl', bh', fun Ha sa => ?_⟩
      refine ⟨_, _, rfl, shn_bl _, _, rfl, _, _, rfl, shn_bl _, rfl, _, rfl, ?_⟩
      rw [due_chk eq, decide_eq_true rfl]
      exact q _ (sp.trans sa)
end
end Tf

/-! ## TfLaw8 -/
set_option Elab.async false
set_option linter.all false
set_option maxRecDepth 100000
set_option maxHeartbeats 4000000
/-! _law_names_hold, _law_below_holds. -/
namespace Tf
open PySem PySem.Spec PyProof.Rows L2
def spNames (C S : Addr) : Sp := fun vs H Q _ => ∃ (qs c : Addr) (N : Nat) (A : List Nat) (sv : Sv) (g x : Nat), vs = [.ref qs, .int (x : Nat)] ∧ SqAt C S H qs c N A sv g ∧ x < 2 ^ 900 ∧ ∀ H', Same H H' → Q (.bl true) H'
theorem told_eqv (a b : Int) (c : Bool) : PyData.eqv (.list [.int a, .int b, .bool c]) (.list [.int a, .int b, .bool c]) = true := SeqAt.eqv_refl _ (by simp [PyData.canLay0, PyData.canLayAll0])
theorem told_shaped (a b : Int) (c : Bool) : SeqAt.shaped (.list [.int a, .int b, .bool c]) = true := by
  unfold SeqAt.shaped
  rw [Bool.and_eq_true]
  exact ⟨by simp [PyData.canLay0, PyData.canLayAll0], decide_eq_true (by simp [PyData.depth, PyData.depthAll])⟩
section
variable {P : Program} {w : World} {K : PySem.W.Frag} {mg : Str → Option Value} {base : Heap} {f C R S : Addr} {fd : FuncData} {L : Nat}
theorem scNames : FnScope ["_law_moved_here", "_law_own_x", "_law_told"] ["_law_moved_here", "_law_own_x"] (defScope tNames) := ⟨rfl, rfl, rfl, by decide +kernel, rfl, by decide +kernel, by decide +kernel⟩
theorem ok_names (F : Fun K "_law_names_hold" "_law_names_hold" tNames f fd) (GS : SeqM P w K mg base C S anyO (L + 1)) (KM : MtK P w K mg base S "member" (L + 1) ["number"] (spS2 C S anyO 0 1000 fMem)) (KR : MtK P w K mg base S "rank" (L + 1) ["x"] (spS2 C S anyO 0 1000 fRnk))
    (KC : MtK P w K mg base S "contains" (L + 1) ["x"] (spS2 C S anyO 0 1000 fCnt)) : FnOk P w K mg base CX0 (L + 2) f fd ["_law_moved_here", "_law_own_x"] (spNames C S) := by
  refine F.ok scNames (fun vs H Q E h => ?_) (fun cdv Ar outer s H vs Q E hr h => ?_)
  · obtain ⟨qs, c, N, A, sv, g, x, rfl, _⟩ := h; rfl
  · obtain ⟨qs, c, N, A, sv, g, x, rfl, XS, hx, k⟩ := h
    have nd := scNames.nd
    obtain ⟨ds, hs⟩ := XS.ob
    have b := p2_le hx (by decide : 900 ≤ 1000)
    have hun : (Ar.deeper (envOfC "_law_names_hold" (defScope tNames) s.heap.objs.size f cdv)).units + 64 < cLine := by have := hr.un; omega
    refine ⟨_, pss_cons (ps_set (i := 2) nd rfl (.inl rfl) (pe_lst (pa_cons (pe_mtK (pv 0) KM hr (pk_cons (pv 1) pk_nil)) (pa_cons (pe_mtK (pv 0) KR hr (pk_cons (pv 1) pk_nil)) (pa_cons (pe_mtK (pv 0) KC hr (pk_cons (pv 1) pk_nil)) pa_nil)))))
      (pss_one (ps_ret (pe_cmpR (op_eqD hun) (pv 2) (pe_lst (pa_cons (pe_mt (pv 0) GS.member hr (pa_cons (pv 1) pa_nil)) (pa_cons (pe_mt (pv 0) GS.rank hr (pa_cons (pv 1) pa_nil)) (pa_cons (pe_mt (pv 0) GS.contains hr (pa_cons (pv 1) pa_nil)) pa_nil)))) (nomark _)))), ?_⟩
    refine ⟨_, rfl, qs, ds, _, rfl, hs, seqF_no _ _ (by decide +kernel), _, rfl, rfl, qs, c, N, A, sv, g, x, rfl, XS, trivial, Nat.zero_le _, b, fun H1 s1 => ?_⟩
    refine ⟨_, rfl, qs, ds, _, rfl, s1 _ _ hs, seqF_no _ _ (by decide +kernel), _, rfl, rfl, qs, c, N, A, sv, g, x, rfl, XS.mono s1, trivial, Nat.zero_le _, b, fun H2 s2 => ?_⟩
    have s12 := s1.trans s2
    refine ⟨_, rfl, qs, ds, _, rfl, s12 _ _ hs, seqF_no _ _ (by decide +kernel), _, rfl, rfl, qs, c, N, A, sv, g, x, rfl, XS.mono s12, trivial, Nat.zero_le _, b, fun H3 s3 => ?_⟩
    have s13 := s12.trans s3
    refine ⟨by show 3 ≤ sizeLine; decide, fun l hl => ?_⟩
    have s4 := same_upd (u := .lst [fMem N A sv g x, fRnk N A sv g x, fCnt N A sv g x]) s13 (s13.free hl)
    have el : (upd H3 l (.lst [fMem N A sv g x, fRnk N A sv g x, fCnt N A sv g x])) l = some (.lst [fMem N A sv g x, fRnk N A sv g x, fCnt N A sv g x]) := upd_same
    refine ⟨_, rfl, ?_⟩
    refine ⟨_, rfl, qs, ds, _, rfl, s4 _ _ hs, seqF_no _ _ (by decide +kernel), _, rfl, qs, c, N, A, sv, g, x, rfl, XS.mono s4, trivial, Nat.zero_le _, b, fun H5 s5 => ?_⟩
    have s45 := s4.trans s5
    refine ⟨_, rfl, qs, ds, _, rfl, s45 _ _ hs, seqF_no _ _ (by decide +kernel), _, rfl, qs, c, N, A, sv, g, x, rfl, XS.mono s45, trivial, Nat.zero_le _, b, fun H6 s6 => ?_⟩
    have s46 := s45.trans s6
    refine ⟨_, rfl, qs, ds, _, rfl, s46 _ _ hs, seqF_no _ _ (by decide +kernel), _, rfl, qs, c, N, A, sv, g, x, rfl, XS.mono s46, trivial, Nat.zero_le _, b, fun H7 s7 => ?_⟩
    have s47 := s46.trans s7
    refine ⟨by show 3 ≤ sizeLine; decide, fun p hp => ?_⟩
    have el7 := s7 _ _ (s6 _ _ (s5 _ _ el))
    refine ⟨_, _, .lst (SqL.of (by rw [upd_ne (ne_of_none el7 hp)]; exact el7)) (.cons (.int _) (.cons (.int _) (.cons (.bl _) .nil))), .lst (SqL.of upd_same) (.cons (.int _) (.cons (.int _) (.cons (.bl _) .nil))), told_shaped _ _ _, told_shaped _ _ _, ?_⟩
    rw [told_eqv]
    exact k _ (same_upd s47 (s47.free hp))
theorem cr_range1 {X : Cx} : CallR X (.type "range") (fun vs H Q => ∃ i, vs = [V.int i] ∧ ∀ p, H p = none → Q (.ref p) (upd H p (.rng 0 i))) := by
  intro pins s σ H vs us Q I r h
  obtain ⟨i, rfl, q⟩ := h
  obtain ⟨u, rfl, ri⟩ := vals1 r
  obtain ⟨t, rfl⟩ := ri
  refine call_range_1 ⟨.ref s.heap.objs.size, upd H s.heap.objs.size (.rng 0 i), I.laid (t' := s.toks + 1 + 1) (fun b o e => Heap.get?_push_of_some _ e) (Nat.le_refl _) ?_, rfl, q _ (I.hok.fresh (Nat.le_refl _))⟩
  exact ⟨s.toks, t, s.toks + 1, Heap.get?_push_size _ rfl⟩
/-! ### in plain numbers -/
theorem rnk_zero (N : Nat) (A : List Nat) : rnkOf N A 0 = 0 := by
  unfold rnkOf
  rw [Nat.zero_div, Nat.zero_mod, rank_zero, plain_zero]
  simp
theorem open_str : PyData.strOk (Str.ofString "open") = true := by decide +kernel
theorem open_eqv (x : Int) : PyData.eqv (.tuple [.str "open", .int x]) (.tuple [.str "open", .int x]) = true := SeqAt.eqv_refl _ (by simp [PyData.canLay0, PyData.canLayAll0, open_str])
theorem open_shaped (x : Int) : SeqAt.shaped (.tuple [.str "open", .int x]) = true := by
  unfold SeqAt.shaped
  rw [Bool.and_eq_true]
  exact ⟨by simp [PyData.canLay0, PyData.canLayAll0, open_str], decide_eq_true (by simp [PyData.depth, PyData.depthAll])⟩
theorem ints_eqv (ns : List Int) : PyData.eqv (.list (ns.map PyData.int)) (.list (ns.map PyData.int)) = true := SeqAt.eqv_refl _ (by simp only [PyData.canLay0]; exact lay_ints ns)
/-- all uncovered numbers of a shifted sequence -/
def unS (A : List Nat) (g : Nat) : List Int := (List.range g).map (fun i => ((0 : Int) + (i : Nat))) ++ (uncA A).map fun u => ((u + 0 : Nat) : Int) + (g : Int)
theorem unS_len (A : List Nat) (g : Nat) : (unS A g).length = g + (uncA A).length := by unfold unS; rw [List.length_append, List.length_map, List.length_map, List.length_range]
theorem unS_get (A : List Nat) (g i : Nat) : ((unS A g).map V.int)[i]? = sunI A g i := by
  unfold unS sunI unI
  rw [List.map_append]
  by_cases h : i < g
  · rw [if_pos h, List.getElem?_append_left (by simp; exact h), List.map_map, List.getElem?_map, List.getElem?_range h]
    simp
  · have hl : ((List.range g).map fun i => ((0 : Int) + (i : Nat))).map V.int = ((List.range g).map fun i => V.int ((0 : Int) + (i : Nat))) := by rw [List.map_map]; rfl
    rw [if_neg h, List.getElem?_append_right (by simp; omega)]
    simp only [List.length_map, List.length_range]
    rw [List.map_map, List.getElem?_map]
    cases e : (uncA A)[i - g]? with
    | none => rfl
    | some u => simp
theorem sun_end (A : List Nat) (g : Nat) : sunI A g (g + (uncA A).length) = none := by
  unfold sunI unI
  rw [if_neg (by omega), Nat.add_sub_cancel_left, List.getElem?_eq_none (Nat.le_refl _)]
  rfl
theorem sun_some {A : List Nat} {g i : Nat} (h : i < g + (uncA A).length) : ∃ x, sunI A g i = some x := by
  rw [← unS_get, List.getElem?_map, List.getElem?_eq_getElem (by rw [unS_len]; exact h)]
  exact ⟨_, rfl⟩
def spBelow (C R S : Addr) : Sp := fun vs H Q _ => ∃ (qs qp c : Addr) (N : Nat) (A : List Nat) (sv : Sv) (g : Nat), vs = [.ref qs, .ref qp, .int (g : Nat)] ∧ SqAt C S H qs c N A sv g ∧ SqAt C R H qp c N A sv 0 ∧ g < 2 ^ 300 ∧ ∀ H', Same H H' → Q (.bl true) H'
theorem below_rd {g i : Nat} {x : V} (h : ([.int 0, .int ((g : Int) / 2), .int ((g : Int) - 1)] : List V)[i]? = some x) : ∃ y : Int, x = .int y := by
  match i, h with
  | 0, h => exact ⟨_, (Option.some.inj h).symm⟩
  | 1, h => exact ⟨_, (Option.some.inj h).symm⟩
  | 2, h => exact ⟨_, (Option.some.inj h).symm⟩
  | n + 3, h => cases h
theorem scBelow : FnScope ["_law_moved_here", "_law_plain", "_law_gap", "_law_own_x", "_law_k"] ["_law_moved_here", "_law_plain", "_law_gap"] (defScope tBelow) := ⟨rfl, rfl, rfl, by decide +kernel, rfl, by decide +kernel, by decide +kernel⟩
theorem ok_below (F : Fun K "_law_below_holds" "_law_below_holds" tBelow f fd) (B : Blt mg) (GS : SeqM P w K mg base C S anyO 10) (GA : Fn P w K mg base "_law_answer" 10 ["_law_track", "_law_own_x"] [] (spAnswer C R S))
    (US : MtG P w K mg base S "uncovered" 6 ["self"] (spSUncov C S)) (UR : MtG P w K mg base R "uncovered" 4 ["self"] (spUncov C R)) : FnOk P w K mg base CX0 11 f fd ["_law_moved_here", "_law_plain", "_law_gap"] (spBelow C R S) := by
  refine F.ok scBelow (fun vs H Q E h => ?_) (fun cdv Ar outer s H vs Q E hr h => ?_)
  · obtain ⟨qs, qp, c, N, A, sv, g, rfl, _⟩ := h; rfl
  · obtain ⟨qs, qp, c, N, A, sv, g, rfl, XS, XP, hg, k⟩ := h
    have nd := scBelow.nd
    obtain ⟨ds, hs⟩ := XS.ob
    obtain ⟨dp, hp⟩ := XP.ob
    have hun : (Ar.deeper (envOfC "_law_below_holds" (defScope tBelow) s.heap.objs.size f cdv)).units + 64 < cLine := by have := hr.un; omega
    refine ⟨_, pss_cons (ps_for PassesOwn.never rfl (pi_tup (pe_tup (pa_cons pe_int (pa_cons (pe_op op_fdiv (pv 2) pe_int) (pa_cons (pe_op op_sub (pv 2) pe_int) pa_nil))))) (pg_name (i := 3) nd rfl (.inl rfl))
        (pss_one (ps_if (pt_chain op_le op_lt pe_int (pv 3) (pv 2))
          (pss_cons (ps_if (PW.pt (pw_or (pt_val (pe_mt (pv 0) GS.contains hr (pa_cons (pv 3) pa_nil))) (pw_or (pt_cmpR op_ne (pe_mt (pv 0) GS.rank hr (pa_cons (pv 3) pa_nil)) pe_int (nomark _)) (pw_or1 (pt_cmpR op_notN (pe_mt (pv 0) GS.last hr (pa_cons (pv 3) pa_nil)) pe_non (nomark _)))))) (pss_one (ps_ret pe_bl)) pss_nil)
          (pss_one (ps_if (PW.pt (pw_or (pt_cmpR op_ne (pe_mt (pv 0) GS.next hr (pa_cons (pv 3) pa_nil)) (pe_mt (pv 0) GS.member hr (pa_cons pe_int pa_nil)) (nomark _))
            (pw_or1 (pt_cmpR (op_neD hun) (pe_fn GA hr (by rfl) (pa_cons (pv 0) (pa_cons (pv 3) pa_nil))) (pe_tup (pa_cons pe_str (pa_cons (pv 3) pa_nil))) (nomark _))))) (pss_one (ps_ret pe_bl)) pss_nil))) pss_nil)))
      (pss_cons (ps_if (pt_cmpR op_gt (pv 2) pe_int (nomark _))
        (pss_one (ps_ret (pe_cmpR (op_eqD hun)
          (pe_lcS (k := 8) (own := [("_law_k", 4), ("_law_own_x", 3)]) (g := gTup K 2 (gCons (gName 4) (gCons (gName 3) gNil))) (hr.mono (by decide)) rfl nd
            (pis_zip (by rfl) B.zip (pe_callTy cr_range1 (by rfl) B.range PyProof.Rows.boot_range (pa_cons pe_int pa_nil)) (pge_mt0 (pv 0) US (hr.mono (by decide))))
            (blkOk_by (own := [("_law_k", 4), ("_law_own_x", 3)]) (N := ["_law_moved_here", "_law_plain", "_law_gap", "_law_own_x", "_law_k"]) (sc := defScope tBelow) (by decide +kernel))
            (fun _ _ _ _ _ => pg_tup (by rfl) (pgs_cons (pg_name (i := 4) nd rfl (Or.inl rfl)) (pgs_cons (pg_name (i := 3) nd rfl (Or.inl rfl)) pgs_nil)))
            (fun _ _ _ _ _ => pts_one (pt_cmpR op_ne (pv 3) (pv 4) (nomark _))) (fun _ _ _ _ _ => pv 3))
          (pe_lst pa_nil) (nomark _)))) pss_nil)
      (pss_one (ps_ret (pe_cmpR (op_eqD hun) (pe_list (pge_mt0 (pv 0) US (hr.mono (by decide))) rfl (hr.mono (by decide)) (by rfl) B.list (by decide +kernel))
        (pe_op op_cat (pe_listRg rfl (by rfl) B.list (prg_1 (by rfl) B.range (pv 2)))
          (pe_lcS (k := 5) (own := [("_law_own_x", 3)]) (g := gName 3) (tt := tYes) (hr.mono (by decide)) rfl nd (pis_gen (pge_mt0 (pv 1) UR (hr.mono (by decide))))
            (blkOk_by (own := [("_law_own_x", 3)]) (N := ["_law_moved_here", "_law_plain", "_law_gap", "_law_own_x", "_law_k"]) (sc := defScope tBelow) (by decide +kernel))
            (fun _ _ _ _ _ => pg_name (i := 3) nd rfl (Or.inl rfl)) (fun _ _ _ _ _ => pts_nil) (fun _ _ _ _ _ => pe_op op_add (pv 3) (pv 2)))) (nomark _))))), ?_⟩
    refine ⟨_, rfl, _, _, rfl, rfl, ⟨by decide, by decide⟩, _, rfl, _, _, rfl, rfl, (by show 3 ≤ sizeLine; decide), fun T hT => ⟨T, rfl, ⟨_, SqT.of upd_same⟩, ?_⟩⟩
    have sT := same_upd (u := .tup [.int 0, .int ((g : Int) / 2), .int ((g : Int) - 1)]) (.refl H) hT
    refine for_tup (K := K) (a := T) (xs := [.int 0, .int ((g : Int) / 2), .int ((g : Int) - 1)]) (fun i σ H1 => Same (upd H T (.tup [.int 0, .int ((g : Int) / 2), .int ((g : Int) - 1)])) H1 ∧ ∃ v3 : Option V, σ = [some (.ref qs), some (.ref qp), some (.int (g : Nat)), v3, none]) ⟨.refl _, none, rfl⟩ (fun i σ H1 _ z => SqT.of (z.1 _ _ upd_same)) ?_ ?_
    · rintro i y σ H1 hy ⟨sm1', v3, rfl⟩
      obtain ⟨x, rfl⟩ := below_rd hy
      have sm1 := sT.trans sm1'
      refine ⟨_, rfl, _, _, rfl, rfl, _, rfl, ?_⟩
      refine ite2 (fun h0 => ?_) (fun h0 => ?_)
      · have h0 := of_decide_eq_true h0
        refine ⟨_, rfl, _, _, rfl, rfl, _, rfl, ?_⟩
        refine ite2 (fun h1 => ?_) (fun h1 => ⟨sm1', _, rfl⟩)
        have h1 := of_decide_eq_true h1
        obtain ⟨n, rfl⟩ : ∃ n : Nat, x = (n : Int) := ⟨x.toNat, by omega⟩
        have hn : n < g := by omega
        have bn : n < 2 ^ 300 := Nat.lt_trans hn hg
        have b9 := p2_le bn (by decide : 300 ≤ 900)
        have b10 := p2_le bn (by decide : 300 ≤ 1000)
        have sub0 : n - g = 0 := by omega
        have sub1 : n + 1 - g = 0 := by omega
        refine if_no (fun Q' q => ?_) (fun H2 sm2 => ?_)
        · refine ⟨_, rfl, qs, ds, _, rfl, sm1 _ _ hs, seqF_no _ _ (by decide +kernel), _, rfl, qs, c, N, A, sv, g, n, rfl, XS.mono sm1, trivial, Nat.zero_le _, b10, fun Ha sa => ?_⟩
          refine ⟨_, rfl, ?_⟩
          rw [decide_eq_false (by omega : ¬ g ≤ n)]
          refine iteF ?_
          have s1a := sm1.trans sa
          refine ⟨_, rfl, qs, ds, _, rfl, s1a _ _ hs, seqF_no _ _ (by decide +kernel), _, rfl, qs, c, N, A, sv, g, n, rfl, XS.mono s1a, trivial, Nat.zero_le _, b10, fun Hb sb => ?_⟩
          refine ⟨rfl, _, rfl, iteNS (by show V.int (rnkOf N A (n - g) : Nat) = V.int 0; rw [sub0, rnk_zero]; rfl) ?_⟩
          have s1b := s1a.trans sb
          refine ⟨_, rfl, qs, ds, _, rfl, s1b _ _ hs, seqF_no _ _ (by decide +kernel), _, rfl, qs, c, N, A, sv, g, n, rfl, XS.mono s1b, trivial, Nat.zero_le _, b9, fun Hc sc => ?_⟩
          have e : fLast N A sv g n = .non := by show (if rnkOf N A (n + 1 - g) = 0 then _ else _) = _; rw [sub1, if_pos (rnk_zero N A)]
          rw [e]
          exact ⟨rfl, _, rfl, q _ ((sa.trans sb).trans sc)⟩
        refine if_no1 (fun Q' q => ?_) (fun H3 sm3 => ⟨(sm1'.trans sm2).trans sm3, _, rfl⟩)
        have s2 := sm1.trans sm2
        refine ⟨_, rfl, qs, ds, _, rfl, s2 _ _ hs, seqF_no _ _ (by decide +kernel), _, rfl, qs, c, N, A, sv, g, n, rfl, XS.mono s2, trivial, Nat.zero_le _, b9, fun Ha sa => ?_⟩
        have s2a := s2.trans sa
        refine ⟨_, rfl, qs, ds, _, rfl, s2a _ _ hs, seqF_no _ _ (by decide +kernel), qs, c, N, A, sv, g, 0, rfl, XS.mono s2a, trivial, Nat.zero_le _, (by exact Nat.pow_pos (by decide)), fun Hb sb => ?_⟩
        refine ⟨rfl, _, rfl, iteNS (by show V.int (memOf N A (rnkOf N A (n + 1 - g)) + g : Nat) = V.int (memOf N A 0 + g : Nat); rw [sub1, rnk_zero]) ?_⟩
        have s2b := s2a.trans sb
        refine ⟨_, rfl, _, rfl, qs, c, S, N, A, sv, g, n, rfl, .inr rfl, XS.mono s2b, b9, fun t Hc sc et => ?_⟩
        rw [ans_below hn] at et
        refine ⟨_, rfl, (by show 2 ≤ sizeLine; decide), fun p hp' => ?_⟩
        refine ⟨_, _, .tup (SqT.of (by rw [upd_ne (ne_of_none et hp')]; exact et)) (.cons (.str _) (.cons (.int _) .nil)), .tup (SqT.of upd_same) (.cons (.str _) (.cons (.int _) .nil)), open_shaped _, open_shaped _, _, rfl, ?_⟩
        rw [open_eqv]
        exact q _ (same_upd ((sa.trans sb).trans sc) (((sa.trans sb).trans sc).free hp'))
      · exact ⟨_, rfl, iteF ⟨sm1', _, rfl⟩⟩
    · rintro σ H1 ⟨sm1', v3, rfl⟩
      have sm1 := sT.trans sm1'
      refine ⟨_, rfl, _, _, rfl, rfl, _, rfl, ?_⟩
      refine ite2 (fun h60 => ?_) (fun h60 => ?_)
      · have h60 : 60 < (g : Int) := of_decide_eq_true h60
        refine ⟨_, rfl, fun r hr' => ⟨r, 9, rfl, upd_same, by decide, ?_⟩⟩
        have sr := same_upd (u := .rng 0 9) sm1 (sm1.free hr')
        refine ⟨_, rfl, qs, ds, _, rfl, sr _ _ hs, seqF_no _ _ (by decide +kernel), _, _, ⟨qs, c, N, A, sv, g, rfl, rfl, rfl⟩, upd_same, fun D hD => ?_⟩
        have sD := same_upd (u := .lst []) sr (sr.free hD)
        refine ⟨fun i m H' => m = 9 - i ∧ i ≤ 9 ∧ Same (upd (upd H1 r (.rng 0 9)) D (.lst [])) H', ⟨9, rfl, by decide, .refl _⟩, ?_⟩
        rintro i m H' ⟨rfl, hi, sm'⟩
        by_cases h9 : i < 9
        · refine .inr ⟨⟨h9, XS.mono (sD.trans sm'), ⟨.int (i : Nat), if_pos (by omega)⟩⟩, fun H2 => Same (upd (upd H1 r (.rng 0 9)) D (.lst [])) H2, fun H2 z => ⟨9 - (i + 1), by omega, rfl, by omega, z⟩, fun v H2 hv => ?_⟩
          obtain ⟨T', x, H3, rfl, hx, s3, hT', rfl⟩ := hv
          have ex : x = .int (i : Nat) := by
            have z : sunI A g i = some x := hx
            unfold sunI at z
            rw [if_pos (by omega)] at z
            exact (Option.some.inj z).symm
          subst ex
          have sT' := same_upd (u := .tup [.int (i : Nat), .int (i : Nat)]) (sm'.trans s3) ((sm'.trans s3).free hT')
          refine ⟨T', _, rfl, SqT.of upd_same, rfl, _, _, rfl, _, _, rfl, rfl, rfl, _, rfl, _, rfl, rfl, _, rfl, ?_⟩
          rw [decide_eq_true rfl]
          exact iteF sT'
        · have e9 : i = 9 := by omega
          subst e9
          refine .inl ⟨Nat.le_refl _, fun H2 hf => ?_⟩
          have hf : H2 = H' := hf
          subst hf
          refine ⟨Nat.zero_le _, fun p hp' => ?_⟩
          have eD := sm' _ _ (upd_same (H := upd H1 r (.rng 0 9)) (a := D) (o := .lst []))
          refine ⟨_, _, .lst (SqL.of (by rw [upd_ne (ne_of_none eD hp')]; exact eD)) .nil, .lst (SqL.of upd_same) .nil, by decide, by decide, ?_⟩
          rw [show PyData.eqv (.list []) (.list []) = true from rfl]
          exact k _ (same_upd (sD.trans sm') ((sD.trans sm').free hp'))
      · have h60 : ¬ 60 < (g : Int) := fun z => h60 (decide_eq_true z)
        have hul := unc_len A
        have htl := top_lt XS.ce.arg
        have hNl := XS.ce.arg.le
        refine ⟨_, rfl, qs, ds, _, rfl, sm1 _ _ hs, seqF_no _ _ (by decide +kernel), _, _, ⟨qs, c, N, A, sv, g, rfl, rfl, rfl⟩, g + (uncA A).length, by omega, sun_end A g, fun i hi => sun_some hi, fun H2 s2 => XS.mono (sm1.trans s2), fun H2 p ys s2 hp' hyl hys => ?_⟩
        have s12 := sm1.trans s2
        have eys : ys = (unS A g).map V.int := by
          refine List.ext_getElem? fun j => ?_
          by_cases hj : j < g + (uncA A).length
          · rw [hys j hj, unS_get]
          · rw [List.getElem?_eq_none (by omega), List.getElem?_eq_none (by rw [List.length_map, unS_len]; omega)]
        subst eys
        have sp := same_upd (u := .lst ((unS A g).map V.int)) s12 (s12.free hp')
        have ep : (upd H2 p (.lst ((unS A g).map V.int))) p = some (.lst ((unS A g).map V.int)) := upd_same
        refine ⟨_, rfl, _, rfl, .of_le (by omega) (by omega) (by omega) (by omega), fun q1 hq1 => ?_⟩
        have sq1 := same_upd (u := .lst (rgV 0 (g : Int))) (.refl (upd H2 p (.lst ((unS A g).map V.int)))) hq1
        have eq1 : (upd (upd H2 p (.lst ((unS A g).map V.int))) q1 (.lst (rgV 0 (g : Int)))) q1 = some (.lst (rgV 0 (g : Int))) := upd_same
        generalize hH3 : upd (upd H2 p (.lst ((unS A g).map V.int))) q1 (.lst (rgV 0 (g : Int))) = H3 at sq1 eq1
        have s3 := sp.trans sq1
        refine ⟨_, rfl, qp, dp, _, rfl, s3 _ _ hp, seqF_no _ _ (by decide +kernel), _, _, ⟨qp, c, N, A, sv, 0, rfl, rfl, rfl⟩, (uncA A).length + 1, by omega, fun D hD => ?_⟩
        have sD := same_upd (u := .lst []) (.refl H3) hD
        refine ⟨fun i m H' => m = (uncA A).length - i ∧ i ≤ (uncA A).length ∧ Same H3 H' ∧ H' D = some (.lst (((uncA A).take i).map fun u => V.int (((u + 0 : Nat) : Int) + (g : Int)))), ⟨(uncA A).length, rfl, Nat.zero_le _, sD, upd_same⟩, ?_⟩
        rintro i m H' ⟨rfl, hi, sm', eD⟩
        by_cases hlt : i < (uncA A).length
        · have hu : (uncA A)[i]? = some (uncA A)[i] := List.getElem?_eq_getElem hlt
          generalize (uncA A)[i] = u at hu
          have hit : unI A 0 i = some (.int (u + 0 : Nat)) := by unfold unI; rw [hu]; rfl
          refine .inr ⟨⟨by omega, XP.mono (s3.trans sm'), ⟨_, hit⟩⟩, fun H2' => Same H3 H2' ∧ H2' D = some (.lst (((uncA A).take (i + 1)).map fun u => V.int (((u + 0 : Nat) : Int) + (g : Int)))), fun H2' z => ⟨(uncA A).length - (i + 1), by omega, rfl, by omega, z⟩, fun v H2' hv => ?_⟩
          obtain ⟨hx, s4⟩ := hv
          have ex : v = .int (u + 0 : Nat) := by
            have z : unI A 0 i = some v := hx
            rw [hit] at z
            exact (Option.some.inj z).symm
          subst ex
          refine ⟨rfl, ?_⟩
          refine ⟨_, rfl, _, rfl, _, _, rfl, rfl, _, s4 _ _ eD, ?_, same_upd (sm'.trans s4) hD, ?_⟩
          · rw [List.length_map, List.length_take]
            exact small1000' (by omega)
          · rw [upd_same, List.take_succ, hu, List.map_append]
            rfl
        · have ei : i = (uncA A).length := by omega
          subst ei
          refine .inl ⟨⟨by omega, XP.mono (s3.trans sm'), ?_⟩, fun H2' hf => ?_⟩
          · show unI A 0 _ = none
            unfold unI
            rw [List.getElem?_eq_none (Nat.le_refl _)]
            rfl
          · have hf : Same H' H2' := hf
            have eD2 := hf _ _ eD
            rw [List.take_length] at eD2
            have s5 := sm'.trans hf
            refine ⟨q1, D, _, _, rfl, rfl, s5 _ _ eq1, eD2, ?_, fun p2 hp2 => ?_⟩
            · rw [rgV_length, List.length_map]
              exact Nat.le_of_lt (small1000' (by omega))
            have ep5 := s5 _ _ (sq1 _ _ ep)
            have ecat : rgV 0 (g : Int) ++ (uncA A).map (fun u => V.int (((u + 0 : Nat) : Int) + (g : Int))) = (unS A g).map V.int := by
              unfold rgV unS
              rw [List.map_append, List.map_map, List.map_map, Int.sub_zero, Int.toNat_natCast]
              rfl
            refine ⟨_, _, .lst (SqL.of (by rw [upd_ne (ne_of_none ep5 hp2)]; exact ep5)) (dp_ints K _ (unS A g)), .lst (SqL.of (by rw [upd_same, ecat])) (dp_ints K _ (unS A g)), shaped_ints _, shaped_ints _, ?_⟩
            rw [ints_eqv]
            exact k _ (same_upd (s3.trans s5) ((s3.trans s5).free hp2))
end
end Tf

/-! ## TfLaw9 -/
set_option Elab.async false
set_option linter.all false
set_option maxRecDepth 100000
set_option maxHeartbeats 8000000
/-! The law itself. -/
namespace Tf
open PySem PySem.Spec PyProof.Rows L2
theorem StAt.inl {H : Hp} {d : Addr} {m : Nat} (x : StAt H d m) : ∃ kvs, H d = some (.dK kvs) ∧ ∀ r : Int, valV kvs (Sum.inl r) = none := by
  obtain ⟨l, ns, a, f, h, _⟩ := x
  refine ⟨_, h, fun r => ?_⟩
  have n1 : ¬ kCells = Sum.inl r := fun z => nomatch z
  have n2 : ¬ kAt = Sum.inl r := fun z => nomatch z
  have n3 : ¬ kLeft = Sum.inl r := fun z => nomatch z
  rw [stK, valV_neg n1, valV_neg n2, valV_neg n3]
  rfl
theorem StAt.sam {H H' : Hp} {d d' : Addr} {m m' : Nat} (x : StAt H d' m') (hd : StAt H d m) (ne : d' ≠ d) (sb : SamB d H H') : StAt H' d' m' := by
  obtain ⟨l, ns, a, f, h1, h2, h3⟩ := x
  obtain ⟨kvs, e⟩ := hd.dk
  exact ⟨l, ns, a, f, sb _ _ h1 ne, sb _ _ h2 (fun z => by subst z; rw [e] at h2; cases h2), h3⟩
theorem CellAt.sam {C p d : Addr} {H H' : Hp} {N m m' : Nat} {A : List Nat} {sv : Sv} (x : CellAt C H p N A sv) (h : StAt H d m) (h' : StAt H' d m') (sb : SamB d H H') : CellAt C H' p N A sv := by
  obtain ⟨⟨dx, mm, td, k, tb, kn, h1, h2, h3, h4, h5, h6⟩, arg, hsv⟩ := x
  obtain ⟨kv, e, en⟩ := h.inl
  obtain ⟨kv', e'⟩ := h'.dk
  have np : p ≠ d := fun z => by subst z; rw [e] at h1; cases h1
  have nm : mm ≠ d := fun z => by subst z; rw [e] at h2; cases h2
  have nk : k ≠ d := fun z => by
    subst z
    rw [e] at h4
    injection h4 with h4
    injection h4 with h4
    subst h4
    obtain ⟨y, hy⟩ := List.exists_mem_of_ne_nil _ arg.ne
    have z := h5.1 y
    rw [en, List.contains_iff_mem.mpr hy] at z
    cases z
  by_cases ht : td = d
  · subst ht
    rw [e] at h3
    injection h3 with h3
    injection h3 with h3
    subst h3
    refine ⟨⟨dx, mm, td, k, kv', kn, sb _ _ h1 np, sb _ _ h2 nm, e', sb _ _ h4 nk, h5, fun r hr hn => ?_⟩, arg, hsv⟩
    obtain ⟨t, z, _⟩ := h6 r hr hn
    rw [en] at z
    cases z
  · refine ⟨⟨dx, mm, td, k, tb, kn, sb _ _ h1 np, sb _ _ h2 nm, sb _ _ h3 ht, sb _ _ h4 nk, h5, fun r hr hn => ?_⟩, arg, hsv⟩
    obtain ⟨t, z, zt⟩ := h6 r hr hn
    exact ⟨t, z, sb _ _ zt fun w => by subst w; rw [e] at zt; cases zt⟩
theorem SqAt.sam {C D q c d : Addr} {H H' : Hp} {N m m' off : Nat} {A : List Nat} {sv : Sv} (x : SqAt C D H q c N A sv off) (h : StAt H d m) (h' : StAt H' d m') (sb : SamB d H H') : SqAt C D H' q c N A sv off := by
  obtain ⟨dx, e⟩ := x.ob
  obtain ⟨kv, ek⟩ := h.dk
  exact ⟨⟨dx, sb _ _ e fun z => by subst z; rw [ek] at e; cases e⟩, x.ce.sam h h' sb⟩
theorem SamB.tup {d t : Addr} {H H' : Hp} {m : Nat} {xs : List V} (sb : SamB d H H') (h : StAt H d m) (e : H t = some (.tup xs)) : H' t = some (.tup xs) := by
  obtain ⟨kv, ek⟩ := h.dk
  exact sb _ _ e fun z => by subst z; rw [ek] at e; cases e
theorem SamB.lst {d t : Addr} {H H' : Hp} {m : Nat} {xs : List V} (sb : SamB d H H') (h : StAt H d m) (e : H t = some (.lst xs)) : H' t = some (.lst xs) := by
  obtain ⟨kv, ek⟩ := h.dk
  exact sb _ _ e fun z => by subst z; rw [ek] at e; cases e
/-- what a turn of the law has: both sequences, the cell's members, the stream -/
structure Bag (C R S : Addr) (H : Hp) (d : Addr) (mm : Nat) (qs qp c m : Addr) (N : Nat) (A : List Nat) (sv : Sv) (g : Nat) : Prop where
  xs : SqAt C S H qs c N A sv g
  xp : SqAt C R H qp c N A sv 0
  ow : H m = some (.tup (nV A))
  st : StAt H d mm
section
variable {C R S d qs qp c m : Addr} {H H' : Hp} {N mm mm' g : Nat} {A : List Nat} {sv : Sv}
theorem Bag.mono (b : Bag C R S H d mm qs qp c m N A sv g) (sm : Same H H') : Bag C R S H' d mm qs qp c m N A sv g := ⟨b.xs.mono sm, b.xp.mono sm, sm _ _ b.ow, b.st.mono sm (Nat.le_refl _)⟩
theorem Bag.sam (b : Bag C R S H d mm qs qp c m N A sv g) (h' : StAt H' d mm') (sb : SamB d H H') : Bag C R S H' d mm' qs qp c m N A sv g := ⟨b.xs.sam b.st h' sb, b.xp.sam b.st h' sb, sb.tup b.st b.ow, h'⟩
end
abbrev lawS (a d : Addr) (N : Nat) (m c : Addr) (g : Nat) (qs qp : Addr) (v8 v9 v10 v11 v12 : Option V) : L2.St := [some (.ref a), some (.ref d), some (.int (N : Nat)), some (.ref m), some (.ref c), some (.int (g : Nat)), some (.ref qs), some (.ref qp), v8, v9, v10, v11, v12]
theorem ten64 : (10 : Nat) ^ 64 < 2 ^ 300 := by decide +kernel
theorem nats4 {a b c d i : Nat} {x : V} (h : ([.int (a : Nat), .int (b : Nat), .int (c : Nat), .int (d : Nat)] : List V)[i]? = some x) (ha : a < 2 ^ 300) (hb : b < 2 ^ 300) (hc : c < 2 ^ 300) (hd : d < 2 ^ 300) : ∃ n : Nat, x = .int (n : Nat) ∧ n < 2 ^ 300 := by
  match i, h with
  | 0, h => exact ⟨a, (Option.some.inj h).symm, ha⟩
  | 1, h => exact ⟨b, (Option.some.inj h).symm, hb⟩
  | 2, h => exact ⟨c, (Option.some.inj h).symm, hc⟩
  | 3, h => exact ⟨d, (Option.some.inj h).symm, hd⟩
  | n + 4, h => cases h
theorem nats5 {N b d e i : Nat} {x : V} (h : ([.int 0, .int (b : Nat), .int ((N : Int) - 1), .int (d : Nat), .int (e : Nat)] : List V)[i]? = some x) (hN : 0 < N) (hN2 : N < 2 ^ 300) (hb : b < 2 ^ 300) (hd : d < 2 ^ 300) (he : e < 2 ^ 300) : ∃ n : Nat, x = .int (n : Nat) ∧ n < 2 ^ 300 := by
  match i, h with
  | 0, h => exact ⟨0, (Option.some.inj h).symm, Nat.pow_pos (by decide)⟩
  | 1, h => exact ⟨b, (Option.some.inj h).symm, hb⟩
  | 2, h => exact ⟨N - 1, by rw [← Option.some.inj h, show (N : Int) - 1 = ((N - 1 : Nat) : Int) from by omega], by omega⟩
  | 3, h => exact ⟨d, (Option.some.inj h).symm, hd⟩
  | 4, h => exact ⟨e, (Option.some.inj h).symm, he⟩
  | n + 5, h => cases h
theorem nats3 {b c i : Nat} (h : i < 3) (hb : b < 2 ^ 300) (hc : c < 2 ^ 300) : ∃ n : Nat, ([.int 0, .int (b : Nat), .int (c : Nat)] : List V)[i]? = some (.int (n : Nat)) ∧ n < 2 ^ 300 := by
  match i, h with
  | 0, _ => exact ⟨0, rfl, Nat.pow_pos (by decide)⟩
  | 1, _ => exact ⟨b, rfl, hb⟩
  | 2, _ => exact ⟨c, rfl, hc⟩
theorem cut_refs (ds : List Addr) (lo hi : Option Int) : ∃ ds' : List Addr, cutV (ds.map V.ref) lo hi = ds'.map V.ref ∧ ds'.Sublist ds :=
  ⟨_, by unfold cutV; rw [List.length_map, ← List.map_drop, ← List.map_take], (List.take_sublist _ _).trans (List.drop_sublist _ _)⟩
theorem refs_get {ds : List Addr} {i : Nat} {x : V} (h : (ds.map V.ref)[i]? = some x) : ∃ d, ds[i]? = some d ∧ x = .ref d := by
  rw [List.getElem?_map] at h
  cases e : ds[i]? with
  | none => rw [e] at h; cases h
  | some d => rw [e] at h; exact ⟨d, rfl, (Option.some.inj h).symm⟩
theorem q_no {Q' : Bool → Hp → Prop} {x y : V} {H : Hp} (h : x = y) (q : Q' false H) : Q' (!decide (x = y)) H := by rw [decide_eq_true h]; exact q
theorem small300 {n : Nat} (h : n < 2 ^ 40) : n < 2 ^ 300 := p2_le h (by decide)
def spLaw (K : PySem.W.Frag) : Sp := fun vs H Q _ => ∃ (a : Addr) (ns : List Int), vs = [.ref a] ∧ SqL K H a (ns.map V.int) ∧ ns.length ≤ 63 ∧ ∀ H', Q (.bl true) H'
/-- all that the law calls -/
structure LawM (P : Program) (w : World) (K : PySem.W.Frag) (mg : Str → Option Value) (base : Heap) (C R S : Addr) : Prop where
  str : Fn P w K mg base "_law_streams" 1 ["_law_script"] [] (spStreams K)
  nx : Fn P w K mg base "_law_next" 1 ["_law_stream", "_law_count"] [] spNext
  hu : Fn P w K mg base "_law_huge" 2 ["_law_stream"] [] spHuge
  rn : Fn P w K mg base "_law_random_cell" 2 ["_law_stream", "_law_most"] [] spRandom
  mc : Mkr P w K mg base "Cell" C 3 ["self", "modulus", "members"] [] (spCInit C)
  ms : MkrN P w K mg base "ShiftedSequence" S 2 1 ["shift"] (fun vs zs => vs ++ zs) (spSInit C S)
  m0 : MkrN P w K mg base "ShiftedSequence" S 2 0 ["cell"] (fun vs zs => vs ++ zs ++ [.int 0]) (spSInit C S)
  mr : Mkr P w K mg base "RuledSequence" R 1 ["self", "cell"] [] (spRInit C R)
  gs : SeqM P w K mg base C S anyO 10
  gr : SeqM P w K mg base C R (· = 0) 10
  num : FnN' P w K mg base "_law_number_holds" 11 ["_law_moved_here", "_law_plain", "_law_gap", "_law_own_x"] (spNum C R S)
  bel : Fn P w K mg base "_law_below_holds" 11 ["_law_moved_here", "_law_plain", "_law_gap"] [] (spBelow C R S)
  nam : Fn P w K mg base "_law_names_hold" 11 ["_law_moved_here", "_law_own_x"] [] (spNames C S)
  wk : MtG P w K mg base S "walk" 6 ["self", "start"] (spWalk C S anyO)
  ts : Mt P w K mg base S "tripled" 6 ["self"] [] (spTri C S S anyO)
  tr : Mt P w K mg base R "tripled" 6 ["self"] [] (spTri C R R (· = 0))
  pr : Pr P w K mg base R "cell" 1 (spS1 C R fun H _ c _ _ _ _ Q => Q (.ref c) H)
  ps : Pr P w K mg base S "cell" 1 (spS1 C S fun H _ c _ _ _ _ Q => Q (.ref c) H)
  sh : Pr P w K mg base S "shift" 1 (spS1 C S fun H _ _ _ _ _ off Q => Q (.int (off : Nat)) H)
  ec : EqF P w K mg base C 1 ["self", "other"] (spCEq C)
  es : EqF P w K mg base S 2 ["self", "other"] (spREq C R S)
  ln : LenF P w K mg base S 3 (spS1 C S fun H _ _ _ A _ _ Q => Q (.int (A.length : Nat)) H)
  nf : PySem.W.notFirst K C (.ref C) = true
section
variable {P : Program} {w : World} {K : PySem.W.Frag} {mg : Str → Option Value} {base : Heap} {f C R S : Addr} {fd : FuncData}
theorem scLaw : ScS ["_law_script", "_law_stream", "_law_size", "_law_own", "_law_own_cell", "_law_gap", "_law_moved_here", "_law_plain", "_law_own_number", "_law_own_x", "_law_k", "_law_member", "_law_facts"] ["_law_script"] (defScope tLaw) := ⟨rfl, rfl, by decide +kernel, rfl, by decide +kernel, by decide +kernel, by decide +kernel⟩
theorem ok_law (F : Fun K "law" "law" tLaw f fd) (B : Blt mg) (W : Two K mg R S) (M : LawM P w K mg base C R S) : FnG P w K mg base 12 f fd ["_law_script"] (spLaw K) := by
  obtain ⟨cdv, FG⟩ := Fun.toG F (by decide +kernel)
  refine FG.okG scLaw rfl (by decide +kernel) (fun vs H Q E h => ?_) (fun Ar outer s H vs Q hr hgd h => ?_)
  · obtain ⟨a, ns, rfl, _⟩ := h; rfl
  · obtain ⟨a, ns, rfl, hS, hn63, k⟩ := h
    have nd := scLaw.nd
    have hgd' : (Ar.deeper (PySem.W.envX "law" (defScope tLaw) s.heap.objs.size f cdv [])).guards = some [] := hgd
    have r1 := hr.mono (by decide : 1 ≤ 11)
    have r2 := hr.mono (by decide : 2 ≤ 11)
    have r3 := hr.mono (by decide : 3 ≤ 11)
    have r4 := hr.mono (by decide : 4 ≤ 11)
    have r6 := hr.mono (by decide : 6 ≤ 11)
    have r8 := hr.mono (by decide : 8 ≤ 11)
    have r10 := hr.mono (by decide : 10 ≤ 11)
    refine ⟨_, pss_cons (ps_for PassesOwn.never rfl (pi_list (pe_slice sl_list (pe_fn M.str r1 (by rfl) (pa_cons (pv 0) pa_nil)) po_none (po_some pe_int))) (pg_name (i := 1) nd rfl (.inl rfl))
        (pss_cons (ps_asg (pe_fn M.rn r2 (by rfl) (pa_cons (pv 1) (pa_cons pe_int pa_nil))) (pg_tup (by rfl) (pgs_cons (pg_name (i := 2) nd rfl (.inl rfl)) (pgs_cons (pg_name (i := 3) nd rfl (.inl rfl)) pgs_nil))))
        (pss_cons (ps_set (i := 4) nd rfl (.inl rfl) (pe_mkr M.mc r4 (by rfl) (pa_cons (pv 2) (pa_cons (pv 3) pa_nil))))
        (pss_cons (ps_set (i := 5) nd rfl (.inl rfl) (pe_ix ix_list (pe_lst (pa_cons pe_int (pa_cons (pe_op op_add pe_int (pe_fn M.nx r1 (by rfl) (pa_cons (pv 1) (pa_cons pe_int pa_nil)))) (pa_cons (pe_fn M.hu r2 (by rfl) (pa_cons (pv 1) pa_nil)) pa_nil)))) (pe_fn M.nx r1 (by rfl) (pa_cons (pv 1) (pa_cons pe_int pa_nil))) (fun _ _ => rfl)))
        (pss_cons (ps_par (i := 6) (j := 7) (by rfl) nd rfl rfl (by decide) rfl rfl (pa_cons (pe_mkrN M.ms r3 (by rfl) (pa_cons (pv 4) pa_nil) (pk_cons (pv 5) pk_nil)) (pa_cons (pe_mkr M.mr r2 (by rfl) (pa_cons (pv 4) pa_nil)) pa_nil)) (by rfl))
        (pss_cons (ps_for PassesOwn.never rfl (pi_tup (pe_tup (pa_cons pe_int (pa_cons pe_int (pa_cons (pe_fn M.nx r1 (by rfl) (pa_cons (pv 1) (pa_cons pe_int pa_nil))) (pa_cons (pe_fn M.hu r2 (by rfl) (pa_cons (pv 1) pa_nil)) pa_nil)))))) (pg_name (i := 8) nd rfl (.inl rfl))
          (pss_cons (ps_if (pt_cmpR op_ne (pe_mt (pv 6) M.gs.member r10 (pa_cons (pv 8) pa_nil)) (pe_op op_add (pe_mt (pv 7) M.gr.member r10 (pa_cons (pv 8) pa_nil)) (pv 5)) (nomark _)) (pss_one (ps_ret pe_bl)) pss_nil)
          (pss_one (ps_if (pt_cmpR op_ne (pe_mt (pv 6) M.gs.gap r10 (pa_cons (pe_op op_add (pv 8) pe_int) pa_nil)) (pe_mt (pv 7) M.gr.gap r10 (pa_cons (pe_op op_add (pv 8) pe_int) pa_nil)) (nomark _)) (pss_one (ps_ret pe_bl)) pss_nil))))
        (pss_cons (ps_for PassesOwn.never rfl (pi_tup (pe_tup (pa_cons pe_int (pa_cons (pe_fn M.nx r1 (by rfl) (pa_cons (pv 1) (pa_cons (pe_op op_mul pe_int (pv 2)) pa_nil))) (pa_cons (pe_op op_sub (pv 2) pe_int) (pa_cons (pe_fn M.nx r1 (by rfl) (pa_cons (pv 1) (pa_cons (pe_op op_mul pe_int (pv 2)) pa_nil))) (pa_cons (pe_fn M.hu r2 (by rfl) (pa_cons (pv 1) pa_nil)) pa_nil))))))) (pg_name (i := 9) nd rfl (.inl rfl))
          (pss_one (ps_if (pt_not (pt_val (pe_fnG M.num hr hgd' (by rfl) (pa_cons (pv 6) (pa_cons (pv 7) (pa_cons (pv 5) (pa_cons (pv 9) pa_nil))))))) (pss_one (ps_ret pe_bl)) pss_nil)))
        (pss_cons (ps_if (PW.pt (pw_or (pt_not (pt_val (pe_fn M.bel hr (by rfl) (pa_cons (pv 6) (pa_cons (pv 7) (pa_cons (pv 5) pa_nil)))))) (pw_or1 (pt_not (pt_val (pe_fn M.nam hr (by rfl) (pa_cons (pv 6) (pa_cons (pe_op op_add (pv 5) pe_int) pa_nil)))))))) (pss_one (ps_ret pe_bl)) pss_nil)
        (pss_cons (ps_forS (k := 8) r8 rfl (pis_zip (by rfl) B.zip (pe_callTy cr_range1 (by rfl) B.range PyProof.Rows.boot_range (pa_cons pe_int pa_nil)) (pge_mt (pv 6) M.wk r6 (pa_cons (pv 5) pa_nil)))
          (pg_tup (by rfl) (pgs_cons (pg_name (i := 10) nd rfl (.inl rfl)) (pgs_cons (pg_name (i := 11) nd rfl (.inl rfl)) pgs_nil)))
          (pss_one (ps_if (pt_cmpR op_ne (pv 11) (pe_op op_add (pe_mt (pv 7) M.gr.member r10 (pa_cons (pe_op op_add (pv 5) (pv 10)) pa_nil)) (pv 5)) (nomark _)) (pss_one (ps_ret pe_bl)) pss_nil)))
        (pss_cons (ps_if (pt_cmpR (op_neI M.es W.neS W.obS r3) (pe_mt0 (pv 6) M.ts r6) (pe_mkrN M.ms r3 (by rfl) (pa_cons (pe_pr (pe_mt0 (pv 7) M.tr r6) M.pr r2) pa_nil) (pk_cons (pv 5) pk_nil)) (nomark _)) (pss_one (ps_ret pe_bl)) pss_nil)
        (pss_cons (ps_set (i := 12) nd rfl (.inl rfl) (pe_lst (pa_cons (pe_cmpR op_eq (pe_pr (pv 6) M.sh r2) (pv 5) (nomark _)) (pa_cons (pe_cmpR (op_eqI M.ec r1) (pe_pr (pv 6) M.ps r2) (pv 4) (nomark _))
          (pa_cons (pe_callB call_isi (by rfl) B.isinstance PyProof.Rows.boot_isinstance (pa_cons (pv 6) (pa_cons (pe_glob (v := .ref R) (by rfl) W.mgR rfl) pa_nil))) pa_nil)))))
        (pss_cons (ps_set (i := 12) nd rfl (.inl rfl) (pe_op op_cat (pv 12) (pe_lst (pa_cons (pe_cmpR (op_eqI M.es r2) (pv 6) (pv 7) (nomark _)) (pa_cons (pe_cmpR (op_eqB M.es r2) (pv 7) (pv 6) (nomark _)) pa_nil)))))
        (pss_cons (ps_if (PW.pt (pw_or (pt_cmpR op_ne (pe_callB (call_repr hgd' hr) (by rfl) B.repr (by decide +kernel) (pa_cons (pv 12) pa_nil)) (pe_callB (call_repr hgd' hr) (by rfl) B.repr (by decide +kernel) (pa_cons (pe_lst (pa_cons pe_bl (pa_cons pe_bl (pa_cons pe_bl (pa_cons pe_bl (pa_cons pe_bl pa_nil)))))) pa_nil)) (nomark _))
          (pw_or1 (pt_cmpR op_ne (pe_callB (call_lenO M.ln r4) (by rfl) B.len PySem.boot_len (pa_cons (pv 6) pa_nil)) (pe_callB call_len_seq (by rfl) B.len PySem.boot_len (pa_cons (pv 3) pa_nil)) (nomark _))))) (pss_one (ps_ret pe_bl)) pss_nil)
        (pss_cons (ps_if (pt_cmpR (op_neI M.es W.neS W.obS r3) (pe_mkrK M.m0 r3 (by rfl) (pk_cons (pv 4) pk_nil)) (pe_mkrN M.ms r3 (by rfl) (pa_cons (pv 4) pa_nil) (pk_cons pe_int pk_nil)) (nomark _)) (pss_one (ps_ret pe_bl)) pss_nil)
        (pss_one (ps_if (pt_cmpR (op_eqI M.es r2) (pv 6) (pe_mkrN M.ms r3 (by rfl) (pa_cons (pv 4) pa_nil) (pk_cons (pe_op op_add (pv 5) pe_int) pk_nil)) (nomark _)) (pss_one (ps_ret pe_bl)) pss_nil))))))))))))))))
      (pss_one (ps_ret pe_bl)), ?_⟩
    refine ⟨_, rfl, a, ns, rfl, hS, hn63, fun L ds H1 sm1 hL hdl hnd hst => ?_⟩
    refine ⟨3, rfl, L, _, rfl, SqL.of hL, fun p hp => ⟨p, rfl, ⟨_, SqL.of upd_same⟩, ?_⟩⟩
    obtain ⟨ds', ecut, hsub⟩ := cut_refs ds none (some 3)
    rw [ecut]
    have sp0 := same_upd (u := .lst (ds'.map V.ref)) (.refl H1) hp
    have hnd' : ds'.Nodup := hnd.sublist hsub
    have hst' : ∀ d ∈ ds', StAt (upd H1 p (.lst (ds'.map V.ref))) d 1000 := fun d hd => (hst d (hsub.subset hd)).mono sp0 (Nat.le_refl _)
    refine for_list (K := K) (a := p) (xs := ds'.map V.ref) (fun i σ H2 => (∃ v1 v2 v3 v4 v5 v6 v7 v8 v9 v10 v11 v12 : Option V, σ = [some (.ref a), v1, v2, v3, v4, v5, v6, v7, v8, v9, v10, v11, v12]) ∧ H2 p = some (.lst (ds'.map V.ref)) ∧ ∀ j d, i ≤ j → ds'[j]? = some d → StAt H2 d 1000)
      ⟨⟨none, none, none, none, none, none, none, none, none, none, none, none, rfl⟩, upd_same, fun j d _ hj => hst' d (List.mem_of_getElem? hj)⟩ (fun i σ H2 _ z => SqL.of z.2.1) ?_ (fun σ H2 _ => k H2)
    rintro i x σ H2 hx ⟨⟨v1, v2, v3, v4, v5, v6, v7, v8, v9, v10, v11, v12, rfl⟩, hp2, hst2⟩
    obtain ⟨d, hd, rfl⟩ := refs_get hx
    have st0 := hst2 i d (Nat.le_refl _) hd
    have fin : ∀ (σ' : L2.St) (H' : Hp), SamB d H2 H' → (∃ v1 v2 v3 v4 v5 v6 v7 v8 v9 v10 v11 v12 : Option V, σ' = [some (.ref a), v1, v2, v3, v4, v5, v6, v7, v8, v9, v10, v11, v12]) →
        (∃ v1 v2 v3 v4 v5 v6 v7 v8 v9 v10 v11 v12 : Option V, σ' = [some (.ref a), v1, v2, v3, v4, v5, v6, v7, v8, v9, v10, v11, v12]) ∧ H' p = some (.lst (ds'.map V.ref)) ∧ ∀ j d, i + 1 ≤ j → ds'[j]? = some d → StAt H' d 1000 := fun σ' H' sb hσ =>
      ⟨hσ, sb.lst st0 hp2, fun j d' hj hd' => (hst2 j d' (by omega) hd').sam st0 (fun z => by
        subst z
        have e := (List.getElem?_eq_some_iff.mp hd).2
        have e' := (List.getElem?_eq_some_iff.mp hd').2
        have := (List.getElem_inj hnd').mp (e.trans e'.symm)
        omega) sb⟩
    -- the cell
    refine ⟨_, rfl, d, 1000, rfl, st0, by decide, fun t N A H3 pr gd st3 sb3 => ?_⟩
    obtain ⟨m, et, em⟩ := pr
    refine ⟨_, _, rfl, SqT.of et, rfl, _, _, rfl, _, _, rfl, rfl, ?_⟩
    have hN0 := gd.ok.pos
    have hN300 := gd.le
    have hA44 := gd.small
    have arg : CellArg N A := ⟨gd.ok, by omega, by omega⟩
    refine ⟨_, rfl, _, rfl, ?_⟩
    intro c cdx hc hcd hcne
    refine ⟨c, cdx, m, N, A, rfl, upd_same, same_upd (same_upd (.refl H3) hcd) hc _ _ em, arg, fun sv H4 ce keep => ⟨rfl, ?_⟩⟩
    have sm4 := Same.made hc hcd keep
    have em4 := sm4 _ _ em
    have st4 := st3.mono sm4 (Nat.le_refl _)
    have sb4 := sb3.same sm4
    refine nx_mk ?_
    -- the shift
    refine set_cut (fun v H' => ∃ g : Nat, v = .int (g : Nat) ∧ g < 2 ^ 300 ∧ StAt H' d 1016 ∧ SamB d H4 H') (fun Q' q => ?_) (fun v H5 ⟨g, ev, hg, st5, sb5⟩ => ?_)
    · refine ⟨_, rfl, d, 1005, 50, rfl, st4, by decide, by decide, by decide, fun r Ha hr' sta sba => ⟨_, _, rfl, rfl, ?_⟩⟩
      refine ⟨_, rfl, d, 1006, rfl, sta, by decide, fun xh Hb hxh stb sbb => ⟨by show 3 ≤ sizeLine; decide, fun l hl => ?_⟩⟩
      have sl := same_upd (u := .lst [.int 0, .int (1 + (r : Int)), .int (xh : Nat)]) (.refl Hb) hl
      have stl := stb.mono sl (Nat.le_refl _)
      refine ⟨_, rfl, d, 1015, 3, rfl, stl, by decide, by decide, by decide, fun r3 Hc hr3 stc sbc => ?_⟩
      obtain ⟨n, hn, hnb⟩ := nats3 (b := 1 + r) (c := xh) hr3 (small300 (by omega)) (Nat.lt_trans hxh ten64)
      have ec : Hc l = some (.lst [.int 0, .int (1 + (r : Int)), .int (xh : Nat)]) := sbc.lst stl upd_same
      exact ⟨l, _, _, .int (n : Nat), rfl, rfl, SqL.of ec, atI_nat hn, q _ _ ⟨n, rfl, hnb, stc, ((sba.trans sbb).same sl).trans sbc⟩⟩
    subst ev
    have ce5 := ce.sam st4 st5 sb5
    have em5 := sb5.tup st4 em4
    have sb05 := sb4.trans sb5
    -- the sequences
    refine ⟨_, rfl, _, rfl, rfl, rfl, ?_⟩
    intro qs sdx hqs hsd hsne
    have sA : Same H5 (upd (upd H5 sdx (.own qs)) qs (.ins S sdx [])) := same_upd (same_upd (.refl _) hsd) hqs
    refine ⟨qs, c, sdx, N, A, sv, g, rfl, upd_same, ce5.mono sA, fun H6 XS6 keep6 => ⟨rfl, ?_⟩⟩
    have sm6 := Same.made hqs hsd keep6
    refine ⟨_, rfl, ?_⟩
    intro qp pdx hqp hpd hpne
    have sB : Same H6 (upd (upd H6 pdx (.own qp)) qp (.ins R pdx [])) := same_upd (same_upd (.refl _) hpd) hqp
    refine ⟨qp, c, pdx, N, A, sv, rfl, upd_same, (ce5.mono sm6).mono sB, fun H7 XP7 keep7 => ⟨rfl, _, _, rfl, ?_⟩⟩
    have sm7 := Same.made hqp hpd keep7
    have B7 : Bag C R S H7 d 1016 qs qp c m N A sv g := ⟨XS6.mono sm7, XP7, sm7 _ _ (sm6 _ _ em5), st5.mono (sm6.trans sm7) (Nat.le_refl _)⟩
    have sb07 := (sb05.same sm6).same sm7
    refine nx_mk ?_
    have b9 : ∀ {n : Nat}, n < 2 ^ 300 → n < 2 ^ 900 := fun h => p2_le h (by decide)
    have b10 : ∀ {n : Nat}, n < 2 ^ 300 → n < 2 ^ 1000 := fun h => p2_le h (by decide)
    have b11 : ∀ {n : Nat}, n < 2 ^ 300 → n + 3 < 2 ^ 900 := fun h => Nat.lt_of_lt_of_le (p2_add (a := 300) h (small300 (by decide : 3 < 2 ^ 40))) (Nat.pow_le_pow_right (by decide) (by decide))
    have b12 : ∀ {n j : Nat}, n < 2 ^ 300 → j < 2 ^ 300 → n + j < 2 ^ 1000 := fun h h' => p2_le (p2_add h h') (by decide)
    -- members and gaps
    refine ⟨_, rfl, d, 1016, 300, rfl, B7.st, by decide, by decide, by decide, fun r Ha hr' sta sba => ?_⟩
    refine ⟨_, rfl, d, 1017, rfl, sta, by decide, fun xh Hb hxh stb sbb => ⟨by show 4 ≤ sizeLine; decide, fun T hT => ⟨T, rfl, ⟨_, SqT.of upd_same⟩, ?_⟩⟩⟩
    have sT := same_upd (u := .tup [.int 0, .int 1, .int (r : Nat), .int (xh : Nat)]) (.refl Hb) hT
    have B8 := (B7.sam stb (sba.trans sbb)).mono sT
    have sb08 := ((sb07.trans sba).trans sbb).same sT
    generalize hH8 : upd Hb T (.tup [.int 0, .int 1, .int (r : Nat), .int (xh : Nat)]) = H8 at sT B8 sb08 ⊢
    have eT : H8 T = some (.tup [.int 0, .int 1, .int (r : Nat), .int (xh : Nat)]) := by rw [← hH8]; exact upd_same
    obtain ⟨ds8, hs8⟩ := B8.xs.ob
    obtain ⟨dp8, hp8⟩ := B8.xp.ob
    refine for_tup (K := K) (a := T) (xs := [.int 0, .int 1, .int (r : Nat), .int (xh : Nat)]) (fun i σ H9 => Same H8 H9 ∧ ∃ v8, σ = lawS a d N m c g qs qp v8 v9 v10 v11 v12) ⟨.refl _, v8, rfl⟩ (fun i σ H9 _ z => SqT.of (z.1 _ _ eT)) ?_ ?_
    · rintro i y σ H9 hy ⟨sm9, v8, rfl⟩
      obtain ⟨n, rfl, hn⟩ := nats4 (a := 0) (b := 1) (c := r) (d := xh) hy (Nat.pow_pos (by decide)) (small300 (by decide)) (small300 (by omega)) (Nat.lt_trans hxh ten64)
      have XS := B8.xs.mono sm9
      have XP := B8.xp.mono sm9
      refine if_no (fun Q' q => ?_) (fun H10 sm10 => ?_)
      · refine ⟨_, rfl, qs, ds8, _, rfl, sm9 _ _ hs8, seqF_no _ _ (by decide +kernel), _, rfl, qs, c, N, A, sv, g, n, rfl, XS, trivial, Nat.zero_le _, b10 hn, fun Ha sa => ?_⟩
        refine ⟨_, rfl, qp, dp8, _, rfl, sa _ _ (sm9 _ _ hp8), seqF_no _ _ (by decide +kernel), _, rfl, qp, c, N, A, sv, 0, n, rfl, XP.mono sa, rfl, Nat.zero_le _, b10 hn, fun Hb sb => ?_⟩
        exact ⟨_, rfl, _, _, rfl, rfl, rfl, _, rfl, q_no rfl (q _ (sa.trans sb))⟩
      · have s910 := sm9.trans sm10
        refine if_no1 (fun Q' q => ?_) (fun H11 sm11 => ⟨s910.trans sm11, _, rfl⟩)
        refine ⟨_, rfl, qs, ds8, _, rfl, s910 _ _ hs8, seqF_no _ _ (by decide +kernel), _, rfl, _, _, rfl, rfl, qs, c, N, A, sv, g, n + 1, rfl, B8.xs.mono s910, trivial, Nat.le_add_left _ _, b12 hn (small300 (by decide)), fun Ha sa => ?_⟩
        refine ⟨_, rfl, qp, dp8, _, rfl, sa _ _ (s910 _ _ hp8), seqF_no _ _ (by decide +kernel), _, rfl, _, _, rfl, rfl, qp, c, N, A, sv, 0, n + 1, rfl, (B8.xp.mono s910).mono sa, rfl, Nat.le_add_left _ _, b12 hn (small300 (by decide)), fun Hb sb => ?_⟩
        exact ⟨rfl, _, rfl, q_no rfl (q _ (sa.trans sb))⟩
    rintro σ H9 ⟨sm9, v8', rfl⟩
    have B9 := B8.mono sm9
    have sb09 := sb08.same sm9
    refine nx_mk ?_
    -- all about some numbers
    refine ⟨_, rfl, _, rfl, _, _, rfl, rfl, .inl ⟨by decide, by decide⟩, d, 1026, 2 * N, rfl, B9.st.mono (.refl _) (by decide), by decide, by omega, by omega, fun r1' H10 hr1' st10 sb10 => ?_⟩
    refine ⟨_, rfl, _, _, rfl, rfl, ?_⟩
    refine ⟨_, rfl, _, rfl, _, _, rfl, rfl, .inl ⟨by decide, by decide⟩, d, 1027, 9 * N, rfl, st10, by decide, by omega, by omega, fun r2' H11 hr2' st11 sb11 => ?_⟩
    refine ⟨_, rfl, d, 1028, rfl, st11, by decide, fun xh2 H12 hxh2 st12 sb12 => ⟨by show 5 ≤ sizeLine; decide, fun T2 hT2 => ⟨T2, rfl, ⟨_, SqT.of upd_same⟩, ?_⟩⟩⟩
    have sT2 := same_upd (u := .tup [.int 0, .int (r1' : Nat), .int ((N : Int) - 1), .int (r2' : Nat), .int (xh2 : Nat)]) (.refl H12) hT2
    have B13 := (B9.sam st12 ((sb10.trans sb11).trans sb12)).mono sT2
    have sb013 := (((sb09.trans sb10).trans sb11).trans sb12).same sT2
    generalize hH13 : upd H12 T2 (.tup [.int 0, .int (r1' : Nat), .int ((N : Int) - 1), .int (r2' : Nat), .int (xh2 : Nat)]) = H13 at sT2 B13 sb013 ⊢
    have eT2 : H13 T2 = some (.tup [.int 0, .int (r1' : Nat), .int ((N : Int) - 1), .int (r2' : Nat), .int (xh2 : Nat)]) := by rw [← hH13]; exact upd_same
    refine for_tup (K := K) (a := T2) (xs := [.int 0, .int (r1' : Nat), .int ((N : Int) - 1), .int (r2' : Nat), .int (xh2 : Nat)]) (fun i σ H14 => Same H13 H14 ∧ ∃ v9, σ = lawS a d N m c g qs qp v8' v9 v10 v11 v12) ⟨.refl _, v9, rfl⟩ (fun i σ H14 _ z => SqT.of (z.1 _ _ eT2)) ?_ ?_
    · rintro i y σ H14 hy ⟨sm14, v9, rfl⟩
      obtain ⟨n, rfl, hn⟩ := nats5 hy hN0 (small300 (by omega)) (small300 (by omega)) (small300 (by omega)) (Nat.lt_trans hxh2 ten64)
      refine if_no1 (fun Q' q => ?_) (fun H15 sm15 => ⟨sm14.trans sm15, _, rfl⟩)
      exact ⟨_, rfl, _, rfl, _, rfl, _, rfl, qs, qp, c, N, A, sv, g, n, rfl, B13.xs.mono sm14, B13.xp.mono sm14, hg, hn, fun H' sm => ⟨_, rfl, q H' sm⟩⟩
    rintro σ H14 ⟨sm14, v9', rfl⟩
    have B14 := B13.mono sm14
    have sb014 := sb013.same sm14
    clear sT2 eT2 hH13 sb013 B13 eT hH8 sT B8 sb08 B9 sb09
    refine nx_mk ?_
    -- below the shift, names
    refine if_no (fun Q' q => ?_) (fun H15 sm15 => ?_)
    · refine ⟨_, rfl, _, rfl, _, rfl, qs, qp, c, N, A, sv, g, rfl, B14.xs, B14.xp, hg, fun Ha sa => ⟨_, rfl, iteF ?_⟩⟩
      exact ⟨_, rfl, _, rfl, _, _, rfl, rfl, qs, c, N, A, sv, g, g + 3, rfl, B14.xs.mono sa, b11 hg, fun Hb sb => ⟨_, rfl, q _ (sa.trans sb)⟩⟩
    have B15 := B14.mono sm15
    have sb015 := sb014.same sm15
    obtain ⟨ds15, hs15⟩ := B15.xs.ob
    obtain ⟨dp15, hp15⟩ := B15.xp.ob
    -- the walk
    refine ⟨_, rfl, fun rr hrr => ⟨rr, 300, rfl, upd_same, by decide, ?_⟩⟩
    have srr := same_upd (u := .rng 0 300) (.refl H15) hrr
    refine ⟨_, rfl, qs, ds15, _, rfl, srr _ _ hs15, seqF_no _ _ (by decide +kernel), _, rfl, _, _, ⟨qs, c, N, A, sv, g, g, rfl, trivial, b9 hg, rfl, rfl⟩, upd_same, ?_⟩
    refine ⟨fun i m' σ H' => m' = 300 - i ∧ i ≤ 300 ∧ Same (upd H15 rr (.rng 0 300)) H' ∧ ∃ v10 v11, σ = lawS a d N m c g qs qp v8' v9' v10 v11 v12, ⟨300, rfl, by decide, .refl _, _, _, rfl⟩, ?_⟩
    rintro i m' σ H16 ⟨rfl, hi, sm16, v10, v11, rfl⟩
    by_cases h300 : i < 300
    · refine .inr ⟨⟨h300, B15.xs.mono (srr.trans sm16), ⟨_, rfl⟩⟩, fun σ H' => Same (upd H15 rr (.rng 0 300)) H' ∧ ∃ v10 v11, σ = lawS a d N m c g qs qp v8' v9' v10 v11 v12, fun σ' H' z => ⟨300 - (i + 1), by omega, rfl, by omega, z⟩, fun v H17 hv => ?_⟩
      obtain ⟨T', x, H18, rfl, hx, s18, hT', rfl⟩ := hv
      have ex : x = .int (memOf N A (g + i) + g : Nat) := (Option.some.inj hx).symm
      subst ex
      have sT' := same_upd (u := .tup [.int (i : Nat), .int (memOf N A (g + i) + g : Nat)]) (sm16.trans s18) ((sm16.trans s18).free hT')
      refine ⟨T', _, rfl, SqT.of upd_same, rfl, _, _, rfl, _, _, rfl, rfl, ?_⟩
      refine if_no1 (fun Q' q => ?_) (fun H19 sm19 => ⟨sT'.trans sm19, _, _, rfl⟩)
      have s15T := srr.trans sT'
      refine ⟨_, rfl, _, rfl, qp, dp15, _, rfl, s15T _ _ hp15, seqF_no _ _ (by decide +kernel), _, rfl, _, rfl, _, _, rfl, rfl, qp, c, N, A, sv, 0, g + i, rfl, B15.xp.mono s15T, rfl, Nat.zero_le _, b12 hg (small300 (by omega)), fun Ha sa => ?_⟩
      exact ⟨_, rfl, _, _, rfl, rfl, rfl, _, rfl, q_no rfl (q _ sa)⟩
    have ei : i = 300 := by omega
    subst ei
    refine .inl ⟨Nat.le_refl _, fun H17 hf => ?_⟩
    have hf : H17 = H16 := hf
    subst hf
    have s1517 := srr.trans sm16
    have B17 := B15.mono s1517
    have sb017 := sb015.same s1517
    clear sb015 B15 sm16 hs15 hp15 srr hrr
    refine nx_mk ?_
    obtain ⟨dsx, hs⟩ := B17.xs.ob
    obtain ⟨dpx, hpp⟩ := B17.xp.ob
    -- tripled
    refine if_no (fun Q' q => ?_) (fun H18 sm18 => ?_)
    · refine ⟨_, rfl, qs, dsx, _, rfl, hs, seqF_no _ _ (by decide +kernel), qs, c, N, A, sv, g, rfl, B17.xs, trivial, by omega, by omega, fun p1 c1 sv1 Ha sa Y1 => ?_⟩
      refine ⟨_, rfl, qp, dpx, _, rfl, sa _ _ hpp, seqF_no _ _ (by decide +kernel), qp, c, N, A, sv, 0, rfl, B17.xp.mono sa, rfl, by omega, by omega, fun p2 c2 sv2 Hb sb Y2 => ?_⟩
      obtain ⟨d2, e2⟩ := Y2.ob
      refine ⟨p2, d2, _, rfl, e2, p2, c2, _, _, sv2, 0, rfl, Y2, _, rfl, rfl, rfl, ?_⟩
      intro x xdx hx hxd hxne
      have s2 : Same Hb (upd (upd Hb xdx (.own x)) x (.ins S xdx [])) := same_upd (same_upd (.refl _) hxd) hx
      refine ⟨x, c2, xdx, _, _, sv2, g, rfl, upd_same, Y2.ce.mono s2, fun Hc Y3 keep => ⟨rfl, ?_⟩⟩
      have sc := Same.made hx hxd keep
      obtain ⟨d1, e1⟩ := Y1.ob
      obtain ⟨d3, e3⟩ := Y3.ob
      refine ⟨p1, d1, _, x, d3, _, rfl, rfl, sc _ _ (sb _ _ e1), e3, p1, x, c1, _, _, sv1, g, rfl, Y1.mono (sb.trans sc), .inr ⟨c2, sv2, g, Y3, _, rfl, _, rfl, ?_⟩⟩
      rw [decide_eq_true rfl]
      exact q _ ((sa.trans sb).trans sc)
    have B18 := B17.mono sm18
    have sb018 := sb017.same sm18
    have hs18 := sm18 _ _ hs
    have hp18 := sm18 _ _ hpp
    obtain ⟨cx, cm, ctd, ck, ctb, ckn, hcx, _⟩ := id B18.xs.ce.ob
    -- facts
    refine set_cut (fun v H' => ∃ l, v = .ref l ∧ H' l = some (.lst [.bl true, .bl true, .bl true]) ∧ Same H18 H') (fun Q' q => ?_) (fun v H19 ⟨l, ev, el, sm19⟩ => ?_)
    · refine ⟨_, rfl, qs, dsx, _, rfl, hs18, qs, c, N, A, sv, g, rfl, B18.xs, _, rfl, rfl, ?_⟩
      refine ⟨_, rfl, qs, dsx, _, rfl, hs18, qs, c, N, A, sv, g, rfl, B18.xs, _, rfl, c, cx, _, c, C, cx, _, rfl, rfl, hcx, hcx, M.nf, c, c, N, A, sv, sv, rfl, B18.xs.ce, B18.xs.ce, ?_⟩
      refine ⟨_, rfl, _, _, _, _, true, rfl, .own _, W.iS.ty W.tS.cl hs18, W.sr, by show 3 ≤ sizeLine; decide, fun l hl => ?_⟩
      refine q _ _ ⟨l, rfl, ?_, same_upd (.refl _) hl⟩
      rw [upd_same, decide_eq_true rfl]
    subst ev
    have B19 := B18.mono sm19
    have hs19 := sm19 _ _ hs18
    have hp19 := sm19 _ _ hp18
    refine set_cut (fun v H' => ∃ l, v = .ref l ∧ H' l = some (.lst [.bl true, .bl true, .bl true, .bl false, .bl false]) ∧ Same H18 H') (fun Q' q => ?_) (fun v H20 ⟨l2, ev, el2, sm20⟩ => ?_)
    · refine ⟨_, rfl, _, rfl, _, rfl, qs, dsx, _, qp, R, dpx, _, rfl, rfl, hs19, hp19, W.fR, qs, qp, c, N, A, sv, g, rfl, B19.xs, .inl ⟨c, N, A, sv, 0, B19.xp, ?_⟩⟩
      refine ⟨_, rfl, _, rfl, qp, R, dpx, _, qs, dsx, _, rfl, rfl, hp19, hs19, W.ne, W.sub, qs, qp, c, N, A, sv, g, rfl, B19.xs, .inl ⟨c, N, A, sv, 0, B19.xp, ?_⟩⟩
      refine ⟨by show 2 ≤ sizeLine; decide, fun l2 hl2 => ?_⟩
      have s2 := same_upd (u := .lst [.bl false, .bl false]) sm19 (sm19.free hl2)
      refine ⟨l, l2, _, _, rfl, rfl, by rw [upd_ne (ne_of_none el hl2)]; exact el, upd_same, by show 5 ≤ sizeLine; decide, fun l3 hl3 => q _ _ ⟨l3, rfl, upd_same, same_upd s2 (s2.free hl3)⟩⟩
    subst ev
    have B20 := B18.mono sm20
    have hs20 := sm20 _ _ hs18
    refine if_no (fun Q' q => ?_) (fun H21 sm21 => ?_)
    · refine ⟨_, rfl, _, _, rfl, shn_five el2, by show 5 ≤ sizeLine; decide, fun l3 hl3 => ?_⟩
      have s3 := same_upd (u := .lst [.bl true, .bl true, .bl true, .bl false, .bl false]) (.refl H20) hl3
      refine ⟨_, _, rfl, shn_five upd_same, rfl, _, rfl, iteNS rfl ?_⟩
      refine ⟨_, rfl, qs, dsx, _, rfl, s3 _ _ hs20, qs, c, N, A, sv, g, rfl, B20.xs.mono s3, A.length, rfl, by omega, ?_⟩
      exact ⟨_, rfl, m, _, rfl, .inr (SqT.of (s3 _ _ B20.ow)), rfl, _, rfl, q_no (by rw [nV_len]) (q _ s3)⟩
    have B21 := B20.mono sm21
    have sb021 := (sb018.same sm20).same sm21
    -- a shift of 0
    refine if_no (fun Q' q => ?_) (fun H22 sm22 => ?_)
    · refine ⟨_, rfl, rfl, rfl, ?_⟩
      intro x xdx hx hxd hxne
      have s2 : Same H21 (upd (upd H21 xdx (.own x)) x (.ins S xdx [])) := same_upd (same_upd (.refl _) hxd) hx
      refine ⟨x, c, xdx, N, A, sv, 0, rfl, upd_same, B21.xs.ce.mono s2, fun Ha Y1 keep => ⟨rfl, ?_⟩⟩
      have sa := Same.made hx hxd keep
      refine ⟨_, rfl, rfl, rfl, ?_⟩
      intro y ydx hy hyd hyne
      have s3 : Same Ha (upd (upd Ha ydx (.own y)) y (.ins S ydx [])) := same_upd (same_upd (.refl _) hyd) hy
      refine ⟨y, c, ydx, N, A, sv, 0, rfl, upd_same, Y1.ce.mono s3, fun Hb Y2 keep2 => ⟨rfl, ?_⟩⟩
      have sb := Same.made hy hyd keep2
      obtain ⟨d1, e1⟩ := Y1.ob
      obtain ⟨d2, e2⟩ := Y2.ob
      refine ⟨x, d1, _, y, d2, _, rfl, rfl, sb _ _ e1, e2, x, y, c, N, A, sv, 0, rfl, Y1.mono sb, .inr ⟨c, sv, 0, Y2, _, rfl, _, rfl, ?_⟩⟩
      rw [decide_eq_true rfl]
      exact q _ (sa.trans sb)
    have B22 := B21.mono sm22
    have sb022 := sb021.same sm22
    obtain ⟨dsy, hs22⟩ := B22.xs.ob
    -- a greater shift
    refine if_no1 (fun Q' q => ?_) (fun H23 sm23 => fin _ _ (sb022.same sm23) ⟨_, _, _, _, _, _, _, _, _, _, _, _, rfl⟩)
    refine ⟨_, rfl, _, rfl, _, rfl, _, _, rfl, rfl, rfl, rfl, ?_⟩
    intro x xdx hx hxd hxne
    have s2 : Same H22 (upd (upd H22 xdx (.own x)) x (.ins S xdx [])) := same_upd (same_upd (.refl _) hxd) hx
    refine ⟨x, c, xdx, N, A, sv, g + 1, rfl, upd_same, B22.xs.ce.mono s2, fun Ha Y1 keep => ⟨rfl, ?_⟩⟩
    have sa := Same.made hx hxd keep
    obtain ⟨d1, e1⟩ := Y1.ob
    refine ⟨qs, dsy, _, x, S, d1, _, rfl, rfl, sa _ _ hs22, e1, W.fS, qs, x, c, N, A, sv, g, rfl, B22.xs.mono sa, .inr ⟨c, sv, g + 1, Y1, _, rfl, ?_⟩⟩
    rw [decide_eq_false (by omega)]
    exact q _ sa
end
end Tf

/-! ## TfTop -/
set_option Elab.async false
set_option linter.all false
set_option maxRecDepth 100000
set_option maxHeartbeats 4000000
/-! What the top leaves, told by Bools: defs, classes. -/
namespace Tf
open PySem PySem.Spec PyProof.Rows L2
theorem bAnd {a b : Bool} (h : (a && b) = true) : a = true ∧ b = true := Bool.and_eq_true_iff.mp h
/-! ### defs -/
/-- a def: where it stands, what it is called, its statement, defaults; own: the class whose cell it closes over -/
structure DfX where
  at_ : PySem.W.Frag → Addr
  name : Str
  qual : Str
  st : Stmt
  dfl : List V
  kwd : List (Str × V)
  own : Option Str
abbrev ObX : Type := Option (Str × Str × Arguments × FuncBody × Scope × Addr × List Str × Addr)
def obX (K : PySem.W.Frag) (a : Addr) : ObX := match K.lookup a with
  | some ⟨_, _, .func z, _⟩ => some (z.name, z.qualname, z.params, z.body, z.scope, z.globals, z.closure.map (·.1), z.builtins)
  | _ => none
def ownNames : Option Str → List Str
  | none => []
  | some _ => ["__class__"]
def DfX.val (d : DfX) : ObX := some (d.name, d.qual, defArgs d.st, .stmts (defBody d.st), defScope d.st, mainGlobals, ownNames d.own, builtinsNs)
def clsCell (K : PySem.W.Frag) (x : Str) (cc : Addr) : Bool := match K.lookup cc with
  | some ⟨_, _, .cell (some (.ref a)), _⟩ => decide (a = He.ga K x)
  | _ => false
theorem clsCell_ok {K : PySem.W.Frag} {x : Str} {cc : Addr} (h : clsCell K x cc = true) : ∃ (c : Value) (d : Option Addr) (sl : Array (Option Value)), K.lookup cc = some ⟨c, d, .cell (some (.ref (He.ga K x))), sl⟩ := by
  unfold clsCell at h
  split at h
  · rename_i c d a sl e
    rw [of_decide_eq_true h] at e
    exact ⟨c, d, sl, e⟩
  · cases h
def cloB (K : PySem.W.Frag) : Option Str → List (Str × Addr) → Bool
  | none, l => l.isEmpty
  | some x, [(_, cc)] => clsCell K x cc
  | some _, _ => false
def fileC (K : PySem.W.Frag) (file : Str) (c : Addr) : Bool := match K.lookup c with
  | some ⟨_, _, .fields vs, _⟩ => (match (vs[2]? : Option Value) with
    | some (.str y _) => file == y
    | _ => false)
  | _ => false
def fileB (K : PySem.W.Frag) (file : Str) : Value → Bool
  | .ref c => fileC K file c
  | _ => false
theorem fileB_ok {K : PySem.W.Frag} {file : Str} {cdv : Value} (h : fileB K file cdv = true) : ∃ (cda : Addr) (c : Value) (d : Option Addr) (vs : Array Value) (sl : Array (Option Value)) (y : Str) (t : Tok), cdv = .ref cda ∧ K.lookup cda = some ⟨c, d, .fields vs, sl⟩ ∧ vs[2]? = some (.str y t) ∧ (file == y) = true := by
  cases cdv with
  | ref cda =>
    have h : fileC K file cda = true := h
    unfold fileC at h
    cases e : K.lookup cda with
    | none => rw [e] at h; cases h
    | some o =>
      obtain ⟨c, d, dt, sl⟩ := o
      rw [e] at h
      cases dt with
      | fields vs =>
        have h : (match (vs[2]? : Option Value) with
          | some (.str y _) => file == y
          | _ => false) = true := h
        cases q : vs[2]? with
        | none => rw [q] at h; cases h
        | some v =>
          rw [q] at h
          cases v with
          | str y t => exact ⟨cda, c, d, vs, sl, y, t, rfl, e, q, h⟩
          | _ => cases h
      | _ => cases h
  | _ => cases h
def DfX.ok (K : PySem.W.Frag) (file : Str) (d : DfX) : Bool := PySem.W.keepIn K (.ref (d.at_ K)) && (match K.lookup (d.at_ K) with
  | some ⟨_, _, .func z, _⟩ => PySem.W.codeIn K z.code d.qual && (He.dflB K z.defaults d.dfl && (He.kwdB K z.kwdefaults d.kwd && (cloB K d.own z.closure && fileB K file z.code)))
  | _ => false)
/-- what both say -/
structure Raw (K : PySem.W.Frag) (file : Str) (d : DfX) (cl : List (Str × Addr)) (dV kV doc pm : Value) (an : Option Addr) (cdv ct : Value) : Prop where
  lk : ∃ oc od osl, K.lookup (d.at_ K) = some ⟨oc, od, .func (PySem.W.fnX d.name d.qual (defArgs d.st) (defBody d.st) (defScope d.st) cl dV kV doc pm an cdv ct), osl⟩
  nm : cl.map (·.1) = ownNames d.own
  cd : PySem.W.codeIn K cdv d.qual = true
  df : DflV K dV d.dfl
  kw : KwdV K kV d.kwd
  cl_ : cloB K d.own cl = true
  fl : fileB K file cdv = true
  kp : PySem.W.keepIn K (.ref (d.at_ K)) = true
theorem DfX.raw {K : PySem.W.Frag} {file : Str} {d : DfX} (e : obX K (d.at_ K) = d.val) (h : d.ok K file = true) : ∃ cl dV kV doc pm an cdv ct, Raw K file d cl dV kV doc pm an cdv ct := by
  obtain ⟨kp, h⟩ := bAnd h
  unfold obX at e
  cases q : K.lookup (d.at_ K) with
  | none => rw [q] at h; cases h
  | some o =>
    obtain ⟨oc, od, dt, osl⟩ := o
    rw [q] at h e
    cases dt with
    | func z =>
      obtain ⟨n1, n2, n3, n4, n5, n6, n7, n8, n9, n10, n11, n12, n13, n14, n15⟩ := z
      have e2 : (some (n1, n2, n3, n4, n5, n6, n7.map (·.1), n15) : ObX) = some (d.name, d.qual, defArgs d.st, .stmts (defBody d.st), defScope d.st, mainGlobals, ownNames d.own, builtinsNs) := e
      simp only [Option.some.injEq, Prod.mk.injEq] at e2
      obtain ⟨i1, i2, i3, i4, i5, i6, i7, i8⟩ := e2
      subst i1 i2 i3 i4 i5 i6 i8
      obtain ⟨j1, h⟩ := bAnd (show (PySem.W.codeIn K n13 d.qual && (He.dflB K n8 d.dfl && (He.kwdB K n9 d.kwd && (cloB K d.own n7 && fileB K file n13)))) = true from h)
      obtain ⟨j2, h⟩ := bAnd h
      obtain ⟨j3, h⟩ := bAnd h
      obtain ⟨j4, j5⟩ := bAnd h
      exact ⟨n7, n8, n9, n10, n11, n12, n13, n14, ⟨⟨oc, od, osl, q⟩, i7, j1, He.dflB_ok j2, He.kwdB_ok j3, j4, j5, kp⟩⟩
    | _ => cases h
section
variable {P : Program} {K : PySem.W.Frag} {file : Str} {d : DfX} {cl : List (Str × Addr)} {dV kV doc pm cdv ct : Value} {an : Option Addr}
theorem Raw.nil (R : Raw K file d cl dV kV doc pm an cdv ct) (h : d.own = none) : cl = [] := by
  have z := R.nm
  rw [h] at z
  cases cl with
  | nil => rfl
  | cons x r => cases z
theorem DfX.funD (e : obX K (d.at_ K) = d.val) (h : d.ok K file = true) (ho : d.own = none) : ∃ fd, FunD K d.name d.qual (defArgs d.st) (defBody d.st) (defScope d.st) d.dfl d.kwd (d.at_ K) fd := by
  obtain ⟨cl, dV, kV, doc, pm, an, cdv, ct, R⟩ := DfX.raw e h
  have z := R.nil ho
  subst z
  obtain ⟨oc, od, osl, lk⟩ := R.lk
  exact ⟨_, ⟨oc, od, dV, kV, doc, pm, an, cdv, ct, osl, rfl, lk, R.cd, R.df, R.kw⟩, R.kp⟩
/-- a def without defaults from one with -/
theorem fun_ofD {x qual : Str} {st : Stmt} {kws : List (Str × V)} {f : Addr} {fd : FuncData} (F : FunD K x qual (defArgs st) (defBody st) (defScope st) [] kws f fd) : Fun K x qual st f fd := by
  obtain ⟨oc, od, dV, kV, doc, pm, an, cdv, ct, osl, e, lk, hcd, hD, _⟩ := F.ex
  rcases hD with ⟨_, z⟩ | ⟨z, _⟩
  · subst z; exact ⟨⟨oc, od, kV, doc, pm, an, cdv, ct, osl, e, lk, hcd⟩, F.kp⟩
  · exact absurd rfl z
theorem DfX.fun_ (e : obX K (d.at_ K) = d.val) (h : d.ok K file = true) (ho : d.own = none) (hd : d.dfl = []) : ∃ fd, Fun K d.name d.qual d.st (d.at_ K) fd := by
  obtain ⟨fd, F⟩ := DfX.funD e h ho
  rw [hd] at F
  exact ⟨fd, fun_ofD F⟩
theorem funG_ofD {x qual : Str} {st : Stmt} {dvs : List V} {kws : List (Str × V)} {f : Addr} {fd : FuncData} (F : FunD K x qual (defArgs st) (defBody st) (defScope st) dvs kws f fd) (h : ∀ y ∈ (defScope st).names, y.2 ≠ .free) : ∃ cdv, FunG K x qual st f fd [] cdv := by
  obtain ⟨oc, od, dV, kV, doc, pm, an, cdv, ct, osl, e, lk, hcd, _, _⟩ := F.ex
  exact ⟨cdv, ⟨oc, od, dV, kV, doc, pm, an, ct, osl, e, lk⟩, hcd, .inl ⟨rfl, h⟩, F.kp⟩
/-- a def that closes over its class, no positional defaults -/
theorem DfX.funS {x : Str} (e : obX K (d.at_ K) = d.val) (h : d.ok K (P.main.file : Str) = true) (ho : d.own = some x) (hd : d.dfl = []) :
    ∃ (cc cda : Addr) (kV doc pm : Value) (an : Option Addr) (ct : Value), KwdV K kV d.kwd ∧ FunS P K d.name d.qual d.st (He.ga K x) (d.at_ K) (PySem.W.fnX d.name d.qual (defArgs d.st) (defBody d.st) (defScope d.st) [("__class__", cc)] .none kV doc pm an (.ref cda) ct) cda cc := by
  obtain ⟨cl, dV, kV, doc, pm, an, cdv, ct, R⟩ := DfX.raw e h
  have z := R.nm
  have z2 := R.cl_
  rw [ho] at z z2
  have hD := R.df
  rw [hd] at hD
  obtain rfl : dV = .none := by
    rcases hD with ⟨_, y⟩ | ⟨y, _⟩
    · exact y
    · exact absurd rfl y
  match cl, z, z2 with
  | [(n, cc)], z, z2 =>
    obtain rfl : n = ("__class__" : Str) := by injection z
    obtain ⟨oc, od, osl, lk⟩ := R.lk
    obtain ⟨cda, c, dd, vs, sl, y, t, rfl, q1, q2, q3⟩ := fileB_ok R.fl
    exact ⟨cc, cda, kV, doc, pm, an, ct, R.kw, ⟨oc, od, .none, kV, doc, pm, an, ct, osl, rfl, lk⟩, R.cd, ⟨c, dd, vs, sl, y, t, q1, q2, q3⟩, clsCell_ok z2, R.kp⟩
end
/-! ### classes -/
/-- a property of the class at C: its object, its getter -/
def pAd (K : PySem.W.Frag) (C : Addr) (f : Str) : Addr := match PySem.W.recIn K (He.ma K C f) "property" with
  | some (.ref g :: _) => g
  | _ => 0
def propB (K : PySem.W.Frag) (C : Addr) (f : Str) : Bool := He.eqO (PySem.W.findIn K (.ref C) f) (some (some (.ref (He.ma K C f)))) && (He.eqO (PySem.W.specialIn K (.ref (He.ma K C f)) "__get__") (some (some (.builtin "property.__get__"))) && (decide (PySem.W.takesIn K (.ref (He.ma K C f)) = some true) && (match PySem.W.recIn K (He.ma K C f) "property" with
  | some (.ref _ :: _) => true
  | _ => false)))
theorem propB_ok {K : PySem.W.Frag} {C : Addr} {f : Str} (h : propB K C f = true) : PropOf K C f (He.ma K C f) (pAd K C f) := by
  obtain ⟨h1, h⟩ := bAnd h
  obtain ⟨h2, h⟩ := bAnd h
  obtain ⟨h3, h4⟩ := bAnd h
  refine ⟨He.eqO_ok h1, He.eqO_ok h2, of_decide_eq_true h3, ?_⟩
  unfold pAd
  split at h4
  · rename_i g r e
    exact ⟨r, by rw [e]⟩
  · cases h4
def isiB (K : PySem.W.Frag) (C : Addr) : Bool := He.eqO (PySem.W.findIn K (.ref C) "__class__") (some (some (.builtin "object.__class__"))) && (He.eqO (PySem.W.specialIn K (.builtin "object.__class__") "__get__") (some (some (.builtin "getset_descriptor.__get__"))) && (decide (PySem.W.takesIn K (.builtin "object.__class__") = some true) && decide (PySem.W.mroIn K C (.type "object") = some true)))
theorem isiB_ok {K : PySem.W.Frag} {C : Addr} (h : isiB K C = true) : IsI K C := by
  obtain ⟨h1, h⟩ := bAnd h
  obtain ⟨h2, h⟩ := bAnd h
  obtain ⟨h3, h4⟩ := bAnd h
  exact ⟨He.eqO_ok h1, He.eqO_ok h2, of_decide_eq_true h3, of_decide_eq_true h4⟩
def creadB (K : PySem.W.Frag) (C : Addr) : Bool := PySem.W.readsIn K C (.type "type") && He.eqO (PySem.W.specialIn K (.ref C) "__getattribute__") (some (some (.builtin "type.__getattribute__")))
theorem creadB_ok {K : PySem.W.Frag} {C : Addr} (h : creadB K C = true) : ClX.CRead K C (.type "type") := ⟨(bAnd h).1, He.eqO_ok (bAnd h).2⟩
def cvalB (K : PySem.W.Frag) (C : Addr) (f : Str) (v : V) : Bool := match PySem.W.findCls K (.ref C) (.type "type") f with
  | some (.val u) => He.relB v u
  | _ => false
theorem cvalB_ok {K : PySem.W.Frag} {C : Addr} {f : Str} {v : V} (h : cvalB K C f v = true) : ∃ u, ClX.CVal K C (.type "type") f v u := by
  unfold cvalB at h
  split at h
  · rename_i u e
    exact ⟨u, e, He.relB_ok h⟩
  · cases h
def conB (K : PySem.W.Frag) (C : Addr) (f : Str) (v : V) : Bool := (match PySem.W.findIn K (.ref C) f with
  | some (some u) => He.relB v u && He.eqO (PySem.W.specialIn K u "__get__") (some none)
  | _ => false) && !(PySem.W.copiedNames.contains f)
theorem conB_ok {K : PySem.W.Frag} {C : Addr} {f : Str} {v : V} (h : conB K C f v = true) : ∃ u, Con K C f v u := by
  obtain ⟨h1, h2⟩ := bAnd h
  split at h1
  · rename_i u e
    obtain ⟨h3, h4⟩ := bAnd h1
    refine ⟨u, e, He.relB_ok h3, He.eqO_ok h4, ?_⟩
    cases z : PySem.W.copiedNames.contains f with
    | false => rfl
    | true => rw [z] at h2; cases h2
  · cases h1
/-- what super().m finds in the class at C -/
def suAd (K : PySem.W.Frag) (C : Addr) (m : Str) : Addr := match PySem.W.ks_superIn K C C m with
  | some (some (.ref g)) => g
  | _ => 0
def supB (K : PySem.W.Frag) (C : Addr) (m : Str) : Bool := He.eqO (PySem.W.ks_superIn K C C m) (some (some (.ref (suAd K C m)))) && (decide (PySem.W.typeIn K (.ref (suAd K C m)) = some (.type "function")) && (PySem.W.fnIn K (suAd K C m) && (decide (PySem.W.mroIn K C (.ref C) = some true) && ((PySem.W.clsIn K C).isSome && He.eqO (PySem.W.nsIn K cStatics "thirdparty.any") (some none)))))
theorem supB_ok {K : PySem.W.Frag} {C : Addr} {m : Str} (h : supB K C m = true) : SupC K C C m (suAd K C m) := by
  obtain ⟨h1, h⟩ := bAnd h
  obtain ⟨h2, h⟩ := bAnd h
  obtain ⟨h3, h⟩ := bAnd h
  obtain ⟨h4, h⟩ := bAnd h
  obtain ⟨h5, h6⟩ := bAnd h
  exact ⟨He.eqO_ok h1, of_decide_eq_true h2, h3, of_decide_eq_true h4, h5, He.eqO_ok h6⟩
/-! ### exceptions -/
def refsREB : List Value → Bool
  | .ref _ :: r => refsREB r
  | l => decide (l = reTail)
theorem refsREB_ok : ∀ {l : List Value}, refsREB l = true → refsRE l
  | .ref c :: r, h => refsRE_cons (refsREB_ok (show refsREB r = true from h))
  | [], h => nomatch (of_decide_eq_true (show decide (([] : List Value) = reTail) = true from h))
  | .none :: r, h => nomatch (of_decide_eq_true (show decide ((.none :: r : List Value) = reTail) = true from h))
  | .bool b :: r, h => nomatch (of_decide_eq_true (show decide ((.bool b :: r : List Value) = reTail) = true from h))
  | .type t :: r, h => ⟨[], of_decide_eq_true (show decide ((.type t :: r : List Value) = reTail) = true from h)⟩
  | .int i t :: r, h => nomatch (of_decide_eq_true (show decide ((.int i t :: r : List Value) = reTail) = true from h))
  | .str x t :: r, h => nomatch (of_decide_eq_true (show decide ((.str x t :: r : List Value) = reTail) = true from h))
  | .bytes x t :: r, h => nomatch (of_decide_eq_true (show decide ((.bytes x t :: r : List Value) = reTail) = true from h))
  | .float x t :: r, h => nomatch (of_decide_eq_true (show decide ((.float x t :: r : List Value) = reTail) = true from h))
  | .builtin x :: r, h => nomatch (of_decide_eq_true (show decide ((.builtin x :: r : List Value) = reTail) = true from h))
  | .ellipsis :: r, h => nomatch (of_decide_eq_true (show decide ((.ellipsis :: r : List Value) = reTail) = true from h))
  | .notImplemented :: r, h => nomatch (of_decide_eq_true (show decide ((.notImplemented :: r : List Value) = reTail) = true from h))
end Tf

/-! ## TfTop2 -/
set_option Elab.async false
set_option linter.all false
set_option maxRecDepth 100000
set_option maxHeartbeats 4000000
/-! Exceptions and pairs of classes, told by Bools; promises of the one class as promises of the other. -/
namespace Tf
open PySem PySem.Spec PyProof.Rows L2
def newB (sl : Array (Option Value)) : Bool := match sl.toList with
  | [_, _, _, _, some (.builtin i), _] => decide (i = "RuntimeError.__new__")
  | _ => false
theorem newB_ok {sl : Array (Option Value)} (h : newB sl = true) : ∃ k0 k1 k2 k3 k5, sl = #[k0, k1, k2, k3, some (.builtin "RuntimeError.__new__"), k5] := by
  unfold newB at h
  split at h
  · rename_i k0 k1 k2 k3 i k5 e
    refine ⟨k0, k1, k2, k3, k5, ?_⟩
    rw [← of_decide_eq_true h]
    exact Array.ext' e
  · cases h
def mroB (C : Addr) : List Value → Bool
  | .ref a :: bm => decide (a = C) && refsREB bm
  | _ => false
theorem mroB_ok {C : Addr} {l : List Value} (h : mroB C l = true) : ∃ bm, l = .ref C :: bm ∧ refsRE bm := by
  unfold mroB at h
  split at h
  · rename_i a bm
    obtain ⟨h1, h2⟩ := bAnd h
    rw [of_decide_eq_true h1]
    exact ⟨bm, rfl, refsREB_ok h2⟩
  · cases h
def oexClsB (K : PySem.W.Frag) (C : Addr) : Bool := match K.lookup C with
  | some ⟨.type t, _, .cls cd, sl⟩ => decide (t = "type") && (mroB C cd.mro && (cd.hasDict && (!cd.hasDel && newB sl)))
  | _ => false
def oexB (K : PySem.W.Frag) (C : Addr) : Bool := oexClsB K C && (He.eqO (PySem.W.findIn K (.ref C) "__setattr__") (some (some (.builtin "object.__setattr__"))) && (decide (PySem.W.subIn K (.ref C) (.type "BaseException") = some true) && (decide (PySem.W.typeIn K (.ref C) = some (.type "type")) && PySem.W.keepIn K (.ref C))))
theorem oexB_ok {K : PySem.W.Frag} {C : Addr} (h : oexB K C = true) : OexR K C := by
  obtain ⟨h1, h⟩ := bAnd h
  obtain ⟨h2, h⟩ := bAnd h
  obtain ⟨h3, h⟩ := bAnd h
  obtain ⟨h4, h5⟩ := bAnd h
  refine ⟨?_, He.eqO_ok h2, of_decide_eq_true h3, of_decide_eq_true h4, h5⟩
  unfold oexClsB at h1
  split at h1
  · rename_i t dd cd sl e
    obtain ⟨g1, g⟩ := bAnd h1
    obtain ⟨g2, g⟩ := bAnd g
    obtain ⟨g3, g⟩ := bAnd g
    obtain ⟨g4, g5⟩ := bAnd g
    obtain ⟨nm, bs, mro, ns, qn, hd, sn, sb, ab, col, del⟩ := cd
    obtain ⟨bm, e2, re⟩ := mroB_ok g2
    obtain ⟨k0, k1, k2, k3, k5, e3⟩ := newB_ok g5
    have e2 : mro = .ref C :: bm := e2
    have g3 : hd = true := g3
    have g4 : (!del) = true := g4
    have e4 : del = false := by cases del with
      | false => rfl
      | true => cases g4
    subst e2 g3 e3 e4
    rw [of_decide_eq_true g1] at e
    exact ⟨nm, qn, ns, bs, bm, sn, sb, ab, col, dd, k0, k1, k2, k3, k5, e, re⟩
  · cases h1
def excCB (K : PySem.W.Frag) (C : Addr) : Bool := He.eqO (PySem.W.findIn K (.ref C) "__getattribute__") (some (some (.builtin "BaseException.__getattribute__"))) && (He.eqO (PySem.W.findIn K (.ref C) "__getattr__") (some none) && (decide (PySem.W.subIn K (.ref C) (.type "BaseException") = some true) && (PySem.W.hasDictIn K C && isiB K C)))
theorem excCB_ok {K : PySem.W.Frag} {C : Addr} (h : excCB K C = true) : ExcC K C ∧ XfC K C := by
  obtain ⟨h1, h⟩ := bAnd h
  obtain ⟨h2, h⟩ := bAnd h
  obtain ⟨h3, h⟩ := bAnd h
  obtain ⟨h4, h5⟩ := bAnd h
  have i := isiB_ok h5
  exact ⟨⟨He.eqO_ok h1, He.eqO_ok h2, of_decide_eq_true h3, h4, i.ha, i.hn, i.htk, i.hm⟩, ⟨He.eqO_ok h1, He.eqO_ok h2, of_decide_eq_true h3, h4⟩⟩
def initB (K : PySem.W.Frag) (C : Addr) : Bool := creadB K C && (match PySem.W.findCls K (.ref C) (.type "type") "__init__" with
  | some (.val u) => decide (u = .builtin "RuntimeError.__init__")
  | _ => false)
theorem initB_ok {K : PySem.W.Frag} {mg : Str → Option Value} {x : Str} {C : Addr} (hm : mg x = some (.ref C)) (h : initB K C = true) : InitR K mg x C := by
  obtain ⟨h1, h2⟩ := bAnd h
  refine ⟨hm, _, creadB_ok h1, ?_⟩
  split at h2
  · rename_i u e
    rw [of_decide_eq_true h2] at e
    exact e
  · cases h2
def twoXB (K : PySem.W.Frag) (M N : Addr) : Bool := decide (PySem.W.exmAny K (.ref M) [.ref M, .ref N] = some true) && (decide (PySem.W.exmAny K (.ref N) [.ref M, .ref N] = some true) && (decide (PySem.W.kitOne K (.ref M) (.ref M) = some true) && decide (PySem.W.kitOne K (.ref N) (.ref M) = some false)))
theorem twoXB_ok {K : PySem.W.Frag} {M N : Addr} (h : twoXB K M N = true) : TwoX K M N := by
  obtain ⟨h1, h⟩ := bAnd h
  obtain ⟨h2, h⟩ := bAnd h
  obtain ⟨h3, h4⟩ := bAnd h
  exact ⟨of_decide_eq_true h1, of_decide_eq_true h2, of_decide_eq_true h3, of_decide_eq_true h4⟩
def twoB (K : PySem.W.Frag) (R S : Addr) : Bool := isiB K R && (isiB K S && (conB K R "NAME" (.str "RuledSequence") && (conB K S "NAME" (.str "ShiftedSequence") && (decide (PySem.W.kitOne K (.ref R) (.ref R) = some true) && (decide (PySem.W.kitOne K (.ref S) (.ref R) = some true) &&
  (PySem.W.notFirst K S (.ref S) && (PySem.W.notFirst K S (.ref R) && (decide (PySem.W.subIn K (.ref S) (.ref R) = some true) && (decide (S ≠ R) && (He.eqO (PySem.W.findIn K (.ref S) "__ne__") (some (some (.builtin "object.__ne__"))) && decide (PySem.W.subIn K (.ref S) (.type "object") = some true)))))))))))
theorem twoB_ok {K : PySem.W.Frag} {mg : Str → Option Value} {R S : Addr} (hR : mg "RuledSequence" = some (.ref R)) (hS : mg "ShiftedSequence" = some (.ref S)) (tR : SqC K R) (tS : SqC K S) (h : twoB K R S = true) : Two K mg R S := by
  obtain ⟨h1, h⟩ := bAnd h
  obtain ⟨h2, h⟩ := bAnd h
  obtain ⟨h3, h⟩ := bAnd h
  obtain ⟨h4, h⟩ := bAnd h
  obtain ⟨h5, h⟩ := bAnd h
  obtain ⟨h6, h⟩ := bAnd h
  obtain ⟨h7, h⟩ := bAnd h
  obtain ⟨h8, h⟩ := bAnd h
  obtain ⟨h9, h⟩ := bAnd h
  obtain ⟨h10, h⟩ := bAnd h
  obtain ⟨h11, h12⟩ := bAnd h
  exact ⟨hR, hS, tR, tS, isiB_ok h1, isiB_ok h2, conB_ok h3, conB_ok h4, of_decide_eq_true h5, of_decide_eq_true h6, h7, h8, of_decide_eq_true h9, of_decide_eq_true h10, He.eqO_ok h11, of_decide_eq_true h12⟩
/-! ### the ruled sequence's promises, said as those of a shift of 0 -/
section
variable {C R : Addr} {lo hi : Nat}
theorem mem0 : ∀ vs H Q E, spS2 C R (· = 0) lo hi fMem vs H Q E → spS2 C R anyO lo hi (fun N A _ _ n => .int (memOf N A n : Nat)) vs H Q E := fun vs H Q E ⟨q, c, N, A, sv, off, x, e, S, hz, l, hx, k⟩ => by
  subst hz
  exact ⟨q, c, N, A, sv, 0, x, e, S, trivial, l, hx, k⟩
theorem rnk0 : ∀ vs H Q E, spS2 C R (· = 0) lo hi fRnk vs H Q E → spS2 C R anyO lo hi (fun N A _ _ n => .int (rnkOf N A n : Nat)) vs H Q E := fun vs H Q E ⟨q, c, N, A, sv, off, x, e, S, hz, l, hx, k⟩ => by
  subst hz
  exact ⟨q, c, N, A, sv, 0, x, e, S, trivial, l, hx, k⟩
theorem cnt0 : ∀ vs H Q E, spS2 C R (· = 0) lo hi fCnt vs H Q E → spS2 C R anyO lo hi (fun N A _ _ n => .bl (cntOf N A n)) vs H Q E := fun vs H Q E ⟨q, c, N, A, sv, off, x, e, S, hz, l, hx, k⟩ => by
  subst hz
  refine ⟨q, c, N, A, sv, 0, x, e, S, trivial, l, hx, fun H' sm => ?_⟩
  have z := k H' sm
  have e : fCnt N A sv 0 x = .bl (cntOf N A x) := by
    show V.bl (decide (0 ≤ x) && cntOf N A (x - 0)) = _
    rw [decide_eq_true (Nat.zero_le x)]
    rfl
  rw [e] at z
  exact z
theorem fRul0 (N : Nat) (A : List Nat) (sv : Sv) (x : Nat) : fRul N A sv 0 x = rulOf N A sv x := by
  show (if x < 0 then none else (rulOf N A sv (x - 0)).map fun p => (p.1 + 0, p.2 + 0)) = _
  rw [if_neg (Nat.not_lt_zero x), Nat.sub_zero]
  cases rulOf N A sv x with
  | none => rfl
  | some p => rfl
theorem rul0 : ∀ vs H Q E, spS3 C R (· = 0) hi fRul vs H Q E → spS3 C R anyO hi (fun N A sv _ x => rulOf N A sv x) vs H Q E := fun vs H Q E ⟨q, c, N, A, sv, off, x, e, S, hz, hx, k1, k2⟩ => by
  subst hz
  exact ⟨q, c, N, A, sv, 0, x, e, S, trivial, hx, fun H' sm z => k1 H' sm ((fRul0 N A sv x).trans z), fun t a b H' sm z => k2 t a b H' sm ((fRul0 N A sv x).trans z)⟩
end
end Tf

/-! ## TfAll -/
set_option Elab.async false
set_option linter.all false
set_option maxRecDepth 100000
set_option maxHeartbeats 8000000
/-! The text's defs and what is to be known of the top; the law's promise from it. -/
namespace Tf
open PySem PySem.Spec PyProof.Rows L2
def dfs1 : List DfX := [
  ⟨fun K => He.ga K "is_integer", "is_integer", "is_integer", tIsInt, [], [("low", .non), ("high", .non)], none⟩,
  ⟨fun K => He.ga K "check_number", "check_number", "check_number", tCheckNum, [.int 0, .non], [], none⟩,
  ⟨fun K => He.ga K "digits_in", "digits_in", "digits_in", tDigits, [], [], none⟩,
  ⟨fun K => He.ga K "number_of", "number_of", "number_of", tNumber, [], [], none⟩,
  ⟨fun K => He.ga K "are_plain", "are_plain", "are_plain", tPlain, [], [], none⟩,
  ⟨fun K => He.ga K "power_of", "power_of", "power_of", tPower, [], [], none⟩,
  ⟨fun K => He.ga K "member_at", "member_at", "member_at", tMemAt, [], [], none⟩,
  ⟨fun K => He.ga K "rank_of", "rank_of", "rank_of", tRankOf, [], [], none⟩,
  ⟨fun K => He.ga K "base_member", "base_member", "base_member", tBaseMem, [], [], none⟩,
  ⟨fun K => He.ga K "in_base", "in_base", "in_base", tInBase, [], [], none⟩,
  ⟨fun K => He.ga K "base_rank", "base_rank", "base_rank", tBaseRank, [], [], none⟩,
  ⟨fun K => He.ga K "plain_pair", "plain_pair", "plain_pair", tPair, [], [], none⟩,
  ⟨fun K => He.ga K "is_between", "is_between", "is_between", tBetween, [], [], none⟩,
  ⟨fun K => He.ga K "check_shape", "check_shape", "check_shape", tShape, [], [], none⟩,
  ⟨fun K => He.ga K "spoiling_triple", "spoiling_triple", "spoiling_triple", tSpoil, [], [], none⟩,
  ⟨fun K => He.ga K "serving_table", "serving_table", "serving_table", tTable, [], [], none⟩,
  ⟨fun K => He.ga K "unserved_remainder", "unserved_remainder", "unserved_remainder", tUnserved, [], [], none⟩,
  ⟨fun K => He.ga K "check_at_least", "check_at_least", "check_at_least", tAtLeast, [], [], none⟩,
  ⟨fun K => He.ga K "_law_streams", "_law_streams", "_law_streams", tStreams, [], [], none⟩,
  ⟨fun K => He.ga K "_law_next", "_law_next", "_law_next", tNext, [], [], none⟩,
  ⟨fun K => He.ga K "_law_joined", "_law_joined", "_law_joined", tJoined, [], [], none⟩,
  ⟨fun K => He.ga K "_law_random_cell", "_law_random_cell", "_law_random_cell", tRandom, [], [], none⟩,
  ⟨fun K => He.ga K "_law_huge", "_law_huge", "_law_huge", tHuge, [], [], none⟩,
  ⟨fun K => He.ga K "_law_answer", "_law_answer", "_law_answer", tAnswer, [], [], none⟩,
  ⟨fun K => He.ga K "_law_moved", "_law_moved", "_law_moved", tMoved, [], [], none⟩,
  ⟨fun K => He.ga K "_law_number_holds", "_law_number_holds", "_law_number_holds", tNumHolds, [], [], none⟩,
  ⟨fun K => He.ga K "_law_names_hold", "_law_names_hold", "_law_names_hold", tNames, [], [], none⟩,
  ⟨fun K => He.ga K "_law_below_holds", "_law_below_holds", "_law_below_holds", tBelow, [], [], none⟩,
  ⟨fun K => He.ga K "law", "law", "law", tLaw, [], [], none⟩,
  ⟨fun K => He.ma K (He.ga K "Cell") "__init__", "__init__", "Cell.__init__", tcInit, [], [], none⟩,
  ⟨fun K => He.ma K (He.ga K "Cell") "check_remainder", "check_remainder", "Cell.check_remainder", tcCheckRem, [], [], none⟩,
  ⟨fun K => He.ma K (He.ga K "Cell") "has", "has", "Cell.has", tcHas, [], [], none⟩,
  ⟨fun K => He.ma K (He.ga K "Cell") "serving_pair", "serving_pair", "Cell.serving_pair", tcServing, [], [], none⟩,
  ⟨fun K => He.ma K (He.ga K "Cell") "carry", "carry", "Cell.carry", tcCarry, [], [], none⟩,
  ⟨fun K => He.ma K (He.ga K "Cell") "__eq__", "__eq__", "Cell.__eq__", tcEq, [], [], none⟩,
  ⟨fun K => pAd K (He.ga K "Cell") "modulus", "modulus", "Cell.modulus", tcModulus, [], [], none⟩,
  ⟨fun K => pAd K (He.ga K "Cell") "members", "members", "Cell.members", tcMembers, [], [], none⟩,
  ⟨fun K => pAd K (He.ga K "Cell") "size", "size", "Cell.size", tcSize, [], [], none⟩,
  ⟨fun K => pAd K (He.ga K "Cell") "greatest", "greatest", "Cell.greatest", tcGreatest, [], [], none⟩,
  ⟨fun K => He.ma K (He.ga K "RuledSequence") "__init__", "__init__", "RuledSequence.__init__", trInit, [], [], none⟩]
def dfs2 : List DfX := [
  ⟨fun K => He.ma K (He.ga K "RuledSequence") "member", "member", "RuledSequence.member", trMember, [], [], none⟩,
  ⟨fun K => He.ma K (He.ga K "RuledSequence") "rank", "rank", "RuledSequence.rank", trRank, [], [], none⟩,
  ⟨fun K => He.ma K (He.ga K "RuledSequence") "contains", "contains", "RuledSequence.contains", trContains, [], [], none⟩,
  ⟨fun K => He.ma K (He.ga K "RuledSequence") "next_member", "next_member", "RuledSequence.next_member", trNext, [], [], none⟩,
  ⟨fun K => He.ma K (He.ga K "RuledSequence") "last_member", "last_member", "RuledSequence.last_member", trLast, [], [], none⟩,
  ⟨fun K => He.ma K (He.ga K "RuledSequence") "small_cover", "small_cover", "RuledSequence.small_cover", trSmall, [], [], none⟩,
  ⟨fun K => He.ma K (He.ga K "RuledSequence") "ruling_pair", "ruling_pair", "RuledSequence.ruling_pair", trRuling, [], [], none⟩,
  ⟨fun K => He.ma K (He.ga K "RuledSequence") "cover", "cover", "RuledSequence.cover", trCover, [], [], none⟩,
  ⟨fun K => He.ma K (He.ga K "RuledSequence") "check_cover", "check_cover", "RuledSequence.check_cover", trCheck, [], [], none⟩,
  ⟨fun K => He.ma K (He.ga K "RuledSequence") "gap", "gap", "RuledSequence.gap", trGap, [], [], none⟩,
  ⟨fun K => He.ma K (He.ga K "RuledSequence") "uncovered", "uncovered", "RuledSequence.uncovered", trUncov, [], [], none⟩,
  ⟨fun K => He.ma K (He.ga K "RuledSequence") "tripled_cell", "tripled_cell", "RuledSequence.tripled_cell", trTriCell, [], [], none⟩,
  ⟨fun K => He.ma K (He.ga K "RuledSequence") "tripled", "tripled", "RuledSequence.tripled", trTripled, [], [], none⟩,
  ⟨fun K => pAd K (He.ga K "RuledSequence") "cell", "cell", "RuledSequence.cell", trCell, [], [], none⟩,
  ⟨fun K => He.ma K (He.ga K "ShiftedSequence") "next_member", "next_member", "RuledSequence.next_member", trNext, [], [], none⟩,
  ⟨fun K => He.ma K (He.ga K "ShiftedSequence") "last_member", "last_member", "RuledSequence.last_member", trLast, [], [], none⟩,
  ⟨fun K => He.ma K (He.ga K "ShiftedSequence") "small_cover", "small_cover", "RuledSequence.small_cover", trSmall, [], [], none⟩,
  ⟨fun K => He.ma K (He.ga K "ShiftedSequence") "cover", "cover", "RuledSequence.cover", trCover, [], [], none⟩,
  ⟨fun K => He.ma K (He.ga K "ShiftedSequence") "check_cover", "check_cover", "RuledSequence.check_cover", trCheck, [], [], none⟩,
  ⟨fun K => He.ma K (He.ga K "ShiftedSequence") "gap", "gap", "RuledSequence.gap", trGap, [], [], none⟩,
  ⟨fun K => He.ma K (He.ga K "ShiftedSequence") "walk", "walk", "RuledSequence.walk", trWalk, [.int 0], [], none⟩,
  ⟨fun K => He.ma K (He.ga K "ShiftedSequence") "tripled_cell", "tripled_cell", "RuledSequence.tripled_cell", trTriCell, [], [], none⟩,
  ⟨fun K => He.ma K (He.ga K "ShiftedSequence") "__len__", "__len__", "RuledSequence.__len__", trLen, [], [], none⟩,
  ⟨fun K => He.ma K (He.ga K "ShiftedSequence") "__eq__", "__eq__", "RuledSequence.__eq__", trEq, [], [], none⟩,
  ⟨fun K => pAd K (He.ga K "ShiftedSequence") "cell", "cell", "RuledSequence.cell", trCell, [], [], none⟩,
  ⟨fun K => suAd K (He.ga K "ShiftedSequence") "__init__", "__init__", "RuledSequence.__init__", trInit, [], [], none⟩,
  ⟨fun K => suAd K (He.ga K "ShiftedSequence") "member", "member", "RuledSequence.member", trMember, [], [], none⟩,
  ⟨fun K => suAd K (He.ga K "ShiftedSequence") "rank", "rank", "RuledSequence.rank", trRank, [], [], none⟩,
  ⟨fun K => suAd K (He.ga K "ShiftedSequence") "contains", "contains", "RuledSequence.contains", trContains, [], [], none⟩,
  ⟨fun K => suAd K (He.ga K "ShiftedSequence") "ruling_pair", "ruling_pair", "RuledSequence.ruling_pair", trRuling, [], [], none⟩,
  ⟨fun K => suAd K (He.ga K "ShiftedSequence") "uncovered", "uncovered", "RuledSequence.uncovered", trUncov, [], [], none⟩,
  ⟨fun K => He.ma K (He.ga K "ShiftedSequence") "member", "member", "ShiftedSequence.member", tsMember, [], [], some "ShiftedSequence"⟩,
  ⟨fun K => He.ma K (He.ga K "ShiftedSequence") "rank", "rank", "ShiftedSequence.rank", tsRank, [], [], some "ShiftedSequence"⟩,
  ⟨fun K => He.ma K (He.ga K "ShiftedSequence") "contains", "contains", "ShiftedSequence.contains", tsContains, [], [], some "ShiftedSequence"⟩,
  ⟨fun K => He.ma K (He.ga K "ShiftedSequence") "ruling_pair", "ruling_pair", "ShiftedSequence.ruling_pair", tsRuling, [], [], some "ShiftedSequence"⟩,
  ⟨fun K => He.ma K (He.ga K "ShiftedSequence") "uncovered", "uncovered", "ShiftedSequence.uncovered", tsUncov, [], [], some "ShiftedSequence"⟩,
  ⟨fun K => He.ma K (He.ga K "ShiftedSequence") "__init__", "__init__", "ShiftedSequence.__init__", tsInit, [], [("shift", .int 0)], some "ShiftedSequence"⟩,
  ⟨fun K => He.ma K (He.ga K "ShiftedSequence") "tripled", "tripled", "ShiftedSequence.tripled", tsTripled, [], [], none⟩,
  ⟨fun K => pAd K (He.ga K "ShiftedSequence") "shift", "shift", "ShiftedSequence.shift", tsShift, [], [], none⟩,
  ⟨fun K => He.ma K (He.ga K "IsMember") "__init__", "__init__", "IsMember.__init__", txMember, [], [], none⟩,
  ⟨fun K => He.ma K (He.ga K "NotCovered") "__init__", "__init__", "NotCovered.__init__", txCovered, [], [], none⟩]
def facs1 : List He.Fa := [.free "isinstance", .free "int", .free "bool", .free "divmod", .free "range", .free "len", .free "max", .free "enumerate", .free "tuple", .free "list", .free "all", .free "zip", .free "sorted", .free "repr", .free "super", .glo "is_integer", .glo "check_number", .glo "digits_in", .glo "number_of", .glo "are_plain", .glo "power_of", .glo "member_at", .glo "rank_of", .glo "base_member", .glo "in_base", .glo "base_rank", .glo "plain_pair", .glo "is_between", .glo "check_shape", .glo "spoiling_triple", .glo "serving_table", .glo "unserved_remainder", .glo "check_at_least", .glo "_law_streams", .glo "_law_next", .glo "_law_joined", .glo "_law_random_cell", .glo "_law_huge", .glo "_law_answer", .glo "_law_moved", .glo "_law_number_holds", .glo "_law_names_hold", .glo "_law_below_holds", .glo "law", .glo "Cell"]
def facs2 : List He.Fa := [.glo "RuledSequence", .glo "ShiftedSequence", .glo "StateError", .glo "IsMember", .glo "NotCovered", .cls "Cell", .mkr "Cell", .cls "RuledSequence", .mkr "RuledSequence", .cls "ShiftedSequence", .mkr "ShiftedSequence", .noat "Cell" "table", .noat "Cell" "own_modulus", .noat "Cell" "own_members", .noat "Cell" "known", .noat "RuledSequence" "own_cell", .noat "RuledSequence" "offset", .noat "ShiftedSequence" "own_cell", .noat "ShiftedSequence" "offset", .noat "IsMember" "given", .noat "NotCovered" "given", .meth "Cell" "check_remainder", .meth "Cell" "has", .meth "Cell" "serving_pair", .meth "Cell" "carry", .meth "Cell" "__eq__", .meth "RuledSequence" "member", .meth "RuledSequence" "rank", .meth "RuledSequence" "contains", .meth "RuledSequence" "next_member", .meth "RuledSequence" "last_member", .meth "RuledSequence" "small_cover", .meth "RuledSequence" "ruling_pair", .meth "RuledSequence" "cover", .meth "RuledSequence" "check_cover", .meth "RuledSequence" "gap", .meth "RuledSequence" "uncovered", .meth "RuledSequence" "tripled_cell", .meth "RuledSequence" "tripled", .meth "ShiftedSequence" "member", .meth "ShiftedSequence" "rank", .meth "ShiftedSequence" "contains", .meth "ShiftedSequence" "next_member", .meth "ShiftedSequence" "last_member", .meth "ShiftedSequence" "small_cover", .meth "ShiftedSequence" "ruling_pair", .meth "ShiftedSequence" "cover", .meth "ShiftedSequence" "check_cover", .meth "ShiftedSequence" "gap", .meth "ShiftedSequence" "walk", .meth "ShiftedSequence" "uncovered", .meth "ShiftedSequence" "tripled_cell", .meth "ShiftedSequence" "tripled", .meth "ShiftedSequence" "__len__", .meth "ShiftedSequence" "__eq__", .meth "IsMember" "__init__", .meth "NotCovered" "__init__"]
def exs : List (PySem.W.Frag → Bool) := [
  fun K => propB K (He.ga K "Cell") "size",
  fun K => propB K (He.ga K "Cell") "members",
  fun K => propB K (He.ga K "Cell") "modulus",
  fun K => propB K (He.ga K "Cell") "greatest",
  fun K => propB K (He.ga K "RuledSequence") "cell",
  fun K => propB K (He.ga K "ShiftedSequence") "cell",
  fun K => propB K (He.ga K "ShiftedSequence") "shift",
  fun K => isiB K (He.ga K "Cell"),
  fun K => creadB K (He.ga K "Cell"),
  fun K => cvalB K (He.ga K "Cell") "MAX_MODULUS" (.int 20000),
  fun K => cvalB K (He.ga K "Cell") "MAX_MEMBERS" (.int 256),
  fun K => decide (PySem.W.kitOne K (.ref (He.ga K "Cell")) (.ref (He.ga K "Cell")) = some true),
  fun K => PySem.W.notFirst K (He.ga K "Cell") (.ref (He.ga K "Cell")),
  fun K => twoB K (He.ga K "RuledSequence") (He.ga K "ShiftedSequence"),
  fun K => supB K (He.ga K "ShiftedSequence") "__init__",
  fun K => supB K (He.ga K "ShiftedSequence") "member",
  fun K => supB K (He.ga K "ShiftedSequence") "rank",
  fun K => supB K (He.ga K "ShiftedSequence") "contains",
  fun K => supB K (He.ga K "ShiftedSequence") "ruling_pair",
  fun K => supB K (He.ga K "ShiftedSequence") "uncovered",
  fun K => oexB K (He.ga K "IsMember"),
  fun K => excCB K (He.ga K "IsMember"),
  fun K => decide (PySem.W.typeIn K (.ref (He.ma K (He.ga K "IsMember") "__init__")) = some (.type "function")),
  fun K => oexB K (He.ga K "NotCovered"),
  fun K => excCB K (He.ga K "NotCovered"),
  fun K => decide (PySem.W.typeIn K (.ref (He.ma K (He.ga K "NotCovered") "__init__")) = some (.type "function")),
  fun K => initB K (He.ga K "StateError"),
  fun K => twoXB K (He.ga K "IsMember") (He.ga K "NotCovered")]
abbrev rowL : PySem.W.OpenLaw := PySem.Challenge.rw_triplefree_k22_whole_shifted_sequences
abbrev prL : Program := rowL.prog
abbrev fileL : Str := prL.main.file
/-- all of it -/
structure Says (K : PySem.W.Frag) : Prop where
  f1 : facs1.all (fun f => f.ok K) = true
  f2 : facs2.all (fun f => f.ok K) = true
  e : exs.all (fun b => b K) = true
  d1 : dfs1.all (fun d => d.ok K fileL) = true
  d2 : dfs2.all (fun d => d.ok K fileL) = true
  o1 : dfs1.map (fun d => obX K (d.at_ K)) = dfs1.map DfX.val
  o2 : dfs2.map (fun d => obX K (d.at_ K)) = dfs2.map DfX.val
section
variable {K : PySem.W.Frag}
theorem Says.g1 (c : Says K) (i : Nat) {f : He.Fa} (h : facs1[i]? = some f) : f.ok K = true := List.all_eq_true.mp c.f1 f (List.mem_of_getElem? h)
theorem Says.g2 (c : Says K) (i : Nat) {f : He.Fa} (h : facs2[i]? = some f) : f.ok K = true := List.all_eq_true.mp c.f2 f (List.mem_of_getElem? h)
theorem Says.x (c : Says K) (i : Nat) {b : PySem.W.Frag → Bool} (h : exs[i]? = some b) : b K = true := List.all_eq_true.mp c.e b (List.mem_of_getElem? h)
theorem Says.t1 (c : Says K) (i : Nat) {d : DfX} (h : dfs1[i]? = some d) : obX K (d.at_ K) = d.val ∧ d.ok K fileL = true := by
  have z : (dfs1.map fun d => obX K (d.at_ K))[i]? = (dfs1.map DfX.val)[i]? := by rw [c.o1]
  rw [List.getElem?_map, List.getElem?_map, h] at z
  exact ⟨Option.some.inj z, List.all_eq_true.mp c.d1 d (List.mem_of_getElem? h)⟩
theorem Says.t2 (c : Says K) (i : Nat) {d : DfX} (h : dfs2[i]? = some d) : obX K (d.at_ K) = d.val ∧ d.ok K fileL = true := by
  have z : (dfs2.map fun d => obX K (d.at_ K))[i]? = (dfs2.map DfX.val)[i]? := by rw [c.o2]
  rw [List.getElem?_map, List.getElem?_map, h] at z
  exact ⟨Option.some.inj z, List.all_eq_true.mp c.d2 d (List.mem_of_getElem? h)⟩
end
theorem FunD.of_fun {K : PySem.W.Frag} {x qual : Str} {st : Stmt} {f : Addr} {fd : FuncData} (F : Fun K x qual st f fd) : FunD K x qual (defArgs st) (defBody st) (defScope st) [] [] f fd := by
  obtain ⟨oc, od, kV, doc, pm, an, cdv, ct, osl, e, lk, hcd⟩ := F.ex
  exact ⟨⟨oc, od, .none, kV, doc, pm, an, cdv, ct, osl, e, lk, hcd, .inl ⟨rfl, rfl⟩, .inl rfl⟩, F.kp⟩
theorem all_law {w : World} {K : PySem.W.Frag} {h base : Heap} {mg : Str → Option Value} {fd_law : FuncData} (X : K.In h) (G : h.Ns mainGlobals mg) (c : Says K) (F_law : Fun K "law" "law" tLaw (He.ga K "law") fd_law) : FnG prL w K mg base 12 (He.ga K "law") fd_law ["_law_script"] (spLaw K) := by
  obtain ⟨fd_digits_in, F_digits_in⟩ : ∃ fd, Fun K "digits_in" "digits_in" tDigits (He.ga K "digits_in") fd := DfX.fun_ (c.t1 2 rfl).1 (c.t1 2 rfl).2 rfl rfl
  have b_digits_in := F_digits_in.binds (ps := ["number", "radix"]) fun _ _ _ _ _ _ us hl => match us, hl with | [_, _], _ => rfl
  obtain ⟨fd_number_of, F_number_of⟩ : ∃ fd, Fun K "number_of" "number_of" tNumber (He.ga K "number_of") fd := DfX.fun_ (c.t1 3 rfl).1 (c.t1 3 rfl).2 rfl rfl
  have b_number_of := F_number_of.binds (ps := ["digits", "radix"]) fun _ _ _ _ _ _ us hl => match us, hl with | [_, _], _ => rfl
  obtain ⟨fd_are_plain, F_are_plain⟩ : ∃ fd, Fun K "are_plain" "are_plain" tPlain (He.ga K "are_plain") fd := DfX.fun_ (c.t1 4 rfl).1 (c.t1 4 rfl).2 rfl rfl
  have b_are_plain := F_are_plain.binds (ps := ["digits"]) fun _ _ _ _ _ _ us hl => match us, hl with | [_], _ => rfl
  obtain ⟨fd_power_of, F_power_of⟩ : ∃ fd, Fun K "power_of" "power_of" tPower (He.ga K "power_of") fd := DfX.fun_ (c.t1 5 rfl).1 (c.t1 5 rfl).2 rfl rfl
  have b_power_of := F_power_of.binds (ps := ["radix", "exponent"]) fun _ _ _ _ _ _ us hl => match us, hl with | [_, _], _ => rfl
  obtain ⟨fd_member_at, F_member_at⟩ : ∃ fd, Fun K "member_at" "member_at" tMemAt (He.ga K "member_at") fd := DfX.fun_ (c.t1 6 rfl).1 (c.t1 6 rfl).2 rfl rfl
  have b_member_at := F_member_at.binds (ps := ["number"]) fun _ _ _ _ _ _ us hl => match us, hl with | [_], _ => rfl
  obtain ⟨fd_rank_of, F_rank_of⟩ : ∃ fd, Fun K "rank_of" "rank_of" tRankOf (He.ga K "rank_of") fd := DfX.fun_ (c.t1 7 rfl).1 (c.t1 7 rfl).2 rfl rfl
  have b_rank_of := F_rank_of.binds (ps := ["x"]) fun _ _ _ _ _ _ us hl => match us, hl with | [_], _ => rfl
  obtain ⟨fd_base_member, F_base_member⟩ : ∃ fd, Fun K "base_member" "base_member" tBaseMem (He.ga K "base_member") fd := DfX.fun_ (c.t1 8 rfl).1 (c.t1 8 rfl).2 rfl rfl
  have b_base_member := F_base_member.binds (ps := ["number"]) fun _ _ _ _ _ _ us hl => match us, hl with | [_], _ => rfl
  obtain ⟨fd_in_base, F_in_base⟩ : ∃ fd, Fun K "in_base" "in_base" tInBase (He.ga K "in_base") fd := DfX.fun_ (c.t1 9 rfl).1 (c.t1 9 rfl).2 rfl rfl
  have b_in_base := F_in_base.binds (ps := ["x"]) fun _ _ _ _ _ _ us hl => match us, hl with | [_], _ => rfl
  obtain ⟨fd_base_rank, F_base_rank⟩ : ∃ fd, Fun K "base_rank" "base_rank" tBaseRank (He.ga K "base_rank") fd := DfX.fun_ (c.t1 10 rfl).1 (c.t1 10 rfl).2 rfl rfl
  have b_base_rank := F_base_rank.binds (ps := ["x"]) fun _ _ _ _ _ _ us hl => match us, hl with | [_], _ => rfl
  obtain ⟨fd_plain_pair, F_plain_pair⟩ : ∃ fd, Fun K "plain_pair" "plain_pair" tPair (He.ga K "plain_pair") fd := DfX.fun_ (c.t1 11 rfl).1 (c.t1 11 rfl).2 rfl rfl
  have b_plain_pair := F_plain_pair.binds (ps := ["m"]) fun _ _ _ _ _ _ us hl => match us, hl with | [_], _ => rfl
  obtain ⟨fd_is_between, F_is_between⟩ : ∃ fd, Fun K "is_between" "is_between" tBetween (He.ga K "is_between") fd := DfX.fun_ (c.t1 12 rfl).1 (c.t1 12 rfl).2 rfl rfl
  have b_is_between := F_is_between.binds (ps := ["value", "low", "high"]) fun _ _ _ _ _ _ us hl => match us, hl with | [_, _, _], _ => rfl
  obtain ⟨fd_check_shape, F_check_shape⟩ : ∃ fd, Fun K "check_shape" "check_shape" tShape (He.ga K "check_shape") fd := DfX.fun_ (c.t1 13 rfl).1 (c.t1 13 rfl).2 rfl rfl
  have b_check_shape := F_check_shape.binds (ps := ["modulus", "members"]) fun _ _ _ _ _ _ us hl => match us, hl with | [_, _], _ => rfl
  obtain ⟨fd_spoiling_triple, F_spoiling_triple⟩ : ∃ fd, Fun K "spoiling_triple" "spoiling_triple" tSpoil (He.ga K "spoiling_triple") fd := DfX.fun_ (c.t1 14 rfl).1 (c.t1 14 rfl).2 rfl rfl
  have b_spoiling_triple := F_spoiling_triple.binds (ps := ["modulus", "members"]) fun _ _ _ _ _ _ us hl => match us, hl with | [_, _], _ => rfl
  obtain ⟨fd_serving_table, F_serving_table⟩ : ∃ fd, Fun K "serving_table" "serving_table" tTable (He.ga K "serving_table") fd := DfX.fun_ (c.t1 15 rfl).1 (c.t1 15 rfl).2 rfl rfl
  have b_serving_table := F_serving_table.binds (ps := ["modulus", "members"]) fun _ _ _ _ _ _ us hl => match us, hl with | [_, _], _ => rfl
  obtain ⟨fd_unserved_remainder, F_unserved_remainder⟩ : ∃ fd, Fun K "unserved_remainder" "unserved_remainder" tUnserved (He.ga K "unserved_remainder") fd := DfX.fun_ (c.t1 16 rfl).1 (c.t1 16 rfl).2 rfl rfl
  have b_unserved_remainder := F_unserved_remainder.binds (ps := ["modulus", "members", "table"]) fun _ _ _ _ _ _ us hl => match us, hl with | [_, _, _], _ => rfl
  obtain ⟨fd_check_at_least, F_check_at_least⟩ : ∃ fd, Fun K "check_at_least" "check_at_least" tAtLeast (He.ga K "check_at_least") fd := DfX.fun_ (c.t1 17 rfl).1 (c.t1 17 rfl).2 rfl rfl
  have b_check_at_least := F_check_at_least.binds (ps := ["given", "low"]) fun _ _ _ _ _ _ us hl => match us, hl with | [_, _], _ => rfl
  obtain ⟨fd__law_streams, F__law_streams⟩ : ∃ fd, Fun K "_law_streams" "_law_streams" tStreams (He.ga K "_law_streams") fd := DfX.fun_ (c.t1 18 rfl).1 (c.t1 18 rfl).2 rfl rfl
  have b__law_streams := F__law_streams.binds (ps := ["_law_script"]) fun _ _ _ _ _ _ us hl => match us, hl with | [_], _ => rfl
  obtain ⟨fd__law_next, F__law_next⟩ : ∃ fd, Fun K "_law_next" "_law_next" tNext (He.ga K "_law_next") fd := DfX.fun_ (c.t1 19 rfl).1 (c.t1 19 rfl).2 rfl rfl
  have b__law_next := F__law_next.binds (ps := ["_law_stream", "_law_count"]) fun _ _ _ _ _ _ us hl => match us, hl with | [_, _], _ => rfl
  obtain ⟨fd__law_joined, F__law_joined⟩ : ∃ fd, Fun K "_law_joined" "_law_joined" tJoined (He.ga K "_law_joined") fd := DfX.fun_ (c.t1 20 rfl).1 (c.t1 20 rfl).2 rfl rfl
  have b__law_joined := F__law_joined.binds (ps := ["_law_first", "_law_second"]) fun _ _ _ _ _ _ us hl => match us, hl with | [_, _], _ => rfl
  obtain ⟨fd__law_random_cell, F__law_random_cell⟩ : ∃ fd, Fun K "_law_random_cell" "_law_random_cell" tRandom (He.ga K "_law_random_cell") fd := DfX.fun_ (c.t1 21 rfl).1 (c.t1 21 rfl).2 rfl rfl
  have b__law_random_cell := F__law_random_cell.binds (ps := ["_law_stream", "_law_most"]) fun _ _ _ _ _ _ us hl => match us, hl with | [_, _], _ => rfl
  obtain ⟨fd__law_huge, F__law_huge⟩ : ∃ fd, Fun K "_law_huge" "_law_huge" tHuge (He.ga K "_law_huge") fd := DfX.fun_ (c.t1 22 rfl).1 (c.t1 22 rfl).2 rfl rfl
  have b__law_huge := F__law_huge.binds (ps := ["_law_stream"]) fun _ _ _ _ _ _ us hl => match us, hl with | [_], _ => rfl
  obtain ⟨fd__law_answer, F__law_answer⟩ : ∃ fd, Fun K "_law_answer" "_law_answer" tAnswer (He.ga K "_law_answer") fd := DfX.fun_ (c.t1 23 rfl).1 (c.t1 23 rfl).2 rfl rfl
  have b__law_answer := F__law_answer.binds (ps := ["_law_track", "_law_own_x"]) fun _ _ _ _ _ _ us hl => match us, hl with | [_, _], _ => rfl
  obtain ⟨fd__law_moved, F__law_moved⟩ : ∃ fd, Fun K "_law_moved" "_law_moved" tMoved (He.ga K "_law_moved") fd := DfX.fun_ (c.t1 24 rfl).1 (c.t1 24 rfl).2 rfl rfl
  have b__law_moved := F__law_moved.binds (ps := ["_law_answer_here", "_law_gap"]) fun _ _ _ _ _ _ us hl => match us, hl with | [_, _], _ => rfl
  obtain ⟨fd__law_number_holds, F__law_number_holds⟩ : ∃ fd, Fun K "_law_number_holds" "_law_number_holds" tNumHolds (He.ga K "_law_number_holds") fd := DfX.fun_ (c.t1 25 rfl).1 (c.t1 25 rfl).2 rfl rfl
  have b__law_number_holds := F__law_number_holds.binds (ps := ["_law_moved_here", "_law_plain", "_law_gap", "_law_own_x"]) fun _ _ _ _ _ _ us hl => match us, hl with | [_, _, _, _], _ => rfl
  obtain ⟨fd__law_names_hold, F__law_names_hold⟩ : ∃ fd, Fun K "_law_names_hold" "_law_names_hold" tNames (He.ga K "_law_names_hold") fd := DfX.fun_ (c.t1 26 rfl).1 (c.t1 26 rfl).2 rfl rfl
  have b__law_names_hold := F__law_names_hold.binds (ps := ["_law_moved_here", "_law_own_x"]) fun _ _ _ _ _ _ us hl => match us, hl with | [_, _], _ => rfl
  obtain ⟨fd__law_below_holds, F__law_below_holds⟩ : ∃ fd, Fun K "_law_below_holds" "_law_below_holds" tBelow (He.ga K "_law_below_holds") fd := DfX.fun_ (c.t1 27 rfl).1 (c.t1 27 rfl).2 rfl rfl
  have b__law_below_holds := F__law_below_holds.binds (ps := ["_law_moved_here", "_law_plain", "_law_gap"]) fun _ _ _ _ _ _ us hl => match us, hl with | [_, _, _], _ => rfl
  obtain ⟨fd_c___init__, F_c___init__⟩ : ∃ fd, Fun K "__init__" "Cell.__init__" tcInit (He.ma K (He.ga K "Cell") "__init__") fd := DfX.fun_ (c.t1 29 rfl).1 (c.t1 29 rfl).2 rfl rfl
  have b_c___init__ := F_c___init__.binds (ps := ["self", "modulus", "members"]) fun _ _ _ _ _ _ us hl => match us, hl with | [_, _, _], _ => rfl
  obtain ⟨fd_c_check_remainder, F_c_check_remainder⟩ : ∃ fd, Fun K "check_remainder" "Cell.check_remainder" tcCheckRem (He.ma K (He.ga K "Cell") "check_remainder") fd := DfX.fun_ (c.t1 30 rfl).1 (c.t1 30 rfl).2 rfl rfl
  have b_c_check_remainder := F_c_check_remainder.binds (ps := ["self", "remainder"]) fun _ _ _ _ _ _ us hl => match us, hl with | [_, _], _ => rfl
  obtain ⟨fd_c_has, F_c_has⟩ : ∃ fd, Fun K "has" "Cell.has" tcHas (He.ma K (He.ga K "Cell") "has") fd := DfX.fun_ (c.t1 31 rfl).1 (c.t1 31 rfl).2 rfl rfl
  have b_c_has := F_c_has.binds (ps := ["self", "remainder"]) fun _ _ _ _ _ _ us hl => match us, hl with | [_, _], _ => rfl
  obtain ⟨fd_c_serving_pair, F_c_serving_pair⟩ : ∃ fd, Fun K "serving_pair" "Cell.serving_pair" tcServing (He.ma K (He.ga K "Cell") "serving_pair") fd := DfX.fun_ (c.t1 32 rfl).1 (c.t1 32 rfl).2 rfl rfl
  have b_c_serving_pair := F_c_serving_pair.binds (ps := ["self", "remainder"]) fun _ _ _ _ _ _ us hl => match us, hl with | [_, _], _ => rfl
  obtain ⟨fd_c_carry, F_c_carry⟩ : ∃ fd, Fun K "carry" "Cell.carry" tcCarry (He.ma K (He.ga K "Cell") "carry") fd := DfX.fun_ (c.t1 33 rfl).1 (c.t1 33 rfl).2 rfl rfl
  have b_c_carry := F_c_carry.binds (ps := ["self", "remainder"]) fun _ _ _ _ _ _ us hl => match us, hl with | [_, _], _ => rfl
  obtain ⟨fd_c___eq__, F_c___eq__⟩ : ∃ fd, Fun K "__eq__" "Cell.__eq__" tcEq (He.ma K (He.ga K "Cell") "__eq__") fd := DfX.fun_ (c.t1 34 rfl).1 (c.t1 34 rfl).2 rfl rfl
  have b_c___eq__ := F_c___eq__.binds (ps := ["self", "other"]) fun _ _ _ _ _ _ us hl => match us, hl with | [_, _], _ => rfl
  obtain ⟨fd_c_modulus, F_c_modulus⟩ : ∃ fd, Fun K "modulus" "Cell.modulus" tcModulus (pAd K (He.ga K "Cell") "modulus") fd := DfX.fun_ (c.t1 35 rfl).1 (c.t1 35 rfl).2 rfl rfl
  have b_c_modulus := F_c_modulus.binds (ps := ["self"]) fun _ _ _ _ _ _ us hl => match us, hl with | [_], _ => rfl
  obtain ⟨fd_c_members, F_c_members⟩ : ∃ fd, Fun K "members" "Cell.members" tcMembers (pAd K (He.ga K "Cell") "members") fd := DfX.fun_ (c.t1 36 rfl).1 (c.t1 36 rfl).2 rfl rfl
  have b_c_members := F_c_members.binds (ps := ["self"]) fun _ _ _ _ _ _ us hl => match us, hl with | [_], _ => rfl
  obtain ⟨fd_c_size, F_c_size⟩ : ∃ fd, Fun K "size" "Cell.size" tcSize (pAd K (He.ga K "Cell") "size") fd := DfX.fun_ (c.t1 37 rfl).1 (c.t1 37 rfl).2 rfl rfl
  have b_c_size := F_c_size.binds (ps := ["self"]) fun _ _ _ _ _ _ us hl => match us, hl with | [_], _ => rfl
  obtain ⟨fd_c_greatest, F_c_greatest⟩ : ∃ fd, Fun K "greatest" "Cell.greatest" tcGreatest (pAd K (He.ga K "Cell") "greatest") fd := DfX.fun_ (c.t1 38 rfl).1 (c.t1 38 rfl).2 rfl rfl
  have b_c_greatest := F_c_greatest.binds (ps := ["self"]) fun _ _ _ _ _ _ us hl => match us, hl with | [_], _ => rfl
  obtain ⟨fd_r___init__, F_r___init__⟩ : ∃ fd, Fun K "__init__" "RuledSequence.__init__" trInit (He.ma K (He.ga K "RuledSequence") "__init__") fd := DfX.fun_ (c.t1 39 rfl).1 (c.t1 39 rfl).2 rfl rfl
  have b_r___init__ := F_r___init__.binds (ps := ["self", "cell"]) fun _ _ _ _ _ _ us hl => match us, hl with | [_, _], _ => rfl
  obtain ⟨fd_r_member, F_r_member⟩ : ∃ fd, Fun K "member" "RuledSequence.member" trMember (He.ma K (He.ga K "RuledSequence") "member") fd := DfX.fun_ (c.t2 0 rfl).1 (c.t2 0 rfl).2 rfl rfl
  have b_r_member := F_r_member.binds (ps := ["self", "number"]) fun _ _ _ _ _ _ us hl => match us, hl with | [_, _], _ => rfl
  obtain ⟨fd_r_rank, F_r_rank⟩ : ∃ fd, Fun K "rank" "RuledSequence.rank" trRank (He.ma K (He.ga K "RuledSequence") "rank") fd := DfX.fun_ (c.t2 1 rfl).1 (c.t2 1 rfl).2 rfl rfl
  have b_r_rank := F_r_rank.binds (ps := ["self", "x"]) fun _ _ _ _ _ _ us hl => match us, hl with | [_, _], _ => rfl
  obtain ⟨fd_r_contains, F_r_contains⟩ : ∃ fd, Fun K "contains" "RuledSequence.contains" trContains (He.ma K (He.ga K "RuledSequence") "contains") fd := DfX.fun_ (c.t2 2 rfl).1 (c.t2 2 rfl).2 rfl rfl
  have b_r_contains := F_r_contains.binds (ps := ["self", "x"]) fun _ _ _ _ _ _ us hl => match us, hl with | [_, _], _ => rfl
  obtain ⟨fd_r_next_member, F_r_next_member⟩ : ∃ fd, Fun K "next_member" "RuledSequence.next_member" trNext (He.ma K (He.ga K "RuledSequence") "next_member") fd := DfX.fun_ (c.t2 3 rfl).1 (c.t2 3 rfl).2 rfl rfl
  have b_r_next_member := F_r_next_member.binds (ps := ["self", "x"]) fun _ _ _ _ _ _ us hl => match us, hl with | [_, _], _ => rfl
  obtain ⟨fd_r_last_member, F_r_last_member⟩ : ∃ fd, Fun K "last_member" "RuledSequence.last_member" trLast (He.ma K (He.ga K "RuledSequence") "last_member") fd := DfX.fun_ (c.t2 4 rfl).1 (c.t2 4 rfl).2 rfl rfl
  have b_r_last_member := F_r_last_member.binds (ps := ["self", "x"]) fun _ _ _ _ _ _ us hl => match us, hl with | [_, _], _ => rfl
  obtain ⟨fd_r_small_cover, F_r_small_cover⟩ : ∃ fd, Fun K "small_cover" "RuledSequence.small_cover" trSmall (He.ma K (He.ga K "RuledSequence") "small_cover") fd := DfX.fun_ (c.t2 5 rfl).1 (c.t2 5 rfl).2 rfl rfl
  have b_r_small_cover := F_r_small_cover.binds (ps := ["self", "x"]) fun _ _ _ _ _ _ us hl => match us, hl with | [_, _], _ => rfl
  obtain ⟨fd_r_ruling_pair, F_r_ruling_pair⟩ : ∃ fd, Fun K "ruling_pair" "RuledSequence.ruling_pair" trRuling (He.ma K (He.ga K "RuledSequence") "ruling_pair") fd := DfX.fun_ (c.t2 6 rfl).1 (c.t2 6 rfl).2 rfl rfl
  have b_r_ruling_pair := F_r_ruling_pair.binds (ps := ["self", "x"]) fun _ _ _ _ _ _ us hl => match us, hl with | [_, _], _ => rfl
  obtain ⟨fd_r_cover, F_r_cover⟩ : ∃ fd, Fun K "cover" "RuledSequence.cover" trCover (He.ma K (He.ga K "RuledSequence") "cover") fd := DfX.fun_ (c.t2 7 rfl).1 (c.t2 7 rfl).2 rfl rfl
  have b_r_cover := F_r_cover.binds (ps := ["self", "x"]) fun _ _ _ _ _ _ us hl => match us, hl with | [_, _], _ => rfl
  obtain ⟨fd_r_check_cover, F_r_check_cover⟩ : ∃ fd, Fun K "check_cover" "RuledSequence.check_cover" trCheck (He.ma K (He.ga K "RuledSequence") "check_cover") fd := DfX.fun_ (c.t2 8 rfl).1 (c.t2 8 rfl).2 rfl rfl
  have b_r_check_cover := F_r_check_cover.binds (ps := ["self", "x", "pair"]) fun _ _ _ _ _ _ us hl => match us, hl with | [_, _, _], _ => rfl
  obtain ⟨fd_r_gap, F_r_gap⟩ : ∃ fd, Fun K "gap" "RuledSequence.gap" trGap (He.ma K (He.ga K "RuledSequence") "gap") fd := DfX.fun_ (c.t2 9 rfl).1 (c.t2 9 rfl).2 rfl rfl
  have b_r_gap := F_r_gap.binds (ps := ["self", "number"]) fun _ _ _ _ _ _ us hl => match us, hl with | [_, _], _ => rfl
  obtain ⟨fd_r_uncovered, F_r_uncovered⟩ : ∃ fd, Fun K "uncovered" "RuledSequence.uncovered" trUncov (He.ma K (He.ga K "RuledSequence") "uncovered") fd := DfX.fun_ (c.t2 10 rfl).1 (c.t2 10 rfl).2 rfl rfl
  have b_r_uncovered := F_r_uncovered.binds (ps := ["self"]) fun _ _ _ _ _ _ us hl => match us, hl with | [_], _ => rfl
  obtain ⟨fd_r_tripled_cell, F_r_tripled_cell⟩ : ∃ fd, Fun K "tripled_cell" "RuledSequence.tripled_cell" trTriCell (He.ma K (He.ga K "RuledSequence") "tripled_cell") fd := DfX.fun_ (c.t2 11 rfl).1 (c.t2 11 rfl).2 rfl rfl
  have b_r_tripled_cell := F_r_tripled_cell.binds (ps := ["self"]) fun _ _ _ _ _ _ us hl => match us, hl with | [_], _ => rfl
  obtain ⟨fd_r_tripled, F_r_tripled⟩ : ∃ fd, Fun K "tripled" "RuledSequence.tripled" trTripled (He.ma K (He.ga K "RuledSequence") "tripled") fd := DfX.fun_ (c.t2 12 rfl).1 (c.t2 12 rfl).2 rfl rfl
  have b_r_tripled := F_r_tripled.binds (ps := ["self"]) fun _ _ _ _ _ _ us hl => match us, hl with | [_], _ => rfl
  obtain ⟨fd_r_cell, F_r_cell⟩ : ∃ fd, Fun K "cell" "RuledSequence.cell" trCell (pAd K (He.ga K "RuledSequence") "cell") fd := DfX.fun_ (c.t2 13 rfl).1 (c.t2 13 rfl).2 rfl rfl
  have b_r_cell := F_r_cell.binds (ps := ["self"]) fun _ _ _ _ _ _ us hl => match us, hl with | [_], _ => rfl
  obtain ⟨fd_s_next_member, F_s_next_member⟩ : ∃ fd, Fun K "next_member" "RuledSequence.next_member" trNext (He.ma K (He.ga K "ShiftedSequence") "next_member") fd := DfX.fun_ (c.t2 14 rfl).1 (c.t2 14 rfl).2 rfl rfl
  have b_s_next_member := F_s_next_member.binds (ps := ["self", "x"]) fun _ _ _ _ _ _ us hl => match us, hl with | [_, _], _ => rfl
  obtain ⟨fd_s_last_member, F_s_last_member⟩ : ∃ fd, Fun K "last_member" "RuledSequence.last_member" trLast (He.ma K (He.ga K "ShiftedSequence") "last_member") fd := DfX.fun_ (c.t2 15 rfl).1 (c.t2 15 rfl).2 rfl rfl
  have b_s_last_member := F_s_last_member.binds (ps := ["self", "x"]) fun _ _ _ _ _ _ us hl => match us, hl with | [_, _], _ => rfl
  obtain ⟨fd_s_small_cover, F_s_small_cover⟩ : ∃ fd, Fun K "small_cover" "RuledSequence.small_cover" trSmall (He.ma K (He.ga K "ShiftedSequence") "small_cover") fd := DfX.fun_ (c.t2 16 rfl).1 (c.t2 16 rfl).2 rfl rfl
  have b_s_small_cover := F_s_small_cover.binds (ps := ["self", "x"]) fun _ _ _ _ _ _ us hl => match us, hl with | [_, _], _ => rfl
  obtain ⟨fd_s_cover, F_s_cover⟩ : ∃ fd, Fun K "cover" "RuledSequence.cover" trCover (He.ma K (He.ga K "ShiftedSequence") "cover") fd := DfX.fun_ (c.t2 17 rfl).1 (c.t2 17 rfl).2 rfl rfl
  have b_s_cover := F_s_cover.binds (ps := ["self", "x"]) fun _ _ _ _ _ _ us hl => match us, hl with | [_, _], _ => rfl
  obtain ⟨fd_s_check_cover, F_s_check_cover⟩ : ∃ fd, Fun K "check_cover" "RuledSequence.check_cover" trCheck (He.ma K (He.ga K "ShiftedSequence") "check_cover") fd := DfX.fun_ (c.t2 18 rfl).1 (c.t2 18 rfl).2 rfl rfl
  have b_s_check_cover := F_s_check_cover.binds (ps := ["self", "x", "pair"]) fun _ _ _ _ _ _ us hl => match us, hl with | [_, _, _], _ => rfl
  obtain ⟨fd_s_gap, F_s_gap⟩ : ∃ fd, Fun K "gap" "RuledSequence.gap" trGap (He.ma K (He.ga K "ShiftedSequence") "gap") fd := DfX.fun_ (c.t2 19 rfl).1 (c.t2 19 rfl).2 rfl rfl
  have b_s_gap := F_s_gap.binds (ps := ["self", "number"]) fun _ _ _ _ _ _ us hl => match us, hl with | [_, _], _ => rfl
  obtain ⟨fd_s_tripled_cell, F_s_tripled_cell⟩ : ∃ fd, Fun K "tripled_cell" "RuledSequence.tripled_cell" trTriCell (He.ma K (He.ga K "ShiftedSequence") "tripled_cell") fd := DfX.fun_ (c.t2 21 rfl).1 (c.t2 21 rfl).2 rfl rfl
  have b_s_tripled_cell := F_s_tripled_cell.binds (ps := ["self"]) fun _ _ _ _ _ _ us hl => match us, hl with | [_], _ => rfl
  obtain ⟨fd_s___len__, F_s___len__⟩ : ∃ fd, Fun K "__len__" "RuledSequence.__len__" trLen (He.ma K (He.ga K "ShiftedSequence") "__len__") fd := DfX.fun_ (c.t2 22 rfl).1 (c.t2 22 rfl).2 rfl rfl
  have b_s___len__ := F_s___len__.binds (ps := ["self"]) fun _ _ _ _ _ _ us hl => match us, hl with | [_], _ => rfl
  obtain ⟨fd_s___eq__, F_s___eq__⟩ : ∃ fd, Fun K "__eq__" "RuledSequence.__eq__" trEq (He.ma K (He.ga K "ShiftedSequence") "__eq__") fd := DfX.fun_ (c.t2 23 rfl).1 (c.t2 23 rfl).2 rfl rfl
  have b_s___eq__ := F_s___eq__.binds (ps := ["self", "other"]) fun _ _ _ _ _ _ us hl => match us, hl with | [_, _], _ => rfl
  obtain ⟨fd_s_cell, F_s_cell⟩ : ∃ fd, Fun K "cell" "RuledSequence.cell" trCell (pAd K (He.ga K "ShiftedSequence") "cell") fd := DfX.fun_ (c.t2 24 rfl).1 (c.t2 24 rfl).2 rfl rfl
  have b_s_cell := F_s_cell.binds (ps := ["self"]) fun _ _ _ _ _ _ us hl => match us, hl with | [_], _ => rfl
  obtain ⟨fd_u___init__, F_u___init__⟩ : ∃ fd, Fun K "__init__" "RuledSequence.__init__" trInit (suAd K (He.ga K "ShiftedSequence") "__init__") fd := DfX.fun_ (c.t2 25 rfl).1 (c.t2 25 rfl).2 rfl rfl
  have b_u___init__ := F_u___init__.binds (ps := ["self", "cell"]) fun _ _ _ _ _ _ us hl => match us, hl with | [_, _], _ => rfl
  obtain ⟨fd_u_member, F_u_member⟩ : ∃ fd, Fun K "member" "RuledSequence.member" trMember (suAd K (He.ga K "ShiftedSequence") "member") fd := DfX.fun_ (c.t2 26 rfl).1 (c.t2 26 rfl).2 rfl rfl
  have b_u_member := F_u_member.binds (ps := ["self", "number"]) fun _ _ _ _ _ _ us hl => match us, hl with | [_, _], _ => rfl
  obtain ⟨fd_u_rank, F_u_rank⟩ : ∃ fd, Fun K "rank" "RuledSequence.rank" trRank (suAd K (He.ga K "ShiftedSequence") "rank") fd := DfX.fun_ (c.t2 27 rfl).1 (c.t2 27 rfl).2 rfl rfl
  have b_u_rank := F_u_rank.binds (ps := ["self", "x"]) fun _ _ _ _ _ _ us hl => match us, hl with | [_, _], _ => rfl
  obtain ⟨fd_u_contains, F_u_contains⟩ : ∃ fd, Fun K "contains" "RuledSequence.contains" trContains (suAd K (He.ga K "ShiftedSequence") "contains") fd := DfX.fun_ (c.t2 28 rfl).1 (c.t2 28 rfl).2 rfl rfl
  have b_u_contains := F_u_contains.binds (ps := ["self", "x"]) fun _ _ _ _ _ _ us hl => match us, hl with | [_, _], _ => rfl
  obtain ⟨fd_u_ruling_pair, F_u_ruling_pair⟩ : ∃ fd, Fun K "ruling_pair" "RuledSequence.ruling_pair" trRuling (suAd K (He.ga K "ShiftedSequence") "ruling_pair") fd := DfX.fun_ (c.t2 29 rfl).1 (c.t2 29 rfl).2 rfl rfl
  have b_u_ruling_pair := F_u_ruling_pair.binds (ps := ["self", "x"]) fun _ _ _ _ _ _ us hl => match us, hl with | [_, _], _ => rfl
  obtain ⟨fd_u_uncovered, F_u_uncovered⟩ : ∃ fd, Fun K "uncovered" "RuledSequence.uncovered" trUncov (suAd K (He.ga K "ShiftedSequence") "uncovered") fd := DfX.fun_ (c.t2 30 rfl).1 (c.t2 30 rfl).2 rfl rfl
  have b_u_uncovered := F_u_uncovered.binds (ps := ["self"]) fun _ _ _ _ _ _ us hl => match us, hl with | [_], _ => rfl
  obtain ⟨fd_s_tripled, F_s_tripled⟩ : ∃ fd, Fun K "tripled" "ShiftedSequence.tripled" tsTripled (He.ma K (He.ga K "ShiftedSequence") "tripled") fd := DfX.fun_ (c.t2 37 rfl).1 (c.t2 37 rfl).2 rfl rfl
  have b_s_tripled := F_s_tripled.binds (ps := ["self"]) fun _ _ _ _ _ _ us hl => match us, hl with | [_], _ => rfl
  obtain ⟨fd_s_shift, F_s_shift⟩ : ∃ fd, Fun K "shift" "ShiftedSequence.shift" tsShift (pAd K (He.ga K "ShiftedSequence") "shift") fd := DfX.fun_ (c.t2 38 rfl).1 (c.t2 38 rfl).2 rfl rfl
  have b_s_shift := F_s_shift.binds (ps := ["self"]) fun _ _ _ _ _ _ us hl => match us, hl with | [_], _ => rfl
  obtain ⟨fd_m___init__, F_m___init__⟩ : ∃ fd, Fun K "__init__" "IsMember.__init__" txMember (He.ma K (He.ga K "IsMember") "__init__") fd := DfX.fun_ (c.t2 39 rfl).1 (c.t2 39 rfl).2 rfl rfl
  have b_m___init__ := F_m___init__.binds (ps := ["self", "given"]) fun _ _ _ _ _ _ us hl => match us, hl with | [_, _], _ => rfl
  obtain ⟨fd_n___init__, F_n___init__⟩ : ∃ fd, Fun K "__init__" "NotCovered.__init__" txCovered (He.ma K (He.ga K "NotCovered") "__init__") fd := DfX.fun_ (c.t2 40 rfl).1 (c.t2 40 rfl).2 rfl rfl
  have b_n___init__ := F_n___init__.binds (ps := ["self", "given"]) fun _ _ _ _ _ _ us hl => match us, hl with | [_, _], _ => rfl
  have B : Blt mg := ⟨He.free_ok X G (c.g1 0 rfl), He.free_ok X G (c.g1 1 rfl), He.free_ok X G (c.g1 2 rfl), He.free_ok X G (c.g1 3 rfl), He.free_ok X G (c.g1 4 rfl), He.free_ok X G (c.g1 5 rfl), He.free_ok X G (c.g1 6 rfl), He.free_ok X G (c.g1 7 rfl), He.free_ok X G (c.g1 8 rfl), He.free_ok X G (c.g1 9 rfl), He.free_ok X G (c.g1 10 rfl), He.free_ok X G (c.g1 11 rfl), He.free_ok X G (c.g1 12 rfl), He.free_ok X G (c.g1 13 rfl), He.free_ok X G (c.g1 14 rfl)⟩
  have clC : Cls K (He.ga K "Cell") := He.cls_ok (c.g2 5 rfl)
  have tR : SqC K (He.ga K "RuledSequence") := ⟨He.cls_ok (c.g2 7 rfl), He.noat_ok (c.g2 15 rfl), He.noat_ok (c.g2 16 rfl)⟩
  have tS : SqC K (He.ga K "ShiftedSequence") := ⟨He.cls_ok (c.g2 9 rfl), He.noat_ok (c.g2 17 rfl), He.noat_ok (c.g2 18 rfl)⟩
  obtain ⟨u1, cv1⟩ := cvalB_ok (c.x 9 rfl)
  obtain ⟨u2, cv2⟩ := cvalB_ok (c.x 10 rfl)
  have TC : CellC K mg (He.ga K "Cell") := ⟨clC, (He.glo_ok X G (c.g1 44 rfl)), ⟨_, u1, u2, creadB_ok (c.x 8 rfl), cv1, cv2⟩, He.noat_ok (c.g2 11 rfl), He.noat_ok (c.g2 12 rfl), He.noat_ok (c.g2 13 rfl), He.noat_ok (c.g2 14 rfl)⟩
  have iC := isiB_ok (c.x 7 rfl)
  have kC : PySem.W.kitOne K (.ref (He.ga K "Cell")) (.ref (He.ga K "Cell")) = some true := of_decide_eq_true (c.x 11 rfl)
  have nfC : PySem.W.notFirst K (He.ga K "Cell") (.ref (He.ga K "Cell")) = true := (c.x 12 rfl)
  have W := twoB_ok (He.glo_ok X G (c.g2 0 rfl)) (He.glo_ok X G (c.g2 1 rfl)) tR tS (c.x 13 rfl)
  have top : (prL.main.scope.names.lookup ("super" : Str)).isSome = false := by decide +kernel
  obtain ⟨fd_ii, F_ii⟩ : ∃ fd, FunD K "is_integer" "is_integer" (defArgs tIsInt) (defBody tIsInt) (defScope tIsInt) [] [("low", .non), ("high", .non)] (He.ga K "is_integer") fd := DfX.funD (c.t1 0 rfl).1 (c.t1 0 rfl).2 rfl
  have F_is_integer := F_ii
  have o_ii : FnOk prL w K mg base CX0 1 _ fd_ii _ spIsInt := ok_isInt F_is_integer B
  have G_is_integer : FnN prL w K mg base "is_integer" 1 1 ["low", "high"] (fun vs zs => vs ++ zs) spIsInt := by
    refine ⟨_, fd_ii, ["value", "low", "high"], fun us ws => us ++ ws, (He.glo_ok X G (c.g1 15 rfl)), F_ii.kp, o_ii, ?_⟩
    obtain ⟨oc, od, dV, kV, doc, pm, an, cdv, ct, osl, e, lk, hcd, hD, hK⟩ := F_ii.ex
    rcases hD with ⟨_, z⟩ | ⟨z, _⟩
    · subst z e
      refine ⟨fun s us ws _ l1 l2 => ?_, fun r rz => r.append rz⟩
      match us, ws, l1, l2 with
      | [_], [_, _], _, _ => exact .of_eq rfl
    · exact absurd rfl z
  obtain ⟨fd_cn, F_check_number⟩ : ∃ fd, FunD K "check_number" "check_number" (defArgs tCheckNum) (defBody tCheckNum) (defScope tCheckNum) [.int 0, .non] [] (He.ga K "check_number") fd := DfX.funD (c.t1 1 rfl).1 (c.t1 1 rfl).2 rfl
  obtain ⟨ds_cn, v_cn, b_cn⟩ := F_check_number.binds1 (ps := ["value", "low", "high"]) 1 0 (by intro z; cases z) rfl fun T kV doc pm an cdv ct us its l1 l2 => match us, its, l1, l2 with
    | [_], [_, _], _, _ => ⟨_, rfl, rfl⟩
  have G_check_number : Fn prL w K mg base "check_number" 2 ["value", "low", "high"] [.int 0, .non] spCheckNum := ⟨_, fd_cn, ds_cn, (He.glo_ok X G (c.g1 16 rfl)), F_check_number.kp, ok_checkNum F_check_number G_is_integer, v_cn, b_cn⟩
  have G_digits_in : Fn prL w K mg base "digits_in" 1 ["number", "radix"] [] (spDigits) := ⟨_, fd_digits_in, [], (He.glo_ok X G (c.g1 17 rfl)), F_digits_in.kp, ok_digits F_digits_in B, .nil, b_digits_in⟩
  have G_number_of : Fn prL w K mg base "number_of" 1 ["digits", "radix"] [] (spNumber K) := ⟨_, fd_number_of, [], (He.glo_ok X G (c.g1 18 rfl)), F_number_of.kp, ok_number F_number_of, .nil, b_number_of⟩
  have G_are_plain : Fn prL w K mg base "are_plain" 1 ["digits"] [] (spPlain K) := ⟨_, fd_are_plain, [], (He.glo_ok X G (c.g1 19 rfl)), F_are_plain.kp, ok_plain F_are_plain, .nil, b_are_plain⟩
  have G_power_of : Fn prL w K mg base "power_of" 1 ["radix", "exponent"] [] (spPower) := ⟨_, fd_power_of, [], (He.glo_ok X G (c.g1 20 rfl)), F_power_of.kp, ok_power F_power_of B, .nil, b_power_of⟩
  have G_member_at : Fn prL w K mg base "member_at" 2 ["number"] [] (spN fun n => .int (memAt n : Nat)) := ⟨_, fd_member_at, [], (He.glo_ok X G (c.g1 21 rfl)), F_member_at.kp, ok_memAt F_member_at G_digits_in G_number_of, .nil, b_member_at⟩
  have G_rank_of : Fn prL w K mg base "rank_of" 2 ["x"] [] (spN fun n => .int (rankOf n : Nat)) := ⟨_, fd_rank_of, [], (He.glo_ok X G (c.g1 22 rfl)), F_rank_of.kp, ok_rankOf F_rank_of B G_digits_in G_number_of G_are_plain G_power_of, .nil, b_rank_of⟩
  have G_base_member : Fn prL w K mg base "base_member" 3 ["number"] [] (spN fun n => .int (memAt n : Nat)) := ⟨_, fd_base_member, [], (He.glo_ok X G (c.g1 23 rfl)), F_base_member.kp, ok_baseMem F_base_member G_check_number G_member_at, .nil, b_base_member⟩
  have G_in_base : Fn prL w K mg base "in_base" 3 ["x"] [] (spN fun n => .bl (plainN n)) := ⟨_, fd_in_base, [], (He.glo_ok X G (c.g1 24 rfl)), F_in_base.kp, ok_inBase F_in_base G_check_number G_digits_in G_are_plain, .nil, b_in_base⟩
  have G_base_rank : Fn prL w K mg base "base_rank" 3 ["x"] [] (spN fun n => .int (rankOf n : Nat)) := ⟨_, fd_base_rank, [], (He.glo_ok X G (c.g1 25 rfl)), F_base_rank.kp, ok_baseRank F_base_rank G_check_number G_rank_of, .nil, b_base_rank⟩
  have G_plain_pair : Fn prL w K mg base "plain_pair" 3 ["m"] [] (spPair) := ⟨_, fd_plain_pair, [], (He.glo_ok X G (c.g1 26 rfl)), F_plain_pair.kp, ok_pair F_plain_pair B G_check_number G_digits_in G_number_of, .nil, b_plain_pair⟩
  have G_check_at_least : Fn prL w K mg base "check_at_least" 1 ["given", "low"] [] (spAtLeast) := ⟨_, fd_check_at_least, [], (He.glo_ok X G (c.g1 32 rfl)), F_check_at_least.kp, ok_atLeast F_check_at_least B, .nil, b_check_at_least⟩
  have BM : BaseM prL w K mg base := ⟨G_base_member, G_base_rank, G_in_base, G_plain_pair, G_check_at_least⟩
  have G_is_between : Fn prL w K mg base "is_between" 1 ["value", "low", "high"] [] (spBetween) := ⟨_, fd_is_between, [], (He.glo_ok X G (c.g1 27 rfl)), F_is_between.kp, ok_between F_is_between B, .nil, b_is_between⟩
  have G_check_shape : Fn prL w K mg base "check_shape" 2 ["modulus", "members"] [] (spShape) := ⟨_, fd_check_shape, [], (He.glo_ok X G (c.g1 28 rfl)), F_check_shape.kp, ok_shape F_check_shape B TC G_is_between, .nil, b_check_shape⟩
  have G_spoiling_triple : Fn prL w K mg base "spoiling_triple" 1 ["modulus", "members"] [] (spSpoil) := ⟨_, fd_spoiling_triple, [], (He.glo_ok X G (c.g1 29 rfl)), F_spoiling_triple.kp, ok_spoil F_spoiling_triple B, .nil, b_spoiling_triple⟩
  have G_serving_table : Fn prL w K mg base "serving_table" 1 ["modulus", "members"] [] (spTable) := ⟨_, fd_serving_table, [], (He.glo_ok X G (c.g1 30 rfl)), F_serving_table.kp, ok_table F_serving_table B, .nil, b_serving_table⟩
  have G_unserved_remainder : Fn prL w K mg base "unserved_remainder" 1 ["modulus", "members", "table"] [] (spUnserved) := ⟨_, fd_unserved_remainder, [], (He.glo_ok X G (c.g1 31 rfl)), F_unserved_remainder.kp, ok_unserved F_unserved_remainder B, .nil, b_unserved_remainder⟩
  have P_c_modulus : Pr prL w K mg base (He.ga K "Cell") "modulus" 1 (spC1 (He.ga K "Cell") rModulus) := ⟨clC, _, _, fd_c_modulus, propB_ok (c.x 2 rfl), ok_modulus F_c_modulus TC, b_c_modulus⟩
  have P_c_members : Pr prL w K mg base (He.ga K "Cell") "members" 1 (spC1 (He.ga K "Cell") rMembers) := ⟨clC, _, _, fd_c_members, propB_ok (c.x 1 rfl), ok_members F_c_members TC, b_c_members⟩
  have P_c_size : Pr prL w K mg base (He.ga K "Cell") "size" 1 (spC1 (He.ga K "Cell") rSize) := ⟨clC, _, _, fd_c_size, propB_ok (c.x 0 rfl), ok_size F_c_size B TC, b_c_size⟩
  have P_c_greatest : Pr prL w K mg base (He.ga K "Cell") "greatest" 1 (spC1 (He.ga K "Cell") rGreatest) := ⟨clC, _, _, fd_c_greatest, propB_ok (c.x 3 rfl), ok_greatest F_c_greatest B TC, b_c_greatest⟩
  have M_c_check_remainder : Mt prL w K mg base (He.ga K "Cell") "check_remainder" 2 ["self", "remainder"] [] (spC2 (He.ga K "Cell") rCheckRem) := ⟨clC, _, fd_c_check_remainder, [], He.meth_ok (c.g2 21 rfl), ok_checkRem F_c_check_remainder TC G_is_between, .nil, b_c_check_remainder⟩
  have M_c_has : Mt prL w K mg base (He.ga K "Cell") "has" 3 ["self", "remainder"] [] (spC2 (He.ga K "Cell") rHas) := ⟨clC, _, fd_c_has, [], He.meth_ok (c.g2 22 rfl), ok_has F_c_has TC M_c_check_remainder, .nil, b_c_has⟩
  have M_c_serving_pair : Mt prL w K mg base (He.ga K "Cell") "serving_pair" 4 ["self", "remainder"] [] (spC2 (He.ga K "Cell") rServing) := ⟨clC, _, fd_c_serving_pair, [], He.meth_ok (c.g2 23 rfl), ok_serving F_c_serving_pair TC M_c_has, .nil, b_c_serving_pair⟩
  have M_c_carry : Mt prL w K mg base (He.ga K "Cell") "carry" 4 ["self", "remainder"] [] (spC2 (He.ga K "Cell") rCarry) := ⟨clC, _, fd_c_carry, [], He.meth_ok (c.g2 24 rfl), ok_carry F_c_carry TC M_c_has, .nil, b_c_carry⟩
  have CM : CellM prL w K mg base (He.ga K "Cell") := ⟨TC, P_c_size, P_c_members, P_c_modulus, P_c_greatest, M_c_has, M_c_serving_pair, M_c_carry⟩
  have EC : EqF prL w K mg base (He.ga K "Cell") 1 ["self", "other"] (spCEq (He.ga K "Cell")) := ⟨_, fd_c___eq__, (He.meth_ok (c.g2 25 rfl)).at_, (He.meth_ok (c.g2 25 rfl)).fn, ok_ceq F_c___eq__ B TC iC kC, b_c___eq__⟩
  have MC : Mkr prL w K mg base "Cell" (He.ga K "Cell") 3 ["self", "modulus", "members"] [] (spCInit (He.ga K "Cell")) := ⟨_, fd_c___init__, [], (He.glo_ok X G (c.g1 44 rfl)), He.mkr_ok (c.g2 6 rfl), ok_cinit F_c___init__ B TC G_check_shape G_spoiling_triple G_serving_table G_unserved_remainder, .nil, b_c___init__⟩
  have MR : Mkr prL w K mg base "RuledSequence" (He.ga K "RuledSequence") 1 ["self", "cell"] [] (spRInit (He.ga K "Cell") (He.ga K "RuledSequence")) := ⟨_, fd_r___init__, [], (He.glo_ok X G (c.g2 0 rfl)), He.mkr_ok (c.g2 8 rfl), ok_rinit F_r___init__ B tR TC iC kC, .nil, b_r___init__⟩
  have M_r_small_cover : Mt prL w K mg base (He.ga K "RuledSequence") "small_cover" 3 ["self", "x"] [] (spS3 (He.ga K "Cell") (He.ga K "RuledSequence") anyO 1000 fun _ A _ _ x => smallOf A x) := ⟨tR.cl, _, fd_r_small_cover, [], He.meth_ok (c.g2 31 rfl), ok_small F_r_small_cover tR CM, .nil, b_r_small_cover⟩
  have M_r_member : Mt prL w K mg base (He.ga K "RuledSequence") "member" 4 ["self", "number"] [] (spS2 (He.ga K "Cell") (He.ga K "RuledSequence") (· = 0) 0 1000 fMem) := ⟨tR.cl, _, fd_r_member, [], He.meth_ok (c.g2 26 rfl), FnOk.sub (ok_member F_r_member tR CM BM) mem0, .nil, b_r_member⟩
  have M_r_rank : Mt prL w K mg base (He.ga K "RuledSequence") "rank" 4 ["self", "x"] [] (spS2 (He.ga K "Cell") (He.ga K "RuledSequence") (· = 0) 0 1000 fRnk) := ⟨tR.cl, _, fd_r_rank, [], He.meth_ok (c.g2 27 rfl), FnOk.sub (ok_rank F_r_rank B tR CM BM) rnk0, .nil, b_r_rank⟩
  have M_r_contains : Mt prL w K mg base (He.ga K "RuledSequence") "contains" 4 ["self", "x"] [] (spS2 (He.ga K "Cell") (He.ga K "RuledSequence") (· = 0) 0 1000 fCnt) := ⟨tR.cl, _, fd_r_contains, [], He.meth_ok (c.g2 28 rfl), FnOk.sub (ok_contains F_r_contains tR CM BM) cnt0, .nil, b_r_contains⟩
  have M_r_ruling_pair : Mt prL w K mg base (He.ga K "RuledSequence") "ruling_pair" 5 ["self", "x"] [] (spS3 (He.ga K "Cell") (He.ga K "RuledSequence") (· = 0) 1000 fRul) := ⟨tR.cl, _, fd_r_ruling_pair, [], He.meth_ok (c.g2 32 rfl), FnOk.sub (ok_ruling (k0 := 0) F_r_ruling_pair tR CM BM M_r_small_cover) rul0, .nil, b_r_ruling_pair⟩
  have M_r_next_member : Mt prL w K mg base (He.ga K "RuledSequence") "next_member" 5 ["self", "x"] [] (spS2 (He.ga K "Cell") (He.ga K "RuledSequence") (· = 0) 0 900 fNext) := ⟨tR.cl, _, fd_r_next_member, [], He.meth_ok (c.g2 29 rfl), ok_next (j := 3) F_r_next_member BM M_r_member M_r_rank, .nil, b_r_next_member⟩
  have M_r_last_member : Mt prL w K mg base (He.ga K "RuledSequence") "last_member" 5 ["self", "x"] [] (spS2 (He.ga K "Cell") (He.ga K "RuledSequence") (· = 0) 0 900 fLast) := ⟨tR.cl, _, fd_r_last_member, [], He.meth_ok (c.g2 30 rfl), ok_last (j := 3) F_r_last_member BM M_r_member M_r_rank, .nil, b_r_last_member⟩
  have M_r_gap : Mt prL w K mg base (He.ga K "RuledSequence") "gap" 5 ["self", "number"] [] (spS2 (He.ga K "Cell") (He.ga K "RuledSequence") (· = 0) 1 1000 fGap) := ⟨tR.cl, _, fd_r_gap, [], He.meth_ok (c.g2 35 rfl), ok_gap (j := 3) F_r_gap BM M_r_member, .nil, b_r_gap⟩
  have M_r_check_cover : Mt prL w K mg base (He.ga K "RuledSequence") "check_cover" 5 ["self", "x", "pair"] [] (spCheck (He.ga K "Cell") (He.ga K "RuledSequence") (· = 0)) := ⟨tR.cl, _, fd_r_check_cover, [], He.meth_ok (c.g2 34 rfl), ok_check (j := 3) F_r_check_cover B BM M_r_contains, .nil, b_r_check_cover⟩
  have M_r_tripled_cell : Mt prL w K mg base (He.ga K "RuledSequence") "tripled_cell" 5 ["self"] [] (spTriCell (He.ga K "Cell") (He.ga K "RuledSequence")) := ⟨tR.cl, _, fd_r_tripled_cell, [], He.meth_ok (c.g2 37 rfl), ok_triCell F_r_tripled_cell B tR CM MC, .nil, b_r_tripled_cell⟩
  have M_r_tripled : Mt prL w K mg base (He.ga K "RuledSequence") "tripled" 6 ["self"] [] (spTri (He.ga K "Cell") (He.ga K "RuledSequence") (He.ga K "RuledSequence") (· = 0)) := ⟨tR.cl, _, fd_r_tripled, [], He.meth_ok (c.g2 38 rfl), ok_rtri F_r_tripled M_r_tripled_cell MR, .nil, b_r_tripled⟩
  have P_r_cell : Pr prL w K mg base (He.ga K "RuledSequence") "cell" 1 (spS1 (He.ga K "Cell") (He.ga K "RuledSequence") fun H _ c _ _ _ _ Q => Q (.ref c) H) := ⟨tR.cl, _, _, fd_r_cell, propB_ok (c.x 4 rfl), ok_cellP F_r_cell tR, b_r_cell⟩
  have ini0_m : InitR K mg "StateError" (He.ga K "StateError") := initB_ok (He.glo_ok X G (c.g2 2 rfl)) (c.x 26 rfl)
  have oex_m := oexB_ok (c.x 20 rfl)
  have exc_m := excCB_ok (c.x 21 rfl)
  have no_m : PySem.W.findIn K (.ref (He.ga K "IsMember")) "given" = some none := He.noat_ok (c.g2 19 rfl)
  have X_m : ExcF prL w K mg base "IsMember" (He.ga K "IsMember") := ⟨(He.glo_ok X G (c.g2 3 rfl)), oex_m, ⟨_, fd_m___init__, (He.meth_ok (c.g2 55 rfl)).at_, of_decide_eq_true (c.x 22 rfl), ok_xm F_m___init__ oex_m no_m ini0_m, b_m___init__⟩, exc_m.1, exc_m.2, no_m⟩
  have ini0_n : InitR K mg "StateError" (He.ga K "StateError") := initB_ok (He.glo_ok X G (c.g2 2 rfl)) (c.x 26 rfl)
  have oex_n := oexB_ok (c.x 23 rfl)
  have exc_n := excCB_ok (c.x 24 rfl)
  have no_n : PySem.W.findIn K (.ref (He.ga K "NotCovered")) "given" = some none := He.noat_ok (c.g2 20 rfl)
  have X_n : ExcF prL w K mg base "NotCovered" (He.ga K "NotCovered") := ⟨(He.glo_ok X G (c.g2 4 rfl)), oex_n, ⟨_, fd_n___init__, (He.meth_ok (c.g2 56 rfl)).at_, of_decide_eq_true (c.x 25 rfl), ok_xn F_n___init__ oex_n no_n ini0_n, b_n___init__⟩, exc_n.1, exc_n.2, no_n⟩
  have TX := twoXB_ok (c.x 27 rfl)
  have MX_r_cover : MtX prL w K mg base (He.ga K "RuledSequence") "cover" 6 ["self", "x"] (spCover (He.ga K "Cell") (He.ga K "RuledSequence") (He.ga K "IsMember") (He.ga K "NotCovered") (· = 0)) := ⟨tR.cl, _, fd_r_cover, He.meth_ok (c.g2 33 rfl), ok_cover (j := 3) F_r_cover M_r_contains M_r_ruling_pair X_m X_n, b_r_cover⟩
  obtain ⟨cdv_ru, FG_ru⟩ := funG_ofD (st := trUncov) (FunD.of_fun F_r_uncovered) (by decide +kernel)
  have U_r : MtG prL w K mg base (He.ga K "RuledSequence") "uncovered" 4 ["self"] (spUncov (He.ga K "Cell") (He.ga K "RuledSequence")) := ⟨tR.cl, _, fd_r_uncovered, He.meth_ok (c.g2 36 rfl), ok_uncov FG_ru B tR CM M_r_small_cover, b_r_uncovered⟩
  have U_member : SupF prL w K mg base (He.ga K "ShiftedSequence") "member" 4 ["self", "number"] (spS2 (He.ga K "Cell") (He.ga K "ShiftedSequence") anyO 0 1000 fun N A _ _ n => .int (memOf N A n : Nat)) := ⟨⟨_, fd_u_member, supB_ok (c.x 15 rfl), ok_member F_u_member tS CM BM, b_u_member⟩⟩
  have U_rank : SupF prL w K mg base (He.ga K "ShiftedSequence") "rank" 4 ["self", "x"] (spS2 (He.ga K "Cell") (He.ga K "ShiftedSequence") anyO 0 1000 fun N A _ _ n => .int (rnkOf N A n : Nat)) := ⟨⟨_, fd_u_rank, supB_ok (c.x 16 rfl), ok_rank F_u_rank B tS CM BM, b_u_rank⟩⟩
  have U_contains : SupF prL w K mg base (He.ga K "ShiftedSequence") "contains" 4 ["self", "x"] (spS2 (He.ga K "Cell") (He.ga K "ShiftedSequence") anyO 0 1000 fun N A _ _ n => .bl (cntOf N A n)) := ⟨⟨_, fd_u_contains, supB_ok (c.x 17 rfl), ok_contains F_u_contains tS CM BM, b_u_contains⟩⟩
  have M_s_small_cover : Mt prL w K mg base (He.ga K "ShiftedSequence") "small_cover" 3 ["self", "x"] [] (spS3 (He.ga K "Cell") (He.ga K "ShiftedSequence") anyO 1000 fun _ A _ _ x => smallOf A x) := ⟨tS.cl, _, fd_s_small_cover, [], He.meth_ok (c.g2 44 rfl), ok_small F_s_small_cover tS CM, .nil, b_s_small_cover⟩
  have U_ruling_pair : SupF prL w K mg base (He.ga K "ShiftedSequence") "ruling_pair" 5 ["self", "x"] (spS3 (He.ga K "Cell") (He.ga K "ShiftedSequence") anyO 1000 fun N A sv _ x => rulOf N A sv x) := ⟨⟨_, fd_u_ruling_pair, supB_ok (c.x 18 rfl), ok_ruling (k0 := 0) F_u_ruling_pair tS CM BM M_s_small_cover, b_u_ruling_pair⟩⟩
  have U___init__ : SupF prL w K mg base (He.ga K "ShiftedSequence") "__init__" 1 ["self", "cell"] (spRInit (He.ga K "Cell") (He.ga K "ShiftedSequence")) := ⟨⟨_, fd_u___init__, supB_ok (c.x 14 rfl), ok_rinit F_u___init__ B tS TC iC kC, b_u___init__⟩⟩
  obtain ⟨cc_s_member, cda_s_member, kV_s_member, doc_s_member, pm_s_member, an_s_member, ct_s_member, kw_s_member, F_s_member⟩ : ∃ (cc cda : Addr) (kV doc pm : Value) (an : Option Addr) (ct : Value), KwdV K kV [] ∧ FunS prL K "member" "ShiftedSequence.member" tsMember (He.ga K "ShiftedSequence") (He.ma K (He.ga K "ShiftedSequence") "member") (PySem.W.fnX "member" "ShiftedSequence.member" (defArgs tsMember) (defBody tsMember) (defScope tsMember) [("__class__", cc)] .none kV doc pm an (.ref cda) ct) cda cc := DfX.funS (P := prL) (c.t2 31 rfl).1 (c.t2 31 rfl).2 rfl rfl
  have b_s_member : Binds K _ ["self", "number"] [] := .all (fd := PySem.W.fnX "member" "ShiftedSequence.member" (defArgs tsMember) (defBody tsMember) (defScope tsMember) [("__class__", cc_s_member)] .none kV_s_member doc_s_member pm_s_member an_s_member (.ref cda_s_member) ct_s_member) fun us hl => match us, hl with | [_, _], _ => rfl
  obtain ⟨cc_s_rank, cda_s_rank, kV_s_rank, doc_s_rank, pm_s_rank, an_s_rank, ct_s_rank, kw_s_rank, F_s_rank⟩ : ∃ (cc cda : Addr) (kV doc pm : Value) (an : Option Addr) (ct : Value), KwdV K kV [] ∧ FunS prL K "rank" "ShiftedSequence.rank" tsRank (He.ga K "ShiftedSequence") (He.ma K (He.ga K "ShiftedSequence") "rank") (PySem.W.fnX "rank" "ShiftedSequence.rank" (defArgs tsRank) (defBody tsRank) (defScope tsRank) [("__class__", cc)] .none kV doc pm an (.ref cda) ct) cda cc := DfX.funS (P := prL) (c.t2 32 rfl).1 (c.t2 32 rfl).2 rfl rfl
  have b_s_rank : Binds K _ ["self", "x"] [] := .all (fd := PySem.W.fnX "rank" "ShiftedSequence.rank" (defArgs tsRank) (defBody tsRank) (defScope tsRank) [("__class__", cc_s_rank)] .none kV_s_rank doc_s_rank pm_s_rank an_s_rank (.ref cda_s_rank) ct_s_rank) fun us hl => match us, hl with | [_, _], _ => rfl
  obtain ⟨cc_s_contains, cda_s_contains, kV_s_contains, doc_s_contains, pm_s_contains, an_s_contains, ct_s_contains, kw_s_contains, F_s_contains⟩ : ∃ (cc cda : Addr) (kV doc pm : Value) (an : Option Addr) (ct : Value), KwdV K kV [] ∧ FunS prL K "contains" "ShiftedSequence.contains" tsContains (He.ga K "ShiftedSequence") (He.ma K (He.ga K "ShiftedSequence") "contains") (PySem.W.fnX "contains" "ShiftedSequence.contains" (defArgs tsContains) (defBody tsContains) (defScope tsContains) [("__class__", cc)] .none kV doc pm an (.ref cda) ct) cda cc := DfX.funS (P := prL) (c.t2 33 rfl).1 (c.t2 33 rfl).2 rfl rfl
  have b_s_contains : Binds K _ ["self", "x"] [] := .all (fd := PySem.W.fnX "contains" "ShiftedSequence.contains" (defArgs tsContains) (defBody tsContains) (defScope tsContains) [("__class__", cc_s_contains)] .none kV_s_contains doc_s_contains pm_s_contains an_s_contains (.ref cda_s_contains) ct_s_contains) fun us hl => match us, hl with | [_, _], _ => rfl
  obtain ⟨cc_s_ruling_pair, cda_s_ruling_pair, kV_s_ruling_pair, doc_s_ruling_pair, pm_s_ruling_pair, an_s_ruling_pair, ct_s_ruling_pair, kw_s_ruling_pair, F_s_ruling_pair⟩ : ∃ (cc cda : Addr) (kV doc pm : Value) (an : Option Addr) (ct : Value), KwdV K kV [] ∧ FunS prL K "ruling_pair" "ShiftedSequence.ruling_pair" tsRuling (He.ga K "ShiftedSequence") (He.ma K (He.ga K "ShiftedSequence") "ruling_pair") (PySem.W.fnX "ruling_pair" "ShiftedSequence.ruling_pair" (defArgs tsRuling) (defBody tsRuling) (defScope tsRuling) [("__class__", cc)] .none kV doc pm an (.ref cda) ct) cda cc := DfX.funS (P := prL) (c.t2 34 rfl).1 (c.t2 34 rfl).2 rfl rfl
  have b_s_ruling_pair : Binds K _ ["self", "x"] [] := .all (fd := PySem.W.fnX "ruling_pair" "ShiftedSequence.ruling_pair" (defArgs tsRuling) (defBody tsRuling) (defScope tsRuling) [("__class__", cc_s_ruling_pair)] .none kV_s_ruling_pair doc_s_ruling_pair pm_s_ruling_pair an_s_ruling_pair (.ref cda_s_ruling_pair) ct_s_ruling_pair) fun us hl => match us, hl with | [_, _], _ => rfl
  obtain ⟨cc_s_uncovered, cda_s_uncovered, kV_s_uncovered, doc_s_uncovered, pm_s_uncovered, an_s_uncovered, ct_s_uncovered, kw_s_uncovered, F_s_uncovered⟩ : ∃ (cc cda : Addr) (kV doc pm : Value) (an : Option Addr) (ct : Value), KwdV K kV [] ∧ FunS prL K "uncovered" "ShiftedSequence.uncovered" tsUncov (He.ga K "ShiftedSequence") (He.ma K (He.ga K "ShiftedSequence") "uncovered") (PySem.W.fnX "uncovered" "ShiftedSequence.uncovered" (defArgs tsUncov) (defBody tsUncov) (defScope tsUncov) [("__class__", cc)] .none kV doc pm an (.ref cda) ct) cda cc := DfX.funS (P := prL) (c.t2 35 rfl).1 (c.t2 35 rfl).2 rfl rfl
  have b_s_uncovered : Binds K _ ["self"] [] := .all (fd := PySem.W.fnX "uncovered" "ShiftedSequence.uncovered" (defArgs tsUncov) (defBody tsUncov) (defScope tsUncov) [("__class__", cc_s_uncovered)] .none kV_s_uncovered doc_s_uncovered pm_s_uncovered an_s_uncovered (.ref cda_s_uncovered) ct_s_uncovered) fun us hl => match us, hl with | [_], _ => rfl
  have o_s_member := ok_smember (w := w) (mg := mg) (base := base) F_s_member B top tS U_member
  have M_s_member : Mt prL w K mg base (He.ga K "ShiftedSequence") "member" 5 ["self", "number"] [] (spS2 (He.ga K "Cell") (He.ga K "ShiftedSequence") anyO 0 1000 fMem) := ⟨tS.cl, _, _, [], He.meth_ok (c.g2 39 rfl), o_s_member, .nil, b_s_member⟩
  have o_s_rank := ok_srank (w := w) (mg := mg) (base := base) F_s_rank B top tS BM U_rank
  have M_s_rank : Mt prL w K mg base (He.ga K "ShiftedSequence") "rank" 5 ["self", "x"] [] (spS2 (He.ga K "Cell") (He.ga K "ShiftedSequence") anyO 0 1000 fRnk) := ⟨tS.cl, _, _, [], He.meth_ok (c.g2 40 rfl), o_s_rank, .nil, b_s_rank⟩
  have o_s_contains := ok_scontains (w := w) (mg := mg) (base := base) F_s_contains B top tS BM U_contains
  have M_s_contains : Mt prL w K mg base (He.ga K "ShiftedSequence") "contains" 5 ["self", "x"] [] (spS2 (He.ga K "Cell") (He.ga K "ShiftedSequence") anyO 0 1000 fCnt) := ⟨tS.cl, _, _, [], He.meth_ok (c.g2 41 rfl), o_s_contains, .nil, b_s_contains⟩
  have o_s_ruling_pair := ok_sruling (w := w) (mg := mg) (base := base) F_s_ruling_pair B top tS U_ruling_pair
  have M_s_ruling_pair : Mt prL w K mg base (He.ga K "ShiftedSequence") "ruling_pair" 6 ["self", "x"] [] (spS3 (He.ga K "Cell") (He.ga K "ShiftedSequence") anyO 1000 fRul) := ⟨tS.cl, _, _, [], He.meth_ok (c.g2 45 rfl), o_s_ruling_pair, .nil, b_s_ruling_pair⟩
  have M_s_next_member : Mt prL w K mg base (He.ga K "ShiftedSequence") "next_member" 6 ["self", "x"] [] (spS2 (He.ga K "Cell") (He.ga K "ShiftedSequence") anyO 0 900 fNext) := ⟨tS.cl, _, fd_s_next_member, [], He.meth_ok (c.g2 42 rfl), ok_next (j := 4) F_s_next_member BM M_s_member M_s_rank, .nil, b_s_next_member⟩
  have M_s_last_member : Mt prL w K mg base (He.ga K "ShiftedSequence") "last_member" 6 ["self", "x"] [] (spS2 (He.ga K "Cell") (He.ga K "ShiftedSequence") anyO 0 900 fLast) := ⟨tS.cl, _, fd_s_last_member, [], He.meth_ok (c.g2 43 rfl), ok_last (j := 4) F_s_last_member BM M_s_member M_s_rank, .nil, b_s_last_member⟩
  have M_s_gap : Mt prL w K mg base (He.ga K "ShiftedSequence") "gap" 6 ["self", "number"] [] (spS2 (He.ga K "Cell") (He.ga K "ShiftedSequence") anyO 1 1000 fGap) := ⟨tS.cl, _, fd_s_gap, [], He.meth_ok (c.g2 48 rfl), ok_gap (j := 4) F_s_gap BM M_s_member, .nil, b_s_gap⟩
  have M_s_check_cover : Mt prL w K mg base (He.ga K "ShiftedSequence") "check_cover" 6 ["self", "x", "pair"] [] (spCheck (He.ga K "Cell") (He.ga K "ShiftedSequence") anyO) := ⟨tS.cl, _, fd_s_check_cover, [], He.meth_ok (c.g2 47 rfl), ok_check (j := 4) F_s_check_cover B BM M_s_contains, .nil, b_s_check_cover⟩
  have M_s_tripled_cell : Mt prL w K mg base (He.ga K "ShiftedSequence") "tripled_cell" 5 ["self"] [] (spTriCell (He.ga K "Cell") (He.ga K "ShiftedSequence")) := ⟨tS.cl, _, fd_s_tripled_cell, [], He.meth_ok (c.g2 51 rfl), ok_triCell F_s_tripled_cell B tS CM MC, .nil, b_s_tripled_cell⟩
  have MX_s_cover : MtX prL w K mg base (He.ga K "ShiftedSequence") "cover" 7 ["self", "x"] (spCover (He.ga K "Cell") (He.ga K "ShiftedSequence") (He.ga K "IsMember") (He.ga K "NotCovered") anyO) := ⟨tS.cl, _, fd_s_cover, He.meth_ok (c.g2 46 rfl), ok_cover (j := 4) F_s_cover M_s_contains M_s_ruling_pair X_m X_n, b_s_cover⟩
  obtain ⟨cc_si, cda_si, kV_si, doc_si, pm_si, an_si, ct_si, kw_si, F_si⟩ : ∃ (cc cda : Addr) (kV doc pm : Value) (an : Option Addr) (ct : Value), KwdV K kV [("shift", .int 0)] ∧ FunS prL K "__init__" "ShiftedSequence.__init__" tsInit (He.ga K "ShiftedSequence") (He.ma K (He.ga K "ShiftedSequence") "__init__") (PySem.W.fnX "__init__" "ShiftedSequence.__init__" (defArgs tsInit) (defBody tsInit) (defScope tsInit) [("__class__", cc)] .none kV doc pm an (.ref cda) ct) cda cc := DfX.funS (P := prL) (c.t2 36 rfl).1 (c.t2 36 rfl).2 rfl rfl
  have o_si := ok_sinit (w := w) (mg := mg) (base := base) F_si B top tS BM U___init__
  have MS : MkrN prL w K mg base "ShiftedSequence" (He.ga K "ShiftedSequence") 2 1 ["shift"] (fun vs zs => vs ++ zs) (spSInit (He.ga K "Cell") (He.ga K "ShiftedSequence")) := by
    refine ⟨_, _, ["self", "cell", "shift"], fun us ws => us ++ ws, (He.glo_ok X G (c.g2 1 rfl)), He.mkr_ok (c.g2 10 rfl), o_si, fun s us ws _ l1 l2 => ?_, fun r rz => r.append rz⟩
    match us, ws, l1, l2 with
    | [_, _], [_], _, _ => exact .of_eq rfl
  have M0 : MkrN prL w K mg base "ShiftedSequence" (He.ga K "ShiftedSequence") 2 0 ["cell"] (fun vs zs => vs ++ zs ++ [.int 0]) (spSInit (He.ga K "Cell") (He.ga K "ShiftedSequence")) := by
    rcases kw_si with z | ⟨DD, e, hq⟩
    · cases z
    · subst e
      obtain ⟨mv, hl, rk, hks⟩ := kwd_vals hq
      match mv, hl with
      | [v0], _ =>
        refine ⟨_, _, ["self", "cell", "shift"], fun us ws => us ++ ws ++ [v0], (He.glo_ok X G (c.g2 1 rfl)), He.mkr_ok (c.g2 10 rfl), o_si, fun s us ws X' l1 l2 => BindsTo.of_looks fun M => KwChain.looks X' hks ?_, fun r rz => (r.append rz).append rk⟩
        match us, ws, l1, l2 with
        | [_], [_], _, _ => exact ⟨_, _, _, _, _, _, rfl, rfl, rfl⟩
  have M_s_tripled : Mt prL w K mg base (He.ga K "ShiftedSequence") "tripled" 6 ["self"] [] (spTri (He.ga K "Cell") (He.ga K "ShiftedSequence") (He.ga K "ShiftedSequence") anyO) := ⟨tS.cl, _, fd_s_tripled, [], He.meth_ok (c.g2 52 rfl), ok_stri F_s_tripled tS M_s_tripled_cell MS, .nil, b_s_tripled⟩
  have P_s_cell : Pr prL w K mg base (He.ga K "ShiftedSequence") "cell" 1 (spS1 (He.ga K "Cell") (He.ga K "ShiftedSequence") fun H _ c _ _ _ _ Q => Q (.ref c) H) := ⟨tS.cl, _, _, fd_s_cell, propB_ok (c.x 5 rfl), ok_cellP F_s_cell tS, b_s_cell⟩
  have P_s_shift : Pr prL w K mg base (He.ga K "ShiftedSequence") "shift" 1 (spS1 (He.ga K "Cell") (He.ga K "ShiftedSequence") fun H _ _ _ _ _ off Q => Q (.int (off : Nat)) H) := ⟨tS.cl, _, _, fd_s_shift, propB_ok (c.x 6 rfl), ok_shiftP F_s_shift tS, b_s_shift⟩
  obtain ⟨cdv_uu, FG_uu⟩ := funG_ofD (st := trUncov) (FunD.of_fun F_u_uncovered) (by decide +kernel)
  have U_un : SupG prL w K mg base (He.ga K "ShiftedSequence") "uncovered" 4 ["self"] (spUncov (He.ga K "Cell") (He.ga K "ShiftedSequence")) := ⟨⟨_, fd_u_uncovered, supB_ok (c.x 19 rfl), ok_uncov FG_uu B tS CM M_s_small_cover, b_u_uncovered⟩⟩
  have U_s : MtG prL w K mg base (He.ga K "ShiftedSequence") "uncovered" 6 ["self"] (spSUncov (He.ga K "Cell") (He.ga K "ShiftedSequence")) := ⟨tS.cl, _, _, He.meth_ok (c.g2 50 rfl), ok_suncov (w := w) (mg := mg) (base := base) F_s_uncovered B top tS U_un, b_s_uncovered⟩
  obtain ⟨fd_wk, F_wk⟩ : ∃ fd, FunD K "walk" "RuledSequence.walk" (defArgs trWalk) (defBody trWalk) (defScope trWalk) [.int 0] [] (He.ma K (He.ga K "ShiftedSequence") "walk") fd := DfX.funD (c.t2 20 rfl).1 (c.t2 20 rfl).2 rfl
  obtain ⟨ds_wk, v_wk, b_wk'⟩ := F_wk.binds1 (ps := ["self", "start"]) 2 1 (by intro z; cases z) rfl fun T kV doc pm an cdv ct us its l1 l2 => match us, its, l1, l2 with
    | [_, _], [_], _, _ => ⟨_, rfl, rfl⟩
  have b_wk : Binds K fd_wk ["self", "start"] [] := by
    cases v_wk
    exact b_wk'
  obtain ⟨cdv_wk, FG_wk⟩ := funG_ofD (st := trWalk) F_wk (by decide +kernel)
  have W_s : MtG prL w K mg base (He.ga K "ShiftedSequence") "walk" 6 ["self", "start"] (spWalk (He.ga K "Cell") (He.ga K "ShiftedSequence") anyO) := ⟨tS.cl, _, fd_wk, He.meth_ok (c.g2 49 rfl), ok_walk (j := 4) FG_wk BM M_s_member, b_wk⟩
  have ES : EqF prL w K mg base (He.ga K "ShiftedSequence") 2 ["self", "other"] (spREq (He.ga K "Cell") (He.ga K "RuledSequence") (He.ga K "ShiftedSequence")) := ⟨_, fd_s___eq__, (He.meth_ok (c.g2 54 rfl)).at_, (He.meth_ok (c.g2 54 rfl)).fn, ok_req F_s___eq__ B W nfC EC, b_s___eq__⟩
  have LS : LenF prL w K mg base (He.ga K "ShiftedSequence") 3 (spS1 (He.ga K "Cell") (He.ga K "ShiftedSequence") fun H _ _ _ A _ _ Q => Q (.int (A.length : Nat)) H) := ⟨_, fd_s___len__, (He.meth_ok (c.g2 53 rfl)).at_, (He.meth_ok (c.g2 53 rfl)).fn, ok_len F_s___len__ B tS CM, b_s___len__⟩
  have K_member : MtK prL w K mg base (He.ga K "ShiftedSequence") "member" 10 ["number"] (spS2 (He.ga K "Cell") (He.ga K "ShiftedSequence") anyO 0 1000 fMem) := by
    refine MtK.up (k := 5) ⟨tS.cl, _, _, ["self", "number"], He.meth_ok (c.g2 39 rfl), o_s_member, fun s us ws _ l1 l2 => ?_, fun r rz => r.append rz⟩ (by decide)
    match us, ws, l1, l2 with
    | [_], [_], _, _ => exact .of_eq rfl
  have K_rank : MtK prL w K mg base (He.ga K "ShiftedSequence") "rank" 10 ["x"] (spS2 (He.ga K "Cell") (He.ga K "ShiftedSequence") anyO 0 1000 fRnk) := by
    refine MtK.up (k := 5) ⟨tS.cl, _, _, ["self", "x"], He.meth_ok (c.g2 40 rfl), o_s_rank, fun s us ws _ l1 l2 => ?_, fun r rz => r.append rz⟩ (by decide)
    match us, ws, l1, l2 with
    | [_], [_], _, _ => exact .of_eq rfl
  have K_contains : MtK prL w K mg base (He.ga K "ShiftedSequence") "contains" 10 ["x"] (spS2 (He.ga K "Cell") (He.ga K "ShiftedSequence") anyO 0 1000 fCnt) := by
    refine MtK.up (k := 5) ⟨tS.cl, _, _, ["self", "x"], He.meth_ok (c.g2 41 rfl), o_s_contains, fun s us ws _ l1 l2 => ?_, fun r rz => r.append rz⟩ (by decide)
    match us, ws, l1, l2 with
    | [_], [_], _, _ => exact .of_eq rfl
  have GS : SeqM prL w K mg base (He.ga K "Cell") (He.ga K "ShiftedSequence") anyO 10 := ⟨tS, M_s_member.up (by decide), M_s_rank.up (by decide), M_s_contains.up (by decide), M_s_next_member.up (by decide), M_s_last_member.up (by decide), M_s_gap.up (by decide), M_s_check_cover.up (by decide)⟩
  have GR : SeqM prL w K mg base (He.ga K "Cell") (He.ga K "RuledSequence") (· = 0) 10 := ⟨tR, M_r_member.up (by decide), M_r_rank.up (by decide), M_r_contains.up (by decide), M_r_next_member.up (by decide), M_r_last_member.up (by decide), M_r_gap.up (by decide), M_r_check_cover.up (by decide)⟩
  have G__law_streams : Fn prL w K mg base "_law_streams" 1 ["_law_script"] [] (spStreams K) := ⟨_, fd__law_streams, [], (He.glo_ok X G (c.g1 33 rfl)), F__law_streams.kp, ok_streams F__law_streams B, .nil, b__law_streams⟩
  have G__law_next : Fn prL w K mg base "_law_next" 1 ["_law_stream", "_law_count"] [] (spNext) := ⟨_, fd__law_next, [], (He.glo_ok X G (c.g1 34 rfl)), F__law_next.kp, ok_next_ F__law_next B, .nil, b__law_next⟩
  have G__law_huge : Fn prL w K mg base "_law_huge" 2 ["_law_stream"] [] (spHuge) := ⟨_, fd__law_huge, [], (He.glo_ok X G (c.g1 37 rfl)), F__law_huge.kp, ok_huge F__law_huge B G__law_next, .nil, b__law_huge⟩
  have G__law_joined : Fn prL w K mg base "_law_joined" 1 ["_law_first", "_law_second"] [] (spJoined) := ⟨_, fd__law_joined, [], (He.glo_ok X G (c.g1 35 rfl)), F__law_joined.kp, ok_joined F__law_joined B, .nil, b__law_joined⟩
  have G__law_random_cell : Fn prL w K mg base "_law_random_cell" 2 ["_law_stream", "_law_most"] [] (spRandom) := ⟨_, fd__law_random_cell, [], (He.glo_ok X G (c.g1 36 rfl)), F__law_random_cell.kp, ok_random F__law_random_cell B G__law_next G__law_joined, .nil, b__law_random_cell⟩
  have G__law_answer : Fn prL w K mg base "_law_answer" 10 ["_law_track", "_law_own_x"] [] (spAnswer (He.ga K "Cell") (He.ga K "RuledSequence") (He.ga K "ShiftedSequence")) := ⟨_, fd__law_answer, [], (He.glo_ok X G (c.g1 38 rfl)), F__law_answer.kp, ok_answer (j := 9) F__law_answer B X_m X_n TX (by decide) (MX_r_cover.up (by decide)) (MX_s_cover.up (by decide)), .nil, b__law_answer⟩
  have G__law_moved : Fn prL w K mg base "_law_moved" 1 ["_law_answer_here", "_law_gap"] [] (spMoved) := ⟨_, fd__law_moved, [], (He.glo_ok X G (c.g1 39 rfl)), F__law_moved.kp, ok_moved F__law_moved, .nil, b__law_moved⟩
  have GN : FnN' prL w K mg base "_law_number_holds" 11 ["_law_moved_here", "_law_plain", "_law_gap", "_law_own_x"] (spNum (He.ga K "Cell") (He.ga K "RuledSequence") (He.ga K "ShiftedSequence")) := ⟨_, fd__law_number_holds, (He.glo_ok X G (c.g1 40 rfl)), F__law_number_holds.kp, ok_num (L := 9) F__law_number_holds B GS GR G__law_answer (G__law_moved.up (by decide)), b__law_number_holds⟩
  have G__law_below_holds : Fn prL w K mg base "_law_below_holds" 11 ["_law_moved_here", "_law_plain", "_law_gap"] [] (spBelow (He.ga K "Cell") (He.ga K "RuledSequence") (He.ga K "ShiftedSequence")) := ⟨_, fd__law_below_holds, [], (He.glo_ok X G (c.g1 42 rfl)), F__law_below_holds.kp, ok_below F__law_below_holds B GS G__law_answer U_s U_r, .nil, b__law_below_holds⟩
  have G__law_names_hold : Fn prL w K mg base "_law_names_hold" 11 ["_law_moved_here", "_law_own_x"] [] (spNames (He.ga K "Cell") (He.ga K "ShiftedSequence")) := ⟨_, fd__law_names_hold, [], (He.glo_ok X G (c.g1 41 rfl)), F__law_names_hold.kp, ok_names (L := 9) F__law_names_hold GS K_member K_rank K_contains, .nil, b__law_names_hold⟩
  have LM : LawM prL w K mg base (He.ga K "Cell") (He.ga K "RuledSequence") (He.ga K "ShiftedSequence") := ⟨G__law_streams, G__law_next, G__law_huge, G__law_random_cell, MC, MS, M0, MR, GS, GR, GN, G__law_below_holds, G__law_names_hold, W_s, M_s_tripled, M_r_tripled, P_r_cell, P_s_cell, P_s_shift, EC, ES, LS, nfC⟩
  exact ok_law F_law B W LM
theorem law_fun {K : PySem.W.Frag} (c : Says K) : ∃ fd, Fun K "law" "law" tLaw (He.ga K "law") fd := DfX.fun_ (c.t1 28 rfl).1 (c.t1 28 rfl).2 rfl rfl
theorem glo_law {K : PySem.W.Frag} {h : Heap} {mg : Str → Option Value} (X : K.In h) (G : h.Ns mainGlobals mg) (c : Says K) : mg "law" = some (.ref (He.ga K "law")) := (He.glo_ok X G (c.g1 43 rfl))
end Tf

/-! ## TfHd -/
set_option Elab.async false
set_option linter.all false
set_option maxRecDepth 100000
set_option maxHeartbeats 0
/-! The top's run, with what is looked at behind it. -/
namespace Tf
open PySem PySem.W PySem.Calls PyProof.Rows
abbrev AlZ : Type := Bool × List ObX × List ObX
def obsK (K : PySem.W.Frag) : AlZ := (facs1.all (fun f => f.ok K) && (facs2.all (fun f => f.ok K) && (exs.all (fun b => b K) && (dfs1.all (fun d => d.ok K fileL) && dfs2.all (fun d => d.ok K fileL)))), dfs1.map (fun d => obX K (d.at_ K)), dfs2.map (fun d => obX K (d.at_ K)))
def valZ : AlZ := (true, dfs1.map DfX.val, dfs2.map DfX.val)
theorem says_of {K : PySem.W.Frag} (h : obsK K = valZ) : Says K := by
  have h1 : (facs1.all (fun f => f.ok K) && (facs2.all (fun f => f.ok K) && (exs.all (fun b => b K) && (dfs1.all (fun d => d.ok K fileL) && dfs2.all (fun d => d.ok K fileL))))) = true := congrArg (fun z : AlZ => z.1) h
  obtain ⟨a1, h1⟩ := bAnd h1
  obtain ⟨a2, h1⟩ := bAnd h1
  obtain ⟨a3, h1⟩ := bAnd h1
  obtain ⟨a4, a5⟩ := bAnd h1
  exact ⟨a1, a2, a3, a4, a5, congrArg (fun z : AlZ => z.2.1) h, congrArg (fun z : AlZ => z.2.2) h⟩
/-- where that stands: the classes and their names first -/
def adr1 : List Addr := [3, 120, 178, 197, 452, 593, 672, 2, 119, 177, 196, 232, 451, 592, 606, 671, 175, 194, 239, 247, 254, 261, 268, 275, 282, 289, 296, 303, 310, 315, 322, 329, 334, 341, 346, 358, 365, 373, 381, 389]
def adr2 : List Addr := [416, 423, 430, 437, 444, 463, 477, 484, 492, 497, 504, 511, 518, 523, 530, 537, 542, 549, 557, 564, 569, 576, 583, 590, 614, 621, 630, 638, 646, 654, 662, 669, 681, 688, 693, 700, 707, 714, 721, 728]
def adr3 : List Addr := [735, 740, 747, 240, 550, 601, 174, 193, 238, 246, 253, 260, 267, 274, 281, 288, 295, 302, 309, 314, 321, 328, 333, 340, 345, 357, 364, 366, 372, 374, 380, 382, 388, 390, 415, 422, 429, 436, 443, 462]
def adr4 : List Addr := [476, 483, 485, 491, 496, 503, 510, 517, 522, 529, 536, 541, 548, 556, 563, 568, 575, 582, 589, 613, 620, 622, 629, 637, 645, 653, 661, 668, 680, 687, 692, 699, 706, 713, 720, 727, 734, 739, 746]
def partK (g : Addr → Option Obj) : PySem.W.Frag := He.frG g (adr1 ++ adr2 ++ adr3 ++ adr4)
def obsZ (g : Addr → Option Obj) : AlZ := obsK (partK g)
def hookZ : PySem.W.Hook where
  α := AlZ
  obs := fun s => obsZ s.heap.get?
  val := fun _ => valZ
  says := fun _ h => ∃ K : PySem.W.Frag, K.In h ∧ Says K
  of := fun _ _ e => ⟨_, He.frG_in, says_of e⟩
  keeps := fun _ _ _ ⟨K, hK, c⟩ k => ⟨K, PySem.W.Frag.In.keeps hK k, c⟩
def obT (s : PySem.W.SharedT) : AlZ := obsZ (HandSHeadRun.getT s)
theorem obT_eq (s : PySem.W.SharedT) : obT s = hookZ.obs s.abs := by
  have e : HandSHeadRun.getT s = s.abs.heap.get? := funext (HandSHeadRun.getT_eq s)
  show obsZ (HandSHeadRun.getT s) = obsZ s.abs.heap.get?
  rw [e]
abbrev rowR : OpenRow := OpenLaw.row rowL
abbrev viewL : Program := view rowR.prog [49]
def nam1 : List PySem.Str := ["_wall", "SetError", "InvalidNumber", "InvalidModulus", "InvalidMembers", "InvalidCell", "StateError", "NotFree", "NotServed", "IsMember", "NotCovered", "LimitError", "TooLarge", "is_integer", "check_number", "digits_in", "number_of", "are_plain", "power_of", "member_at", "rank_of", "base_member", "in_base", "base_rank", "plain_pair"]
def nam2 : List PySem.Str := ["is_between", "check_shape", "spoiling_triple", "serving_table", "unserved_remainder", "Cell", "check_at_least", "RuledSequence", "ShiftedSequence", "_law_streams", "_law_next", "_law_joined", "_law_random_cell", "_law_huge", "_law_answer", "_law_moved", "_law_number_holds", "_law_names_hold", "_law_below_holds"]
def nams : List PySem.Str := nam1 ++ nam2
theorem run_top (w : World) : HandSHeadRun.RunEq rowR viewL hookZ obT 12000 nams w := by
  intro os
  kernel_rfl
end Tf

/-! ## TfEnd -/
set_option Elab.async false
set_option linter.all false
set_option maxRecDepth 100000
set_option maxHeartbeats 4000000
/-! The end: the law called from outside. -/
namespace Tf
open PySem PySem.Spec PyProof.Rows L2
/-- the script as an object -/
abbrev scrO (us : List Value) : Obj := { cls := .type "list", data := .seq us.toArray }
/-- nothing is tracked but, it may be, the script -/
def Lone (K : PySem.W.Frag) (a : Addr) (us : List Value) (ns : List Int) (H : Hp) : Prop := ∀ b u, H b = some u → b = a ∧ K.lookup a = none ∧ u = .frz (scrO us) (.lst (ns.map V.int))
theorem lone_no {K : PySem.W.Frag} {a b : Addr} {us : List Value} {ns : List Int} {H : Hp} {h : Heap} {o : Obj} (L : Lone K a us ns H) (ea : h.get? a = some (scrO us)) (e : h.get? b = some o) (n : o ≠ scrO us) : H b = none := by
  cases q : H b with
  | none => rfl
  | some u =>
    obtain ⟨rfl, _, _⟩ := L b u q
    rw [ea] at e
    exact absurd (Option.some.inj e).symm n
theorem lone_ok {P : Program} {w : World} {K : PySem.W.Frag} {a : Addr} {us : List Value} {ns : List Int} {H : Hp} {h : Heap} (L : Lone K a us ns H) (ea : h.get? a = some (scrO us)) (rv : Vals (ns.map V.int) us) (hn : ns.length ≤ sizeLine) : HOk P w H h := fun b u e => by
  obtain ⟨rfl, _, rfl⟩ := L b u e
  exact ⟨ea, by rw [List.length_map]; exact hn, us, _, rv, ea⟩
section
variable {P : Program} {w : World} {K : PySem.W.Frag} {mg mb : Str → Option Value} {k : Nat} {g a : Addr} {fd : FuncData} {x : Str} {sp : Sp} {s : Shared} {us : List Value} {ns : List Int}
theorem lone_mod {H : Hp} (L : Lone K a us ns H) (ea : s.heap.get? a = some (scrO us)) (X : K.In s.heap) (G1 : s.heap.Ns mainGlobals mg) (G2 : s.heap.Ns builtinsNs mb) (G3 : ∀ y : Str, y ≠ "__name__" → mb y = bootBuiltins y) (NL : s.heap.NoLimit) : Mod K mg (hidT s.heap H) := by
  have ns1 : ∀ {b : Addr} {m : Str → Option Value}, s.heap.Ns b m → (hidT s.heap H).Ns b m := fun {b m} ⟨o, es, ep, e, d, r⟩ =>
    ⟨o, es, ep, hidT_get e (lone_no L ea e fun z => by subst z; cases d), d, r⟩
  have kin : K.In (hidT s.heap H) := fun b o e => hidT_get (X b o e) (by
    cases q : H b with
    | none => rfl
    | some u =>
      obtain ⟨rfl, z, _⟩ := L b u q
      rw [z] at e
      cases e)
  obtain ⟨mc, c1, c2⟩ := NL
  exact ⟨kin, ns1 G1, ⟨mb, ns1 G2, G3⟩, ⟨mc, ns1 c1, c2⟩⟩
theorem lone_call {H : Hp} (L : Lone K a us ns H) (hS : SqL K H a (ns.map V.int)) (ea : s.heap.get? a = some (scrO us)) (rv : Vals (ns.map V.int) us) (hn : ns.length ≤ sizeLine) (X : K.In s.heap) (G0 : s.gens = #[]) (M : Mod K mg (hidT s.heap H)) (hr : Room k callerA)
    (F : ∀ base : Heap, K.In base → base.Ns mainGlobals mg → FnG P w K mg base k g fd [x] sp) (hb : ∀ (s : Shared) (u : Value), BindsTo s fd ⟨[u], []⟩ [(x, u)])
    (hsp : ∀ H : Hp, SqL K H a (ns.map V.int) → sp [.ref a] H (fun v _ => v = .bl true) E0) :
    codeAny (model P w) callerA (.call (.ref g) ⟨[.ref a], []⟩) (fun r s' => r = .ok (.ret (.bool true)) ∧ OldK s.heap s'.heap ∧ s'.os = s.os ∧ AllBare s'.gens) s := by
  have hok : HOk P w H s.heap := lone_ok L ea rv hn
  have env : Env0 P w K mg (hidT s.heap H) callerA [] s H := ⟨rfl, M, fun b o e => of_hidT e, Nat.le_of_eq (hidT_size _ _), trivial, fun b z => no_mem z, hok, .of_eq G0⟩
  refine codeAny_mono ((F _ M.kin M.glob).run callerA [] s H ⟨[.ref a], []⟩ [.ref a] [.ref a] _ hr rfl env (hb s (.ref a)) (.cons rfl .nil) (hsp H hS)) fun r s' z => ?_
  match r, z with
  | .ok (.ret u), z =>
    obtain ⟨v, H', os, bare, un, hok', ru, ev⟩ := z
    have ev : v = .bl true := ev
    subst ev
    obtain rfl : u = Value.bool true := ru
    refine ⟨rfl, OldK.of_keep fun b o e => ?_, os, bare⟩
    cases q : H b with
    | none => exact un.keep b o e q (fun z => no_mem z) (fun z => no_mem z)
    | some t =>
      obtain ⟨rfl, _, rfl⟩ := L b t q
      rw [ea] at e
      cases e
      exact (hok' _ _ (un.frzs _ _ _ q)).1
  | .ok .next, z => exact False.elim z
  | .ok .brk, z => exact False.elim z
  | .ok .cont, z => exact False.elim z
  | .error e, z => exact False.elim z
theorem call_lawG (X : K.In s.heap) (G1 : s.heap.Ns mainGlobals mg) (G2 : s.heap.Ns builtinsNs mb) (G3 : ∀ y : Str, y ≠ "__name__" → mb y = bootBuiltins y) (NL : s.heap.NoLimit) (G0 : s.gens = #[]) (ea : s.heap.get? a = some (scrO us)) (hi : IntsAre us ns) (hn : ns.length ≤ sizeLine) (hr : Room k callerA)
    (F : ∀ base : Heap, K.In base → base.Ns mainGlobals mg → FnG P w K mg base k g fd [x] sp) (hb : ∀ (s : Shared) (u : Value), BindsTo s fd ⟨[u], []⟩ [(x, u)])
    (hsp : ∀ H : Hp, SqL K H a (ns.map V.int) → sp [.ref a] H (fun v _ => v = .bl true) E0) :
    codeAny (model P w) callerA (.call (.ref g) ⟨[.ref a], []⟩) (fun r s' => r = .ok (.ret (.bool true)) ∧ OldK s.heap s'.heap ∧ s'.os = s.os ∧ AllBare s'.gens) s := by
  have rv := vals_ints hi
  have run : ∀ H : Hp, Lone K a us ns H → SqL K H a (ns.map V.int) → _ := fun H L hS => lone_call (P := P) (w := w) (k := k) (g := g) L hS ea rv hn X G0 (lone_mod L ea X G1 G2 G3 NL) hr F hb hsp
  cases e : K.lookup a with
  | some o =>
    have z := X a o e
    rw [ea] at z
    cases z
    refine run (fun _ => none) (fun b u q => nomatch (show (none : Option HO) = some u from q)) (.inr ⟨_, us.toArray, _, e, rfl, rfl, rfl, ?_, by simpa using rv⟩)
    rw [List.size_toArray, hi.length]
    exact hn
  | none =>
    refine run (fun b => if b = a then some (.frz (scrO us) (.lst (ns.map V.int))) else none) (fun b u q => ?_) (.inl (.inr ⟨scrO us, if_pos rfl⟩))
    by_cases h : b = a
    · have z := (if_pos h).symm.trans q
      exact ⟨h, e, (Option.some.inj z).symm⟩
    · have z := (if_neg h).symm.trans q
      cases z
end
/-- what the end leans on -/
theorem law_end {w : World} {K : PySem.W.Frag} {h : Heap} {mg : Str → Option Value} {g : Addr} (X : K.In h) (G : h.Ns mainGlobals mg) (c : Says K) (hm : mg ("law" : Str) = some (.ref g)) :
    ∃ (K : PySem.W.Frag) (fd : FuncData) (sp : Sp), K.In h ∧ (∀ (s : Shared) (u : Value), BindsTo s fd ⟨[u], []⟩ [("_law_script", u)]) ∧
      (∀ (H : Hp) (a : Addr) (ns : List Int), ns.length ≤ 63 → SqL K H a (ns.map V.int) → sp [.ref a] H (fun v _ => v = .bl true) E0) ∧ ∀ base : Heap, K.In base → base.Ns mainGlobals mg → FnG prL w K mg base 12 g fd ["_law_script"] sp := by
  obtain ⟨fd, F⟩ := law_fun c
  have e := hm.symm.trans (glo_law X G c)
  cases e
  have b := FunD.bindsA (ps := ["_law_script"]) (FunD.of_fun F) fun _ _ _ _ _ _ us hl => match us, hl with | [_], _ => rfl
  exact ⟨K, fd, spLaw K, X, fun s u => b s [u] rfl, fun H a ns hl hS => ⟨a, ns, rfl, hS, hl, fun _ => rfl⟩, fun base _ _ => all_law (base := base) X G c F⟩
/-- the law, walked from outside -/
theorem walkG {l : PySem.W.OpenLaw} {n k : Nat} {q : Program} {loose : List Str} {XP : (Str → Option Value) → Heap → Prop} {YP : World → Heap → Prop} {d : DefRec} {x : Str} (hn : l.most = some n) (h63 : n ≤ sizeLine) (hd : d.params.defaults = []) (hr : Room k callerA)
    (F : ∀ (w : World) (mg : Str → Option Value) (g : Addr) (h : Heap), YP w h → h.Ns mainGlobals mg → mg d.name = some (.ref g) → ∃ (K : PySem.W.Frag) (fd : FuncData) (sp : Sp), K.In h ∧ (∀ (s : Shared) (u : Value), BindsTo s fd ⟨[u], []⟩ [(x, u)]) ∧
      (∀ (H : Hp) (a : Addr) (ns : List Int), ns.length ≤ n → SqL K H a (ns.map V.int) → sp [.ref a] H (fun v _ => v = .bl true) E0) ∧ ∀ base : Heap, K.In base → base.Ns mainGlobals mg → FnG l.prog w K mg base k g fd [x] sp) :
    PySem.W.WalkO q loose XP YP l.row.toRowW d [] (fun f vs => PySem.call f vs) := by
  refine Att.attach_call hn hd fun w s0 s1 mg mb g o pm cd doc a us ns G Y _ _ _ hm ha hi hlen h0 => ?_
  obtain ⟨K, fd, sp, X, hb, hsp, hF⟩ := F w mg g _ Y G.T.g hm
  exact call_lawG X G.T.g G.T.b G.T.builtins G.T.nolimit h0 ha hi (Nat.le_trans hlen h63) hr hF hb fun H hS => hsp H a ns hlen hS
end Tf
open PySem PySem.W PySem.Calls PyProof.Rows
set_option maxHeartbeats 0 in
theorem PySem.Challenge.cw_triplefree_k22_whole_shifted_sequences_holds : PySem.Challenge.rw_triplefree_k22_whole_shifted_sequences.Holds := by
  w_on; o_law
  refine HandSHeadRun.head_any (r := Tf.rowR) (q := Tf.viewL) (H := Tf.hookZ) (ob := Tf.obT) (M := 12000) (loose := Tf.nams) (d := HandSHeadRun.topDef Tf.rowR.prog 49) (kwd := []) Tf.obT_eq (by kernel_rfl) (fun s => by kernel_rfl) Tf.run_top (by kernel_rfl) (by kernel_rfl) (by kernel_rfl) (by rfl) (by first | assumption | decide +kernel) (by decide +kernel) ⟨rfl, rfl, rfl, rfl, rfl, by decide +kernel⟩ ?hw ?hc
  case hw => w_witness2
  case hc =>
    refine Tf.walkG (l := PySem.Challenge.rw_triplefree_k22_whole_shifted_sequences) (n := 63) (k := 12) (x := "_law_script") rfl (by decide) (by kernel_rfl) ⟨rfl, by decide, by decide⟩ ?F
    intro w mg g h Y G hm0
    obtain ⟨K, X, c⟩ := Y
    have hm : mg ("law" : PySem.Str) = some (.ref g) := by
      have e : (HandSHeadRun.topDef Tf.rowR.prog 49).name = ("law" : PySem.Str) := by kernel_rfl
      rw [← e]
      exact hm0
    exact Tf.law_end X G c hm
