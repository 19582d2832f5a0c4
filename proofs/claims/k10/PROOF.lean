import PyProof.Rows.All
import Wide.All
import OpenK.AllK
import Wide.FinOn
import PyProof.Runs
import PyProof.GenQ
import HandS.GenOver
import HandS.GenCall
import HandS.GenList
import HandS.ForMost
import HandS.IsInst
import HandS.TupAny
import HandS.Wide
import HandS.Flow
import HandS.Exc
import HandS.ExcOwn
import HandS.TryOnly
import HandS.TryMany
import HandS.ExcIs
import HandS.ExcField
import HandS.WordsExc
import HandS.ExcInit
import KE.KDictKeyed
import KE.KTupSum
import HandS.MakeKwOnly
import HandS.ClsMeth
import HandS.TupMul
import KE.GoesEnum
import HandS.RaiseMore
import HandS.ReCall
import HandS.More
import HandS.Rev
import HandS.Conv
import HandS.Text
import KE.KDictLaws
import KE.KTops
import HandS.Spec
import HandS.List
import KE.KUnpackStar
import HandS.NoneIn
import HandS.DictComp
import HandS.Nested
import KE.KExcSuper
import HandS.ExcValue
import KE.KExcIs
import PyProof.ListStr
import HandS.StrMore
import HandS.IterVal
import HandS.OwnIter
import KE.KOpsOwn
import HandS.Codes
import PySem.Challenge.RW_stylepages_k10_whole_written_form_there
set_option Elab.async false
set_option linter.all false
set_option maxRecDepth 100000
set_option maxHeartbeats 4000000
set_option maxHeartbeats 2000000
namespace Ga
open PySem
open Sem (wp)
noncomputable def dead : GenState → GenState
  | .suspended _ l c p fs cl => .suspended (fun _ => .unsupported "asleep") l c p fs cl
  | x => x
noncomputable def sleeps : GenState → Bool
  | .suspended .. => true
  | _ => false
theorem dead_seen (x : GenState) : (dead x).seen = x.seen := by cases x <;> rfl
theorem dead_bare (x : GenState) : (dead x).bare = x.bare := by cases x <;> rfl
noncomputable def plainF : Frame → Bool
  | .ret .. => true
  | .gen .. => false
noncomputable def plains (fs : List Frame) : Bool := fs.all plainF
noncomputable def plainE : End → Prop
  | .ret _ => True
  | .susp _ _ _ _ _ _ fs => plains fs = true
theorem plains_app {a b : List Frame} (h1 : plains a = true) (h2 : plains b = true) : plains (a ++ b) = true := by unfold plains at *; rw [List.all_append, h1, h2]; rfl
theorem plains_tl {F : Frame} {fs : List Frame} (h : plains (F :: fs) = true) : plains fs = true := by
  unfold plains at *
  rw [List.all_cons, Bool.and_eq_true] at h
  exact h.2
theorem plains_no {g k l c p fs} (h : plains (.gen g k l c p :: fs) = true) : False := by
  unfold plains at h
  rw [List.all_cons, Bool.and_eq_true] at h
  exact absurd (show (false : Bool) = true from h.1) (by decide)
theorem plains_split : ∀ {fs : List Frame}, plains fs = true → splitAtGen fs = none
  | [], _ => rfl
  | .ret .. :: r, h => by
    have e := plains_split (plains_tl h)
    simp only [splitAtGen, e, Option.map_none]
  | .gen .. :: r, h => (plains_no h).elim
structure Twin (z : Nat → Option GenState) (a b : Array GenState) : Prop where
  size : b.size = a.size
  awake : ∀ i, z i = none → b[i]? = a[i]?
  asleep : ∀ i y, z i = some y → sleeps y = true ∧ a[i]? = some (dead y) ∧ b[i]? = some y
  clean : ∀ i k l c p fs cl, z i = none → a[i]? = some (.suspended k l c p fs cl) → plains fs = true
section
variable {z : Nat → Option GenState} {a b : Array GenState}
theorem Twin.push {c : Code} (t : Twin z a b) : Twin z (a.push (.fresh c)) (b.push (.fresh c)) := by
  have old : ∀ i y, z i = some y → i < a.size := fun i y h => (Array.getElem?_eq_some_iff.mp (t.asleep i y h).2.1).1
  refine ⟨by rw [Array.size_push, Array.size_push, t.size], fun i h => ?_, fun i y h => ?_, fun i k l c' p fs cl h e => ?_⟩
  · rw [Array.getElem?_push, Array.getElem?_push, t.size, t.awake i h]
  · have hi := old i y h
    obtain ⟨h1, h2, h3⟩ := t.asleep i y h
    refine ⟨h1, ?_, ?_⟩
    · rw [Array.getElem?_push, if_neg (by omega)]; exact h2
    · rw [Array.getElem?_push, t.size, if_neg (by omega)]; exact h3
  · rw [Array.getElem?_push] at e
    split at e
    · cases e
    · exact t.clean i k l c' p fs cl h e
theorem Twin.set {g : Nat} {x : GenState} (t : Twin z a b) (hg : z g = none) (hx : ∀ k l c p fs cl, x = .suspended k l c p fs cl → plains fs = true) : Twin z (a.setIfInBounds g x) (b.setIfInBounds g x) := by
  refine ⟨by rw [Array.size_setIfInBounds, Array.size_setIfInBounds, t.size], fun i h => ?_, fun i y h => ?_, fun i k l c p fs cl h e => ?_⟩
  · rw [Array.getElem?_setIfInBounds, Array.getElem?_setIfInBounds, t.size, t.awake i h]
  · have hne : g ≠ i := fun q => by subst q; rw [hg] at h; cases h
    rw [Array.getElem?_setIfInBounds_ne hne, Array.getElem?_setIfInBounds_ne hne]
    exact t.asleep i y h
  · by_cases q : g = i
    · subst q
      rw [Array.getElem?_setIfInBounds] at e
      rw [if_pos rfl] at e
      split at e
      · exact hx k l c p fs cl (Option.some.inj e)
      · cases e
    · rw [Array.getElem?_setIfInBounds_ne q] at e
      exact t.clean i k l c p fs cl h e
end
theorem awake_of {z : Nat → Option GenState} {a b : Array GenState} {g : Nat} {x : GenState} (T : Twin z a b) (hg : a[g]? = some x) (hs : sleeps x = false) : z g = none ∧ b[g]? = some x := by
  have hz : z g = none := by
    cases hz : z g with
    | none => rfl
    | some y =>
      obtain ⟨h1, h2, _⟩ := T.asleep g y hz
      rw [h2] at hg
      cases hg
      cases y <;> first | exact absurd (show (true : Bool) = false from hs) (by decide) | exact absurd (show (false : Bool) = true from h1) (by decide)
  exact ⟨hz, by rw [T.awake g hz]; exact hg⟩
theorem seen_of {z : Nat → Option GenState} {a b : Array GenState} {g : Nat} {x : GenState} (T : Twin z a b) (hg : a[g]? = some x) : ∃ y, b[g]? = some y ∧ y.seen = x.seen := by
  cases hz : z g with
  | none => exact ⟨x, by rw [T.awake g hz]; exact hg, rfl⟩
  | some y =>
    obtain ⟨_, h2, h3⟩ := T.asleep g y hz
    rw [h2] at hg
    cases hg
    exact ⟨y, h3, (dead_seen y).symm⟩
noncomputable def withG (s : Shared) (g : Array GenState) : Shared := { s with gens := g }
theorem run_no {M : Model} {Γ : Ctx} {p : Pos} {m : String} {fs : List Frame} {s s' : Shared} {e : End} (h : Runs M Γ p (.unsupported m) fs s e s') : False := by
  have base : ∀ {Γ : Ctx} {p : Pos} {s s' : Shared} {e : End}, ¬ Runs M Γ p (.unsupported m) [] s e s' := fun h => by cases h
  cases h with
  | segRet h1 _ => exact base h1
  | segGen h1 _ => exact base h1
  | segSuspOut _ h1 => exact base h1
  | segSuspGen _ h1 _ _ => exact base h1
theorem end_clean {e : End} (h : plainE e) : ∀ k l c p fs cl, e.genState = .suspended k l c p fs cl → plains fs = true := by
  intro k l c p fs cl q
  cases e with
  | ret r => cases q
  | susp v g l' k' c' p' fs' => cases q; exact h
theorem awake_susp {M : Model} {z : Nat → Option GenState} {a b : Array GenState} {g : Nat} {k : Resume → Sem Fin} {l : List Value} {c : Code} {p : Pos} {fs : List Frame} {cl : Bool} {Γ : Ctx} {q : Pos} {r : Resume} {s s' : Shared} {e : End}
    (T : Twin z a b) (hg : a[g]? = some (.suspended k l c p fs cl)) (hr : Runs M Γ q (k r) fs s e s') : z g = none ∧ b[g]? = some (.suspended k l c p fs cl) ∧ plains fs = true := by
  have hz : z g = none := by
    cases hz : z g with
    | none => rfl
    | some y =>
      obtain ⟨h1, h2, _⟩ := T.asleep g y hz
      rw [h2] at hg
      cases y <;> first | cases h1 | skip
      cases hg
      exact (run_no hr).elim
  exact ⟨hz, by rw [T.awake g hz]; exact hg, T.clean g _ _ _ _ _ _ hz hg⟩
theorem clean_run : ∀ k l c p fs cl, GenState.running = .suspended k l c p fs cl → plains fs = true := fun _ _ _ _ _ _ z => nomatch z
theorem clean_fin : ∀ k l c p fs cl, GenState.finished = .suspended k l c p fs cl → plains fs = true := fun _ _ _ _ _ _ z => nomatch z
theorem runs_twin {M : Model} {z : Nat → Option GenState} {Γ : Ctx} {p : Pos} {t : Sem Fin} {fs : List Frame} {s s' : Shared} {e : End} (h : Runs M Γ p t fs s e s') :
    plains fs = true → ∀ b, Twin z s.gens b → plainE e ∧ ∃ b', Twin z s'.gens b' ∧ Runs M Γ p t fs (withG s b) e (withG s' b') := by
  induction h with
  | done => exact fun _ b T => ⟨trivial, b, T, .done⟩
  | raise => exact fun _ b T => ⟨trivial, b, T, .raise⟩
  | again hq _ ih => exact fun n b T => let ⟨q, b', T', r⟩ := ih n b T; ⟨q, b', T', .again hq r⟩
  | rule _ ih => exact fun n b T => let ⟨q, b', T', r⟩ := ih n b T; ⟨q, b', T', .rule r⟩
  | «at» _ ih => exact fun n b T => let ⟨q, b', T', r⟩ := ih n b T; ⟨q, b', T', .at r⟩
  | load ho _ ih => exact fun n b T => let ⟨q, b', T', r⟩ := ih n b T; ⟨q, b', T', .load ho r⟩
  | update ho _ ih => exact fun n b T => let ⟨q, b', T', r⟩ := ih n b T; ⟨q, b', T', .update ho r⟩
  | loadIfAlive _ ih => exact fun n b T => let ⟨q, b', T', r⟩ := ih n b T; ⟨q, b', T', .loadIfAlive r⟩
  | point _ ih => exact fun n b T => let ⟨q, b', T', r⟩ := ih n b T; ⟨q, b', T', .point r⟩
  | alloc _ ih => exact fun n b T => let ⟨q, b', T', r⟩ := ih n b T; ⟨q, b', T', .alloc r⟩
  | fresh _ ih => exact fun n b T => let ⟨q, b', T', r⟩ := ih n b T; ⟨q, b', T', .fresh r⟩
  | ask _ ih => exact fun n b T => let ⟨q, b', T', r⟩ := ih n b T; ⟨q, b', T', .ask r⟩
  | choose hn _ ih => exact fun n b T => let ⟨q, b', T', r⟩ := ih n b T; ⟨q, b', T', .choose hn r⟩
  | os _ ih => exact fun n b T => let ⟨q, b', T', r⟩ := ih n b T; ⟨q, b', T', .os r⟩
  | handled _ ih => exact fun n b T => let ⟨q, b', T', r⟩ := ih n b T; ⟨q, b', T', .handled r⟩
  | genState hg _ ih =>
    intro n b T
    obtain ⟨q, b', T', r⟩ := ih n b T
    obtain ⟨y, hy, he⟩ := seen_of T hg
    exact ⟨q, b', T', .genState hy (by rw [he]; exact r)⟩
  | stack _ ih => exact fun n b T => let ⟨q, b', T', r⟩ := ih n b T; ⟨q, b', T', .stack r⟩
  | thread _ ih => exact fun n b T => let ⟨q, b', T', r⟩ := ih n b T; ⟨q, b', T', .thread r⟩
  | newGen _ ih =>
    intro n b T
    obtain ⟨q, b', T', r⟩ := ih n _ T.push
    exact ⟨q, b', T', .newGen (by rw [show (withG _ b).gens.size = _ from T.size]; exact r)⟩
  | call _ _ ih1 ih2 =>
    intro n b T
    obtain ⟨_, b1, T1, r1⟩ := ih1 rfl b T
    obtain ⟨q, b2, T2, r2⟩ := ih2 rfl b1 T1
    exact ⟨q, b2, T2, .call r1 r2⟩
  | callSusp _ ih =>
    intro n b T
    obtain ⟨q, b1, T1, r1⟩ := ih rfl b T
    exact ⟨plains_app q rfl, b1, T1, .callSusp r1⟩
  | yield => exact fun n b T => ⟨rfl, b, T, .yield⟩
  | resumeFresh hg _ hq _ ih1 ih2 =>
    intro n b T
    obtain ⟨hz, hb⟩ := awake_of T hg rfl
    obtain ⟨q1, b1, T1, r1⟩ := ih1 rfl _ (T.set hz clean_run)
    obtain ⟨q, b2, T2, r2⟩ := ih2 n _ (T1.set hz (end_clean q1))
    exact ⟨q, b2, T2, .resumeFresh hb r1 hq r2⟩
  | resumeSuspended hg hr hq _ ih1 ih2 =>
    intro n b T
    obtain ⟨hz, hb, hfs⟩ := awake_susp T hg hr
    obtain ⟨q1, b1, T1, r1⟩ := ih1 hfs _ (T.set hz clean_run)
    obtain ⟨q, b2, T2, r2⟩ := ih2 n _ (T1.set hz (end_clean q1))
    exact ⟨q, b2, T2, .resumeSuspended hb r1 hq r2⟩
  | resumeJustStarted hg hv _ ih =>
    intro n b T
    obtain ⟨q, b', T', r⟩ := ih n b T
    exact ⟨q, b', T', .resumeJustStarted (awake_of T hg rfl).2 hv r⟩
  | resumeThrowFresh hg _ ih =>
    intro n b T
    obtain ⟨hz, hb⟩ := awake_of T hg rfl
    obtain ⟨q, b', T', r⟩ := ih n _ (T.set hz clean_fin)
    exact ⟨q, b', T', .resumeThrowFresh hb r⟩
  | resumeRunning hg _ ih =>
    intro n b T
    obtain ⟨q, b', T', r⟩ := ih n b T
    exact ⟨q, b', T', .resumeRunning (awake_of T hg rfl).2 r⟩
  | resumeFinished hg _ ih =>
    intro n b T
    obtain ⟨q, b', T', r⟩ := ih n b T
    exact ⟨q, b', T', .resumeFinished (awake_of T hg rfl).2 r⟩
  | segRet _ _ ih1 ih2 =>
    intro n b T
    obtain ⟨_, b1, T1, r1⟩ := ih1 rfl b T
    obtain ⟨q, b2, T2, r2⟩ := ih2 (plains_tl n) b1 T1
    exact ⟨q, b2, T2, .segRet r1 r2⟩
  | segGen _ _ _ _ => exact fun n => (plains_no n).elim
  | segSuspOut hs _ ih =>
    intro n b T
    obtain ⟨q, b1, T1, r1⟩ := ih rfl b T
    exact ⟨plains_app q n, b1, T1, .segSuspOut hs r1⟩
  | segSuspGen hs _ _ _ _ _ => exact fun n => by rw [plains_split n] at hs; cases hs
theorem wakes_twin {M : Model} {z : Nat → Option GenState} {Γ : Ctx} {p : Pos} {g : Nat} {r : Resume} {s s' : Shared} {res : GenResult} {b : Array GenState} (T : Twin z s.gens b) (h : Wakes M Γ p g r s res s') :
    ∃ b', Twin z s'.gens b' ∧ Wakes M Γ p g r (withG s b) res (withG s' b') := by
  unfold Wakes at h
  split at h
  · exact h.elim
  · rename_i c hg
    obtain ⟨hz, hb⟩ := awake_of T hg rfl
    have hb : (withG s b).gens[g]? = some (.fresh c) := hb
    split at h
    · obtain ⟨e₁, s₁, hr, hq, rfl, rfl⟩ := h
      obtain ⟨q1, b1, T1, r1⟩ := runs_twin hr rfl _ (T.set hz clean_run)
      refine ⟨_, T1.set hz (end_clean q1), ?_⟩
      unfold Wakes
      rw [hb]
      exact ⟨e₁, withG s₁ b1, r1, hq, rfl, rfl⟩
    · rename_i v hne
      obtain ⟨rfl, rfl⟩ := h
      refine ⟨b, T, ?_⟩
      unfold Wakes
      rw [hb]
      cases v <;> first | exact (hne rfl).elim | exact ⟨rfl, rfl⟩
    · obtain ⟨rfl, rfl⟩ := h
      refine ⟨_, T.set hz clean_fin, ?_⟩
      unfold Wakes
      rw [hb]
      exact ⟨rfl, rfl⟩
  · rename_i k l c q fs cl hg
    obtain ⟨e₁, s₁, hr, hq, rfl, rfl⟩ := h
    obtain ⟨hz, hb, hfs⟩ := awake_susp T hg hr
    have hb : (withG s b).gens[g]? = some (.suspended k l c q fs cl) := hb
    obtain ⟨q1, b1, T1, r1⟩ := runs_twin hr hfs _ (T.set hz clean_run)
    refine ⟨_, T1.set hz (end_clean q1), ?_⟩
    unfold Wakes
    rw [hb]
    exact ⟨e₁, withG s₁ b1, r1, hq, rfl, rfl⟩
  · rename_i hg
    obtain ⟨rfl, rfl⟩ := h
    have hb : (withG s' b).gens[g]? = some .running := (awake_of T hg rfl).2
    refine ⟨b, T, ?_⟩
    unfold Wakes
    rw [hb]
    exact ⟨rfl, rfl⟩
  · rename_i hg
    obtain ⟨rfl, rfl⟩ := h
    have hb : (withG s' b).gens[g]? = some .finished := (awake_of T hg rfl).2
    refine ⟨b, T, ?_⟩
    unfold Wakes
    rw [hb]
    exact ⟨rfl, rfl⟩
noncomputable def Lift {α : Type} (z : Nat → Option GenState) (Q : α → Pos → Shared → Prop) : α → Pos → Shared → Prop := fun a p s' => ∃ s1 b1, s' = withG s1 b1 ∧ Twin z s1.gens b1 ∧ Q a p s1
theorem wp_twin {α : Type} {M : Model} {Γ : Ctx} {z : Nat → Option GenState} (t : Sem α) : ∀ {Q : α → Pos → Shared → Prop} {E : Value → Pos → Shared → Prop} {p : Pos} {s : Shared} {b : Array GenState}, Twin z s.gens b → wp M Γ t Q E p s → wp M Γ t (Lift z Q) (Lift z E) p (withG s b) := by
  induction t with
  | pure a => exact fun T h => ⟨_, _, rfl, T, h⟩
  | raise e => exact fun T h => ⟨_, _, rfl, T, h⟩
  | unsupported _ => exact fun _ h => h
  | finish _ => exact fun _ h => h
  | rule _ k ih => exact fun T h => ih () T h
  | «at» p' k ih => exact fun T h => ih () T h
  | load a _ k ih => exact fun T h => let ⟨o, ho, h⟩ := h; ⟨o, ho, ih o T h⟩
  | update a _ f k ih => exact fun {_ _ _ s _} T h => ⟨h.1, ih () (s := { s with heap := s.heap.update a f }) T h.2⟩
  | loadIfAlive a k ih => exact fun T h => ih _ T h
  | point _ k ih => exact fun T h => ih () T h
  | register _ _ => exact fun _ h => h
  | alloc o k ih => exact fun {_ _ _ s _} T h => ih _ (s := { s with heap := s.heap.push o }) T h
  | fresh k ih => exact fun {_ _ _ s _} T h => ih _ (s := { s with toks := s.toks + 1 }) T h
  | ask k ih => exact fun T h => ih _ T h
  | choose src m k ih => exact fun {_ _ _ s _} T h => ⟨h.1, ih _ (s := { s with drawn := s.drawn.bump src }) T h.2⟩
  | os q _ k ih => exact fun {_ _ _ s _} T h => ih _ (s := { s with os := (Os.step s.os q).1 }) T h
  | call c hd _ _ k ih =>
    intro Q E p s b T h
    obtain ⟨r, s', hr, h⟩ := h
    obtain ⟨_, b', T', r'⟩ := runs_twin hr rfl b T
    exact ⟨r, withG s' b', r', ih r T' h⟩
  | handled own k ih => exact fun T h => ih _ T h
  | genState g k ih =>
    intro Q E p s b T h
    obtain ⟨st, hs, h⟩ := h
    obtain ⟨y, hy, he⟩ := seen_of T hs
    exact ⟨y, hy, by rw [he]; exact ih _ T h⟩
  | newGen c k ih =>
    intro Q E p s b T h
    show wp M Γ (k b.size) _ _ p _
    rw [T.size]
    exact ih _ (s := { s with gens := s.gens.push (.fresh c) }) (T.push (c := c)) h
  | resume g r _ k ih =>
    intro Q E p s b T h
    obtain ⟨res, s', hw, h⟩ := h
    obtain ⟨b', T', w'⟩ := wakes_twin T hw
    exact ⟨res, withG s' b', w', ih res T' h⟩
  | yield _ _ _ _ => exact fun _ h => h
  | stack k ih => exact fun T h => ih _ T h
  | fork _ _ => exact fun _ h => h
  | thread k ih => exact fun T h => ih _ T h
  | await _ _ _ _ _ => exact fun _ h => h
noncomputable def pickZ (g : Array GenState) : Nat → Option GenState := fun i => match g[i]? with
  | some x => if sleeps x then some x else none
  | none => none
theorem twin_dead (g : Array GenState) : Twin (pickZ g) (g.map dead) g := by
  refine ⟨by rw [Array.size_map], fun i h => ?_, fun i y h => ?_, fun i k l c p fs cl h e => ?_⟩
  · rw [Array.getElem?_map]
    unfold pickZ at h
    cases q : g[i]? with
    | none => rfl
    | some x =>
      rw [q] at h
      cases x <;> first | rfl | (exact absurd h (by simp [sleeps]))
  · unfold pickZ at h
    cases q : g[i]? with
    | none => rw [q] at h; cases h
    | some x =>
      rw [q] at h
      by_cases hs : sleeps x = true
      · simp only [hs, if_true] at h
        cases h
        exact ⟨hs, by rw [Array.getElem?_map, q]; rfl, rfl⟩
      · simp only [hs] at h
        cases h
  · rw [Array.getElem?_map] at e
    unfold pickZ at h
    cases q : g[i]? with
    | none => rw [q] at e; cases e
    | some x =>
      rw [q] at h e
      cases x with
      | suspended => cases h
      | fresh => cases e
      | running => cases e
      | finished => cases e
theorem wpAny_twin {α : Type} {M : Model} {A : Around} {t : Sem α} {Q : α → Shared → Prop} {E : Value → Shared → Prop} {s : Shared} (h : wpAny M A t Q E (withG s (s.gens.map dead))) :
    wpAny M A t (fun a s' => ∃ s1, s' = withG s1 s'.gens ∧ Twin (pickZ s.gens) s1.gens s'.gens ∧ Q a s1) (fun e s' => ∃ s1, s' = withG s1 s'.gens ∧ Twin (pickZ s.gens) s1.gens s'.gens ∧ E e s1) s := fun Γ p hΓ => by
  have := wp_twin t (z := pickZ s.gens) (b := s.gens) (twin_dead s.gens) (h Γ p hΓ)
  refine Sem.wp_mono _ _ _ (fun a p' s' q => ?_) (fun a p' s' q => ?_) _ _ this
  · obtain ⟨s1, b1, rfl, T, q⟩ := q
    exact ⟨s1, rfl, T, q⟩
  · obtain ⟨s1, b1, rfl, T, q⟩ := q
    exact ⟨s1, rfl, T, q⟩
end Ga

set_option maxHeartbeats 2000000
namespace Ga
open PySem PySem.Spec PyProof.Rows L2
noncomputable def Sg (M : Model) (A : Around) (Φ : End → Shared → Prop) (c : Code) (t : Sem PySem.Fin) (fs : List Frame) (s : Shared) : Prop :=
  ∀ Γ p, Γ.code = c → Γ.Woken A → ∃ e s', Runs M Γ p t fs s e s' ∧ Φ e s'
section
variable {M : Model} {A : Around} {Φ : End → Shared → Prop} {c : Code} {fs : List Frame} {s : Shared}
theorem sg_wrap {α : Type} {m : Sem α} {K : α → Sem PySem.Fin} {J : Value → Sem PySem.Fin} {gd : Bool → Bool} {lv : List Value → List Value}
    (h : wpAny M (A.over c fs) m (fun a s' => Sg M A Φ c (K a) fs s') (fun x s' => Sg M A Φ c (J x) fs s') s) : Sg M A Φ c (m.wrap K J gd lv) fs s := fun Γ p e hΓ => by
  subst e
  exact runs_wrap_of_wp K J gd lv m (h (Γ.over fs) p (hΓ.over fs)) (fun a p' s' q => q Γ p' rfl hΓ) fun x p' s' q => q Γ p' rfl hΓ
theorem sg_at {p' : Pos} {k : Unit → Sem PySem.Fin} (h : Sg M A Φ c (k ()) fs s) : Sg M A Φ c (.at p' k) fs s :=
  sg_wrap (m := standAt p') (K := k) (J := .raise) (gd := id) (lv := id) (wpAny_standAt h)
theorem sg_point {l : List Value} {k : Unit → Sem PySem.Fin} (h : Sg M A Φ c (k ()) fs s) : Sg M A Φ c (.point l k) fs s :=
  sg_wrap (m := point) (K := k) (J := .raise) (gd := id) (lv := fun _ => l) (wpAny_point h)
theorem sg_call {c' : Code} {h : Option Value} {g : Bool} {l : List Value} {k : Result → Sem PySem.Fin} (hc : ∀ p, Sg M A Φ c' (M.den c') (.ret k h g l c p [] :: fs) s) : Sg M A Φ c (.call c' h g l k) fs s := fun Γ p e hΓ => by
  subst e
  obtain ⟨e, s', r, q⟩ := hc p (Γ.goto c') p rfl (hΓ.goto c')
  exact ⟨e, s', runs_call_seg r, q⟩
theorem sg_leaf {k : Result → Sem PySem.Fin} {h : Option Value} {g : Bool} {l kp : List Value} {c₁ : Code} {p₁ : Pos} (r : Result) (hk : Sg M A Φ c₁ (k r) fs s) : Sg M A Φ c (leafOf r) (.ret k h g l c₁ p₁ kp :: fs) s := fun Γ p e hΓ => by
  subst e
  obtain ⟨e, s', q1, q2⟩ := hk (Γ.goto c₁) p₁ rfl (hΓ.goto c₁)
  exact ⟨e, s', Runs.pop r q1, q2⟩
theorem sg_again {c' : Code} (hq : c'.quiet = true) (h : Sg M A Φ c' (M.den c') fs s) : Sg M A Φ c (.pure (.again c')) fs s := fun Γ p e hΓ => by
  subst e
  obtain ⟨e, s', q1, q2⟩ := h (Γ.goto c') p rfl (hΓ.goto c')
  exact ⟨e, s', Runs.head (c₁ := c') (fun _ _ x => .again hq x) q1, q2⟩
theorem sg_end (r : Result) (h : Φ (.ret r) s) : Sg M A Φ c (leafOf r) [] s := fun _ _ _ _ => ⟨.ret r, s, Runs.leaf r, h⟩
theorem sg_yield {v : Value} {g : Bool} {l : List Value} {k : Resume → Sem PySem.Fin} (hfs : splitAtGen fs = none) (h : ∀ p, Φ (.susp v g l k c p fs) s) : Sg M A Φ c (.yield v g l k) fs s := fun Γ p e _ => by
  subst e
  exact ⟨_, s, Runs.yield' fs hfs, h p⟩
end
noncomputable def mkO : HO → Bool
  | .frz _ (.own _) => true
  | _ => false
noncomputable def isMk : Option HO → Bool
  | some o => mkO o
  | none => false
noncomputable def um (H : Hp) : Hp := fun b => if isMk (H b) = true then none else H b
noncomputable def noT : HO → Bool
  | .dT _ => false
  | .frz _ u => noT u
  | _ => true
noncomputable def plainO : HO → Bool
  | .own _ => false
  | .frz _ (.own _) => false
  | o => noT o
structure ExpOk (B B' H : Hp) : Prop where
  grow : ∀ b o, B b = some o → B' b = some o
  here : ∀ b o, B' b = some o → H b = some o
  plain : ∀ b o, B' b = some o → plainO o = true
structure Gx where
  P : Program
  w : World
  K : PySem.W.Frag
  mg : Str → Option Value
  base : Heap
  N : List Str
  qual : Str
  scope : Scope
  f : Addr
  cd : Value
  A0 : Around
  outer : List Env
  sz : Nat
noncomputable def Gx.X (F : Gx) (s : Shared) (H : Hp) : Cx := (gcxOf F.P F.w F.K F.mg F.base F.N F.qual F.scope F.f F.cd F.A0 F.outer s H (fun _ _ _ => False) []).nox
noncomputable def Gx.env (F : Gx) : Env := envOfC F.qual F.scope F.sz F.f F.cd
noncomputable def Gx.A (F : Gx) : Around := F.A0.deeper F.env
structure Gh (F : Gx) where
  s0 : Shared
  H0 : Hp
  hs : s0.heap.objs.size = F.sz
section
variable {F : Gx}
noncomputable abbrev Gh.X (g : Gh F) : Cx := F.X g.s0 g.H0
theorem Gh.around (g : Gh F) : g.X.A = F.A := by
  show F.A0.deeper (envOfC F.qual F.scope g.s0.heap.objs.size F.f F.cd) = _
  rw [g.hs]; rfl
theorem Gh.frame (g : Gh F) : g.X.env = F.env := by
  show envOfC F.qual F.scope g.s0.heap.objs.size F.f F.cd = _
  rw [g.hs]; rfl
end
structure GI {F : Gx} (g : Gh F) (ip : List (Addr × Obj)) (σ : L2.St) (H : Hp) (s : Shared) : Prop where
  inv : L2.Inv g.X ip σ H s
  lo : ∀ p ∈ ip, F.sz ≤ p.1
structure GE where
  lim : Nat
  nx : Nat → Hp → L2.St → Hp → Prop
  rt : Nat → Hp → V → Hp → Prop
  bk : Nat → Hp → L2.St → Hp → Prop := fun _ _ _ _ => False
  ct : Nat → Hp → L2.St → Hp → Prop := fun _ _ _ _ => False
  yl : Nat → V → Hp → Prop
noncomputable abbrev TY := GE → Nat → Hp → L2.St → Hp → Prop
noncomputable def GE.at (D : GE) (j : Nat) (B : Hp) : Ends := { nx := D.nx j B, rt := D.rt j B, bk := D.bk j B, ct := D.ct j B }
noncomputable def Fini (F : Gx) (Rt : Nat → Prop) (j : Nat) (B : Hp) (g : Gh F) (r : Result) (s : Shared) : Prop :=
  r = .ok (.ret .none) ∧ Rt j ∧ ∃ σ H ip, GI g ip σ H s ∧ ∀ b o, B b = some o → H b = some o
noncomputable def Ph (F : Gx) (yl : Nat → V → Hp → Prop) (Rt : Nat → Prop) : Nat → Nat → Hp → Gh F → End → Shared → Prop
  | 0 => fun j B g e s => match e with
    | .ret r => Fini F Rt j B g r s
    | .susp .. => False
  | m + 1 => fun j B g e s => match e with
    | .ret r => Fini F Rt j B g r s
    | .susp v gd l k c p fs => (End.susp v gd l k c p fs).quiet = true ∧ ∃ x σ H ip B', GI g ip σ H s ∧ RelV x v ∧ ExpOk B B' H ∧ yl j x B' ∧
        ∀ (g' : Gh F) (s' : Shared) (H2 : Hp), um H2 = um H → GI g' ip σ H2 s' → Sg (model F.P F.w) F.A0 (Ph F yl Rt m (j + 1) B' g') c (k (.send .none)) fs s'
noncomputable def GSP (F : Gx) (ip : List (Addr × Obj)) (D : GE) (g : Gh F) (j : Nat) (B : Hp) (f : Flow) (s : Shared) : Prop :=
  match f with
  | .next => ∃ σ H, GI g ip σ H s ∧ D.nx j B σ H
  | .brk => ∃ σ H, GI g ip σ H s ∧ D.bk j B σ H
  | .cont => ∃ σ H, GI g ip σ H s ∧ D.ct j B σ H
  | .ret u => ∃ v σ H, GI g ip σ H s ∧ RelV v u ∧ D.rt j B v H
structure GC (F : Gx) (c : Code) (fs : List Frame) (gd : Bool → Bool) : Prop where
  over : F.A0.over c fs = F.A
  nog : splitAtGen fs = none
  unguarded : fs.any Frame.guarded = false
  ungd : gd false = false
noncomputable def GK (F : Gx) (ip : List (Addr × Obj)) (Rt : Nat → Prop) (c : Code) (fs : List Frame) (K : Flow → Sem PySem.Fin) (D : GE) : Prop :=
  ∀ (n j : Nat) (B : Hp) (g : Gh F) (s : Shared) (f : Flow), n + j = D.lim → GSP F ip D g j B f s → Sg (model F.P F.w) F.A0 (Ph F D.yl Rt n j B g) c (K f) fs s
noncomputable def GS (F : Gx) (st : Stmt) (t : TY) : Prop :=
  ∀ (ip : List (Addr × Obj)) (Rt : Nat → Prop) (c : Code) (fs : List Frame) (K : Flow → Sem PySem.Fin) (J : Value → Sem PySem.Fin) (gd : Bool → Bool) (lv : List Value → List Value) (D : GE) (n j : Nat) (B : Hp) (g : Gh F) (s : Shared) (σ : L2.St) (H : Hp),
    GC F c fs gd → n + j = D.lim → GK F ip Rt c fs K D → GI g ip σ H s → t D j B σ H → Sg (model F.P F.w) F.A0 (Ph F D.yl Rt n j B g) c ((exec st F.env).wrap K J gd lv) fs s
noncomputable def GSs (F : Gx) (st : List Stmt) (t : TY) : Prop :=
  ∀ (ip : List (Addr × Obj)) (Rt : Nat → Prop) (c : Code) (fs : List Frame) (K : Flow → Sem PySem.Fin) (J : Value → Sem PySem.Fin) (gd : Bool → Bool) (lv : List Value → List Value) (D : GE) (n j : Nat) (B : Hp) (g : Gh F) (s : Shared) (σ : L2.St) (H : Hp),
    GC F c fs gd → n + j = D.lim → GK F ip Rt c fs K D → GI g ip σ H s → t D j B σ H → Sg (model F.P F.w) F.A0 (Ph F D.yl Rt n j B g) c ((execs st F.env).wrap K J gd lv) fs s
section
variable {F : Gx} {st : Stmt} {rest : List Stmt}
noncomputable def yPlain (t : TS) : TY := fun D j B σ H => t (D.at j B) σ H
theorem sp_gsp {ip : List (Addr × Obj)} {D : GE} {g : Gh F} {j : Nat} {B : Hp} {f : Flow} {s : Shared} (lo : ∀ p ∈ ip, F.sz ≤ p.1) (h : SP g.X ip (D.at j B) f s) : GSP F ip D g j B f s := by
  cases f with
  | next => exact let ⟨σ, H, I, q⟩ := h; ⟨σ, H, ⟨I, lo⟩, q⟩
  | brk => exact let ⟨σ, H, I, q⟩ := h; ⟨σ, H, ⟨I, lo⟩, q⟩
  | cont => exact let ⟨σ, H, I, q⟩ := h; ⟨σ, H, ⟨I, lo⟩, q⟩
  | ret u => exact let ⟨v, σ, H, I, r, q⟩ := h; ⟨v, σ, H, ⟨I, lo⟩, r, q⟩
theorem sg_run {α : Type} {m : Env → Sem α} {K : α → Sem PySem.Fin} {J : Value → Sem PySem.Fin} {gd : Bool → Bool} {lv : List Value → List Value} {c : Code} {fs : List Frame} {gd' : Bool → Bool} {Φ : End → Shared → Prop} {s : Shared} {Q : α → Shared → Prop} (g : Gh F)
    (gc : GC F c fs gd') (h : wpAny (model g.X.prog g.X.w) g.X.A (m g.X.env) Q g.X.xe s) (k : ∀ a s', Q a s' → Sg (model F.P F.w) F.A0 Φ c (K a) fs s') : Sg (model F.P F.w) F.A0 Φ c ((m F.env).wrap K J gd lv) fs s := by
  rw [g.around, g.frame] at h
  refine sg_wrap ?_
  rw [gc.over]
  exact wpAny_mono h (fun a s' q => k a s' q) fun x s' q => False.elim q
theorem gs_plain {t : TS} (h : ∀ s H, PS (F.X s H) st t) : GS F st (yPlain t) := by
  intro ip Rt c fs K J gd lv D n j B g s σ H gc hn k I ht
  exact sg_run (m := fun env => exec st env) g gc ((h g.s0 g.H0).run _ s σ H (D.at j B) I.inv ht) fun f s' q => k n j B g s' f hn (sp_gsp I.lo q)
noncomputable def yNil : TY := fun D j B σ H => D.nx j B σ H
theorem gss_nil : GSs F [] yNil := by
  intro ip Rt c fs K J gd lv D n j B g s σ H gc hn k I ht
  exact k n j B g s .next hn ⟨σ, H, I, ht⟩
noncomputable def yThen (t u : TY) : TY := fun D j B σ H => t { D with nx := fun j' B' σ' H' => u D j' B' σ' H' } j B σ H
theorem gss_cons {t u : TY} (a : GS F st t) (b : GSs F rest u) : GSs F (st :: rest) (yThen t u) := by
  intro ip Rt c fs K J gd lv D n j B g s σ H gc hn k I ht
  rw [execs_cons_wrap]
  refine a ip Rt c fs _ J gd lv { D with nx := fun j' B' σ' H' => u D j' B' σ' H' } n j B g s σ H gc hn (fun n' j' B' g' s' f hn' q => ?_) I ht
  cases f with
  | next =>
    obtain ⟨σ', H', I', q⟩ := q
    exact b ip Rt c fs K J gd lv D n' j' B' g' s' σ' H' gc hn' k I' q
  | brk => exact k n' j' B' g' s' .brk hn' q
  | cont => exact k n' j' B' g' s' .cont hn' q
  | ret u => exact k n' j' B' g' s' (.ret u) hn' q
end
end Ga

set_option maxHeartbeats 2000000
namespace Ga
open PySem PySem.Spec PyProof.Rows L2
section
variable {F : Gx} {e : Expr} {yp pos : Pos} {te : TE}
noncomputable def yYield (te : TE) : TY := fun D j B σ H => j < D.lim ∧ te σ H fun x H1 => ∃ B', ExpOk B B' H1 ∧ D.yl j x B' ∧ ∀ H2, um H2 = um H1 → D.nx (j + 1) B' σ H2
theorem gs_yield (he : ∀ s H, PE (F.X s H) e te) (hco : F.scope.isCoroutine = false) (hi : interactive F.env = false := by rfl) : GS F (.Expr (.Yield (some e) yp) pos) (yYield te) := by
  intro ip Rt c fs K J gd lv D n j B g s σ H gc hn k I ht
  obtain ⟨hlt, ht⟩ := ht
  obtain ⟨m, rfl⟩ : ∃ m, n = m + 1 := ⟨n - 1, by omega⟩
  have hco : F.env.scope.isCoroutine = false := hco
  have out : ∀ v, yieldOut F.env v = yieldValue v := fun v => by simp only [yieldOut, hco, Bool.false_eq_true, if_false]
  rw [exec_Expr F.env _ pos hi rfl]
  show Sg _ F.A0 _ c (.at pos fun _ => ((eval e F.env >>= fun v => (standAt yp >>= fun _ => yieldOut F.env v)) >>= fun x => dropValue (.Yield (some e) yp) pos x).wrap K J gd lv) fs s
  simp only [out]
  refine sg_at ?_
  rw [Sem.bind_eq_wrap', Sem.bind_eq_wrap', Sem.wrap_wrap, Sem.wrap_wrap]
  refine sg_run (m := fun env => eval e env) g gc ((he g.s0 g.H0).run _ s σ H _ I.inv ht) fun v s' q => ?_
  obtain ⟨x, H1, I1, rv, B', ex, y, q⟩ := q
  refine sg_at (sg_yield gc.nog fun p => ⟨?_, x, σ, H1, ip, B', ⟨I1, I.lo⟩, rv, ex, y, fun g' s'' H2 u I' => ?_⟩)
  · show (!(gd false || fs.any Frame.guarded)) = true
    rw [gc.ungd, gc.unguarded]; rfl
  · exact k m (j + 1) B' g' s'' .next (by omega) ⟨σ, H2, I', q H2 u⟩
end
section
variable {F : Gx} {Φ : End → Shared → Prop} {fs : List Frame} {s : Shared} {test : Expr} {body : List Stmt}
theorem sg_turn (h : wpAny (model F.P F.w) (F.A0.over (.whileLoop test body [] F.env) fs) (isTrue test F.env (eval test F.env)) (fun b s' => (b = true → ∀ (K : Flow → Sem PySem.Fin) (J : Value → Sem PySem.Fin), K .next = .pure (.again (.whileLoop test body [] F.env)) → K .cont = .pure (.again (.whileLoop test body [] F.env)) →
      K .brk = .pure (.done .next) → (∀ v, K (.ret v) = .pure (.done (.ret v))) → Sg (model F.P F.w) F.A0 Φ (.whileLoop test body [] F.env) ((execs body F.env).wrap K J id id) fs s') ∧
      (b = false → Sg (model F.P F.w) F.A0 Φ (.whileLoop test body [] F.env) (.pure (.done .next)) fs s')) (fun _ _ => False) s) :
    Sg (model F.P F.w) F.A0 Φ (.whileLoop test body [] F.env) ((model F.P F.w).den (.whileLoop test body [] F.env)) fs s := by
  show Sg _ F.A0 Φ _ ((whileTurn test body [] F.env).onRaise (fun x => do noteFrame x F.env; theTreesLotGoes x)) fs s
  unfold whileTurn
  rw [Sem.onRaise_eq_wrap, Sem.bind_eq_wrap', Sem.wrap_wrap]
  refine sg_wrap (wpAny_mono h (fun b s' hb => ?_) fun x s' hx => False.elim hx)
  cases b with
  | true =>
    show Sg _ F.A0 Φ _ (Sem.wrap _ _ _ _ (if true = true then _ else _)) fs s'
    rw [if_pos rfl, Sem.bind_eq_wrap', Sem.wrap_wrap]
    exact hb.1 rfl _ _ rfl rfl rfl fun _ => rfl
  | false => exact hb.2 rfl
end
section
variable {F : Gx} {test : Expr} {body : List Stmt} {pos : Pos} {tc : TT} {tb : TY}
noncomputable def yWhile (c : TT) (tb : TY) : TY := fun D j B σ H => ∃ W : Nat → Nat → Hp → L2.St → Hp → Prop, (∃ m, W m j B σ H) ∧ ∀ m j B σ H, W m j B σ H →
  c σ H fun b H1 => if b = true then ∃ N : Nat → Hp → L2.St → Hp → Prop, (∀ j' B' σ' H', N j' B' σ' H' → ∃ m', m' < m ∧ W m' j' B' σ' H') ∧ tb { D with nx := N, ct := N, bk := D.nx } j B σ H1 else D.nx j B σ H1
theorem gc_deep {c c' : Code} {fs : List Frame} {gd : Bool → Bool} {k : Result → Sem PySem.Fin} {l kp : List Value} {p : Pos} (gc : GC F c fs gd) (hw : c'.weight = 0) (hu : c'.cUnits = 0) : GC F c' (.ret k none (gd false) l c p kp :: fs) id :=
  ⟨(GenW.over_loop hw hu).trans gc.over, by show (splitAtGen fs).map _ = none; rw [gc.nog]; rfl, by show (gd false || fs.any Frame.guarded) = false; rw [gc.ungd, gc.unguarded]; rfl, rfl⟩
theorem gs_while (hc : ∀ s H, PT (F.X s H) test tc) (hb : GSs F body tb) : GS F (.While test body [] pos) (yWhile tc tb) := by
  intro ip Rt c fs K J gd lv D n j B g s σ H gc hn k I ht
  obtain ⟨W, ⟨m0, w0⟩, turn⟩ := ht
  refine sg_at (sg_call fun p => ?_)
  have go : ∀ (m n j : Nat) (B : Hp) (g : Gh F) (s : Shared) (σ : L2.St) (H : Hp) (kk : Result → Sem PySem.Fin), (∀ f n' j' B' (g' : Gh F) s', n' + j' = D.lim → (f = .next ∨ ∃ v, f = .ret v) → GSP F ip D g' j' B' f s' → Sg (model F.P F.w) F.A0 (Ph F D.yl Rt n' j' B' g') c (kk (.ok f)) fs s') →
      n + j = D.lim → W m j B σ H → GI g ip σ H s → Sg (model F.P F.w) F.A0 (Ph F D.yl Rt n j B g) (.whileLoop test body [] F.env) ((model F.P F.w).den (.whileLoop test body [] F.env)) (.ret kk none (gd false) (lv []) c p [] :: fs) s := by
    intro m
    induction m using Nat.strongRecOn with
    | ind m ih =>
      intro n j B g s σ H kk hk hn w I
      have gl : GC F (.whileLoop test body [] F.env) (.ret kk none (gd false) (lv []) c p [] :: fs) id := gc_deep gc rfl rfl
      refine sg_turn ?_
      have r := (hc g.s0 g.H0).run _ s σ H _ I.inv (turn m j B σ H w)
      rw [g.around, g.frame] at r
      rw [gl.over]
      refine wpAny_mono r (fun b s' q => ?_) fun _ _ q => False.elim q
      obtain ⟨H2, I2, q⟩ := q
      have I2 : GI g ip σ H2 s' := ⟨I2, I.lo⟩
      refine ⟨fun hbt K' J' k1 k2 k3 k4 => ?_, fun hbf => ?_⟩
      · subst hbt
        rw [if_pos rfl] at q
        obtain ⟨N, hN, q⟩ := q
        refine hb ip Rt _ _ K' J' id id { D with nx := N, ct := N, bk := D.nx } n j B g s' σ H2 gl hn (fun n' j' B' g' s3 f hn' hs => ?_) I2 q
        cases f with
        | next =>
          obtain ⟨σ3, H3, I3, n3⟩ := hs
          obtain ⟨m', hm, w3⟩ := hN j' B' σ3 H3 n3
          rw [k1]
          exact sg_again rfl (ih m' hm n' j' B' g' s3 σ3 H3 kk hk hn' w3 I3)
        | cont =>
          obtain ⟨σ3, H3, I3, n3⟩ := hs
          obtain ⟨m', hm, w3⟩ := hN j' B' σ3 H3 n3
          rw [k2]
          exact sg_again rfl (ih m' hm n' j' B' g' s3 σ3 H3 kk hk hn' w3 I3)
        | brk =>
          rw [k3]
          exact sg_leaf (.ok .next) (hk .next n' j' B' g' s3 hn' (.inl rfl) hs)
        | ret v =>
          rw [k4]
          exact sg_leaf (.ok (.ret v)) (hk (.ret v) n' j' B' g' s3 hn' (.inr ⟨v, rfl⟩) hs)
      · subst hbf
        rw [if_neg Bool.false_ne_true] at q
        exact sg_leaf (.ok .next) (hk .next n j B g s' hn (.inl rfl) ⟨σ, H2, I2, q⟩)
  refine go m0 n j B g s σ H _ (fun f n' j' B' g' s' hn' hf hs => ?_) hn w0 I
  rcases hf with rfl | ⟨v, rfl⟩
  · exact k n' j' B' g' s' .next hn' hs
  · exact k n' j' B' g' s' (.ret v) hn' hs
end
end Ga

set_option maxHeartbeats 2000000
namespace Ga
open PySem
open Sem (wp)
noncomputable def Gone (a b : Heap) : Prop := a.objs.size ≤ b.objs.size ∧ ∀ i, i < a.objs.size → a.get? i = none → b.get? i = none
theorem Gone.refl {a : Heap} : Gone a a := ⟨Nat.le_refl _, fun _ _ z => z⟩
theorem Gone.trans {a b c : Heap} (x : Gone a b) (y : Gone b c) : Gone a c := ⟨Nat.le_trans x.1 y.1, fun i hi z => y.2 i (Nat.lt_of_lt_of_le hi x.1) (x.2 i hi z)⟩
theorem gone_push {a : Heap} {o : Obj} : Gone a (a.push o) := by
  refine ⟨by rw [Heap.size_push]; exact Nat.le_succ _, fun i hi z => ?_⟩
  obtain ⟨objs, l⟩ := a
  have hi : i < objs.size := hi
  show Heap.get? ⟨objs.push o, l⟩ i = none
  unfold Heap.get? at *
  rw [show (objs.push o)[i]? = objs[i]? by rw [Array.getElem?_push, if_neg (Nat.ne_of_lt hi)]]
  exact z
theorem gone_up {a : Heap} {x : Addr} {f : Obj → Obj} (hx : (a.get? x).isSome = true) : Gone a (a.update x f) := by
  refine ⟨by rw [Heap.size_update]; exact Nat.le_refl _, fun i hi z => ?_⟩
  by_cases e : i = x
  · subst e; rw [z] at hx; cases hx
  · rw [Heap.get?_update_other _ _ (Ne.symm e)]; exact z
theorem runs_gone {M : Model} {Γ : Ctx} {p : Pos} {t : Sem PySem.Fin} {fs : List Frame} {s s' : Shared} {e : End} (h : Runs M Γ p t fs s e s') : Gone s.heap s'.heap := by
  induction h with
  | done => exact .refl
  | raise => exact .refl
  | again _ _ ih => exact ih
  | rule _ ih => exact ih
  | «at» _ ih => exact ih
  | load _ _ ih => exact ih
  | update ho _ ih => exact (gone_up ho).trans ih
  | loadIfAlive _ ih => exact ih
  | point _ ih => exact ih
  | alloc _ ih => exact gone_push.trans ih
  | fresh _ ih => exact ih
  | ask _ ih => exact ih
  | choose _ _ ih => exact ih
  | os _ ih => exact ih
  | handled _ ih => exact ih
  | genState _ _ ih => exact ih
  | stack _ ih => exact ih
  | thread _ ih => exact ih
  | newGen _ ih => exact ih
  | call _ _ i1 i2 => exact i1.trans i2
  | callSusp _ ih => exact ih
  | yield => exact .refl
  | resumeFresh _ _ _ _ i1 i2 => exact i1.trans i2
  | resumeSuspended _ _ _ _ i1 i2 => exact i1.trans i2
  | resumeJustStarted _ _ _ ih => exact ih
  | resumeThrowFresh _ _ ih => exact ih
  | resumeRunning _ _ ih => exact ih
  | resumeFinished _ _ ih => exact ih
  | segRet _ _ i1 i2 => exact i1.trans i2
  | segGen _ _ i1 i2 => exact i1.trans i2
  | segSuspOut _ _ ih => exact ih
  | segSuspGen _ _ _ _ i1 i2 => exact i1.trans i2
theorem wakes_gone {M : Model} {Γ : Ctx} {p : Pos} {g : Nat} {r : Resume} {s s' : Shared} {res : GenResult} (h : Wakes M Γ p g r s res s') : Gone s.heap s'.heap := by
  unfold Wakes at h
  split at h
  · exact h.elim
  · split at h
    · obtain ⟨e₁, s₁, hr, _, _, rfl⟩ := h
      exact (show Gone (s.setGen g .running).heap s₁.heap from runs_gone hr)
    · rw [h.2]; exact .refl
    · rw [h.2]; exact .refl
  · obtain ⟨e₁, s₁, hr, _, _, rfl⟩ := h
    exact (show Gone (s.setGen g .running).heap s₁.heap from runs_gone hr)
  · rw [h.2]; exact .refl
  · rw [h.2]; exact .refl
theorem wp_gone {α : Type} {M : Model} {Γ : Ctx} {z : Heap} (t : Sem α) : ∀ {Q : α → Pos → Shared → Prop} {E : Value → Pos → Shared → Prop} {p : Pos} {s : Shared}, Gone z s.heap → wp M Γ t Q E p s →
    wp M Γ t (fun a q s' => Gone z s'.heap ∧ Q a q s') (fun e q s' => Gone z s'.heap ∧ E e q s') p s := by
  induction t with
  | pure a => exact fun T h => ⟨T, h⟩
  | raise e => exact fun T h => ⟨T, h⟩
  | unsupported _ => exact fun _ h => h
  | finish _ => exact fun _ h => h
  | rule _ k ih => exact fun T h => ih () T h
  | «at» p' k ih => exact fun T h => ih () T h
  | load a _ k ih => exact fun T h => let ⟨o, ho, h⟩ := h; ⟨o, ho, ih o T h⟩
  | update a _ f k ih => exact fun {_ _ _ s} T h => ⟨h.1, ih () (s := { s with heap := s.heap.update a f }) (T.trans (gone_up h.1)) h.2⟩
  | loadIfAlive a k ih => exact fun T h => ih _ T h
  | point _ k ih => exact fun T h => ih () T h
  | register _ _ => exact fun _ h => h
  | alloc o k ih => exact fun {_ _ _ s} T h => ih _ (s := { s with heap := s.heap.push o }) (T.trans gone_push) h
  | fresh k ih => exact fun {_ _ _ s} T h => ih _ (s := { s with toks := s.toks + 1 }) T h
  | ask k ih => exact fun T h => ih _ T h
  | choose src m k ih => exact fun {_ _ _ s} T h => ⟨h.1, ih _ (s := { s with drawn := s.drawn.bump src }) T h.2⟩
  | os q _ k ih => exact fun {_ _ _ s} T h => ih _ (s := { s with os := (Os.step s.os q).1 }) T h
  | call c hd _ _ k ih => exact fun T h => let ⟨r, s', hr, h⟩ := h; ⟨r, s', hr, ih r (T.trans (runs_gone hr)) h⟩
  | handled own k ih => exact fun T h => ih _ T h
  | genState g k ih => exact fun T h => let ⟨st, hs, h⟩ := h; ⟨st, hs, ih _ T h⟩
  | newGen c k ih => exact fun {_ _ _ s} T h => ih _ (s := { s with gens := s.gens.push (.fresh c) }) T h
  | resume g r _ k ih => exact fun T h => let ⟨res, s', hw, h⟩ := h; ⟨res, s', hw, ih res (T.trans (wakes_gone hw)) h⟩
  | yield _ _ _ _ => exact fun _ h => h
  | stack k ih => exact fun T h => ih _ T h
  | fork _ _ => exact fun _ h => h
  | thread k ih => exact fun T h => ih _ T h
  | await _ _ _ _ _ => exact fun _ h => h
theorem wpAny_gone {α : Type} {M : Model} {A : Around} {t : Sem α} {Q : α → Shared → Prop} {E : Value → Shared → Prop} {s : Shared} (h : wpAny M A t Q E s) :
    wpAny M A t (fun a s' => Gone s.heap s'.heap ∧ Q a s') (fun e s' => Gone s.heap s'.heap ∧ E e s') s := fun Γ p hΓ => wp_gone t .refl (h Γ p hΓ)
theorem Gone.was {a b : Heap} (x : Gone a b) {i : Addr} {o : Obj} (h : b.get? i = some o) (hi : i < a.objs.size) : ∃ u, a.get? i = some u := by
  cases q : a.get? i with
  | some u => exact ⟨u, rfl⟩
  | none => rw [x.2 i hi q] at h; cases h
end Ga

set_option maxHeartbeats 2000000
namespace Ga
open PySem PySem.Spec PyProof.Rows L2
noncomputable def dxOf : HO → Option Addr
  | .ins _ dx _ => some dx
  | .frz _ u => dxOf u
  | _ => none
theorem plain_mk {o : HO} (h : plainO o = true) : mkO o = false := by
  cases o with
  | frz ob u => cases u <;> first | rfl | cases h
  | _ => rfl
theorem plain_noT {o : HO} (h : plainO o = true) : noT o = true := by
  cases o with
  | frz ob u => cases u <;> first | exact h | cases h
  | _ => first | rfl | exact h
section
variable {P : Program} {w : World} {H H' B B' A : Hp} {h h' : Heap} {a b : Addr} {o : HO}
theorem ok_dx (x : ObjOk P w H h a o) {dx : Addr} (e : dxOf o = some dx) : H dx = some (.own a) := by
  induction o with
  | ins C d fs => cases e; exact x.1
  | frz ob u ih => exact ih x.2 e
  | _ => cases e
theorem ok_there (x : ObjOk P w H h a o) : ∃ u, h.get? a = some u := by
  induction o with
  | lst xs => obtain ⟨_, _, _, _, e⟩ := x; exact ⟨_, e⟩
  | tup xs => obtain ⟨_, _, _, ob, e, _⟩ := x; exact ⟨_, e⟩
  | dK kvs => obtain ⟨_, _, _, _, o, _, _, e, _⟩ := x; exact ⟨_, e⟩
  | dT kvs => obtain ⟨_, _, _, _, o, _, _, e, _⟩ := x; exact ⟨_, e⟩
  | set S n => obtain ⟨_, _, _, o, e, _⟩ := x; exact ⟨_, e⟩
  | ins C dx fs => obtain ⟨_, _, _, e, _⟩ := x; exact ⟨_, e⟩
  | own y => exact x
  | xd fs => obtain ⟨_, ⟨_, _, _, e, _⟩, _⟩ := x; exact ⟨_, e⟩
  | met f y => exact ⟨_, x⟩
  | rng lo hi => obtain ⟨_, _, _, e⟩ := x; exact ⟨_, e⟩
  | frz ob u ih => exact ⟨_, x.1⟩
  | tbl ps => exact ⟨_, x⟩
  | ext φ => exact x.2.1
theorem ok_link (x : ObjOk P w H h a o) (ho : ∀ dx, dxOf o = some dx → H dx = some (.own a) → H' dx = some (.own a)) (ht : ∀ c xs, H c = some (.tup xs) → H' c = some (.tup xs)) : ObjOk P w H' h a o := by
  induction o with
  | ins C dx fs => exact ⟨ho dx rfl x.1, x.2⟩
  | dT kvs =>
    obtain ⟨z1, z2, xs, r, q⟩ := x
    refine ⟨z1, z2, xs, ?_, q⟩
    clear q z1 z2 ho
    induction r with
    | nil => exact .nil
    | cons p _ ih => exact .cons ⟨p.1, ht _ _ p.2.1, p.2.2⟩ ih
  | frz ob u ih => exact ⟨x.1, ih x.2 ho⟩
  | lst xs => exact x
  | tup xs => exact x
  | dK kvs => exact x
  | set S n => exact x
  | own y => exact x
  | xd fs => exact x
  | met f y => exact x
  | rng lo hi => exact x
  | tbl ps => exact x
  | ext φ => exact x
theorem ok_noT (x : ObjOk P w H h a o) (n : noT o = true) (ho : ∀ dx, dxOf o = some dx → H' dx = some (.own a)) : ObjOk P w H' h a o := by
  induction o with
  | ins C dx fs => exact ⟨ho dx rfl, x.2⟩
  | dT kvs => cases n
  | frz ob u ih => exact ⟨x.1, ih x.2 n ho⟩
  | lst xs => exact x
  | tup xs => exact x
  | dK kvs => exact x
  | set S n => exact x
  | own y => exact x
  | xd fs => exact x
  | met f y => exact x
  | rng lo hi => exact x
  | tbl ps => exact x
  | ext φ => exact x
noncomputable def Ex (B H : Hp) (b : Addr) : Prop := (∃ x o, H b = some (.own x) ∧ B x = some o ∧ dxOf o = some b) ∨ B b ≠ none
open Classical in
noncomputable def clo (B H : Hp) : Hp := fun b => if Ex B H b then H b else none
theorem clo_ex (h : Ex B H b) : clo B H b = H b := by unfold clo; rw [if_pos h]
theorem clo_no (h : ¬ Ex B H b) : clo B H b = none := by unfold clo; rw [if_neg h]
theorem clo_sub (e : clo B H b = some o) : H b = some o ∧ Ex B H b := by
  unfold clo at e
  split at e
  · rename_i q; exact ⟨e, q⟩
  · cases e
theorem clo_has (hB : ∀ b o, B b = some o → H b = some o) (e : B b = some o) : clo B H b = some o := by
  rw [clo_ex (.inr (by rw [e]; exact fun z => nomatch z))]; exact hB b o e
theorem clo_own (hB : ∀ b o, B b = some o → H b = some o) (hp : ∀ b o, B b = some o → plainO o = true) {x : Addr} (e : clo B H x = some o) {dx : Addr} (d : dxOf o = some dx) (q : H dx = some (.own x)) : clo B H dx = some (.own x) := by
  obtain ⟨e1, ex⟩ := clo_sub e
  rw [clo_ex ?_, q]
  rcases ex with ⟨y, u, z, _⟩ | z
  · rw [z] at e1; cases e1; cases d
  · refine .inl ⟨x, o, q, ?_, d⟩
    cases r : B x with
    | none => exact (z r).elim
    | some v => have := hB x v r; rw [e1] at this; cases this; rfl
theorem clo_mono (ok' : HOk P w H' h') (hB : ∀ b o, B b = some o → H b = some o) (hg : ∀ b o, B b = some o → B' b = some o) (hB' : ∀ b o, B' b = some o → H' b = some o) (e : clo B H b = some o) : clo B' H' b = some o := by
  obtain ⟨e1, ex⟩ := clo_sub e
  rcases ex with ⟨y, u, z, z2, z3⟩ | z
  · rw [z] at e1; cases e1
    have q2 := hg y u z2
    have q := ok_dx (ok' y u (hB' y u q2)) z3
    rw [clo_ex (.inl ⟨y, u, q, q2, z3⟩), q]
  · cases r : B b with
    | none => exact (z r).elim
    | some v =>
      have := hB b v r; rw [e1] at this; cases this
      exact clo_has hB' (hg b o r)
theorem clo_none (e : H b = none) : clo B H b = none := by
  unfold clo
  split
  · exact e
  · rfl
theorem clo_noT (hp : ∀ b o, B b = some o → plainO o = true) (hB : ∀ b o, B b = some o → H b = some o) (e : clo B H b = some o) : noT o = true := by
  obtain ⟨e1, ex⟩ := clo_sub e
  rcases ex with ⟨y, u, z, _⟩ | z
  · rw [z] at e1; cases e1; rfl
  · cases r : B b with
    | none => exact (z r).elim
    | some v =>
      have := hB b v r; rw [e1] at this; cases this
      exact plain_noT (hp b o r)
theorem clo_back (hp : ∀ b o, B b = some o → plainO o = true) (hB : ∀ b o, B b = some o → H b = some o) {c : Addr} (e : clo B H c = some (.own b)) : clo B H b ≠ none := by
  obtain ⟨e1, ex⟩ := clo_sub e
  rcases ex with ⟨y, u, z, z2, z3⟩ | z
  · rw [e1] at z; cases z
    rw [clo_has hB z2]; exact fun z => nomatch z
  · cases r : B c with
    | none => exact (z r).elim
    | some v =>
      have := hB c v r; rw [e1] at this; cases this
      exact absurd (show false = true from hp c _ r) (by decide)
theorem clo_ok (ok : HOk P w H h) (hB : ∀ b o, B b = some o → H b = some o) (hp : ∀ b o, B b = some o → plainO o = true) : HOk P w (clo B H) h := fun b o e =>
  ok_noT (ok b o (clo_sub e).1) (clo_noT hp hB e) fun dx d => clo_own hB hp e d (ok_dx (ok b o (clo_sub e).1) d)
theorem clo_unmarked (hp : ∀ b o, B b = some o → plainO o = true) (hB : ∀ b o, B b = some o → H b = some o) (e : clo B H b = some o) : mkO o = false := by
  obtain ⟨e1, ex⟩ := clo_sub e
  rcases ex with ⟨y, u, z, _⟩ | z
  · rw [z] at e1; cases e1; rfl
  · cases r : B b with
    | none => exact (z r).elim
    | some v =>
      have := hB b v r; rw [e1] at this; cases this
      have := hp b o r
      exact plain_mk this
theorem um_none (e : H b = none) : um H b = none := by unfold um; rw [e]; rfl
theorem um_mk (e : H b = some o) (m : mkO o = true) : um H b = none := by unfold um; rw [e]; exact if_pos m
theorem um_some (e : H b = some o) (m : mkO o = false) : um H b = some o := by unfold um; rw [e]; exact if_neg (by rw [show isMk (some o) = mkO o from rfl, m]; exact fun z => nomatch z)
theorem of_um (e : um H b = some o) : H b = some o ∧ mkO o = false := by
  unfold um at e
  split at e
  · cases e
  · rename_i q
    refine ⟨e, ?_⟩
    rw [e] at q
    cases m : mkO o with
    | false => rfl
    | true => exact (q m).elim
theorem um_ok (ok : HOk P w H h) : HOk P w (um H) h := fun b o e =>
  ok_link (ok b o (of_um e).1) (fun dx _ q => um_some q rfl) fun c xs q => um_some q rfl
theorem um_um : um (um H) = um H := by
  funext b
  cases q : um H b with
  | none => exact um_none q
  | some o => exact um_some q (of_um q).2
noncomputable def umz (sz : Nat) (H : Hp) : Hp := fun b => if sz ≤ b then um H b else H b
theorem umz_lt {sz : Nat} (h : b < sz) : umz sz H b = H b := by unfold umz; rw [if_neg (Nat.not_le.mpr h)]
theorem umz_ge {sz : Nat} (h : sz ≤ b) : umz sz H b = um H b := by unfold umz; rw [if_pos h]
theorem umz_sub {sz : Nat} (e : umz sz H b = some o) : H b = some o := by
  by_cases q : sz ≤ b
  · rw [umz_ge q] at e; exact (of_um e).1
  · rw [umz_lt (Nat.lt_of_not_le q)] at e; exact e
theorem umz_keep {sz : Nat} (e : H b = some o) (m : mkO o = false) : umz sz H b = some o := by
  by_cases q : sz ≤ b
  · rw [umz_ge q]; exact um_some e m
  · rw [umz_lt (Nat.lt_of_not_le q)]; exact e
theorem umz_ok {sz : Nat} (ok : HOk P w H h) : HOk P w (umz sz H) h := fun b o e =>
  ok_link (ok b o (umz_sub e)) (fun dx _ q => umz_keep q rfl) fun c xs q => umz_keep q rfl
noncomputable def fz (sz : Nat) (kp : List Addr) (h : Heap) (H : Hp) : Hp := fun b => match H b with
  | some o => some o
  | none => if sz ≤ b ∧ b ∉ kp then (h.get? b).map fun o => .frz o (.own 0) else none
theorem fz_some {sz : Nat} {kp : List Addr} (e : H b = some o) : fz sz kp h H b = some o := by unfold fz; rw [e]
theorem fz_lt {sz : Nat} {kp : List Addr} (hb : b < sz) : fz sz kp h H b = H b := by
  unfold fz
  cases q : H b with
  | some o => rfl
  | none => exact if_neg fun z => Nat.not_le.mpr hb z.1
theorem fz_kp {sz : Nat} {kp : List Addr} (hb : b ∈ kp) : fz sz kp h H b = H b := by
  unfold fz
  cases q : H b with
  | some o => rfl
  | none => exact if_neg fun z => z.2 hb
theorem fz_mk {sz : Nat} {kp : List Addr} {u : Obj} (e : H b = none) (hb : sz ≤ b) (hk : b ∉ kp) (hu : h.get? b = some u) : fz sz kp h H b = some (.frz u (.own 0)) := by
  unfold fz; rw [e]; show (if _ then _ else _) = _; rw [if_pos ⟨hb, hk⟩, hu]; rfl
theorem of_fz {sz : Nat} {kp : List Addr} (e : fz sz kp h H b = some o) : H b = some o ∨ (H b = none ∧ sz ≤ b ∧ b ∉ kp ∧ ∃ u, h.get? b = some u ∧ o = .frz u (.own 0)) := by
  unfold fz at e
  cases q : H b with
  | some v => rw [q] at e; exact .inl e
  | none =>
    rw [q] at e
    refine .inr ⟨rfl, ?_⟩
    dsimp only at e
    split at e
    · rename_i z
      cases r : h.get? b with
      | none => rw [r] at e; cases e
      | some u => rw [r] at e; cases e; exact ⟨z.1, z.2, u, rfl, rfl⟩
    · cases e
theorem fz_ok {sz : Nat} {kp : List Addr} (ok : HOk P w H h) : HOk P w (fz sz kp h H) h := fun b o e => by
  rcases of_fz e with q | ⟨_, _, _, u, hu, rfl⟩
  · exact ok_link (ok b o q) (fun dx _ r => fz_some r) fun c xs r => fz_some r
  · exact ⟨hu, u, hu⟩
theorem fz_um {sz : Nat} {kp : List Addr} (hm : um H = H) : um (fz sz kp h H) = H := by
  funext b
  cases q : H b with
  | some o =>
    have : um H b = some o := by rw [hm]; exact q
    exact um_some (fz_some q) (of_um this).2
  | none =>
    cases r : fz sz kp h H b with
    | none => exact um_none r
    | some o =>
      rcases of_fz r with z | ⟨_, _, _, u, _, rfl⟩
      · rw [q] at z; cases z
      · exact um_mk r rfl
noncomputable def jn (A B : Hp) : Hp := fun b => match A b with
  | some o => some o
  | none => B b
theorem jn_l (e : A b = some o) : jn A B b = some o := by unfold jn; rw [e]
theorem jn_r (e : A b = none) : jn A B b = B b := by unfold jn; rw [e]
theorem of_jn (e : jn A B b = some o) : A b = some o ∨ (A b = none ∧ B b = some o) := by
  cases q : A b with
  | some v => rw [jn_l q] at e; exact .inl e
  | none => rw [jn_r q] at e; exact .inr ⟨rfl, e⟩
end
end Ga

set_option maxHeartbeats 2000000
namespace Ga
open PySem PySem.Spec PyProof.Rows L2
noncomputable def cutH (n : Nat) (h : Heap) : Heap := ⟨h.objs.extract 0 n, h.life⟩
theorem cutH_size {n : Nat} {h : Heap} (hn : n ≤ h.objs.size) : (cutH n h).objs.size = n := by
  show (h.objs.extract 0 n).size = n
  rw [Array.size_extract]; omega
theorem cutH_get {n : Nat} {h : Heap} {b : Addr} (hb : b < n) (hn : n ≤ h.objs.size) : (cutH n h).get? b = h.get? b := by
  unfold Heap.get?
  have e : (cutH n h).objs[b]? = h.objs[b]? := by
    show (h.objs.extract 0 n)[b]? = _
    have hb2 : b < h.objs.size := Nat.lt_of_lt_of_le hb hn
    rw [Array.getElem?_extract, Nat.min_eq_left hn, if_pos (by exact hb), Nat.zero_add]
  rw [e]
theorem cutH_sub {n : Nat} {h : Heap} {b : Addr} {o : Obj} (hn : n ≤ h.objs.size) (e : (cutH n h).get? b = some o) : h.get? b = some o := by
  have hb : b < n := by have := Heap.lt_size e; rw [cutH_size hn] at this; exact this
  rw [← cutH_get hb hn]; exact e
structure NoC (F : Gx) : Prop where
  kind : F.scope.kind = .function
  nc : ∀ y ∈ F.scope.names, y.2 ≠ .cell
  nf : ∀ y ∈ F.scope.names, y.2 ≠ .free
theorem cells_nil : ∀ (ns : List (Str × NameKind)) (n : Nat), (∀ y ∈ ns, y.2 ≠ .cell) → cellsFrom n ns [] = []
  | [], _, _ => rfl
  | (x, k) :: r, n, h => by
    have hk : k ≠ .cell := h (x, k) List.mem_cons_self
    have hb : (k == NameKind.cell) = false := by cases k <;> first | rfl | exact absurd rfl hk
    unfold cellsFrom
    rw [if_neg (by rw [hb]; exact fun z => nomatch z)]
    exact cells_nil r n fun y hy => h y (List.mem_cons_of_mem _ hy)
section
variable {F : Gx}
theorem NoC.cell (N : NoC F) {x : Str} {c : Addr} (h : F.env.cells.lookup x = some c) : False := by
  have e : F.env.cells = [] := cells_nil F.scope.names (F.sz + 1) N.nc
  rw [e] at h; cases h
theorem NoC.kindOf (N : NoC F) {x : Str} (h : F.env.kindOf x = some .cell ∨ F.env.kindOf x = some .free) : False := by
  rcases h with h | h
  · exact N.nc _ (PySem.mem_of_lookup h) rfl
  · exact N.nf _ (PySem.mem_of_lookup h) rfl
structure Asl (F : Gx) (ip : List (Addr × Obj)) (σ : L2.St) (Hg : Hp) (h : Heap) : Prop where
  um : um Hg = Hg
  ok : HOk F.P F.w Hg h
  loc : ∃ m, h.Ns F.sz m ∧ ∀ (i : Nat) (x : Str) (v : V), F.N[i]? = some x → σ[i]? = some (some v) → Vis F.scope x → ∃ u, RelV v u ∧ F.env.kindOf x = some .local ∧ m x = some u
  free : Hg F.sz = none
  pin : ∀ p ∈ ip, h.get? p.1 = some p.2 ∧ Hg p.1 = none ∧ p.1 ≠ F.sz ∧ p.1 ∉ frs F.outer ∧ ∀ v, p.2.data ≠ .cell v
  lo : ∀ p ∈ ip, F.sz ≤ p.1
  len : σ.length = F.N.length
theorem asl_of (N : NoC F) {g : Gh F} {ip : List (Addr × Obj)} {σ : L2.St} {H : Hp} {s : Shared} (I : GI g ip σ H s) : Asl F ip σ (Ga.um H) s.heap := by
  have J := I.inv
  refine ⟨um_um, um_ok J.hok, ?_, um_none ?_, fun p hp => ?_, I.lo, J.len⟩
  · obtain ⟨m, hn, hl⟩ := J.loc
    rw [g.frame] at hn hl
    refine ⟨m, hn, fun i x v e1 e2 e3 => ?_⟩
    obtain ⟨u, r, l⟩ := hl i x v e1 e2 e3
    rcases l with l | ⟨k, _⟩
    · exact ⟨u, r, l⟩
    · exact (N.kindOf k).elim
  · have := J.free
    rw [g.frame] at this
    exact this
  · obtain ⟨e, n, ne, nf, d⟩ := J.pin p (List.mem_append_right _ hp)
    rw [g.frame] at ne
    exact ⟨e, um_none n, ne, nf, d⟩
theorem Asl.move {ip : List (Addr × Obj)} {σ : L2.St} {Hg B : Hp} {h h' : Heap} (a : Asl F ip σ Hg h) (hB : ∀ b o, B b = some o → Hg b = some o) (hp : ∀ b o, B b = some o → plainO o = true)
    (k1 : ∀ b o, (b = F.sz ∨ b ∈ ip.map (·.1) ∨ (Hg b ≠ none ∧ clo B Hg b = none)) → h.get? b = some o → h'.get? b = some o) (k2 : ∀ b o, clo B Hg b = some o → ObjOk F.P F.w Hg h' b o) : Asl F ip σ Hg h' := by
  refine ⟨a.um, fun b o e => ?_, ?_, a.free, fun p hp => ?_, a.lo, a.len⟩
  · cases q : clo B Hg b with
    | some u =>
      have e2 := (clo_sub q).1
      rw [e] at e2; cases e2
      exact k2 b o q
    | none =>
      refine (a.ok b o e).stay (fun c v hc r => k1 c v (.inr (.inr ?_)) r) (fun _ r => r) fun _ _ r => r
      rcases hc with rfl | hc
      · exact ⟨by rw [e]; exact (fun z => nomatch z), q⟩
      · refine ⟨by rw [hc]; exact (fun z => nomatch z), ?_⟩
        refine clo_no fun z => ?_
        rcases z with ⟨y, u, z, z2, z3⟩ | z
        · rw [hc] at z; cases z
          rw [clo_ex (.inr (by rw [z2]; exact fun z => nomatch z)), e] at q
          cases q
        · cases r : B c with
          | none => exact z r
          | some v =>
            have e3 := hB c v r
            rw [hc] at e3; cases e3
            exact absurd (show false = true from hp c _ r) (by decide)
  · obtain ⟨m, ⟨o, es, ep, ho, r⟩, hl⟩ := a.loc
    exact ⟨m, ⟨o, es, ep, k1 _ o (.inl rfl) ho, r⟩, hl⟩
  · obtain ⟨e, q⟩ := a.pin p hp
    exact ⟨k1 _ _ (.inr (.inl (List.mem_map_of_mem hp))) e, q⟩
end
noncomputable def gxOf (X : Cx) (N : List Str) (qual : Str) (scope : Scope) (f : Addr) (cd : Value) (A0 : Around) (sz : Nat) : Gx :=
  { P := X.prog, w := X.w, K := X.K, mg := X.mg, base := X.base, N := N, qual := qual, scope := scope, f := f, cd := cd, A0 := A0, outer := X.stack, sz := sz }
section
variable {X : Cx} {pins : List (Addr × Obj)} {σ σg : L2.St} {Hc Hg : Hp} {s : Shared} {N : List Str} {qual : Str} {scope : Scope} {f : Addr} {cd : Value} {A0 : Around} {sz : Nat} {ip : List (Addr × Obj)}
theorem gi_wake (NC : NoC (gxOf X N qual scope f cd A0 sz)) (I : Inv X pins σ Hc s) (hA : A0.handled = none) (hfr : A0.frames = some X.stack) (hlo : ∀ b ∈ frs X.stack, b < sz) (hb : X.base.objs.size ≤ sz) (hsz : sz ≤ s.heap.objs.size)
    (a : Asl (gxOf X N qual scope f cd A0 sz) ip σg Hg s.heap) (h5 : ∀ b, b < sz → Hg b ≠ none → Hc b ≠ none) :
    ∃ g : Gh (gxOf X N qual scope f cd A0 sz), g.H0 = fz sz (sz :: ip.map (·.1)) s.heap Hg ∧ g.s0 = { s with heap := cutH sz s.heap } ∧ GI g ip σg (fz sz (sz :: ip.map (·.1)) s.heap Hg) s := by
  have hs : ({ s with heap := cutH sz s.heap } : Shared).heap.objs.size = (gxOf X N qual scope f cd A0 sz).sz := cutH_size hsz
  refine ⟨⟨{ s with heap := cutH sz s.heap }, fz sz (sz :: ip.map (·.1)) s.heap Hg, hs⟩, rfl, rfl, ?_, a.lo⟩
  have lowNone : ∀ b, b < sz → Hc b = none → fz sz (sz :: ip.map (·.1)) s.heap Hg b = none := fun b hb e => by
    rw [fz_lt hb]
    cases q : Hg b with
    | none => rfl
    | some o => exact (h5 b hb (by rw [q]; exact fun z => nomatch z) e).elim
  have baseLt : ∀ b o, X.base.get? b = some o → b < sz := fun b o e => Nat.lt_of_lt_of_le (Heap.lt_size e) hb
  generalize hg : (⟨{ s with heap := cutH sz s.heap }, fz sz (sz :: ip.map (·.1)) s.heap Hg, hs⟩ : Gh (gxOf X N qual scope f cd A0 sz)) = g
  have hs0 : g.s0 = { s with heap := cutH sz s.heap } := by rw [← hg]
  have hH0 : g.H0 = fz sz (sz :: ip.map (·.1)) s.heap Hg := by rw [← hg]
  have fr := g.frame
  refine ⟨⟨I.mod, by rw [fr]; exact NC.kind, rfl, rfl, ?_, fun x y c h _ => ?_, fun x hx => ?_, fun x c _ h => ?_, fun _ => hA, Around.frames_deeper hfr, .inr ⟨rfl, rfl⟩, fun b z => absurd z (show b ∉ ([] : List Addr) by simp), fun b o e => ?_, ?_, fun b _ _ => (show b ∉ ([] : List Addr) by simp), fun b z => absurd z (show b ∉ ([] : List Addr) by simp), ?_, fun b z => ?_⟩,
    ?_, I.bare, ?_, ?_, fun x c h => ?_, ?_, fun x c h => ?_, fun p hp => ?_, fz_ok a.ok, a.len⟩
  · show g.s0.heap.objs.size ≤ g.s0.heap.objs.size
    exact Nat.le_refl _
  · rw [fr] at h; exact (NC.cell h).elim
  · rw [fr] at hx; exact (NC.kindOf hx).elim
  · rw [fr] at h; exact (NC.cell h).elim
  · show g.s0.heap.get? b = some o ∧ g.H0 b = none
    rw [hs0, hH0]
    exact ⟨(cutH_get (baseLt b o e) hsz).trans (I.bs b o e).1, lowNone b (baseLt b o e) (I.bs b o e).2⟩
  · show X.base.objs.size ≤ g.s0.heap.objs.size
    rw [g.hs]; exact hb
  · show g.s0.heap.FunFrames X.base X.stack
    rw [hs0]
    have all : ∀ (l : List Env), (∀ b ∈ frs l, b < sz) → s.heap.FunFrames X.base l → (cutH sz s.heap).FunFrames X.base l := by
      intro l
      induction l with
      | nil => intro _ _; trivial
      | cons env r ih =>
        intro hl hf
        obtain ⟨hk, ⟨L, o, h1, h2, h3, h4⟩, h5⟩ := hf
        have hL : L < sz := hl L (by unfold frs; rw [List.filterMap_cons, h1]; exact List.mem_cons_self)
        refine ⟨hk, ⟨L, o, h1, h2, (cutH_get hL hsz).trans h3, h4⟩, ih (fun b hb => hl b ?_) h5⟩
        unfold frs; rw [List.filterMap_cons, h1]; exact List.mem_cons_of_mem _ hb
    exact all X.stack hlo I.stack
  · show g.H0 b = none
    rw [hH0]
    exact lowNone b (hlo b z) (I.stkFree b z)
  · show s.os = g.s0.os
    rw [hs0]
  · show Un (frs X.stack) [] g.H0 _ g.s0.heap s.heap
    rw [hs0, hH0]
    exact Un.kept fun b u e => cutH_sub hsz e
  · rw [fr]
    obtain ⟨m, hn, hl⟩ := a.loc
    refine ⟨m, hn, fun i x v e1 e2 e3 => ?_⟩
    obtain ⟨u, r, k, q⟩ := hl i x v e1 e2 e3
    exact ⟨u, r, .inl ⟨k, q⟩⟩
  · rw [fr] at h; exact (NC.cell h).elim
  · rw [fr]
    show fz sz (sz :: ip.map (·.1)) s.heap Hg sz = none
    rw [fz_kp List.mem_cons_self]; exact a.free
  · rw [fr] at h; exact (NC.cell h).elim
  · obtain ⟨q1, q2, q3, q4, q5⟩ := a.pin p hp
    refine ⟨q1, ?_, by rw [fr]; exact q3, q4, q5⟩
    have hp : p ∈ ip := hp
    rw [fz_kp (List.mem_cons_of_mem _ (List.mem_map_of_mem (f := fun (x : Addr × Obj) => x.1) hp))]
    exact q2
end
end Ga

set_option maxHeartbeats 2000000
namespace Ga
open PySem PySem.Spec PyProof.Rows L2
noncomputable def Ready (M : Model) (A : Around) (Φ : End → Shared → Prop) (x : GenState) (s : Shared) : Prop :=
  match x with
  | .fresh c => Sg M A Φ c (M.den c) [] s
  | .suspended k _ c _ fs _ => Sg M A Φ c (k (.send .none)) fs s
  | _ => False
theorem woken {M : Model} {A : Around} {Φ : End → Shared → Prop} {x : GenState} {s : Shared} {g : Nat} {l : List Value} {α : Type} {k : GenResult → Sem α} {Q : α → Shared → Prop} {E : Value → Shared → Prop}
    (e : s.gens[g]? = some x) (r : Ready M A Φ x (s.setGen g .running)) (good : ∀ y s1, Φ y s1 → y.quiet = true ∧ wpAny M A (k y.result) Q E (s1.setGen g y.genState)) : wpAny M A (.resume g (.send .none) l k) Q E s := by
  intro Γ p hΓ
  rw [Sem.wp_resume]
  have one : ∃ y s1, Wakes M Γ p g (.send .none) s y.result (s1.setGen g y.genState) ∧ Φ y s1 := by
    cases x with
    | running => exact r.elim
    | finished => exact r.elim
    | fresh c =>
      obtain ⟨y, s1, q, z⟩ := r (Γ.wake c p) p rfl (hΓ.wake c p)
      refine ⟨y, s1, ?_, z⟩
      unfold Wakes
      rw [e]
      exact ⟨y, s1, q, (good y s1 z).1, rfl, rfl⟩
    | suspended k' l' c q' fs cl =>
      obtain ⟨y, s1, q, z⟩ := r (Γ.wake c p) q' rfl (hΓ.wake c p)
      refine ⟨y, s1, ?_, z⟩
      unfold Wakes
      rw [e]
      exact ⟨y, s1, q, (good y s1 z).1, rfl, rfl⟩
  obtain ⟨y, s1, hw, z⟩ := one
  exact ⟨y.result, _, hw, (good y s1 z).2 Γ p hΓ⟩
section
variable {P : Program} {w : World} {A : Around} {s : Shared} {a : Addr} {g : Nat} {x : GenState} {Φ : End → Shared → Prop} {Q : Option Value → Shared → Prop} {E : Value → Shared → Prop}
theorem nx_gen (hh : A.handled = none) (hl : s.heap.NoLimit) (hroom : A.depth < recursionLimit) (hg : s.heap.IsGen a g) (hgs : s.gens[g]? = some x) (r : Ready (model P w) A.in1 Φ x (s.setGen g .running))
    (hR : ∀ r s1, Φ (.ret r) s1 → r = .ok (.ret .none) ∧ ∀ h', (∀ b o, s1.heap.get? b = some o → h'.get? b = some o) → Q none { s1.setGen g .finished with heap := h' })
    (hY : ∀ v gd l k c p fs s1, Φ (.susp v gd l k c p fs) s1 → (End.susp v gd l k c p fs).quiet = true ∧ Q (some v) (s1.setGen g (End.susp v gd l k c p fs).genState)) : wpAny (model P w) A (pyNext (.ref a)) Q E s := by
  have alive : ∀ y s1, Φ y s1 → y.quiet = true := fun y s1 z => by
    cases y with
    | ret r => rfl
    | susp v gd l k c p fs => exact (hY _ _ _ _ _ _ _ _ z).1
  have ns : x = .fresh (match x with | .fresh c => c | _ => default) ∨ ∃ k l c p fs cl, x = .suspended k l c p fs cl := by
    cases x with
    | fresh c => exact .inl rfl
    | suspended k l c p fs cl => exact .inr ⟨k, l, c, p, fs, cl, rfl⟩
    | running => exact r.elim
    | finished => exact r.elim
  unfold pyNext
  refine wpAny_bind (wpAny_attempt (wpAny_callSpecial?_slot (name := Str.ofString "__next__") hg.typeIs slot_gen_next (wpAny_call_entry slot_gen_next hg.typeIs entry_gen_next ?_ (args_gen_next _))))
  show wpAny _ A.in1 (Builtin.Generator.genWake (.ref a) (.send .none)) _ _ s
  unfold Builtin.Generator.genWake
  refine wpAny_bind (wpAny_holding (wpAny_genNumber hg (wpAny_bind (wpAny_genState hgs ?_))))
  rcases ns with e | ⟨k0, l0, c0, p0, fs0, cl0, e⟩
  all_goals
    rw [e]
    refine wpAny_bind (wpAny_roomToWake hl hroom (woken hgs r fun y s1 z => ⟨alive y s1 z, ?_⟩))
    cases y with
    | susp v gd l k c p fs => exact wpAny_pure ⟨v, rfl, wpAny_pure (hY _ _ _ _ _ _ _ _ z).2⟩
    | ret r1 =>
      obtain ⟨rfl, hq⟩ := hR r1 s1 z
      show wpAny _ A.in1 (newExc (.type "StopIteration") [] >>= _) _ _ _
      refine wpAny_bind ?_
      simp only [newExc, newTuple]
      refine wpAny_bind (wpAny_newObj_type (wpAny_bind (m := firstArgMember _ _) (wpAny_of_eq (a := Value.none) (by first | rfl | (simp only [firstArgMember]; rfl)) (wpAny_newObj_type ?_ (by size_fits)))) (by size_fits))
      simp only [raiseNew]
      refine wpAny_bind (wpAny_bind (wpAny_handled ?_))
      first | rw [show A.in1.handled = none from hh] | rw [hh]
      refine wpAny_throw (wpAny_bind (wpAny_isInstance (T := "StopIteration") (b := true) (by exact ⟨_, Heap.get?_push_size _ rfl, rfl⟩) isSubtype_stop (wpAny_pure (hq _ ?_))))
      exact fun b o hb => Heap.get?_push_of_some _ (Heap.get?_push_of_some _ hb)
end
end Ga

set_option maxHeartbeats 2000000
namespace Ga
open PySem PySem.Spec PyProof.Rows L2
structure YNew (N : List Str) (qual : Str) (scope : Scope) (f : Addr) (body : List Stmt) (vs : List V) (sc : Shared) (a : Addr) (g : Nat) (cd : Value) (s : Shared) : Prop where
  lo : sc.heap.objs.size < a
  hi : a < s.heap.objs.size
  gen : s.heap.IsGen a g
  code : s.gens[g]? = some (.fresh (.func body (envOfC qual scope sc.heap.objs.size f cd)))
  os : s.os = sc.os
  bare : AllBare s.gens
  keep : ∀ b o, sc.heap.get? b = some o → s.heap.get? b = some o
  len : (start N vs).length = N.length
  loc : ∃ m, s.heap.Ns sc.heap.objs.size m ∧ ∀ (i : Nat) (x : Str) (v : V), N[i]? = some x → (start N vs)[i]? = some (some v) → Vis scope x → ∃ u, RelV v u ∧ scope.names.lookup x = some .local ∧ m x = some u
section
variable {P : Program} {w : World} {K : PySem.W.Frag} {mg : Str → Option Value} {base : Heap} {k : Nat} {f : Addr} {name qual : Str} {params : Arguments} {body : List Stmt} {scope : Scope} {dV kV doc pm cdv ct oc : Value} {an od : Option Addr}
  {osl : Array (Option Value)} {N ps : List Str}
theorem yfn_of {A : Around} {outer : List Env} {s : Shared} {H : Hp} {args : Args} {us : List Value} {vs : List V} (lk : K.lookup f = some ⟨oc, od, .func (PySem.W.fnOf name qual params body scope dV kV doc pm an cdv ct), osl⟩) (hcd : PySem.W.codeIn K cdv qual = true) (S : GScope N ps scope)
    (nc : ∀ y ∈ scope.names, y.2 ≠ .cell) (hr : Room (k + 1) A) (e0 : Env0 P w K mg base A outer s H) (hb : BindsTo s (PySem.W.fnOf name qual params body scope dV kV doc pm an cdv ct) args (ps.zip us)) (r : Vals vs us) (hl : vs.length = ps.length) :
    codeAny (model P w) A (.call (.ref f) args) (fun r s' => ∃ u, r = .ok (.ret u) ∧ ∃ a g, u = .ref a ∧ YNew N qual scope f body vs s a g cdv s') s := by
  have low : ∀ b o, base.get? b = some o → s.heap.get? b = some o := fun b o e => (e0.bs b o e).1
  have KX : K.In s.heap := e0.mod.kin.keeps low
  have kinds : ∀ y ∈ ps.zip us, scope.names.lookup y.1 = some .local ∨ (scope.names.lookup y.1 = some .cell ∧ ((cellsFrom (s.heap.objs.size + 1) scope.names []).lookup y.1).isSome = true) := fun y hy => by
    rcases S.par y.1 (List.of_mem_zip hy).1 with q | q
    · exact .inl q
    · exact (nc _ (PySem.mem_of_lookup q) rfl).elim
  refine codeAny_call_generator hr.depth (KX _ _ lk) rfl S.co S.gen rfl (PySem.W.codeRec_of KX hcd) (hb _ _ _ _ (wpAny_newFunctionEnv_cells S.kind kinds fun env he s1 x => ?_))
  subst he
  refine ⟨(e0.mod.nolimit.keeps low).keeps x.toInCall.keep, ?_⟩
  obtain ⟨h1, tk, es1, hk1⟩ := x.done
  have I1 : Inv (gcxOf P w K mg base N qual scope f cdv A outer s H (fun _ _ _ => False) []) [] (start N vs) H s1 := inv_startG S hr.hd e0 hl r x
  have fin : ∀ (go : Obj) (nm qn : Value) (tk2 : Nat), go.cls = .type "generator" → go.data = .fields #[.int s1.gens.size 0, nm, qn] → go.slots = #[] → (∀ h : Heap, (h.push go).get? h.objs.size = some go) →
      YNew N qual scope f body vs s s1.heap.objs.size s1.gens.size cdv { s1 with gens := s1.gens.push (.fresh (.func body (envOfC qual scope s.heap.objs.size f cdv))), toks := tk2, heap := s1.heap.push go } := fun go nm qn tk2 q1 q2 q3 q4 => by
    refine ⟨x.toInCall.ns.lt, ?_, ⟨go, nm, qn, q4 _, q1, q2, q3⟩, Array.getElem?_push_size .., ?_, AllBare.push ?_ rfl, fun b o e => Heap.get?_push_of_some _ (x.toInCall.keep b o e), I1.len, ?_⟩
    · show _ < (s1.heap.push go).objs.size
      rw [Heap.size_push]; exact Nat.lt_succ_self _
    · show s1.os = s.os
      rw [es1]
    · rw [show s1.gens = s.gens by rw [es1]]; exact e0.bare
    · obtain ⟨m, ⟨o, es, ep, ho, hq⟩, hm⟩ := I1.loc
      refine ⟨m, ⟨o, es, ep, Heap.get?_push_of_some _ ho, hq⟩, fun i y v e1 e2 e3 => ?_⟩
      obtain ⟨u, r1, l⟩ := hm i y v e1 e2 e3
      rcases l with ⟨l1, l2⟩ | ⟨l1, c, l2, _⟩
      · exact ⟨u, r1, l1, l2⟩
      · have : cellsFrom (s.heap.objs.size + 1) scope.names [] = [] := cells_nil _ _ nc
        have l2 : (cellsFrom (s.heap.objs.size + 1) scope.names []).lookup y = some c := l2
        rw [this] at l2; cases l2
  exact ⟨_, rfl, _, _, rfl, fin _ _ _ _ rfl rfl rfl fun h => Heap.get?_push_size _ rfl⟩
end
end Ga

set_option maxHeartbeats 2000000
namespace Ga
open PySem PySem.Spec PyProof.Rows L2
noncomputable def re (X : Cx) (s : Shared) (H : Hp) : Cx := { X with s_0 := s, H_0 := H, xe := fun _ _ => False }
noncomputable def cutS (n : Nat) (s : Shared) : Shared := { s with heap := cutH n s.heap }
section
variable {X : Cx} {pins : List (Addr × Obj)} {σ σ' : L2.St} {H H' : Hp} {s s' : Shared} {sz : Nat}
theorem inv_gens {g : Array GenState} (I : Inv X pins σ H s) (h : AllBare g) : Inv X pins σ H (withG s g) :=
  ⟨I.ok, I.os, h, I.base, I.loc, I.cell, I.free, I.freeC, I.pin, I.hok, I.len⟩
theorem un_cut (I : Inv X pins σ H s) : Un X.fs X.ex X.H_0 H X.s_0.heap (cutH X.s_0.heap.objs.size s.heap) := by
  have g : ∀ b o o', X.s_0.heap.get? b = some o → s.heap.get? b = some o' → (cutH X.s_0.heap.objs.size s.heap).get? b = some o' := fun b o o' e e' => (cutH_get (Heap.lt_size e) I.sz).trans e'
  exact ⟨fun b o e n hb hx => g b o o e (I.base.keep b o e n hb hx), fun b o e n hb hx => let ⟨sl, q⟩ := I.base.slot b o e n hb hx; ⟨sl, g b o _ e q⟩, I.base.free, fun b o e hx => let ⟨o', q⟩ := I.base.there b o e hx; ⟨o', g b o o' e q⟩, I.base.tups, I.base.frzs, I.base.tbls⟩
theorem inv_re (I : Inv X pins σ H s) : Inv (re X (cutS X.s_0.heap.objs.size s) H) pins σ H s := by
  have hsz : (cutH X.s_0.heap.objs.size s.heap).objs.size = X.s_0.heap.objs.size := cutH_size I.sz
  have le : ∀ {n : Nat}, X.s_0.heap.objs.size ≤ n → (cutH X.s_0.heap.objs.size s.heap).objs.size ≤ n := fun h => by rw [hsz]; exact h
  refine ⟨⟨I.ok.mod, I.ok.kind, I.ok.glob, I.ok.blt, le I.ok.above, I.ok.inj, I.ok.has, fun x c h1 h2 => le (I.ok.cab x c h1 h2), I.ok.hd, I.ok.frames, I.ok.stk, I.ok.exf, fun b o e => ?_, ?_, I.ok.noex, I.ok.exfs, ?_, fun b hb => ?_⟩,
    rfl, I.bare, Un.kept fun b u e => cutH_sub I.sz e, I.loc, I.cell, I.free, I.freeC, I.pin, I.hok, I.len⟩
  · exact ⟨(cutH_get (Nat.lt_of_lt_of_le (Heap.lt_size e) I.ok.bsz) I.sz).trans (I.bs b o e).1, (I.bs b o e).2⟩
  · show X.base.objs.size ≤ (cutH X.s_0.heap.objs.size s.heap).objs.size
    rw [hsz]; exact I.ok.bsz
  · have all : ∀ (l : List Env), (∀ b ∈ frs l, b < X.s_0.heap.objs.size) → s.heap.FunFrames X.base l → (cutH X.s_0.heap.objs.size s.heap).FunFrames X.base l := by
      intro l
      induction l with
      | nil => intro _ _; trivial
      | cons env r ih =>
        intro hl hf
        obtain ⟨hk, ⟨L, o, h1, h2, h3, h4⟩, h5⟩ := hf
        have hL : L < X.s_0.heap.objs.size := hl L (by unfold frs; rw [List.filterMap_cons, h1]; exact List.mem_cons_self)
        refine ⟨hk, ⟨L, o, h1, h2, (cutH_get hL I.sz).trans h3, h4⟩, ih (fun b hb => hl b ?_) h5⟩
        unfold frs; rw [List.filterMap_cons, h1]; exact List.mem_cons_of_mem _ hb
    exact all X.outer (fun b hb => let ⟨_, o, e, _⟩ := I.ok.funs.mem hb; Heap.lt_size e) I.funs
  · obtain ⟨_, o, e, _⟩ := I.ok.funs.mem hb
    exact I.base.free b o e (I.ok.frf b hb) fun z => I.ok.exfs b z hb
theorem inv_unre (I : Inv X pins σ H s) (J : Inv (re X (cutS X.s_0.heap.objs.size s) H) pins σ' H' s') : Inv X pins σ' H' s' :=
  ⟨I.ok, J.os.trans I.os, J.bare, (un_cut I).trans J.base, J.loc, J.cell, J.free, J.freeC, J.pin, J.hok, J.len⟩
structure Low (X : Cx) (pins : List (Addr × Obj)) (sz : Nat) : Prop where
  s0 : X.s_0.heap.objs.size ≤ sz
  loc : X.env.locals < sz
  cell : ∀ x c, X.env.cells.lookup x = some c → c < sz
  pin : ∀ p ∈ X.pn ++ pins, p.1 < sz
  frs : ∀ b ∈ frs X.stack, b < sz
  base : X.base.objs.size ≤ sz
  frz : ∀ b o u, sz ≤ b → X.H_0 b ≠ some (.frz o u)
theorem low_of (I : Inv X pins σ H s) : Low X pins s.heap.objs.size :=
  ⟨I.sz, I.lt, fun x c e => let ⟨_, _, ho, _⟩ := I.cell x c e; Heap.lt_size ho, fun p hp => Heap.lt_size (I.pin p hp).1, fun b hb => by
    rcases List.mem_cons.mp (I.stkSub b hb) with z | z
    · rw [z]; exact I.lt
    · obtain ⟨_, o, ho, _⟩ := I.ok.funs.mem z
      exact Nat.lt_of_lt_of_le (Heap.lt_size ho) I.sz, Nat.le_trans I.ok.bsz I.sz, fun b o u hb e => by
    have q := I.base.frzs b o u e
    rw [I.hok.fresh hb] at q; cases q⟩
theorem inv_fz (I : Inv X pins σ H s) (L : Low X pins sz) : Inv X pins σ (fz sz [] s.heap H) s := by
  refine ⟨I.ok, I.os, I.bare, ⟨I.base.keep, I.base.slot, fun b o e n hx => ?_, I.base.there, fun b xs e => fz_some (I.base.tups b xs e), fun b o u e => fz_some (I.base.frzs b o u e), fun b ps e => let ⟨m, q⟩ := I.base.tbls b ps e; ⟨m, fz_some q⟩⟩, I.loc, I.cell, ?_, fun x c e => ?_, fun p hp => ?_, fz_ok I.hok, I.len⟩
  · rw [fz_lt (Nat.lt_of_lt_of_le (Heap.lt_size e) L.s0)]; exact I.base.free b o e n hx
  · rw [fz_lt L.loc]; exact I.free
  · rw [fz_lt (L.cell x c e)]; exact I.freeC x c e
  · obtain ⟨q1, q2, q3⟩ := I.pin p hp
    exact ⟨q1, by rw [fz_lt (L.pin p hp)]; exact q2, q3⟩
theorem umz_none {b : Addr} (e : H b = none) : umz sz H b = none := by
  by_cases q : sz ≤ b
  · rw [umz_ge q]; exact um_none e
  · rw [umz_lt (Nat.lt_of_not_le q)]; exact e
theorem inv_umz (I : Inv X pins σ H s) (L : Low X pins sz) : Inv X pins σ (umz sz H) s := by
  refine ⟨I.ok, I.os, I.bare, ⟨I.base.keep, I.base.slot, fun b o e n hx => umz_none (I.base.free b o e n hx), I.base.there, fun b xs e => umz_keep (I.base.tups b xs e) rfl, fun b o u e => ?_, fun b ps e => let ⟨m, q⟩ := I.base.tbls b ps e; ⟨m, umz_keep q rfl⟩⟩, I.loc, I.cell, umz_none I.free, fun x c e => umz_none (I.freeC x c e), fun p hp => ?_, umz_ok I.hok, I.len⟩
  · by_cases q : sz ≤ b
    · exact (L.frz b o u q e).elim
    · rw [umz_lt (Nat.lt_of_not_le q)]; exact I.base.frzs b o u e
  · obtain ⟨q1, q2, q3⟩ := I.pin p hp
    exact ⟨q1, umz_none q2, q3⟩
end
end Ga

set_option maxHeartbeats 2000000
namespace Ga
open PySem PySem.Spec PyProof.Rows L2
structure Tied (sz : Nat) (B Hg Hc : Hp) (ip : List (Addr × Obj)) : Prop where
  share : ∀ b o, clo B Hg b = some o → Hc b = some o
  apart : ∀ b, sz ≤ b → Hc b ≠ none → clo B Hg b ≠ none ∨ (Hg b = none ∧ b ≠ sz ∧ b ∉ ip.map (·.1))
  low : ∀ b, b < sz → Hg b ≠ none → clo B Hg b ≠ none
  here : ∀ b o, B b = some o → Hg b = some o
  plain : ∀ b o, B b = some o → plainO o = true
theorem some_ne {α : Type} {x : Option α} {a : α} (e : x = some a) : x ≠ none := by rw [e]; exact fun z => nomatch z
theorem ne_some {α : Type} {x : Option α} (e : x ≠ none) : ∃ a, x = some a := by
  cases x with
  | none => exact (e rfl).elim
  | some a => exact ⟨a, rfl⟩
section
variable {X : Cx} {pins : List (Addr × Obj)} {σ σg σg' : L2.St} {Hc Hg H' B B' : Hp} {s s1 : Shared} {N : List Str} {qual : Str} {scope : Scope} {f : Addr} {cd : Value} {A0 : Around} {sz : Nat} {ip ip' : List (Addr × Obj)}
theorem turned (I : Inv X pins σ Hc s) (L : Low X pins sz) (T : Tied sz B Hg Hc ip) (hsz : sz ≤ s.heap.objs.size) (g : Gh (gxOf X N qual scope f cd A0 sz)) (hH0 : g.H0 = fz sz (sz :: ip.map (·.1)) s.heap Hg) (hs0 : g.s0.heap = cutH sz s.heap)
    (G : GI g ip' σg' H' s1) (os : s1.os = s.os) (gone : Gone s.heap s1.heap) (hg : ∀ b o, B b = some o → B' b = some o) (hB : ∀ b o, B' b = some o → H' b = some o) (pB : ∀ b o, B' b = some o → plainO o = true) :
    Inv X pins σ (jn Hc (clo B' (um H'))) s1 ∧ Tied sz B' (um H') (jn Hc (clo B' (um H'))) ip' ∧ (∀ b o, clo B Hg b = some o → clo B' (um H') b = some o) ∧ (∀ b o, B' b = some o → Hc b = none ∨ B b = some o) ∧
      ∀ b u, sz ≤ b → Hg b = none → b ≠ sz → b ∉ ip.map (·.1) → s.heap.get? b = some u → H' b = some (.frz u (.own 0)) ∧ s1.heap.get? b = some u := by
  have U : Un (frs X.stack) [] (fz sz (sz :: ip.map (·.1)) s.heap Hg) H' (cutH sz s.heap) s1.heap := by
    rw [← hH0, ← hs0]; exact G.inv.base
  have ok' : HOk X.prog X.w H' s1.heap := G.inv.hok
  have hum : ∀ b o, B' b = some o → um H' b = some o := fun b o e => um_some (hB b o e) (plain_mk (pB b o e))
  have mono : ∀ b o, clo B Hg b = some o → clo B' (um H') b = some o := fun b o e =>
    clo_mono (um_ok ok') T.here hg hum e
  have nx : ∀ {b : Addr}, b ∉ ([] : List Addr) := fun {b} => by simp
  have mk : ∀ b u, sz ≤ b → Hg b = none → b ≠ sz → b ∉ ip.map (·.1) → s.heap.get? b = some u → H' b = some (.frz u (.own 0)) ∧ s1.heap.get? b = some u := fun b u h1 h2 h3 h4 h5 => by
    have q := U.frzs b u (.own 0) (fz_mk h2 h1 (fun z => (List.mem_cons.mp z).elim h3 h4) h5)
    exact ⟨q, (ok' b _ q).1⟩
  have lowN : ∀ b, b < sz → clo B Hg b = none → fz sz (sz :: ip.map (·.1)) s.heap Hg b = none := fun b hb e => by
    rw [fz_lt hb]
    cases q : Hg b with
    | none => rfl
    | some o => exact (T.low b hb (some_ne q) e).elim
  have cl : ∀ {b : Addr} {u : Obj}, b < sz → s.heap.get? b = some u → (cutH sz s.heap).get? b = some u := fun hb e => (cutH_get hb hsz).trans e
  have far : ∀ b o, Hc b = some o → clo B Hg b = none → H' b = none ∨ ∃ u, H' b = some (.frz u (.own 0)) := fun b o e n => by
    obtain ⟨u, hu⟩ := ok_there (I.hok b o e)
    by_cases q : sz ≤ b
    · rcases T.apart b q (some_ne e) with z | ⟨z1, z2, z3⟩
      · exact (z n).elim
      · exact .inr ⟨u, (mk b u q z1 z2 z3 hu).1⟩
    · have hb := Nat.lt_of_not_le q
      exact .inl (U.free b u (cl hb hu) (lowN b hb n) nx)
  have farN : ∀ b o, Hc b = some o → clo B Hg b = none → clo B' (um H') b = none := fun b o e n => by
    refine clo_none ?_
    rcases far b o e n with z | ⟨u, z⟩
    · exact um_none z
    · exact um_mk z rfl
  have cons : ∀ b o o', Hc b = some o → clo B' (um H') b = some o' → clo B Hg b = some o ∧ o' = o := fun b o o' e e' => by
    cases q : clo B Hg b with
    | none => rw [farN b o e q] at e'; cases e'
    | some v =>
      have e1 := T.share b v q
      rw [e] at e1; cases e1
      have e2 := mono b o q
      rw [e'] at e2; cases e2
      exact ⟨rfl, rfl⟩
  have stay : ∀ b o u, Hc b = some o → clo B' (um H') b = none → s.heap.get? b = some u → s1.heap.get? b = some u := fun b o u e n hu => by
    have n0 : clo B Hg b = none := by
      cases q : clo B Hg b with
      | none => rfl
      | some v => rw [mono b v q] at n; cases n
    by_cases q : sz ≤ b
    · rcases T.apart b q (some_ne e) with z | ⟨z1, z2, z3⟩
      · exact (z n0).elim
      · exact (mk b u q z1 z2 z3 hu).2
    · have hb := Nat.lt_of_not_le q
      exact U.keep b u (cl hb hu) (lowN b hb n0) (fun z => by rw [I.stkFree b z] at e; cases e) nx
  have joinC : ∀ b o, clo B' (um H') b = some o → jn Hc (clo B' (um H')) b = some o := fun b o e => by
    cases q : Hc b with
    | none => rw [jn_r q]; exact e
    | some v =>
      obtain ⟨_, rfl⟩ := cons b v o q e
      exact jn_l q
  have sharedOk : ∀ b o, clo B' (um H') b = some o → ObjOk X.prog X.w (jn Hc (clo B' (um H'))) s1.heap b o := fun b o e =>
    ok_noT (um_ok ok' b o (clo_sub e).1) (clo_noT pB hum e) fun dx d => joinC dx _ (clo_own hum pB e d (ok_dx (um_ok ok' b o (clo_sub e).1) d))
  have hok : HOk X.prog X.w (jn Hc (clo B' (um H'))) s1.heap := fun b o e => by
    rcases of_jn e with q | ⟨q, q2⟩
    · cases r : clo B' (um H') b with
      | some v =>
        obtain ⟨_, rfl⟩ := cons b o v q r
        exact sharedOk b v r
      | none =>
        refine (I.hok b o q).stay (fun c v hc z => ?_) (fun c z => jn_l z) fun c xs z => jn_l z
        rcases hc with rfl | hc
        · exact stay c o v q r z
        · refine stay c _ v hc ?_ z
          cases t : clo B' (um H') c with
          | none => rfl
          | some y =>
            obtain ⟨_, rfl⟩ := cons c _ y hc t
            exact (clo_back pB hum t r).elim
    · exact sharedOk b o q2
  have hch : ∀ b, b ∈ (List.range s.heap.objs.size).filter (fun b => decide (sz ≤ b) && (Hc b).isNone) → sz ≤ b := fun b z => by
    have := (List.mem_filter.mp z).2
    rw [Bool.and_eq_true] at this
    exact of_decide_eq_true this.1
  have inCh : ∀ b u, s.heap.get? b = some u → sz ≤ b → Hc b = none → b ∈ (List.range s.heap.objs.size).filter (fun b => decide (sz ≤ b) && (Hc b).isNone) := fun b u e h1 h2 => by
    refine List.mem_filter.mpr ⟨List.mem_range.mpr (Heap.lt_size e), ?_⟩
    rw [h2, Bool.and_eq_true]
    exact ⟨decide_eq_true h1, rfl⟩
  have cloN : ∀ b, b < sz → Hc b = none → clo B Hg b = none := fun b hb n => by
    cases q : clo B Hg b with
    | none => rfl
    | some v => rw [T.share b v q] at n; cases n
  refine ⟨I.call' (ch := (List.range s.heap.objs.size).filter (fun b => decide (sz ≤ b) && (Hc b).isNone)) os ⟨fun b u e n hb hx => ?_, fun b u e n hb hx => ?_, fun b u e n hx => ?_, fun b u e hx => ?_, fun b xs e => jn_l e, fun b o u e => jn_l e, fun b ps e => ⟨#[], by rw [jn_l e]; simp⟩⟩ hok G.inv.bare fun b hb => ?_,
    ⟨joinC, fun b h1 h2 => ?_, fun b h1 h2 => ?_, hum, pB⟩, mono, fun b o e => ?_, mk⟩
  · have hb2 : b < sz := Nat.lt_of_not_le fun z => hx (inCh b u e z n)
    exact U.keep b u (cl hb2 e) (lowN b hb2 (cloN b hb2 n)) hb nx
  · have hb2 : b < sz := Nat.lt_of_not_le fun z => hx (inCh b u e z n)
    exact U.slot b u (cl hb2 e) (lowN b hb2 (cloN b hb2 n)) hb nx
  · have hb2 : b < sz := Nat.lt_of_not_le fun z => hx (inCh b u e z n)
    rw [jn_r n]
    exact clo_none (um_none (U.free b u (cl hb2 e) (lowN b hb2 (cloN b hb2 n)) nx))
  · by_cases q : sz ≤ b
    · obtain ⟨o, ho⟩ := ne_some (x := Hc b) fun z => hx (inCh b u e q z)
      rcases T.apart b q (some_ne ho) with z | ⟨z1, z2, z3⟩
      · obtain ⟨v, hv⟩ := ne_some z
        exact ok_there (um_ok ok' b v (clo_sub (mono b v hv)).1)
      · exact ⟨u, (mk b u q z1 z2 z3 e).2⟩
    · exact U.there b u (cl (Nat.lt_of_not_le q) e) nx
  · have h := hch b hb
    exact ⟨.inr (Nat.le_trans L.s0 h), fun z => absurd L.loc (Nat.not_lt.mpr (z ▸ h)), fun x c e z => absurd (L.cell x c e) (Nat.not_lt.mpr (z ▸ h)), fun p hp z => absurd (L.pin p hp) (Nat.not_lt.mpr (z ▸ h))⟩
  · cases q : clo B' (um H') b with
    | some v => exact .inl fun z => nomatch z
    | none =>
      refine .inr ?_
      obtain ⟨o, ho⟩ := ne_some h2
      rcases of_jn ho with e | ⟨_, e⟩
      · have n0 : clo B Hg b = none := by
          cases q2 : clo B Hg b with
          | none => rfl
          | some v => rw [mono b v q2] at q; cases q
        obtain ⟨u, hu⟩ := ok_there (I.hok b o e)
        rcases T.apart b h1 (some_ne e) with z | ⟨z1, z2, z3⟩
        · exact (z n0).elim
        · have m := (mk b u h1 z1 z2 z3 hu).1
          refine ⟨um_mk m rfl, z2, fun hm => ?_⟩
          obtain ⟨p, hp, rfl⟩ := List.mem_map.mp hm
          have := (G.inv.pin p (List.mem_append_right _ hp)).2.1
          rw [m] at this; cases this
      · rw [q] at e; cases e
  · cases q : clo B Hg b with
    | some v => exact some_ne (mono b v q)
    | none =>
      exfalso
      obtain ⟨o, ho⟩ := ne_some h2
      obtain ⟨u, hu⟩ := ok_there (um_ok ok' b o ho)
      obtain ⟨u0, hu0⟩ := gone.was hu (Nat.lt_of_lt_of_le h1 hsz)
      rw [um_none (U.free b u0 (cl h1 hu0) (lowN b h1 q) nx)] at ho; cases ho
  · cases q : Hc b with
    | none => exact .inl rfl
    | some v =>
      obtain ⟨z, rfl⟩ := cons b v o q (clo_has hum e)
      obtain ⟨z1, z2⟩ := clo_sub z
      rcases z2 with ⟨y, u, z2, _⟩ | z2
      · rw [z1] at z2; cases z2
        exact absurd (show false = true from pB b _ e) (by decide)
      · obtain ⟨u, hu⟩ := ne_some z2
        have := T.here b u hu
        rw [z1] at this; cases this
        exact .inr hu
end
end Ga

set_option maxHeartbeats 2000000
namespace Ga
open PySem PySem.Spec PyProof.Rows L2
section
variable {X : Cx} {pins : List (Addr × Obj)} {σ σ7 σg : L2.St} {Hc Hg H7 B : Hp} {s s7 : Shared} {N : List Str} {qual : Str} {scope : Scope} {f : Addr} {cd : Value} {A0 : Around} {sz : Nat} {ip : List (Addr × Obj)}
theorem rested (L : Low X pins sz) (T : Tied sz B Hg Hc ip) (a : Asl (gxOf X N qual scope f cd A0 sz) ip σg Hg s.heap) (J : Inv (re X (cutS X.s_0.heap.objs.size s) (fz sz [] s.heap Hc)) pins σ7 H7 s7) (gone : Gone s.heap s7.heap) (hE0 : ∀ b o, B b = some o → H7 b = some o) :
    Tied sz B Hg (umz sz H7) ip ∧ Asl (gxOf X N qual scope f cd A0 sz) ip σg Hg s7.heap ∧ ∀ b u, sz ≤ b → Hc b = none → s.heap.get? b = some u → s7.heap.get? b = some u ∧ umz sz H7 b = none := by
  have ok7 : HOk X.prog X.w H7 s7.heap := J.hok
  have hE : ∀ b o, clo B Hg b = some o → H7 b = some o := fun b o e => by
    obtain ⟨e1, ex⟩ := clo_sub e
    rcases ex with ⟨y, u, z, z2, z3⟩ | z
    · rw [z] at e1; cases e1
      exact ok_dx (ok7 y u (hE0 y u z2)) z3
    · obtain ⟨u, hu⟩ := ne_some z
      have := T.here b u hu
      rw [e1] at this; cases this
      exact hE0 b o hu
  have mk : ∀ b u, sz ≤ b → Hc b = none → s.heap.get? b = some u → H7 b = some (.frz u (.own 0)) := fun b u h1 h2 h3 => J.base.frzs b u (.own 0) (fz_mk h2 h1 (by simp) h3)
  have kept : ∀ b u, sz ≤ b → Hc b = none → s.heap.get? b = some u → s7.heap.get? b = some u ∧ umz sz H7 b = none := fun b u h1 h2 h3 => by
    have m := mk b u h1 h2 h3
    exact ⟨(ok7 b _ m).1, by rw [umz_ge h1]; exact um_mk m rfl⟩
  have fl := (show sz < s.heap.objs.size from let ⟨m, hn, _⟩ := a.loc; hn.lt)
  have own0 : ∀ b, sz ≤ b → (b = sz ∨ b ∈ ip.map (·.1) ∨ (Hg b ≠ none ∧ clo B Hg b = none)) → Hc b = none := fun b h1 h2 => by
    cases q : Hc b with
    | none => rfl
    | some o =>
      exfalso
      have gN : clo B Hg b ≠ none → Hg b ≠ none := fun z y => z (clo_none y)
      rcases T.apart b h1 (some_ne q) with z | ⟨z1, z2, z3⟩
      · rcases h2 with rfl | h2 | h2
        · exact gN z a.free
        · obtain ⟨p, hp, rfl⟩ := List.mem_map.mp h2
          exact gN z (a.pin p hp).2.1
        · exact z h2.2
      · rcases h2 with h2 | h2 | h2
        · exact z2 h2
        · exact z3 h2
        · exact h2.1 z1
  refine ⟨⟨fun b o e => ?_, fun b h1 h2 => ?_, T.low, T.here, T.plain⟩, a.move T.here T.plain (fun b o h e => ?_) (fun b o e => ?_), kept⟩
  · exact umz_keep (hE b o e) (clo_unmarked T.plain T.here e)
  · obtain ⟨o, ho⟩ := ne_some h2
    have ho7 := umz_sub ho
    have um7 : mkO o = false := by rw [umz_ge h1] at ho; exact (of_um ho).2
    by_cases hb : b < s.heap.objs.size
    · cases q : s.heap.get? b with
      | none =>
        obtain ⟨u, hu⟩ := ok_there (ok7 b o ho7)
        rw [gone.2 b hb q] at hu; cases hu
      | some u =>
        cases r : Hc b with
        | some v => exact T.apart b h1 (some_ne r)
        | none =>
          rw [mk b u h1 r q] at ho7
          cases ho7; cases um7
    · refine .inr ⟨a.ok.fresh (Nat.le_of_not_lt hb), fun z => hb (by rw [z]; exact fl), fun hm => hb ?_⟩
      obtain ⟨p, hp, rfl⟩ := List.mem_map.mp hm
      exact Heap.lt_size (a.pin p hp).1
  · have hz : sz ≤ b := by
      rcases h with rfl | h | h
      · exact Nat.le_refl _
      · obtain ⟨p, hp, rfl⟩ := List.mem_map.mp h
        exact a.lo p hp
      · exact Nat.le_of_not_lt fun z => T.low b z h.1 h.2
    exact (kept b o hz (own0 b hz h) e).1
  · exact ok_noT (ok7 b o (hE b o e)) (clo_noT T.plain T.here e) fun dx d => ok_dx (a.ok b o (clo_sub e).1) d
end
structure Lp (X : Cx) (pins : List (Addr × Obj)) (N : List Str) (qual : Str) (scope : Scope) (f : Addr) (cd : Value) (sz : Nat) (lim : Nat) (yl : Nat → V → Hp → Prop) (Rt : Nat → Prop) (a : Addr) (g : Nat) (x : GenState)
    (j : Nat) (B Hg : Hp) (ip : List (Addr × Obj)) (σg : L2.St) (Hc : Hp) (σ : L2.St) (s : Shared) : Prop where
  inv : Inv X pins σ Hc s
  tied : Tied sz B Hg Hc ip
  asl : Asl (gxOf X N qual scope f cd X.A.in1 sz) ip σg Hg s.heap
  gen : s.heap.IsGen a g
  aH : Hc a = none
  aG : Hg a = none
  aS : sz < a
  aI : a ∉ ip.map (·.1)
  hsz : sz ≤ s.heap.objs.size
  at_ : s.gens[g]? = some x
  ready : ∃ n, n + j = lim ∧ ∀ (g' : Gh (gxOf X N qual scope f cd X.A.in1 sz)) s' H2, um H2 = Hg → GI g' ip σg H2 s' → Ready (model X.prog X.w) X.A.in1 (Ph (gxOf X N qual scope f cd X.A.in1 sz) yl Rt n j B g') x s'
section
variable {X : Cx} {pins : List (Addr × Obj)} {N : List Str} {qual : Str} {scope : Scope} {f : Addr} {cd : Value} {sz lim : Nat} {yl : Nat → V → Hp → Prop} {Rt : Nat → Prop} {a : Addr} {g : Nat} {x : GenState}
  {j : Nat} {B Hg : Hp} {ip : List (Addr × Obj)} {σg : L2.St} {Hc : Hp} {σ : L2.St} {s : Shared}
noncomputable def NxP (X : Cx) (pins : List (Addr × Obj)) (N : List Str) (qual : Str) (scope : Scope) (f : Addr) (cd : Value) (sz lim : Nat) (yl : Nat → V → Hp → Prop) (Rt : Nat → Prop) (a : Addr) (g : Nat) (j : Nat) (B Hg Hc : Hp) (σ : L2.St) (r : Option Value) (s' : Shared) : Prop :=
  match r with
  | none => Rt j ∧ ∃ H2, Inv X pins σ H2 s' ∧ ∀ b o, Hc b = some o → H2 b = some o
  | some u => j < lim ∧ ∃ v y B' Hg' ip' σg' H2, Lp X pins N qual scope f cd sz lim yl Rt a g y (j + 1) B' Hg' ip' σg' H2 σ s' ∧ sleeps y = true ∧ RelV v u ∧ yl j v B' ∧ (∀ b o, B b = some o → B' b = some o) ∧
      (∀ b o, B' b = some o → Hc b = none ∨ B b = some o) ∧ ∀ b o, Hc b = some o → H2 b = some o
theorem lp_next (NC : ∀ A0, NoC (gxOf X N qual scope f cd A0 sz)) (L : Low X pins sz) (hc : X.calm = true) (hd : X.A.depth < recursionLimit) (P : Lp X pins N qual scope f cd sz lim yl Rt a g x j B Hg ip σg Hc σ s) {E : Value → Shared → Prop} :
    wpAny (model X.prog X.w) X.A (pyNext (.ref a)) (NxP X pins N qual scope f cd sz lim yl Rt a g j B Hg Hc σ) E s := by
  obtain ⟨n, hn, rd⟩ := P.ready
  have I0 : Inv X pins σ Hc (s.setGen g .running) := inv_gens P.inv (allBare_setGen P.inv.bare rfl)
  have hlow : ∀ b, b < sz → Hg b ≠ none → Hc b ≠ none := fun b hb h => by
    obtain ⟨o, ho⟩ := ne_some (P.tied.low b hb h)
    exact some_ne (P.tied.share b o ho)
  obtain ⟨g', e1, e2, G⟩ := gi_wake (A0 := X.A.in1) (s := s.setGen g .running) (NC _) I0 (I0.ok.hd hc) I0.ok.frames L.frs L.base P.hsz P.asl hlow
  have R := rd g' (s.setGen g .running) _ (fz_um P.asl.um) G
  have gl : g < s.gens.size := (Array.getElem?_eq_some_iff.mp P.at_).1
  have main : wpAny (model X.prog X.w) X.A (pyNext (.ref a)) (fun r s' => Gone s.heap s'.heap → g + 1 ≤ s'.gens.size → NxP X pins N qual scope f cd sz lim yl Rt a g j B Hg Hc σ r s') E s := by
    refine nx_gen (I0.ok.hd hc) P.inv.nolimit hd P.gen P.at_ R (fun r s1 q => ?_) fun v gd l k c p fs s1 q => ?_
    · have q : Fini (gxOf X N qual scope f cd X.A.in1 sz) Rt j B g' r s1 := by cases n <;> exact q
      obtain ⟨rfl, hr, σ', H', ip', G', hB⟩ := q
      refine ⟨rfl, fun h' hk gone _ => ⟨hr, ?_⟩⟩
      have G2 : GI g' ip' σ' H' { s1 with heap := h' } := ⟨G'.inv.kept (t' := s1.toks) hk, G'.lo⟩
      have os : s1.os = s.os := G'.inv.os.trans (by show g'.s0.os = _; rw [e2]; rfl)
      obtain ⟨J, _, _, _, _⟩ := turned (s := s.setGen g .running) (s1 := { s1 with heap := h' }) I0 L P.tied P.hsz g' e1 (by rw [e2]) G2 os gone (fun _ _ z => z) hB P.tied.plain
      exact ⟨_, inv_gens (g := s1.gens.setIfInBounds g .finished) J (allBare_setGen (s := s1) G'.inv.bare rfl), fun b o e => jn_l e⟩
    · cases n with
      | zero => exact q.elim
      | succ m =>
        obtain ⟨q1, v', σ', H', ip', B', G', rv, ex, y, nxt⟩ := q
        refine ⟨q1, fun gone hgs => ⟨by omega, v', (End.susp v gd l k c p fs).genState, B', um H', ip', σ', jn Hc (clo B' (um H')), ?_⟩⟩
        have gone : Gone s.heap s1.heap := gone
        have os : s1.os = s.os := G'.inv.os.trans (by show g'.s0.os = _; rw [e2]; rfl)
        obtain ⟨J, T, m1, m2, mk⟩ := turned (s := s.setGen g .running) I0 L P.tied P.hsz g' e1 (by rw [e2]) G' os gone ex.grow ex.here ex.plain
        obtain ⟨ob, nm, qn, ho, hcl, hdt, hsl⟩ := id P.gen
        have mka := mk a ob (Nat.le_of_lt P.aS) P.aG (Nat.ne_of_gt P.aS) P.aI ho
        have hb : (End.susp v gd l k c p fs).genState.bare = true := End.bare_of_quiet q1
        have sg : g < s1.gens.size := by
          have : g + 1 ≤ (s1.setGen g (End.susp v gd l k c p fs).genState).gens.size := hgs
          rw [GenW.setGen_size] at this
          exact this
        refine ⟨⟨inv_gens (g := s1.gens.setIfInBounds g _) J (allBare_setGen (s := s1) G'.inv.bare hb), T, (show Asl _ _ _ _ s1.heap from asl_of (NC _) G'), ⟨ob, nm, qn, mka.2, hcl, hdt, hsl⟩, ?_, um_mk mka.1 rfl, P.aS, fun hm => ?_, Nat.le_trans P.hsz gone.1, setGen_at sg, m, by omega, fun g2 s2 H2 hu G2 => ?_⟩, rfl, rv, y, ex.grow, m2, fun b o e => jn_l e⟩
        · rw [jn_r P.aH]; exact clo_none (um_mk mka.1 rfl)
        · obtain ⟨p', hp', e⟩ := List.mem_map.mp hm
          have := (G'.inv.pin p' (List.mem_append_right _ hp')).2.1
          rw [e, mka.1] at this; cases this
        · exact nxt g2 s2 H2 hu G2
  exact GenW.wpAny_gsz (n := g + 1) gl (wpAny_mono (wpAny_gone main) (fun r s' q h => q.2 q.1 h) fun e s' q _ => q.2)
end
end Ga

set_option maxHeartbeats 2000000
namespace Ga
open PySem PySem.Spec PyProof.Rows L2
theorem bare_dead {gs : Array GenState} (h : AllBare gs) : AllBare (gs.map dead) := fun y hy => by
  obtain ⟨z, hz, rfl⟩ := Array.mem_map.mp hy
  rw [dead_bare]; exact h z hz
theorem bare_twin {gs a b : Array GenState} (T : Twin (pickZ gs) a b) (h : AllBare gs) (h1 : AllBare a) : AllBare b := fun y hy => by
  obtain ⟨i, hi, e⟩ := Array.mem_iff_getElem.mp hy
  have e2 : b[i]? = some y := by rw [Array.getElem?_eq_getElem hi, e]
  cases q : pickZ gs i with
  | none =>
    rw [T.awake i q] at e2
    exact h1 y (Array.mem_of_getElem? e2)
  | some z =>
    obtain ⟨_, _, q3⟩ := T.asleep i z q
    rw [e2] at q3; cases q3
    unfold pickZ at q
    cases r : gs[i]? with
    | none => rw [r] at q; cases q
    | some v =>
      rw [r] at q
      by_cases hs : sleeps v = true
      · simp only [hs, if_true] at q
        cases q
        exact h _ (Array.mem_of_getElem? r)
      · simp only [hs] at q
        cases q
theorem pick_at {gs : Array GenState} {g : Nat} {y : GenState} (e : gs[g]? = some y) (hs : sleeps y = true) : pickZ gs g = some y := by
  unfold pickZ
  rw [e]
  simp only [hs, if_true]
theorem beside {α : Type} {M : Model} {A : Around} {t : Sem α} {Q : α → Shared → Prop} {s : Shared} {g : Nat} {y : GenState} (e : s.gens[g]? = some y) (hs : sleeps y = true) (hb : AllBare s.gens) (h : wpAny M A t Q (fun _ _ => False) (withG s (s.gens.map dead)))
    (b : ∀ a s1, Q a s1 → AllBare s1.gens) (k : ∀ a s1 gs, AllBare gs → Q a s1 → Q a (withG s1 gs)) : wpAny M A t (fun a s' => Gone s.heap s'.heap ∧ s'.gens[g]? = some y ∧ Q a s') (fun _ _ => False) s := by
  refine wpAny_mono (wpAny_gone (wpAny_twin h)) (fun a s' q => ?_) fun x s' q => ?_
  · obtain ⟨q0, s1, e1, T, q⟩ := q
    refine ⟨q0, (T.asleep g y (pick_at e hs)).2.2, ?_⟩
    rw [e1]
    exact k a s1 _ (bare_twin T hb (b a s1 q)) q
  · obtain ⟨_, _, _, _, q⟩ := q
    exact q
structure PY (X : Cx) (e : Expr) (N : List Str) (qual : Str) (scope : Scope) (f : Addr) (gbody : List Stmt) (ta : TA) : Prop where
  run : ∀ (pins : List (Addr × Obj)) (s : Shared) (σ : L2.St) (H : Hp) (R : List V → Hp → Prop), Inv X pins σ H s → ta σ H R →
    wpAny (model X.prog X.w) X.A (eval e X.env) (fun u s' => ∃ vs H1 sc a g cd, Inv X pins σ H1 sc ∧ R vs H1 ∧ u = .ref a ∧ YNew N qual scope f gbody vs sc a g cd s') X.xe s
noncomputable def Le (A B : Hp) : Prop := ∀ b o, A b = some o → B b = some o
noncomputable def GE.main (lim : Nat) (yl : Nat → V → Hp → Prop) (Rt : Nat → Prop) : GE := { lim := lim, nx := fun j B _ H => Rt j ∧ Le B H, rt := fun j B v H => v = .non ∧ Rt j ∧ Le B H, yl := yl }
noncomputable def tForY (ta : TA) (N : List Str) (t : TY) (gt : TG) (tb : TS) : TS := fun D σ H => ta σ H fun vs H1 => ∃ (B0 : Hp) (lim : Nat) (yl : Nat → V → Hp → Prop) (Rt : Nat → Prop), Le B0 H1 ∧ (∀ b o, B0 b = some o → plainO o = true) ∧
  (∀ H, Le B0 H → t (GE.main lim yl Rt) 0 B0 (start N vs) H) ∧ ∀ sz, (∀ b, H1 b ≠ none → b < sz) → ∃ W : Nat → Hp → L2.St → Hp → Prop, W 0 B0 σ H1 ∧ (∀ j B σ H H2, W j B σ H → Rt j → Le H H2 → D.nx σ H2) ∧
    ∀ j B σ H x B' H2, W j B σ H → j < lim → yl j x B' → Le B B' → Le B' H2 → Le H H2 → (∀ b o, B' b = some o → plainO o = true) → (∀ b o, B' b = some o → H b = none ∨ B b = some o) →
      gt x σ H2 fun σ2 H3 => tb { D with nx := fun σ' H' => Le B' H' ∧ W (j + 1) B' σ' (umz sz H'), ct := fun σ' H' => Le B' H' ∧ W (j + 1) B' σ' (umz sz H'), bk := D.nx } σ2 H3
theorem sg_func {P : Program} {w : World} {A : Around} {Φ : End → Shared → Prop} {fs : List Frame} {s : Shared} {body : List Stmt} {env : Env}
    (h : ∀ J, Sg (model P w) A Φ (.func body env) ((execs body env).wrap (fun f => .pure (.done (.ret (match f with | .ret v => v | _ => .none)))) J id id) fs s) : Sg (model P w) A Φ (.func body env) ((model P w).den (.func body env)) fs s := by
  show Sg _ A Φ _ (.point [] fun _ => ((execs body env).onRaise (leaving env)) >>= _) fs s
  refine sg_point ?_
  rw [Sem.onRaise_eq_wrap, Sem.bind_eq_wrap', Sem.wrap_wrap]
  refine Eq.mpr (congrArg (fun z => Sg (model P w) A Φ (.func body env) z fs s) (Sem.wrap_congr (execs body env) _ _ (fun f => ?_) (fun e => rfl))) (h _)
  cases f <;> rfl
section
variable {X : Cx} {pos : Pos} {tg iter : Expr} {body gbody : List Stmt} {N : List Str} {qual : Str} {scope : Scope} {f : Addr} {ta : TA} {t : TY} {gt : TG} {tb : TS}
theorem idem {B H : Hp} (e : clo B H b ≠ none) : clo B (clo B H) b ≠ none := by
  obtain ⟨o, ho⟩ := ne_some e
  have ex : Ex B H b := (clo_sub ho).2
  have ex2 : Ex B (clo B H) b := by
    rcases ex with ⟨y, u, z, z2⟩ | z
    · exact .inl ⟨y, u, by rw [clo_ex (.inl ⟨y, u, z, z2⟩)]; exact z, z2⟩
    · exact .inr z
  rw [clo_ex ex2]
  exact e
theorem lp_start (hk : scope.kind = .function) (nc : ∀ y ∈ scope.names, y.2 ≠ .cell) (nf : ∀ y ∈ scope.names, y.2 ≠ .free) (hG : ∀ cd sz, GSs (gxOf X N qual scope f cd X.A.in1 sz) gbody t)
    {pins : List (Addr × Obj)} {σ : L2.St} {H : Hp} {sc s : Shared} {vs : List V} {a : Addr} {g : Nat} {cd : Value} {B0 : Hp} {lim : Nat} {yl : Nat → V → Hp → Prop} {Rt : Nat → Prop} (I : Inv X pins σ H sc) (Y : YNew N qual scope f gbody vs sc a g cd s)
    (b1 : Le B0 H) (b2 : ∀ b o, B0 b = some o → plainO o = true) (ht : ∀ H, Le B0 H → t (GE.main lim yl Rt) 0 B0 (start N vs) H) :
    Lp X pins N qual scope f cd sc.heap.objs.size lim yl Rt a g (.fresh (.func gbody (envOfC qual scope sc.heap.objs.size f cd))) 0 B0 (clo B0 H) [] (start N vs) H σ s := by
  have fr : ∀ b, sc.heap.objs.size ≤ b → H b = none := fun b h => I.hok.fresh h
  have ok : HOk X.prog X.w H s.heap := I.hok.kept Y.keep
  have umE : um (clo B0 H) = clo B0 H := by
    funext b
    cases q : clo B0 H b with
    | none => exact um_none q
    | some o => exact um_some q (clo_unmarked b2 b1 q)
  refine ⟨I.call' (ch := []) Y.os (Un.kept Y.keep) ok Y.bare (fun b z => by simp at z), ⟨fun b o e => (clo_sub (clo_sub e).1).1, fun b h1 h2 => (h2 (fr b h1)).elim, fun b h1 h2 => idem h2, fun b o e => clo_has b1 e, b2⟩,
    ⟨umE, clo_ok ok b1 b2, ?_, clo_none (fr _ (Nat.le_refl _)), fun p hp => by simp at hp, fun p hp => by simp at hp, Y.len⟩, Y.gen, fr a (Nat.le_of_lt Y.lo), clo_none (fr a (Nat.le_of_lt Y.lo)), Y.lo, by simp, Nat.le_of_lt (Nat.lt_trans Y.lo Y.hi), Y.code, lim, rfl, fun g' s' H2 hu G => ?_⟩
  · obtain ⟨m, hn, hl⟩ := Y.loc
    exact ⟨m, hn, hl⟩
  · have hB : Le B0 H2 := fun b o e => (of_um (H := H2) (by rw [hu]; exact clo_has b1 e)).1
    have main : Sg (model X.prog X.w) X.A.in1 (Ph (gxOf X N qual scope f cd X.A.in1 sc.heap.objs.size) yl Rt lim 0 B0 g') (.func gbody (gxOf X N qual scope f cd X.A.in1 sc.heap.objs.size).env) ((model X.prog X.w).den (.func gbody (gxOf X N qual scope f cd X.A.in1 sc.heap.objs.size).env)) [] s' := by
      refine sg_func fun J => ?_
      refine hG cd sc.heap.objs.size [] Rt _ [] _ J id id (GE.main lim yl Rt) lim 0 B0 g' s' (start N vs) H2 ⟨GenW.over_func, rfl, rfl, rfl⟩ rfl (fun n j B g2 s2 fl hn q => ?_) G (ht H2 hB)
      have done : ∀ {r : Result}, Fini (gxOf X N qual scope f cd X.A.in1 sc.heap.objs.size) Rt j B g2 r s2 → Ph (gxOf X N qual scope f cd X.A.in1 sc.heap.objs.size) yl Rt n j B g2 (.ret r) s2 := fun z => by cases n <;> exact z
      cases fl with
      | next =>
        obtain ⟨σ1, H1, G1, r1, r2⟩ := q
        exact sg_end (.ok (.ret .none)) (done ⟨rfl, r1, σ1, H1, [], G1, r2⟩)
      | brk => obtain ⟨_, _, _, z⟩ := q; exact z.elim
      | cont => obtain ⟨_, _, _, z⟩ := q; exact z.elim
      | ret u =>
        obtain ⟨v, σ1, H1, G1, rv, ev, r1, r2⟩ := q
        subst ev
        have eu : u = Value.none := rv
        subst eu
        exact sg_end (.ok (.ret .none)) (done ⟨rfl, r1, σ1, H1, [], G1, r2⟩)
    exact main
theorem ps_forY (hp : PassesOwn (model X.prog X.w) X.A X.env X.xe) (hc : X.calm = true) (hd : X.A.depth < recursionLimit) (hk : scope.kind = .function) (nc : ∀ y ∈ scope.names, y.2 ≠ .cell) (nf : ∀ y ∈ scope.names, y.2 ≠ .free)
    (he : PY X iter N qual scope f gbody ta) (hG : ∀ cd sz, GSs (gxOf X N qual scope f cd X.A.in1 sz) gbody t) (hg : ∀ s H, PG (re X s H) tg gt) (hb : ∀ s H, PSs (re X s H) body tb)
    (hs : ∀ x, foldedSetIterable iter X.env x = pure x := by intro _; rfl) : PS X (.For tg iter body [] pos) (tForY ta N t gt tb) := by
  refine ⟨fun pins s σ H D I h => ?_⟩
  refine wpAny_For (wpAny_mono (he.run pins s σ H _ I h) (fun v s1 q => ?_) fun _ _ z => z) hs
  obtain ⟨vs, H1, sc, a, g, cd, I1, ⟨B0, lim, yl, Rt, b1, b2, ht, rest⟩, rfl, Y⟩ := q
  refine wpAny_pyIter_gen Y.gen ?_
  obtain ⟨W, w0, wd, wt⟩ := rest sc.heap.objs.size fun b hb => by
    obtain ⟨o, ho⟩ := ne_some hb
    exact I1.hok.lt ho
  have L := low_of I1
  have NC : ∀ A0, NoC (gxOf X N qual scope f cd A0 sc.heap.objs.size) := fun _ => ⟨hk, nc, nf⟩
  have P0 := lp_start (X := X) (gbody := gbody) hk nc nf hG I1 Y b1 b2 ht
  refine codeAny_forLoop_any (fun m s' => ∃ j x B Hg ip σg Hc σ', m = lim - j ∧ Lp X pins N qual scope f cd sc.heap.objs.size lim yl Rt a g x j B Hg ip σg Hc σ' s' ∧ W j B σ' Hc) ?_ lim
    ⟨0, _, B0, clo B0 H1, [], start N vs, H1, σ, rfl, P0, w0⟩
  rintro m s3 ⟨j, x, B, Hg, ip, σg, Hc, σ3, rfl, P, w⟩
  refine wpAny_passesOwn hp (wpAny_mono (lp_next NC L hc hd P) (fun r s4 q => ?_) fun _ _ z => z)
  cases r with
  | none =>
    obtain ⟨hr, H2, I2, le⟩ := q
    exact wpAny_execs_nil ⟨σ3, H2, I2, wd j _ σ3 Hc H2 w hr le⟩
  | some u =>
    obtain ⟨hj, v, y, B', Hg', ip', σg', H2, P2, hsl, rv, hy, m1, m2, le⟩ := q
    obtain ⟨ob, nm, qn, ho, hcl, hdt, _⟩ := id P2.gen
    have J0 : Inv X pins σ3 (fz sc.heap.objs.size [] s4.heap H2) s4 := inv_fz P2.inv L
    have J1 := inv_re J0
    have step := wt j _ σ3 Hc v B' (fz sc.heap.objs.size [] s4.heap H2) w hj hy m1 (fun b o e => fz_some (P2.tied.share b o (clo_has P2.tied.here e))) (fun b o e => fz_some (le b o e)) P2.tied.plain m2
    refine wpAny_passesOwn hp (go_of ho hcl hdt (by decide) ?_)
    have asg := (hg (cutS X.s_0.heap.objs.size s4) (fz sc.heap.objs.size [] s4.heap H2)).run pins _ σ3 _ v u _ (inv_gens J1 (bare_dead J1.bare)) rv step
    refine wpAny_passesOwn hp (wpAny_mono (beside P2.at_ hsl P2.inv.bare asg (fun _ s1 q => let ⟨_, _, I, _⟩ := q; I.bare) fun _ s1 gs hgs q => let ⟨σ1, H1, I, q⟩ := q; ⟨σ1, H1, inv_gens I hgs, q⟩) (fun _ s5 q => ?_) fun _ _ z => z.elim)
    obtain ⟨gone5, at5, σ5, H5, I5, q5⟩ := q
    have bod := (hb (cutS X.s_0.heap.objs.size s4) (fz sc.heap.objs.size [] s4.heap H2)).run pins _ σ5 H5 _ (inv_gens I5 (bare_dead I5.bare)) q5
    refine wpAny_passesOwn hp (wpAny_mono (beside at5 hsl I5.bare bod (fun fl s1 q => ?_) fun fl s1 gs hgs q => ?_) (fun fl s7 q => ?_) fun _ _ z => z.elim)
    · cases fl with
      | next => exact let ⟨_, _, I, _⟩ := q; I.bare
      | brk => exact let ⟨_, _, I, _⟩ := q; I.bare
      | cont => exact let ⟨_, _, I, _⟩ := q; I.bare
      | ret v => exact let ⟨_, _, _, I, _⟩ := q; I.bare
    · cases fl with
      | next => exact let ⟨σ1, H1, I, q⟩ := q; ⟨σ1, H1, inv_gens I hgs, q⟩
      | brk => exact let ⟨σ1, H1, I, q⟩ := q; ⟨σ1, H1, inv_gens I hgs, q⟩
      | cont => exact let ⟨σ1, H1, I, q⟩ := q; ⟨σ1, H1, inv_gens I hgs, q⟩
      | ret v => exact let ⟨x1, σ1, H1, I, r, q⟩ := q; ⟨x1, σ1, H1, inv_gens I hgs, r, q⟩
    · obtain ⟨gone7, at7, q⟩ := q
      have again : ∀ {σ7 : L2.St} {H7 : Hp}, Inv (re X (cutS X.s_0.heap.objs.size s4) (fz sc.heap.objs.size [] s4.heap H2)) pins σ7 H7 s7 → Le B' H7 → W (j + 1) B' σ7 (umz sc.heap.objs.size H7) →
          ∃ m, m < lim - j ∧ ∃ j x B Hg ip σg Hc σ', m = lim - j ∧ Lp X pins N qual scope f cd sc.heap.objs.size lim yl Rt a g x j B Hg ip σg Hc σ' s7 ∧ W j B σ' Hc := fun {σ7 H7} I7 hE w7 => by
        obtain ⟨T, as, kept⟩ := rested L P2.tied P2.asl I7 (gone5.trans gone7) hE
        have ka := kept a ob (Nat.le_of_lt P2.aS) P2.aH ho
        obtain ⟨ob', nm', qn', ho', hcl', hdt', hsl'⟩ := P2.gen
        rw [ho] at ho'; cases ho'
        exact ⟨lim - (j + 1), by omega, j + 1, y, B', Hg', ip', σg', _, σ7, rfl, ⟨inv_umz (inv_unre J0 I7) L, T, as, ⟨ob, nm', qn', ka.1, hcl', hdt', hsl'⟩, ka.2, P2.aG, P2.aS, P2.aI, Nat.le_trans P2.hsz (gone5.trans gone7).1, at7, P2.ready⟩, w7⟩
      cases fl with
      | next => obtain ⟨σ7, H7, I7, hE, w7⟩ := q; exact again I7 hE w7
      | cont => obtain ⟨σ7, H7, I7, hE, w7⟩ := q; exact again I7 hE w7
      | brk => obtain ⟨σ7, H7, I7, q7⟩ := q; exact ⟨σ7, H7, inv_unre J0 I7, q7⟩
      | ret v => obtain ⟨x7, σ7, H7, I7, r7, q7⟩ := q; exact ⟨x7, σ7, H7, inv_unre J0 I7, r7, q7⟩
end
end Ga

namespace Ab
open PySem L2

inductive Dt where
  | raw (v : V)
  | tup (ds : List Dt)
  | lst (ds : List Dt)
  | obj (C : Addr) (fs : List (Str × Dt))
  | scr (ns : List Int)
  | dK (kvs : List (Key × Dt))
  | dT (kvs : List (List Key × Dt))
  | exn (a : Addr) (d : Option Addr) (fs : List (Str × Dt))
  | err (C : Addr) (fs : List (Str × Dt))
  | dN (w : World) (kvs : List (NestedKey × Dt))
  | fz (kvs : List (Key × Dt))
noncomputable abbrev Dt.int (i : Int) : Dt := .raw (.int i)
noncomputable abbrev Dt.bl (b : Bool) : Dt := .raw (.bl b)
noncomputable abbrev Dt.str (s : Str) : Dt := .raw (.str s)
noncomputable abbrev Dt.non : Dt := .raw .non

mutual
noncomputable def dtN : NestedKey → Dt
  | .none => .raw .non
  | .num i => .raw (.int i)
  | .text x => .raw (.str x)
  | .tup ks => .tup (dtNs ks)
noncomputable def dtNs : List NestedKey → List Dt
  | [] => []
  | k :: r => dtN k :: dtNs r
end
noncomputable def DNOk (w : World) (a : Addr) (xs : List (NestedKey × Addr × V)) (h : Heap) : Prop :=
  xs.length ≤ sizeLine ∧ (a == sysModules) = false ∧ (∀ x ∈ xs, x.1.depth ≤ 8) ∧
  ∃ ys : List (NestedKey × Addr × Value), Paired (fun p q => p.1 = q.1 ∧ p.2.1 = q.2.1 ∧ RelV p.2.2 q.2.2) xs ys ∧
    ∃ o es ep, h.get? a = some o ∧ o.ExactDict ∧ o.data = .dict es ep ∧ es.toList = ys.map (fun y => (⟨y.1.hash w, .ref y.2.1, y.2.2⟩ : DictEntry)) ∧ (ys.map (·.1)).Nodup
noncomputable def dNO (w : World) (a : Addr) (xs : List (NestedKey × Addr × V)) : HO := .ext (DNOk w a xs)

inductive Is (K : PySem.W.Frag) (B : Hp) : V → Dt → Prop where
  | raw (v : V) : Is K B v (.raw v)
  | tup {a : Addr} {xs : List V} {ds : List Dt} (h : SqT K B a xs) (hl : xs.length = ds.length) (hi : ∀ (i : Nat) v d, xs[i]? = some v → ds[i]? = some d → Is K B v d) : Is K B (.ref a) (.tup ds)
  | lst {a : Addr} {xs : List V} {ds : List Dt} (h : B a = some (.lst xs)) (hl : xs.length = ds.length) (hi : ∀ (i : Nat) v d, xs[i]? = some v → ds[i]? = some d → Is K B v d) : Is K B (.ref a) (.lst ds)
  | obj {a dx C : Addr} {fs : List (Str × V)} {gs : List (Str × Dt)} (h : B a = some (.ins C dx fs)) (hk : ∀ f : Str, (fs.lookup f).isSome = (gs.lookup f).isSome) (hi : ∀ (f : Str) v d, fs.lookup f = some v → gs.lookup f = some d → Is K B v d) : Is K B (.ref a) (.obj C gs)
  | scr {a : Addr} {ns : List Int} (h : SqL K B a (ns.map V.int)) : Is K B (.ref a) (.scr ns)
  | dK {a : Addr} {xs : List (Key × V)} {kvs : List (Key × Dt)} (h : B a = some (.dK xs)) (hk : xs.map (·.1) = kvs.map (·.1)) (hi : ∀ (i : Nat) v d, (xs.map (·.2))[i]? = some v → (kvs.map (·.2))[i]? = some d → Is K B v d) : Is K B (.ref a) (.dK kvs)
  | dT {a : Addr} {xs : List (List Key × V)} {kvs : List (List Key × Dt)} (h : B a = some (.dT xs)) (hk : xs.map (·.1) = kvs.map (·.1)) (hi : ∀ (i : Nat) v d, (xs.map (·.2))[i]? = some v → (kvs.map (·.2))[i]? = some d → Is K B v d) : Is K B (.ref a) (.dT kvs)
  | exn0 {a : Addr} : Is K B (.ref a) (.exn a none [])
  | exnD {a dd : Addr} {fs : List (Str × V)} {gs : List (Str × Dt)} (h : B dd = some (.xd fs)) (hk : ∀ f : Str, (fs.lookup f).isSome = (gs.lookup f).isSome) (hi : ∀ (f : Str) v d, fs.lookup f = some v → gs.lookup f = some d → Is K B v d) : Is K B (.ref a) (.exn a (some dd) gs)
  | err0 {a C : Addr} (h : B a = some (exo a C none)) : Is K B (.ref a) (.err C [])
  | errD {a dd C : Addr} {fs : List (Str × V)} {gs : List (Str × Dt)} (h : B a = some (exo a C (some dd))) (hd : B dd = some (exd dd fs)) (hk : ∀ f : Str, (fs.lookup f).isSome = (gs.lookup f).isSome) (hi : ∀ (f : Str) v d, fs.lookup f = some v → gs.lookup f = some d → Is K B v d) : Is K B (.ref a) (.err C gs)
  | dN {a : Addr} {w : World} {xs : List (NestedKey × Addr × V)} {kvs : List (NestedKey × Dt)} (h : B a = some (dNO w a xs)) (hk : xs.map (·.1) = kvs.map (·.1)) (hq : ∀ (i : Nat) x, xs[i]? = some x → Is K B (.ref x.2.1) (dtN x.1)) (hi : ∀ (i : Nat) v d, (xs.map (·.2.2))[i]? = some v → (kvs.map (·.2))[i]? = some d → Is K B v d) : Is K B (.ref a) (.dN w kvs)
  | fz {a : Addr} {xs : List (Key × V)} {kvs : List (Key × Dt)} (h : Rd B a (.dK xs)) (hk : xs.map (·.1) = kvs.map (·.1)) (hi : ∀ (i : Nat) v d, (xs.map (·.2))[i]? = some v → (kvs.map (·.2))[i]? = some d → Is K B v d) : Is K B (.ref a) (.fz kvs)
structure IsA (K : PySem.W.Frag) (B : Hp) (vs : List V) (ds : List Dt) : Prop where
  len : vs.length = ds.length
  at_ : ∀ (i : Nat) v d, vs[i]? = some v → ds[i]? = some d → Is K B v d

section
variable {K : PySem.W.Frag} {B B' H H' : Hp} {v : V} {d : Dt} {vs : List V} {ds : List Dt}
theorem sqT_mono {a : Addr} {xs : List V} (e : Same B B') (h : SqT K B a xs) : SqT K B' a xs := by
  rcases h with (h | ⟨o, h⟩) | h
  · exact .inl (.inl (e _ _ h))
  · exact .inl (.inr ⟨o, e _ _ h⟩)
  · exact .inr h
theorem Is.mono (e : Same B B') (h : Is K B v d) : Is K B' v d := by
  induction h with
  | raw v => exact .raw v
  | tup h hl hi ih => exact .tup (sqT_mono e h) hl ih
  | lst h hl hi ih => exact .lst (e _ _ h) hl ih
  | obj h hk hi ih => exact .obj (e _ _ h) hk ih
  | scr h => exact .scr (e.seq h)
  | dK h hk hi ih => exact .dK (e _ _ h) hk ih
  | dT h hk hi ih => exact .dT (e _ _ h) hk ih
  | exn0 => exact .exn0
  | exnD h hk hi ih => exact .exnD (e _ _ h) hk ih
  | err0 h => exact .err0 (e _ _ h)
  | errD h hd hk hi ih => exact .errD (e _ _ h) (e _ _ hd) hk ih
  | dN h hk hq hi ihq ih => exact .dN (e _ _ h) hk ihq ih
  | fz h hk hi ih => exact .fz (h.imp (e _ _) fun ⟨o, h⟩ => ⟨o, e _ _ h⟩) hk ih
theorem IsA.mono (e : Same B B') (h : IsA K B vs ds) : IsA K B' vs ds := ⟨h.len, fun i v d a b => (h.at_ i v d a b).mono e⟩
theorem Is.rawI (h : Is K B v (.raw u)) : v = u := by cases h; rfl
theorem IsA.nil : IsA K B [] [] := ⟨rfl, fun i v d a => by simp at a⟩
theorem IsA.snoc (h : IsA K B vs ds) (hv : Is K B v d) : IsA K B (vs ++ [v]) (ds ++ [d]) := by
  refine ⟨by simp [h.len], fun i w e a b => ?_⟩
  by_cases hi : i < vs.length
  · rw [List.getElem?_append_left hi] at a
    rw [List.getElem?_append_left (by rw [← h.len]; exact hi)] at b
    exact h.at_ i w e a b
  · rw [List.getElem?_append_right (by omega)] at a
    rw [List.getElem?_append_right (by rw [← h.len]; omega)] at b
    rw [← h.len] at b
    generalize i - vs.length = j at a b
    cases j with
    | zero => simp at a b; subst a b; exact hv
    | succ j => simp at a
theorem IsA.cons (hv : Is K B v d) (h : IsA K B vs ds) : IsA K B (v :: vs) (d :: ds) := by
  refine ⟨by simp [h.len], fun i w e a b => ?_⟩
  cases i with
  | zero => simp at a b; subst a b; exact hv
  | succ j => simp at a b; exact h.at_ j w e a b
theorem IsA.append {us : List V} {es : List Dt} (h : IsA K B vs ds) (h' : IsA K B us es) : IsA K B (vs ++ us) (ds ++ es) := by
  refine ⟨by simp [h.len, h'.len], fun i w e a b => ?_⟩
  by_cases hi : i < vs.length
  · rw [List.getElem?_append_left hi] at a
    rw [List.getElem?_append_left (by rw [← h.len]; exact hi)] at b
    exact h.at_ i w e a b
  · rw [List.getElem?_append_right (by omega)] at a
    rw [List.getElem?_append_right (by rw [← h.len]; omega)] at b
    rw [← h.len] at b
    exact h'.at_ _ w e a b
theorem IsA.get {i : Nat} (h : IsA K B vs ds) (e : ds[i]? = some d) : ∃ v, vs[i]? = some v ∧ Is K B v d := by
  have hi : i < ds.length := (List.getElem?_eq_some_iff.mp e).1
  have hv : i < vs.length := by rw [h.len]; exact hi
  exact ⟨vs[i], List.getElem?_eq_getElem hv, h.at_ i _ d (List.getElem?_eq_getElem hv) e⟩
theorem IsA.set {j : Nat} (h : IsA K B vs ds) (hv : Is K B v d) : IsA K B (vs.set j v) (ds.set j d) := by
  refine ⟨by simp [h.len], fun i w e a b => ?_⟩
  by_cases hij : j = i
  · subst hij
    have h1 : j < (vs.set j v).length := (List.getElem?_eq_some_iff.mp a).1
    rw [List.length_set] at h1
    rw [List.getElem?_set_self h1] at a
    rw [List.getElem?_set_self (by rw [← h.len]; exact h1)] at b
    cases a; cases b; exact hv
  · rw [List.getElem?_set_ne hij] at a b
    exact h.at_ i w e a b
theorem IsA.drop (n : Nat) (h : IsA K B vs ds) : IsA K B (vs.drop n) (ds.drop n) := by
  refine ⟨by simp [h.len], fun i w e a b => ?_⟩
  rw [List.getElem?_drop] at a b
  exact h.at_ _ w e a b
theorem IsA.take (n : Nat) (h : IsA K B vs ds) : IsA K B (vs.take n) (ds.take n) := by
  refine ⟨by simp [h.len], fun i w e a b => ?_⟩
  rw [List.getElem?_take] at a b
  split at a
  · rename_i hi
    rw [if_pos hi] at b
    exact h.at_ _ w e a b
  · cases a
theorem IsA.reverse (h : IsA K B vs ds) : IsA K B vs.reverse ds.reverse := by
  refine ⟨by simp [h.len], fun i w e a b => ?_⟩
  have hi : i < vs.length := by
    have := (List.getElem?_eq_some_iff.mp a).1
    simpa using this
  rw [List.getElem?_reverse hi] at a
  rw [List.getElem?_reverse (by rw [← h.len]; exact hi)] at b
  rw [← h.len] at b
  exact h.at_ _ w e a b
theorem Is.tupR (h : Is K B v (.tup ds)) : ∃ a xs, v = .ref a ∧ SqT K B a xs ∧ IsA K B xs ds := by
  cases h with
  | tup h hl hi => exact ⟨_, _, rfl, h, hl, hi⟩
theorem Is.lstR (h : Is K B v (.lst ds)) : ∃ a xs, v = .ref a ∧ B a = some (.lst xs) ∧ IsA K B xs ds := by
  cases h with
  | lst h hl hi => exact ⟨_, _, rfl, h, hl, hi⟩
theorem IsA.atI {i : Int} {d : Dt} (h : IsA K B vs ds) (e : L2.atI ds i = some d) : ∃ v, L2.atI vs i = some v ∧ Is K B v d := by
  unfold L2.atI at e ⊢
  rw [h.len]
  cases q : ixN ds.length i with
  | none => rw [q] at e; cases e
  | some j =>
    rw [q] at e
    exact h.get e
theorem IsA.raws : ∀ {xs : List V}, IsA K B xs (xs.map Dt.raw)
  | [] => .nil
  | x :: r => .cons (.raw x) IsA.raws
theorem IsA.rawsI : ∀ {us xs : List V}, IsA K B us (xs.map Dt.raw) → us = xs
  | [], [], _ => rfl
  | [], _ :: _, h => by have := h.len; simp at this
  | _ :: _, [], h => by have := h.len; simp at this
  | u :: us, x :: xs, h => by
    have h0 := h.at_ 0 u (.raw x) rfl rfl
    have ht : IsA K B us (xs.map Dt.raw) := ⟨by have := h.len; simpa using this, fun i v d a b => h.at_ (i + 1) v d (by simpa using a) (by simpa using b)⟩
    rw [h0.rawI, ht.rawsI]
end

inductive Cn where
  | lst (ds : List Dt)
  | dK (kvs : List (Key × Dt))
  | dT (kvs : List (List Key × Dt))
  | dN (w : World) (kvs : List (NestedKey × Dt))
noncomputable def Cn.dt : Cn → Dt
  | .lst ds => .lst ds
  | .dK kvs => .dK kvs
  | .dT kvs => .dT kvs
  | .dN w kvs => .dN w kvs
structure IsKv {κ : Type} (K : PySem.W.Frag) (B : Hp) (xs : List (κ × V)) (kvs : List (κ × Dt)) : Prop where
  ks : xs.map (·.1) = kvs.map (·.1)
  vs : IsA K B (xs.map (·.2)) (kvs.map (·.2))
structure IsNv (K : PySem.W.Frag) (B : Hp) (xs : List (NestedKey × Addr × V)) (kvs : List (NestedKey × Dt)) : Prop where
  ks : xs.map (·.1) = kvs.map (·.1)
  qs : ∀ (i : Nat) x, xs[i]? = some x → Is K B (.ref x.2.1) (dtN x.1)
  vs : IsA K B (xs.map (·.2.2)) (kvs.map (·.2))
noncomputable def CnIs (K : PySem.W.Frag) (B : Hp) (a : Addr) (o : HO) : Cn → Prop
  | .lst ds => ∃ vs, o = .lst vs ∧ IsA K B vs ds
  | .dK kvs => ∃ xs, o = .dK xs ∧ IsKv K B xs kvs
  | .dT kvs => ∃ xs, o = .dT xs ∧ IsKv K B xs kvs
  | .dN w kvs => ∃ xs, o = dNO w a xs ∧ IsNv K B xs kvs
theorem IsNv.mono {K : PySem.W.Frag} {B B' : Hp} {xs : List (NestedKey × Addr × V)} {kvs : List (NestedKey × Dt)} (e : Same B B') (h : IsNv K B xs kvs) : IsNv K B' xs kvs := ⟨h.ks, fun i x q => (h.qs i x q).mono e, h.vs.mono e⟩
theorem CnIs.mono {K : PySem.W.Frag} {B B' : Hp} {a : Addr} {o : HO} {c : Cn} (e : Same B B') (h : CnIs K B a o c) : CnIs K B' a o c := by
  cases c with
  | lst ds => obtain ⟨vs, e1, e2⟩ := h; exact ⟨vs, e1, e2.mono e⟩
  | dK kvs => obtain ⟨vs, e1, e2, e3⟩ := h; exact ⟨vs, e1, e2, e3.mono e⟩
  | dT kvs => obtain ⟨vs, e1, e2, e3⟩ := h; exact ⟨vs, e1, e2, e3.mono e⟩
  | dN w kvs => obtain ⟨vs, e1, e2⟩ := h; exact ⟨vs, e1, e2.mono e⟩
theorem CnIs.is {K : PySem.W.Frag} {B : Hp} {o : HO} {c : Cn} {a : Addr} (hb : B a = some o) (h : CnIs K B a o c) : Is K B (.ref a) c.dt := by
  cases c with
  | lst ds => obtain ⟨vs, rfl, e2⟩ := h; exact .lst hb e2.len e2.at_
  | dK kvs => obtain ⟨vs, rfl, e2, e3⟩ := h; exact .dK hb e2 e3.at_
  | dT kvs => obtain ⟨vs, rfl, e2, e3⟩ := h; exact .dT hb e2 e3.at_
  | dN w kvs => obtain ⟨vs, rfl, e2⟩ := h; exact .dN hb e2.ks e2.qs e2.vs.at_
inductive Sl where
  | un
  | val (d : Dt)
  | cel (c : Cn)
noncomputable abbrev Sl.acc (ds : List Dt) : Sl := .cel (.lst ds)
noncomputable def Own (σ : L2.St) (Γ : List Sl) (a : Addr) : Prop := ∃ (i : Nat) (c : Cn), Γ[i]? = some (.cel c) ∧ σ[i]? = some (some (.ref a))
structure Env (K : PySem.W.Frag) (B H : Hp) (σ : L2.St) (Γ : List Sl) : Prop where
  len : σ.length = Γ.length
  bh : Same B H
  val : ∀ (i : Nat) d, Γ[i]? = some (.val d) → ∃ v, σ[i]? = some (some v) ∧ Is K B v d
  cel : ∀ (i : Nat) c, Γ[i]? = some (.cel c) → ∃ l o, σ[i]? = some (some (.ref l)) ∧ H l = some o ∧ B l = none ∧ CnIs K B l o c
  sep : ∀ (i j : Nat) c d l, Γ[i]? = some (.cel c) → Γ[j]? = some (.cel d) → σ[i]? = some (some (.ref l)) → σ[j]? = some (some (.ref l)) → i = j
theorem Env.acc {K : PySem.W.Frag} {B H : Hp} {σ : L2.St} {Γ : List Sl} (E : Env K B H σ Γ) (i : Nat) (ds : List Dt) (h : Γ[i]? = some (.acc ds)) : ∃ l vs, σ[i]? = some (some (.ref l)) ∧ H l = some (.lst vs) ∧ B l = none ∧ IsA K B vs ds := by
  obtain ⟨l, o, e1, e2, e3, vs, rfl, e4⟩ := E.cel i _ h
  exact ⟨l, vs, e1, e2, e3, e4⟩
structure Mv (m : Addr → Prop) (B H B' H' : Hp) : Prop where
  kp : ∀ a o, ¬ m a → H a = some o → H' a = some o
  bb : Same B B'
  off : ∀ a, ¬ m a → H a ≠ none → B a = none → B' a = none
theorem Mv.refl (m : Addr → Prop) (B H : Hp) : Mv m B H B H := ⟨fun _ _ _ h => h, Same.refl B, fun _ _ _ h => h⟩
theorem Mv.trans {m m1 : Addr → Prop} {B H B1 H1 B2 H2 : Hp} (x : Mv m B H B1 H1) (hm : ∀ a, m1 a → m a ∨ H a = none) (y : Mv m1 B1 H1 B2 H2) : Mv m B H B2 H2 := by
  have nm : ∀ a, ¬ m a → H a ≠ none → ¬ m1 a := fun a na ha z => (hm a z).elim na ha
  refine ⟨fun a o na e => ?_, x.bb.trans y.bb, fun a na ha hb => ?_⟩
  · exact y.kp a o (nm a na (by rw [e]; exact fun z => nomatch z)) (x.kp a o na e)
  · refine y.off a (nm a na ha) ?_ (x.off a na ha hb)
    cases q : H a with
    | none => exact absurd q ha
    | some o => rw [x.kp a o na q]; exact fun z => nomatch z
theorem Mv.back {m : Addr → Prop} {B H B1 H1 : Hp} (x : Mv m B H B1 H1) {a : Addr} (h : H1 a = none) : m a ∨ H a = none := by
  by_cases hm : m a
  · exact .inl hm
  · refine .inr ?_
    cases q : H a with
    | none => rfl
    | some o => rw [x.kp a o hm q] at h; cases h
inductive Re where
  | val (d : Dt)
  | nw (c : Cn)
  | own (i : Nat)
noncomputable abbrev Re.new (ds : List Dt) : Re := .nw (.lst ds)
noncomputable def Re.dt? : Re → Option Dt
  | .val d => some d
  | .nw c => some c.dt
  | .own _ => none
noncomputable def ReOk (K : PySem.W.Frag) (σ : L2.St) (m m' : Addr → Prop) (B' H H' : Hp) (v : V) : Re → Prop
  | .val d => Is K B' v d
  | .nw c => ∃ l o, v = .ref l ∧ (m l ∨ H l = none) ∧ ¬ m' l ∧ H' l = some o ∧ B' l = none ∧ CnIs K B' l o c
  | .own i => ∃ l, v = .ref l ∧ σ[i]? = some (some (.ref l))
structure Go (K : PySem.W.Frag) (σ : L2.St) (B H : Hp) (Γ : List Sl) (B' H' : Hp) (Γ' : List Sl) : Prop where
  mv : Mv (Own σ Γ) B H B' H'
  ac : ∀ (i : Nat) c, Γ'[i]? = some (.cel c) → ∃ d, Γ[i]? = some (.cel d)
  env : Env K B' H' σ Γ'
theorem Go.sub {K : PySem.W.Frag} {σ : L2.St} {B H B' H' : Hp} {Γ Γ' : List Sl} (g : Go K σ B H Γ B' H' Γ') : ∀ a, Own σ Γ' a → Own σ Γ a := fun a ⟨i, ds, h1, h2⟩ => by
  obtain ⟨es, h⟩ := g.ac i ds h1
  exact ⟨i, es, h, h2⟩
section
variable {K : PySem.W.Frag} {σ : L2.St} {B H B1 H1 B2 H2 : Hp} {Γ Γ1 Γ2 : List Sl} {v : V} {r : Re}
theorem Go.refl (E : Env K B H σ Γ) : Go K σ B H Γ B H Γ := ⟨Mv.refl _ _ _, fun _ ds h => ⟨ds, h⟩, E⟩
theorem Go.trans (x : Go K σ B H Γ B1 H1 Γ1) (y : Go K σ B1 H1 Γ1 B2 H2 Γ2) : Go K σ B H Γ B2 H2 Γ2 :=
  ⟨x.mv.trans (fun a h => .inl (x.sub a h)) y.mv, fun i ds h => by
    obtain ⟨es, h1⟩ := y.ac i ds h
    exact x.ac i es h1, y.env⟩
theorem Env.tracked (E : Env K B H σ Γ) {a : Addr} (h : Own σ Γ a) : ∃ o, H a = some o ∧ B a = none := by
  obtain ⟨i, ds, h1, h2⟩ := h
  obtain ⟨l, vs, e1, e2, e3, _⟩ := E.cel i ds h1
  rw [h2] at e1
  cases e1
  exact ⟨vs, e2, e3⟩
theorem ReOk.raw {m m' : Addr → Prop} (v : V) : ReOk K σ m m' B1 H H1 v (.val (.raw v)) := Is.raw v
theorem ReOk.step {m m1 m2 : Addr → Prop} (h : ReOk K σ m m1 B1 H H1 v r) (y : Mv m1 B1 H1 B2 H2) (hs : ∀ a, m2 a → m1 a) : ReOk K σ m m2 B2 H H2 v r := by
  cases r with
  | val d => exact Is.mono y.bb h
  | nw ds =>
    obtain ⟨l, vs, e, h1, h2, h3, h4, h5⟩ := h
    exact ⟨l, vs, e, h1, fun z => h2 (hs l z), y.kp l _ h2 h3, y.off l h2 (by rw [h3]; exact fun z => nomatch z) h4, h5.mono y.bb⟩
  | own i => exact h
theorem ReOk.earlier {m m1 m2 : Addr → Prop} (h : ReOk K σ m1 m2 B2 H1 H2 v r) (x : Mv m B H B1 H1) (hm : ∀ a, m1 a → m a ∨ H a = none) : ReOk K σ m m2 B2 H H2 v r := by
  cases r with
  | val d => exact h
  | nw ds =>
    obtain ⟨l, vs, e, h1, h2, h3⟩ := h
    refine ⟨l, vs, e, ?_, h2, h3⟩
    rcases h1 with h1 | h1
    · exact hm l h1
    · exact x.back h1
  | own i => exact h
theorem Env.laid (E : Env K B H σ Γ) {p : Addr} {o : HO} (hp : H p = none) : Env K (upd B p o) (upd H p o) σ Γ := by
  have hb : B p = none := by
    cases q : B p with
    | none => rfl
    | some u => rw [E.bh p u q] at hp; cases hp
  have sB : Same B (upd B p o) := fun a u e => by rw [upd_ne (ne_of_none e hb)]; exact e
  refine ⟨E.len, fun a u e => ?_, fun i d h => ?_, fun i ds h => ?_, E.sep⟩
  · by_cases ha : a = p
    · subst ha; rw [upd_same] at e ⊢; exact e
    · rw [upd_ne ha] at e ⊢; exact E.bh a u e
  · obtain ⟨v, e, q⟩ := E.val i d h
    exact ⟨v, e, q.mono sB⟩
  · obtain ⟨l, vs, e, e1, e2, q⟩ := E.cel i ds h
    have hl : l ≠ p := ne_of_none e1 hp
    exact ⟨l, vs, e, by rw [upd_ne hl]; exact e1, by rw [upd_ne hl]; exact e2, q.mono sB⟩
theorem Go.laid (E : Env K B H σ Γ) {p : Addr} {o : HO} (hp : H p = none) : Go K σ B H Γ (upd B p o) (upd H p o) Γ := by
  have hb : B p = none := by
    cases q : B p with
    | none => rfl
    | some u => rw [E.bh p u q] at hp; cases hp
  refine ⟨⟨fun a u _ e => by rw [upd_ne (ne_of_none e hp)]; exact e, fun a u e => by rw [upd_ne (ne_of_none e hb)]; exact e, fun a _ ha hb' => ?_⟩, fun _ ds h => ⟨ds, h⟩, E.laid hp⟩
  have : a ≠ p := fun z => by subst z; exact ha hp
  rw [upd_ne this]; exact hb'
theorem Env.beside (E : Env K B H σ Γ) {p : Addr} {o : HO} (hp : H p = none) : Env K B (upd H p o) σ Γ := by
  refine ⟨E.len, fun a u e => ?_, E.val, fun i ds h => ?_, E.sep⟩
  · have h := E.bh a u e
    rw [upd_ne (ne_of_none h hp)]; exact h
  · obtain ⟨l, vs, e, e1, e2, q⟩ := E.cel i ds h
    exact ⟨l, vs, e, by rw [upd_ne (ne_of_none e1 hp)]; exact e1, e2, q⟩
theorem Go.beside (E : Env K B H σ Γ) {p : Addr} {o : HO} (hp : H p = none) : Go K σ B H Γ B (upd H p o) Γ :=
  ⟨⟨fun a u _ e => by rw [upd_ne (ne_of_none e hp)]; exact e, Same.refl B, fun _ _ _ h => h⟩, fun _ ds h => ⟨ds, h⟩, E.beside hp⟩
theorem Env.base_none (E : Env K B H σ Γ) {p : Addr} (hp : H p = none) : B p = none := by
  cases q : B p with
  | none => rfl
  | some u => rw [E.bh p u q] at hp; cases hp
theorem Env.not_own (E : Env K B H σ Γ) {p : Addr} (hp : H p = none) : ¬ Own σ Γ p := fun z => by
  obtain ⟨vs, h, _⟩ := E.tracked z
  rw [hp] at h; cases h
end

noncomputable def WE (K : PySem.W.Frag) (te : TE) (Γ : List Sl) (Post : Re → List Sl → Prop) : Prop := ∀ σ B H, Env K B H σ Γ → ∀ Q : VK,
  (∀ v B' H' r Γ', Go K σ B H Γ B' H' Γ' → ReOk K σ (Own σ Γ) (Own σ Γ') B' H H' v r → Post r Γ' → Q v H') → te σ H Q
noncomputable def WT (K : PySem.W.Frag) (tt : TT) (Γ : List Sl) (Post : Bool → List Sl → Prop) : Prop := ∀ σ B H, Env K B H σ Γ → ∀ Q : Bool → Hp → Prop,
  (∀ b B' H' Γ', Go K σ B H Γ B' H' Γ' → Post b Γ' → Q b H') → tt σ H Q
noncomputable def WD (K : PySem.W.Frag) (ta : TA) (Γ : List Sl) (Post : List Dt → List Sl → Prop) : Prop := ∀ σ B H, Env K B H σ Γ → ∀ Q : List V → Hp → Prop,
  (∀ vs B' H' ds Γ', Go K σ B H Γ B' H' Γ' → IsA K B' vs ds → Post ds Γ' → Q vs H') → ta σ H Q
section
variable {K : PySem.W.Frag} {Γ : List Sl} {Post : Re → List Sl → Prop} {ta tb tc te : TE} {t u : TT}
theorem we_mono {Post' : Re → List Sl → Prop} (h : WE K te Γ Post) (hp : ∀ r Γ', Post r Γ' → Post' r Γ') : WE K te Γ Post' := fun σ B H E Q q => h σ B H E Q fun v B' H' r Γ' g k p => q v B' H' r Γ' g k (hp r Γ' p)
theorem we_var {i : Nat} {d : Dt} (h : Γ[i]? = some (.val d)) (p : Post (.val d) Γ) : WE K (tVar i) Γ Post := fun σ B H E Q q => by
  obtain ⟨v, e, k⟩ := E.val i d h
  exact ⟨v, e, q v B H (.val d) Γ (.refl E) k p⟩
theorem we_c {v : V} (p : Post (.val (.raw v)) Γ) : WE K (tC v) Γ Post := fun σ B H E Q q => q v B H (.val (.raw v)) Γ (.refl E) (.raw v) p
theorem we_own {i : Nat} {ds : Cn} (h : Γ[i]? = some (.cel ds)) (p : Post (.own i) Γ) : WE K (tVar i) Γ Post := fun σ B H E Q q => by
  obtain ⟨l, vs, e, e1, e2, k⟩ := E.cel i ds h
  exact ⟨.ref l, e, q (.ref l) B H (.own i) Γ (.refl E) ⟨l, rfl, e⟩ p⟩
theorem we_move {i : Nat} {ds : Cn} (h : Γ[i]? = some (.cel ds)) (p : Post (.nw ds) (Γ.set i .un)) : WE K (tVar i) Γ Post := fun σ B H E Q q => by
  obtain ⟨l, vs, e, e1, e2, k⟩ := E.cel i ds h
  have hl : i < Γ.length := (List.getElem?_eq_some_iff.mp h).1
  have ne : ∀ {j : Nat} {s : Sl}, (Γ.set i .un)[j]? = some s → s ≠ .un → j ≠ i := fun {j s} hj hs z => by
    subst z
    rw [List.getElem?_set_self hl] at hj
    cases hj; exact hs rfl
  have sub : ∀ {j : Nat} {s : Sl}, (Γ.set i .un)[j]? = some s → s ≠ .un → Γ[j]? = some s := fun {j s} hj hs => by
    have := ne hj hs
    rw [List.getElem?_set_ne (fun z => this z.symm)] at hj
    exact hj
  have E' : Env K B H σ (Γ.set i .un) := ⟨by rw [List.length_set]; exact E.len, E.bh, fun j d hj => E.val j d (sub hj (fun z => nomatch z)), fun j es hj => E.cel j es (sub hj (fun z => nomatch z)),
    fun j k ds es l h1 h2 => E.sep j k ds es l (sub h1 (fun z => nomatch z)) (sub h2 (fun z => nomatch z))⟩
  have sb : ∀ (j : Nat) es, (Γ.set i .un)[j]? = some (.cel es) → ∃ es', Γ[j]? = some (.cel es') := fun j es h1 => ⟨es, sub h1 (fun z => nomatch z)⟩
  refine ⟨.ref l, e, q (.ref l) B H (.nw ds) _ ⟨Mv.refl _ _ _, sb, E'⟩ ⟨l, vs, rfl, .inl ⟨i, ds, h, e⟩, ?_, e1, e2, k⟩ p⟩
  rintro ⟨j, es, h1, h2⟩
  exact ne h1 (fun z => nomatch z) (E.sep j i es ds l (sub h1 (fun z => nomatch z)) h h2 e)
theorem we_freeze (h : WE K te Γ fun r Γ1 => ∃ d, r.dt? = some d ∧ Post (.val d) Γ1) : WE K te Γ Post := fun σ B H E Q q => by
  refine h σ B H E Q fun v B1 H1 r Γ1 g k p => ?_
  obtain ⟨d, hd, p⟩ := p
  cases r with
  | own i => cases hd
  | val d =>
    cases hd
    exact q v B1 H1 (.val d) Γ1 g k p
  | nw ds =>
    cases hd
    obtain ⟨l, vs, rfl, h1, h2, h3, h4, h5⟩ := k
    have sB : Same B1 (upd B1 l vs) := fun a u e => by rw [upd_ne (ne_of_none e h4)]; exact e
    refine q (.ref l) (upd B1 l vs) H1 (.val ds.dt) Γ1 ⟨⟨g.mv.kp, g.mv.bb.trans sB, fun a na ha hb => ?_⟩, g.ac, ?_⟩ ?_ p
    · have hal : a ≠ l := fun z => by
        subst z
        exact h1.elim na ha
      rw [upd_ne hal]; exact g.mv.off a na ha hb
    · refine ⟨g.env.len, fun a u e => ?_, fun i d hi => ?_, fun i es hi => ?_, g.env.sep⟩
      · by_cases ha : a = l
        · subst ha; rw [upd_same] at e; cases e; exact h3
        · rw [upd_ne ha] at e; exact g.env.bh a u e
      · obtain ⟨w, e, k⟩ := g.env.val i d hi
        exact ⟨w, e, k.mono sB⟩
      · obtain ⟨c, us, e, e1, e2, k⟩ := g.env.cel i es hi
        have hc : c ≠ l := fun z => by
          subst z
          exact h2 ⟨i, es, hi, e⟩
        exact ⟨c, us, e, e1, by rw [upd_ne hc]; exact e2, k.mono sB⟩
    · exact (h5.mono sB).is upd_same
theorem we_opI {C : Int → Int → Prop} {g : Int → Int → V} (h : WE K ta Γ fun ra Γ1 => ∃ i, ra = .val (.int i) ∧ WE K tb Γ1 fun rb Γ2 => ∃ j, rb = .val (.int j) ∧ C i j ∧ Post (.val (.raw (g i j))) Γ2) : WE K (tOp (rI C g) ta tb) Γ Post := fun σ B H E Q q => by
  refine h σ B H E _ fun x B1 H1 ra Γ1 g1 k1 p1 => ?_
  obtain ⟨i, rfl, p1⟩ := p1
  refine p1 σ B1 H1 g1.env _ fun y B2 H2 rb Γ2 g2 k2 p2 => ?_
  obtain ⟨j, rfl, hc, p⟩ := p2
  cases Is.rawI k1
  cases Is.rawI k2
  exact ⟨i, j, rfl, rfl, hc, q _ B2 H2 _ Γ2 (g1.trans g2) (.raw _) p⟩
theorem we_opI0 {g : Int → Int → V} (h : WE K ta Γ fun ra Γ1 => ∃ i, ra = .val (.int i) ∧ WE K tb Γ1 fun rb Γ2 => ∃ j, rb = .val (.int j) ∧ Post (.val (.raw (g i j))) Γ2) : WE K (tOp (rI0 g) ta tb) Γ Post := fun σ B H E Q q => by
  refine h σ B H E _ fun x B1 H1 ra Γ1 g1 k1 p1 => ?_
  obtain ⟨i, rfl, p1⟩ := p1
  refine p1 σ B1 H1 g1.env _ fun y B2 H2 rb Γ2 g2 k2 p2 => ?_
  obtain ⟨j, rfl, p⟩ := p2
  cases Is.rawI k1
  cases Is.rawI k2
  exact ⟨i, j, rfl, rfl, q _ B2 H2 _ Γ2 (g1.trans g2) (.raw _) p⟩
theorem we_neg (h : WE K ta Γ fun ra Γ1 => ∃ i, ra = .val (.int i) ∧ Post (.val (.int (-i))) Γ1) : WE K (tUn (rU fun i => .int (-i)) ta) Γ Post := fun σ B H E Q q => by
  refine h σ B H E _ fun x B1 H1 ra Γ1 g1 k1 p1 => ?_
  obtain ⟨i, rfl, p⟩ := p1
  cases Is.rawI k1
  exact ⟨i, rfl, q _ B1 H1 _ Γ1 g1 (.raw _) p⟩
theorem wt_test {P : Bool → List Sl → Prop} (h : WE K te Γ fun r Γ1 => ∃ b, r = .val (.bl b) ∧ P b Γ1) : WT K (tTest te) Γ P := fun σ B H E Q q => by
  refine h σ B H E _ fun x B1 H1 r Γ1 g k p => ?_
  obtain ⟨b, rfl, p⟩ := p
  cases Is.rawI k
  exact ⟨b, rfl, q b B1 H1 Γ1 g p⟩
theorem wt_B {P : Bool → List Sl → Prop} (h : WE K te Γ fun r Γ1 => ∃ b, r = .val (.bl b) ∧ P b Γ1) : WT K (tB te) Γ P := wt_test h
theorem wt_and {P : Bool → List Sl → Prop} (h : WT K t Γ fun b Γ1 => (b = true → WT K u Γ1 P) ∧ (b = false → P false Γ1)) : WT K (tAnd t u) Γ P := fun σ B H E Q q => by
  refine h σ B H E _ fun b B1 H1 Γ1 g p => ?_
  cases b with
  | true =>
    show u σ H1 Q
    exact p.1 rfl σ B1 H1 g.env Q fun b B' H' Γ' g' p' => q b B' H' Γ' (g.trans g') p'
  | false =>
    show Q false H1
    exact q false B1 H1 Γ1 g (p.2 rfl)
theorem wt_or {P : Bool → List Sl → Prop} (h : WT K t Γ fun b Γ1 => (b = false → WT K u Γ1 P) ∧ (b = true → P true Γ1)) : WT K (tOr t u) Γ P := fun σ B H E Q q => by
  refine h σ B H E _ fun b B1 H1 Γ1 g p => ?_
  cases b with
  | false =>
    show u σ H1 Q
    exact p.1 rfl σ B1 H1 g.env Q fun b B' H' Γ' g' p' => q b B' H' Γ' (g.trans g') p'
  | true =>
    show Q true H1
    exact q true B1 H1 Γ1 g (p.2 rfl)
theorem wt_not {P : Bool → List Sl → Prop} (h : WT K t Γ fun b Γ1 => P (!b) Γ1) : WT K (tNot t) Γ P := fun σ B H E Q q => h σ B H E _ fun b B1 H1 Γ1 g p => q (!b) B1 H1 Γ1 g p
theorem we_andV (h : WE K ta Γ fun ra Γ1 => ∃ b, ra = .val (.bl b) ∧ (b = true → WE K tb Γ1 Post) ∧ (b = false → Post (.val (.bl false)) Γ1)) : WE K (tAndV ta tb) Γ Post := fun σ B H E Q q => by
  refine h σ B H E _ fun x B1 H1 ra Γ1 g k p => ?_
  obtain ⟨b, rfl, p1, p2⟩ := p
  cases Is.rawI k
  refine ⟨b, rfl, ?_⟩
  cases b with
  | true =>
    show tb σ H1 Q
    exact p1 rfl σ B1 H1 g.env Q fun v B' H' r Γ' g' k' p' => q v B' H' r Γ' (g.trans g') (ReOk.earlier k' g.mv fun a h => .inl (g.sub a h)) p'
  | false =>
    show Q (.bl false) H1
    exact q _ B1 H1 _ Γ1 g (.raw _) (p2 rfl)
theorem we_orV (h : WE K ta Γ fun ra Γ1 => ∃ b, ra = .val (.bl b) ∧ (b = false → WE K tb Γ1 Post) ∧ (b = true → Post (.val (.bl true)) Γ1)) : WE K (tOrV ta tb) Γ Post := fun σ B H E Q q => by
  refine h σ B H E _ fun x B1 H1 ra Γ1 g k p => ?_
  obtain ⟨b, rfl, p1, p2⟩ := p
  cases Is.rawI k
  refine ⟨b, rfl, ?_⟩
  cases b with
  | false =>
    show tb σ H1 Q
    exact p1 rfl σ B1 H1 g.env Q fun v B' H' r Γ' g' k' p' => q v B' H' r Γ' (g.trans g') (ReOk.earlier k' g.mv fun a h => .inl (g.sub a h)) p'
  | true =>
    show Q (.bl true) H1
    exact q _ B1 H1 _ Γ1 g (.raw _) (p2 rfl)
theorem we_notV (h : WE K ta Γ fun ra Γ1 => ∃ b, ra = .val (.bl b) ∧ Post (.val (.bl (!b))) Γ1) : WE K (tNotV ta) Γ Post := fun σ B H E Q q => by
  refine h σ B H E _ fun x B1 H1 ra Γ1 g k p => ?_
  obtain ⟨b, rfl, p⟩ := p
  cases Is.rawI k
  exact ⟨b, rfl, q _ B1 H1 _ Γ1 g (.raw _) p⟩
theorem we_if (h : WT K t Γ fun b Γ1 => (b = true → WE K ta Γ1 Post) ∧ (b = false → WE K tb Γ1 Post)) : WE K (tIf t ta tb) Γ Post := fun σ B H E Q q => by
  refine h σ B H E _ fun b B1 H1 Γ1 g p => ?_
  cases b with
  | true =>
    show ta σ H1 Q
    exact p.1 rfl σ B1 H1 g.env Q fun v B' H' r Γ' g' k' p' => q v B' H' r Γ' (g.trans g') (ReOk.earlier k' g.mv fun a h => .inl (g.sub a h)) p'
  | false =>
    show tb σ H1 Q
    exact p.2 rfl σ B1 H1 g.env Q fun v B' H' r Γ' g' k' p' => q v B' H' r Γ' (g.trans g') (ReOk.earlier k' g.mv fun a h => .inl (g.sub a h)) p'
theorem wd_nil {P : List Dt → List Sl → Prop} (p : P [] Γ) : WD K tNil Γ P := fun σ B H E Q q => q [] B H [] Γ (.refl E) .nil p
theorem wd_cons {P : List Dt → List Sl → Prop} {tr : TA} (h : WE K te Γ fun r Γ1 => ∃ d, r.dt? = some d ∧ WD K tr Γ1 fun ds Γ2 => P (d :: ds) Γ2) : WD K (tCons te tr) Γ P := fun σ B H E Q q => by
  have h' : WE K te Γ fun r Γ1 => ∃ d, r = .val d ∧ WD K tr Γ1 fun ds Γ2 => P (d :: ds) Γ2 := we_freeze (we_mono h fun r Γ1 ⟨d, hd, k⟩ => ⟨d, hd, d, rfl, k⟩)
  refine h' σ B H E _ fun x B1 H1 ra Γ1 g1 k1 p1 => ?_
  obtain ⟨d, rfl, p1⟩ := p1
  refine p1 σ B1 H1 g1.env _ fun vs B2 H2 ds Γ2 g2 k2 p2 => ?_
  exact q (x :: vs) B2 H2 (d :: ds) Γ2 (g1.trans g2) (.cons (Is.mono g2.mv.bb k1) k2) p2
theorem we_tup {t : TA} (h : WD K t Γ fun ds Γ1 => ds.length ≤ 1000000 ∧ Post (.val (.tup ds)) Γ1) : WE K (tTup t) Γ Post := fun σ B H E Q q => by
  refine h σ B H E _ fun vs B1 H1 ds Γ1 g k p => ?_
  refine ⟨Nat.le_trans (by rw [k.len]; exact p.1) (by decide), fun a ha => ?_⟩
  have g2 := Go.laid (o := .tup vs) g.env ha
  have k2 := k.mono g2.mv.bb
  exact q (.ref a) _ _ (.val (.tup ds)) Γ1 (g.trans g2) (.tup (.inl (.inl upd_same)) k2.len k2.at_) p.2
theorem we_lst {t : TA} (h : WD K t Γ fun ds Γ1 => ds.length ≤ 1000000 ∧ Post (.new ds) Γ1) : WE K (tLst t) Γ Post := fun σ B H E Q q => by
  refine h σ B H E _ fun vs B1 H1 ds Γ1 g k p => ?_
  refine ⟨Nat.le_trans (by rw [k.len]; exact p.1) (by decide), fun a ha => ?_⟩
  have g2 := Go.beside (o := .lst vs) g.env ha
  refine q (.ref a) _ _ (.new ds) Γ1 (g.trans g2) ⟨a, _, rfl, g.mv.back ha, g.env.not_own ha, upd_same, g.env.base_none ha, vs, rfl, k⟩ p.2
end
end Ab

namespace Ab
open PySem L2
noncomputable def RvOk (K : PySem.W.Frag) (σ : L2.St) (B H : Hp) (Γ : List Sl) (v : V) : Re → Prop
  | .val d => Is K B v d
  | .nw c => ∃ l o, v = .ref l ∧ ¬ Own σ Γ l ∧ H l = some o ∧ B l = none ∧ CnIs K B l o c
  | .own i => ∃ l, v = .ref l ∧ σ[i]? = some (some (.ref l))
noncomputable def seqOf (Γ : List Sl) : Re → Option (List Dt)
  | .val (.tup ds) => some ds
  | .val (.lst ds) => some ds
  | .val (.scr ns) => some (ns.map Dt.int)
  | .val _ => none
  | .nw (.lst ds) => some ds
  | .nw _ => none
  | .own i => match Γ[i]? with
    | some (Sl.cel (.lst ds)) => some ds
    | _ => none
noncomputable def lstOf (Γ : List Sl) : Re → Option (List Dt)
  | .val (.lst ds) => some ds
  | .val (.scr ns) => some (ns.map Dt.int)
  | .val _ => none
  | .nw (.lst ds) => some ds
  | .nw _ => none
  | .own i => match Γ[i]? with
    | some (Sl.cel (.lst ds)) => some ds
    | _ => none
noncomputable def tyOf : Re → Option String
  | .val (.raw .non) => some "NoneType"
  | .val (.raw (.bl _)) => some "bool"
  | .val (.raw (.int _)) => some "int"
  | .val (.raw (.str _)) => some "str"
  | .val (.tup _) => some "tuple"
  | .val (.lst _) => some "list"
  | .val (.dK _) => some "dict"
  | .val (.dT _) => some "dict"
  | .nw (.lst _) => some "list"
  | .nw (.dK _) => some "dict"
  | .nw (.dT _) => some "dict"
  | .own _ => some "list"
  | _ => none
section
variable {K : PySem.W.Frag} {σ : L2.St} {B H B1 H1 B2 H2 : Hp} {Γ Γ1 Γ2 : List Sl} {v : V} {r : Re} {ds : List Dt} {m m' : Addr → Prop}
theorem ReOk.rv (h : ReOk K σ m (Own σ Γ) B H1 H v r) : RvOk K σ B H Γ v r := by
  cases r with
  | val d => exact h
  | nw ds => obtain ⟨l, vs, e, _, h2, h3⟩ := h; exact ⟨l, vs, e, h2, h3⟩
  | own i => exact h
theorem rv_lst (E : Env K B H σ Γ) (h : RvOk K σ B H Γ v r) (e : lstOf Γ r = some ds) : ∃ a vs, v = .ref a ∧ SqL K H a vs ∧ IsA K B vs ds := by
  cases r with
  | val d =>
    cases d with
    | lst es => cases e; obtain ⟨a, xs, rfl, h1, h2⟩ := Is.lstR h; exact ⟨a, xs, rfl, .inl (.inl (E.bh _ _ h1)), h2⟩
    | scr ns =>
      cases e
      cases h with
      | scr h => exact ⟨_, _, rfl, E.bh.seq h, by
          have := IsA.raws (K := K) (B := B) (xs := ns.map V.int)
          rwa [List.map_map] at this⟩
    | raw u => cases e
    | tup es => cases e
    | obj C fs => cases e
    | dK es => cases e
    | dT es => cases e
    | exn a d fs => cases e
    | err C fs => cases e
    | fz kvs => cases e
    | dN w es => cases e
  | nw c =>
    cases c with
    | lst es => cases e; obtain ⟨l, o, rfl, _, h1, _, vs, rfl, h2⟩ := h; exact ⟨l, vs, rfl, .inl (.inl h1), h2⟩
    | dK es => cases e
    | dT es => cases e
    | dN w es => cases e
  | own i =>
    obtain ⟨l, rfl, hl⟩ := h
    have e' : (match Γ[i]? with
      | some (Sl.cel (.lst ds)) => some ds
      | _ => none) = some ds := e
    split at e'
    · rename_i es hi
      cases e'
      obtain ⟨c, us, q1, q2, q3, q4⟩ := E.acc i _ hi
      rw [hl] at q1; cases q1
      exact ⟨l, us, rfl, .inl (.inl q2), q4⟩
    · cases e'
theorem rv_seq (E : Env K B H σ Γ) (h : RvOk K σ B H Γ v r) (e : seqOf Γ r = some ds) : ∃ a vs, v = .ref a ∧ (SqL K H a vs ∨ SqT K H a vs) ∧ IsA K B vs ds := by
  cases r with
  | val d =>
    cases d with
    | tup es => cases e; obtain ⟨a, xs, rfl, h1, h2⟩ := Is.tupR h; exact ⟨a, xs, rfl, .inr (sqT_mono E.bh h1), h2⟩
    | lst es => obtain ⟨a, xs, rfl, h1, h2⟩ := rv_lst E h e; exact ⟨a, xs, rfl, .inl h1, h2⟩
    | scr es => obtain ⟨a, xs, rfl, h1, h2⟩ := rv_lst E h e; exact ⟨a, xs, rfl, .inl h1, h2⟩
    | raw u => cases e
    | obj C fs => cases e
    | dK es => cases e
    | dT es => cases e
    | exn a d fs => cases e
    | err C fs => cases e
    | fz kvs => cases e
    | dN w es => cases e
  | nw c =>
    cases c with
    | lst es => obtain ⟨a, xs, rfl, h1, h2⟩ := rv_lst E h e; exact ⟨a, xs, rfl, .inl h1, h2⟩
    | dK es => cases e
    | dT es => cases e
    | dN w es => cases e
  | own i => obtain ⟨a, xs, rfl, h1, h2⟩ := rv_lst E h e; exact ⟨a, xs, rfl, .inl h1, h2⟩
theorem ty_sqT {a : Addr} {xs : List V} (h : SqT K H a xs) : TyX K H (.ref a) (.type "tuple") := by
  rcases h with (h | ⟨o, h⟩) | ⟨o, its, n, h1, h2, _⟩
  · exact .base (.tup h)
  · exact .fTuple h
  · exact .kTuple h1 h2
theorem rv_ty {T : String} (E : Env K B H σ Γ) (hi : ∀ i, r = .own i → ∃ ds, Γ[i]? = some (.acc ds)) (h : RvOk K σ B H Γ v r) (e : tyOf r = some T) : TyX K H v (.type T) := by
  cases r with
  | val d =>
    cases d with
    | raw u =>
      have hv : v = u := Is.rawI h
      subst hv
      cases v <;> first | (cases e; first | exact .base .non | exact .base (.bl _) | exact .base (.int _) | exact .base (.str _)) | cases e
    | tup es => cases e; obtain ⟨a, xs, rfl, h1, h2⟩ := Is.tupR h; exact ty_sqT (sqT_mono E.bh h1)
    | lst es => cases e; obtain ⟨a, xs, rfl, h1, h2⟩ := Is.lstR h; exact .base (.lst (E.bh _ _ h1))
    | scr es => cases e
    | obj C fs => cases e
    | dK es => cases e; cases h with | dK h1 _ _ => exact .base (.dK (E.bh _ _ h1))
    | dT es => cases e; cases h with | dT h1 _ _ => exact .base (.dT (E.bh _ _ h1))
    | exn a d fs => cases e
    | err C fs => cases e
    | fz kvs => cases e
    | dN w es => cases e
  | nw c =>
    cases c with
    | lst es => cases e; obtain ⟨l, o, rfl, _, h1, _, vs, rfl, h2⟩ := h; exact .base (.lst h1)
    | dK es => cases e; obtain ⟨l, o, rfl, _, h1, _, vs, rfl, h2⟩ := h; exact .base (.dK h1)
    | dT es => cases e; obtain ⟨l, o, rfl, _, h1, _, vs, rfl, h2⟩ := h; exact .base (.dT h1)
    | dN w es => cases e
  | own i =>
    cases e
    obtain ⟨l, rfl, hl⟩ := h
    obtain ⟨ds, hd⟩ := hi i rfl
    obtain ⟨c, us, q1, q2, _⟩ := E.acc i _ hd
    rw [hl] at q1; cases q1
    exact .base (.lst q2)
end
section
variable {K : PySem.W.Frag} {Γ : List Sl} {Post : Re → List Sl → Prop} {ta tb tc te : TE} {t u : TT}
theorem we_two' {r : R2} (h : WE K ta Γ fun ra Γ1 => WE K tb Γ1 fun rb Γ2 =>
      ∀ σ B H x y, Env K B H σ Γ2 → RvOk K σ B H Γ2 x ra → RvOk K σ B H Γ2 y rb → ∀ Q : VK, (∀ v B' H' z Γ', Go K σ B H Γ2 B' H' Γ' → ReOk K σ (Own σ Γ2) (Own σ Γ') B' H H' v z → Post z Γ' → Q v H') → r x y H Q) : WE K (tOp r ta tb) Γ Post := fun σ B H E Q q => by
  refine h σ B H E _ fun x B1 H1 ra Γ1 g1 k1 p1 => ?_
  refine p1 σ B1 H1 g1.env _ fun y B2 H2 rb Γ2 g2 k2 p2 => ?_
  exact p2 σ B2 H2 x y g2.env (ReOk.rv (ReOk.step k1 g2.mv g2.sub)) k2.rv Q fun v B' H' z Γ' g3 k3 p3 => q v B' H' z Γ' ((g1.trans g2).trans g3) (ReOk.earlier k3 (g1.trans g2).mv fun a h => .inl ((g1.trans g2).sub a h)) p3
theorem we_one' {r : V → Hp → VK → Prop} (h : WE K ta Γ fun ra Γ1 => ∀ σ B H x, Env K B H σ Γ1 → RvOk K σ B H Γ1 x ra → ∀ Q : VK, (∀ v B' H' z Γ', Go K σ B H Γ1 B' H' Γ' → ReOk K σ (Own σ Γ1) (Own σ Γ') B' H H' v z → Post z Γ' → Q v H') → r x H Q) :
    ∀ σ B H, Env K B H σ Γ → ∀ Q : VK, (∀ v B' H' r Γ', Go K σ B H Γ B' H' Γ' → ReOk K σ (Own σ Γ) (Own σ Γ') B' H H' v r → Post r Γ' → Q v H') → ta σ H (fun x H1 => r x H1 Q) := fun σ B H E Q q => by
  refine h σ B H E _ fun x B1 H1 ra Γ1 g1 k1 p1 => ?_
  exact p1 σ B1 H1 x g1.env k1.rv Q fun v B' H' z Γ' g3 k3 p3 => q v B' H' z Γ' (g1.trans g3) (ReOk.earlier k3 g1.mv fun a h => .inl (g1.sub a h)) p3
theorem we_cb1 {r : List V → Hp → VK → Prop} (h : WE K te Γ fun ra Γ1 => ∀ σ B H x, Env K B H σ Γ1 → RvOk K σ B H Γ1 x ra → ∀ Q : VK, (∀ v B' H' z Γ', Go K σ B H Γ1 B' H' Γ' → ReOk K σ (Own σ Γ1) (Own σ Γ') B' H H' v z → Post z Γ' → Q v H') → r [x] H Q) : WE K (tCB r (tCons te tNil)) Γ Post :=
  we_one' (r := fun x H Q => r [x] H Q) h
noncomputable def rLenV (K : PySem.W.Frag) : List V → Hp → VK → Prop := fun xs H Q => ∃ x n, xs = [x] ∧ LenV K x H n ∧ Q (.int n) H
noncomputable def rAbs : List V → Hp → VK → Prop := fun xs H Q => ∃ i, xs = [.int i] ∧ Q (.int (if i < 0 then -i else i)) H
theorem we_abs (h : WE K te Γ fun r Γ1 => ∃ i, r = .val (.int i) ∧ Post (.val (.int (if i < 0 then -i else i))) Γ1) : WE K (tCB rAbs (tCons te tNil)) Γ Post :=
  we_cb1 (we_mono h fun r Γ1 ⟨i, e, p⟩ => fun σ B H x E kx Q q => by
    subst e
    cases Is.rawI kx
    exact ⟨i, rfl, q _ B H _ Γ1 (.refl E) (.raw _) p⟩)
noncomputable def rInt1 : List V → Hp → VK → Prop := fun xs H Q => (∃ i, xs = [.int i] ∧ Q (.int i) H) ∨ ∃ k, xs = [.bl k] ∧ Q (.int (if k then 1 else 0)) H
noncomputable def rTupleOf (K : PySem.W.Frag) : List V → Hp → VK → Prop := fun xs H Q => ∃ p ys, xs = [.ref p] ∧ ((SqL K H p ys ∧ ∀ l, H l = none → Q (.ref l) (upd H l (.tup ys))) ∨ (SqT K H p ys ∧ Q (.ref p) H))
noncomputable def rListOf (K : PySem.W.Frag) : List V → Hp → VK → Prop := fun xs H Q => ∃ p ys, xs = [.ref p] ∧ (SqL K H p ys ∨ SqT K H p ys) ∧ ∀ l, H l = none → Q (.ref l) (upd H l (.lst ys))
theorem re_laidT {σ : L2.St} {B H : Hp} {vs : List V} {ds : List Dt} {a : Addr} (E : Env K B H σ Γ) (k : IsA K B vs ds) (ha : H a = none) : ReOk K σ (Own σ Γ) (Own σ Γ) (upd B a (.tup vs)) H (upd H a (.tup vs)) (.ref a) (.val (.tup ds)) := by
  have k2 := k.mono (Go.laid (o := .tup vs) E ha).mv.bb
  exact Is.tup (.inl (.inl upd_same)) k2.len k2.at_
theorem re_newL {σ : L2.St} {B H : Hp} {vs : List V} {ds : List Dt} {a : Addr} (E : Env K B H σ Γ) (k : IsA K B vs ds) (ha : H a = none) : ReOk K σ (Own σ Γ) (Own σ Γ) B H (upd H a (.lst vs)) (.ref a) (.new ds) :=
  ⟨a, _, rfl, .inr ha, E.not_own ha, upd_same, E.base_none ha, vs, rfl, k⟩
theorem we_tuple (h : WE K te Γ fun r Γ1 => ∃ ds, seqOf Γ1 r = some ds ∧ Post (.val (.tup ds)) Γ1) : WE K (tCB (rTupleOf K) (tCons te tNil)) Γ Post :=
  we_cb1 (we_mono h fun r Γ1 ⟨ds, hs, p⟩ => fun σ B H x E kx Q q => by
    obtain ⟨a, vs, rfl, hq, ha⟩ := rv_seq E kx hs
    rcases hq with hq | hq
    · exact ⟨a, vs, rfl, .inl ⟨hq, fun l hl => q _ _ _ _ Γ1 (Go.laid E hl) (re_laidT E ha hl) p⟩⟩
    · cases r with
      | val d =>
        cases d with
        | tup es =>
          cases hs
          exact ⟨a, vs, rfl, .inr ⟨hq, q _ B H (.val (.tup ds)) Γ1 (.refl E) kx p⟩⟩
        | lst es =>
          obtain ⟨c, us, e, h1, h2⟩ := rv_lst (ds := ds) E kx hs
          cases e
          exact ⟨a, us, rfl, .inl ⟨h1, fun l hl => q _ _ _ _ Γ1 (Go.laid E hl) (re_laidT E h2 hl) p⟩⟩
        | raw u => cases hs
        | scr es =>
          obtain ⟨c, us, e, h1, h2⟩ := rv_lst (ds := ds) E kx hs
          cases e
          exact ⟨a, us, rfl, .inl ⟨h1, fun l hl => q _ _ _ _ Γ1 (Go.laid E hl) (re_laidT E h2 hl) p⟩⟩
        | obj C fs => cases hs
        | dK es => cases hs
        | dT es => cases hs
        | exn a d fs => cases hs
        | err C fs => cases hs
        | fz kvs => cases hs
        | dN w es => cases hs
      | nw c =>
        cases c with
        | lst es =>
          obtain ⟨c, us, e, h1, h2⟩ := rv_lst (ds := ds) E kx hs
          cases e
          exact ⟨a, us, rfl, .inl ⟨h1, fun l hl => q _ _ _ _ Γ1 (Go.laid E hl) (re_laidT E h2 hl) p⟩⟩
        | dK es => cases hs
        | dT es => cases hs
        | dN w es => cases hs
      | own i =>
        obtain ⟨c, us, e, h1, h2⟩ := rv_lst (ds := ds) E kx hs
        cases e
        exact ⟨a, us, rfl, .inl ⟨h1, fun l hl => q _ _ _ _ Γ1 (Go.laid E hl) (re_laidT E h2 hl) p⟩⟩)
theorem we_list (h : WE K te Γ fun r Γ1 => ∃ ds, seqOf Γ1 r = some ds ∧ Post (.new ds) Γ1) : WE K (tCB (rListOf K) (tCons te tNil)) Γ Post :=
  we_cb1 (we_mono h fun r Γ1 ⟨ds, hs, p⟩ => fun σ B H x E kx Q q => by
    obtain ⟨a, vs, rfl, hq, ha⟩ := rv_seq E kx hs
    exact ⟨a, vs, rfl, hq, fun l hl => q _ _ _ _ Γ1 (Go.beside E hl) (re_newL E ha hl) p⟩)
theorem we_isi {c : String} (h : WE K te Γ fun r Γ1 => (∀ i, r = .own i → ∃ ds, Γ1[i]? = some (.acc ds)) ∧ ∃ T b, tyOf r = some T ∧ kitB T c = some b ∧ Post (.val (.bl b)) Γ1) : WE K (tCB (rIsi K) (tCons te (tCons (tC (.ty c)) tNil))) Γ Post :=
  we_one' (r := fun x H Q => rIsi K [x, .ty c] H Q) (we_mono h fun r Γ1 ⟨ho, T, b, ht, hk, p⟩ => fun σ B H x E kx Q q =>
    ⟨x, .ty c, .type T, .type c, b, rfl, .ty c, rv_ty E ho kx ht, kit_ty hk, q _ B H _ Γ1 (.refl E) (.raw _) p⟩)
noncomputable def rMx2 : List V → Hp → VK → Prop := fun xs H Q => ∃ i j, xs = [.int i, .int j] ∧ Q (.int (if j > i then j else i)) H
noncomputable def rMn2 : List V → Hp → VK → Prop := fun xs H Q => ∃ i j, xs = [.int i, .int j] ∧ Q (.int (if j < i then j else i)) H
theorem we_max2 (h : WE K ta Γ fun ra Γ1 => ∃ i, ra = .val (.int i) ∧ WE K tb Γ1 fun rb Γ2 => ∃ j, rb = .val (.int j) ∧ Post (.val (.int (if j > i then j else i))) Γ2) : WE K (tCB rMx2 (tCons ta (tCons tb tNil))) Γ Post :=
  we_two' (r := fun x y H Q => rMx2 [x, y] H Q) (we_mono h fun ra Γ1 ⟨i, ei, h1⟩ => we_mono h1 fun rb Γ2 ⟨j, ej, p⟩ => fun σ B H x y E kx ky Q q => by
    subst ei ej
    cases Is.rawI kx; cases Is.rawI ky
    exact ⟨i, j, rfl, q _ B H _ Γ2 (.refl E) (.raw _) p⟩)
theorem we_min2 (h : WE K ta Γ fun ra Γ1 => ∃ i, ra = .val (.int i) ∧ WE K tb Γ1 fun rb Γ2 => ∃ j, rb = .val (.int j) ∧ Post (.val (.int (if j < i then j else i))) Γ2) : WE K (tCB rMn2 (tCons ta (tCons tb tNil))) Γ Post :=
  we_two' (r := fun x y H Q => rMn2 [x, y] H Q) (we_mono h fun ra Γ1 ⟨i, ei, h1⟩ => we_mono h1 fun rb Γ2 ⟨j, ej, p⟩ => fun σ B H x y E kx ky Q q => by
    subst ei ej
    cases Is.rawI kx; cases Is.rawI ky
    exact ⟨i, j, rfl, q _ B H _ Γ2 (.refl E) (.raw _) p⟩)
theorem we_chainI {g g' : Int → Int → Bool} (h : WE K ta Γ fun ra Γ1 => ∃ i, ra = .val (.int i) ∧ WE K tb Γ1 fun rb Γ2 => ∃ j, rb = .val (.int j) ∧
      (g i j = true → WE K tc Γ2 fun rc Γ3 => ∃ k, rc = .val (.int k) ∧ Post (.val (.bl (g' j k))) Γ3) ∧ (g i j = false → Post (.val (.bl false)) Γ2)) :
    WE K (tChain (rI0 fun i j => .bl (g i j)) (rI0 fun i j => .bl (g' i j)) ta tb tc) Γ Post := fun σ B H E Q q => by
  refine h σ B H E _ fun x B1 H1 ra Γ1 g1 k1 p1 => ?_
  obtain ⟨i, rfl, p1⟩ := p1
  refine p1 σ B1 H1 g1.env _ fun y B2 H2 rb Γ2 g2 k2 p2 => ?_
  obtain ⟨j, rfl, p2, p3⟩ := p2
  cases Is.rawI k1; cases Is.rawI k2
  refine ⟨i, j, rfl, rfl, g i j, rfl, ?_⟩
  cases hg : g i j with
  | true =>
    show tc σ H2 fun w' H4 => rI0 (fun i j => .bl (g' i j)) (.int j) w' H4 Q
    refine p2 hg σ B2 H2 g2.env _ fun z B3 H3 rc Γ3 g3 k3 p3 => ?_
    obtain ⟨k, rfl, p⟩ := p3
    cases Is.rawI k3
    exact ⟨j, k, rfl, rfl, q _ B3 H3 _ Γ3 ((g1.trans g2).trans g3) (.raw _) p⟩
  | false =>
    show Q (.bl false) H2
    exact q _ B2 H2 _ Γ2 (g1.trans g2) (.raw _) (p3 hg)
theorem we_in {neg : Bool} (h : WE K ta Γ fun ra Γ1 => WE K tb Γ1 fun rb Γ2 => ∃ (x : V) (us : List V), ra = .val (.raw x) ∧ seqOf Γ2 rb = some (us.map Dt.raw) ∧ flatV x = true ∧ us.all flatV = true ∧ Post (.val (.bl (if neg then !inV x us else inV x us))) Γ2) : WE K (tOp (rIn K neg) ta tb) Γ Post :=
  we_two' (we_mono h fun ra Γ1 h1 => we_mono h1 fun rb Γ2 ⟨x, us, e, hs, hx, hu, p⟩ => fun σ B H y z E ky kz Q q => by
    subst e
    cases Is.rawI ky
    obtain ⟨a, vs, rfl, hq, ha⟩ := rv_seq E kz hs
    cases ha.rawsI
    exact ⟨a, _, rfl, hq, hx, hu, q _ B H _ Γ2 (.refl E) (.raw _) p⟩)
end
end Ab

namespace Ab
open PySem L2
structure GoS (K : PySem.W.Frag) (pin : List Nat) (σ : L2.St) (B H : Hp) (Γ : List Sl) (σ' : L2.St) (B' H' : Hp) (Γ' : List Sl) : Prop where
  mv : Mv (Own σ Γ) B H B' H'
  new : ∀ a, Own σ' Γ' a → Own σ Γ a ∨ H a = none
  env : Env K B' H' σ' Γ'
  pin : ∀ i, i ∈ pin → σ'[i]? = σ[i]?
structure Ex where
  W : WX
  q : Value → List (Str × Dt) → List Sl → Prop
noncomputable def Ex.no : Ex := ⟨fun _ _ _ _ => True, fun _ _ _ => False⟩
inductive ExB (K : PySem.W.Frag) (B : Hp) : Option Addr → List (Str × Dt) → Prop where
  | none : ExB K B none []
  | some {dd : Addr} {fs : List (Str × V)} {gs : List (Str × Dt)} (h : B dd = some (.xd fs)) (hk : ∀ f : Str, (fs.lookup f).isSome = (gs.lookup f).isSome) (hi : ∀ (f : Str) v d, fs.lookup f = some v → gs.lookup f = some d → Is K B v d) (hne : gs ≠ []) : ExB K B (some dd) gs
structure Ps where
  nx : List Sl → Prop
  rt : Re → List Sl → Prop
  bk : List Sl → Prop := fun _ => False
  ct : List Sl → Prop := fun _ => False
  ex : Ex := Ex.no
noncomputable def Re.free : Re → Bool
  | .own _ => false
  | _ => true
noncomputable def WS (K : PySem.W.Frag) (pin : List Nat) (ts : TS) (Γ : List Sl) (P : Ps) : Prop := ∀ σ B H (D : Ends), Env K B H σ Γ →
  (∀ σ' B' H' Γ', GoS K pin σ B H Γ σ' B' H' Γ' → P.nx Γ' → D.nx σ' H') →
  (∀ v σ' B' H' r Γ', GoS K pin σ B H Γ σ' B' H' Γ' → ReOk K [] (Own σ Γ) (Own σ' Γ') B' H H' v r → P.rt r Γ' → D.rt v H') →
  (∀ σ' B' H' Γ', GoS K pin σ B H Γ σ' B' H' Γ' → P.bk Γ' → D.bk σ' H') →
  (∀ σ' B' H' Γ', GoS K pin σ B H Γ σ' B' H' Γ' → P.ct Γ' → D.ct σ' H') →
  (∀ cls d fs σ' B' H' Γ', GoS K pin σ B H Γ σ' B' H' Γ' → ExB K B' d fs → P.ex.q cls fs Γ' → P.ex.W cls d σ' H') → ts D σ H
noncomputable def WG (K : PySem.W.Frag) (pin : List Nat) (g : TG) (d : Dt) (Γ : List Sl) (P : List Sl → Prop) : Prop := ∀ σ B H x, Env K B H σ Γ → Is K B x d → ∀ Q : L2.St → Hp → Prop,
  (∀ σ' Γ', GoS K pin σ B H Γ σ' B H Γ' → P Γ' → Q σ' H) → g x σ H Q
section
variable {K : PySem.W.Frag} {pin : List Nat} {σ σ1 σ2 : L2.St} {B H B1 H1 B2 H2 : Hp} {Γ Γ1 Γ2 : List Sl} {v : V} {r : Re} {P : Ps}
theorem GoS.refl (E : Env K B H σ Γ) : GoS K pin σ B H Γ σ B H Γ := ⟨Mv.refl _ _ _, fun _ h => .inl h, E, fun _ _ => rfl⟩
theorem GoS.trans (x : GoS K pin σ B H Γ σ1 B1 H1 Γ1) (y : GoS K pin σ1 B1 H1 Γ1 σ2 B2 H2 Γ2) : GoS K pin σ B H Γ σ2 B2 H2 Γ2 :=
  ⟨x.mv.trans x.new y.mv, fun a h => (y.new a h).elim (fun z => x.new a z) fun z => x.mv.back z, y.env, fun i hi => (y.pin i hi).trans (x.pin i hi)⟩
theorem Go.s (x : Go K σ B H Γ B1 H1 Γ1) : GoS K pin σ B H Γ σ B1 H1 Γ1 := ⟨x.mv, fun a h => .inl (x.sub a h), x.env, fun _ _ => rfl⟩
theorem ReOk.off {m m' : Addr → Prop} (h : ReOk K σ m m' B1 H H1 v r) (hf : r.free = true) : ReOk K [] m m' B1 H H1 v r := by
  cases r with
  | val d => exact h
  | nw ds => exact h
  | own i => cases hf
theorem Own.set_ne {i : Nat} {x : Option V} {s : Sl} {a : Addr} (h : Own (σ.set i x) (Γ.set i s) a) (hs : ∀ ds, s = .cel ds → x ≠ some (.ref a)) : Own σ Γ a := by
  obtain ⟨j, ds, h1, h2⟩ := h
  by_cases hij : i = j
  · subst hij
    have hi : i < Γ.length := by
      have := (List.getElem?_eq_some_iff.mp h1).1
      simpa using this
    have hi2 : i < σ.length := by
      have := (List.getElem?_eq_some_iff.mp h2).1
      simpa using this
    rw [List.getElem?_set_self hi] at h1
    rw [List.getElem?_set_self hi2] at h2
    exact absurd (Option.some.inj h2) (hs ds (Option.some.inj h1))
  · rw [List.getElem?_set_ne hij] at h1 h2
    exact ⟨j, ds, h1, h2⟩
noncomputable def slOf : Re → Sl
  | .val d => .val d
  | .nw c => .cel c
  | .own _ => .un
theorem Env.setV (E : Env K B H σ Γ) {i : Nat} {d : Dt} (hi : i < Γ.length) (hv : Is K B v d) : Env K B H (σ.set i (some v)) (Γ.set i (.val d)) := by
  have hi2 : i < σ.length := by rw [E.len]; exact hi
  have nac : ∀ {j : Nat} {es : Cn}, (Γ.set i (.val d))[j]? = some (.cel es) → i ≠ j := fun {j es} h z => by
    subst z
    rw [List.getElem?_set_self hi] at h; cases h
  refine ⟨by simp [E.len], E.bh, fun j e h => ?_, fun j es h => ?_, fun j k ds es l h1 h2 h3 h4 => ?_⟩
  · by_cases hij : i = j
    · subst hij
      rw [List.getElem?_set_self hi] at h
      cases h
      exact ⟨v, List.getElem?_set_self hi2, hv⟩
    · rw [List.getElem?_set_ne hij] at h ⊢
      exact E.val j e h
  · have hij := nac h
    rw [List.getElem?_set_ne hij] at h ⊢
    exact E.cel j es h
  · have a1 := nac h1
    have a2 := nac h2
    rw [List.getElem?_set_ne a1] at h1 h3
    rw [List.getElem?_set_ne a2] at h2 h4
    exact E.sep j k ds es l h1 h2 h3 h4
theorem Env.setU (E : Env K B H σ Γ) {i : Nat} (x : Option V) (hi : i < Γ.length) : Env K B H (σ.set i x) (Γ.set i .un) := by
  have nac : ∀ {j : Nat} {s : Sl}, (Γ.set i .un)[j]? = some s → s ≠ .un → i ≠ j := fun {j s} h hs z => by
    subst z
    rw [List.getElem?_set_self hi] at h; cases h; exact hs rfl
  refine ⟨by simp [E.len], E.bh, fun j e h => ?_, fun j es h => ?_, fun j k ds es l h1 h2 h3 h4 => ?_⟩
  · have hij := nac h (fun z => nomatch z)
    rw [List.getElem?_set_ne hij] at h ⊢
    exact E.val j e h
  · have hij := nac h (fun z => nomatch z)
    rw [List.getElem?_set_ne hij] at h ⊢
    exact E.cel j es h
  · have a1 := nac h1 (fun z => nomatch z)
    have a2 := nac h2 (fun z => nomatch z)
    rw [List.getElem?_set_ne a1] at h1 h3
    rw [List.getElem?_set_ne a2] at h2 h4
    exact E.sep j k ds es l h1 h2 h3 h4
theorem Env.setA (E : Env K B H σ Γ) {i : Nat} {l : Addr} {vs : HO} {ds : Cn} (hi : i < Γ.length) (hn : ¬ Own σ Γ l) (hl : H l = some vs) (hb : B l = none) (ha : CnIs K B l vs ds) : Env K B H (σ.set i (some (.ref l))) (Γ.set i (.cel ds)) := by
  have hi2 : i < σ.length := by rw [E.len]; exact hi
  refine ⟨by simp [E.len], E.bh, fun j e h => ?_, fun j es h => ?_, fun j k ds' es l' h1 h2 h3 h4 => ?_⟩
  · by_cases hij : i = j
    · subst hij
      rw [List.getElem?_set_self hi] at h
      cases h
    · rw [List.getElem?_set_ne hij] at h ⊢
      exact E.val j e h
  · by_cases hij : i = j
    · subst hij
      rw [List.getElem?_set_self hi] at h
      cases h
      exact ⟨l, vs, List.getElem?_set_self hi2, hl, hb, ha⟩
    · rw [List.getElem?_set_ne hij] at h ⊢
      exact E.cel j es h
  · by_cases h1i : i = j
    · by_cases h2i : i = k
      · exact h1i.symm.trans h2i
      · subst h1i
        rw [List.getElem?_set_self hi2] at h3
        rw [List.getElem?_set_ne h2i] at h2 h4
        cases h3
        exact absurd ⟨k, es, h2, h4⟩ hn
    · by_cases h2i : i = k
      · subst h2i
        rw [List.getElem?_set_self hi2] at h4
        rw [List.getElem?_set_ne h1i] at h1 h3
        cases h4
        exact absurd ⟨j, ds', h1, h3⟩ hn
      · rw [List.getElem?_set_ne h1i] at h1 h3
        rw [List.getElem?_set_ne h2i] at h2 h4
        exact E.sep j k ds' es l' h1 h2 h3 h4
theorem pin_set {i : Nat} {x : Option V} (hp : pin.contains i = false) : ∀ j, j ∈ pin → (σ.set i x)[j]? = σ[j]? := fun j hj => by
  have : i ≠ j := fun z => by
    subst z
    have := List.contains_iff_mem.mpr hj
    rw [hp] at this; cases this
  exact List.getElem?_set_ne this
theorem goS_set (g : Go K σ B H Γ B1 H1 Γ1) (k : ReOk K σ (Own σ Γ) (Own σ Γ1) B1 H H1 v r) {i : Nat} (hp : pin.contains i = false) (hi : i < Γ1.length) : GoS K pin σ B H Γ (σ.set i (some v)) B1 H1 (Γ1.set i (slOf r)) := by
  cases r with
  | val d => exact ⟨g.mv, fun a h => .inl (g.sub a (h.set_ne fun ds z => nomatch z)), g.env.setV hi k, pin_set hp⟩
  | own j => exact ⟨g.mv, fun a h => .inl (g.sub a (h.set_ne fun ds z => nomatch z)), g.env.setU _ hi, pin_set hp⟩
  | nw ds =>
    obtain ⟨l, vs, rfl, h1, h2, h3, h4, h5⟩ := k
    refine ⟨g.mv, fun a h => ?_, g.env.setA hi h2 h3 h4 h5, pin_set hp⟩
    by_cases ha : a = l
    · subst ha; exact h1
    · exact .inl (g.sub a (h.set_ne fun ds _ z => ha (by cases z; rfl)))
end
section
variable {K : PySem.W.Frag} {pin : List Nat} {Γ : List Sl} {P : Ps} {te ta tb : TE} {tt : TT} {t u tb' : TS} {g : TG}
theorem ws_mono {P' : Ps} (h : WS K pin t Γ P) (h1 : ∀ G, P.nx G → P'.nx G) (h2 : ∀ r G, P.rt r G → P'.rt r G) (h3 : ∀ G, P.bk G → P'.bk G) (h4 : ∀ G, P.ct G → P'.ct G) (h5 : P'.ex = P.ex := by rfl) : WS K pin t Γ P' := fun σ B H D E n r b c xx =>
  h σ B H D E (fun σ' B' H' Γ' g p => n σ' B' H' Γ' g (h1 _ p)) (fun v σ' B' H' z Γ' g k p => r v σ' B' H' z Γ' g k (h2 _ _ p)) (fun σ' B' H' Γ' g p => b σ' B' H' Γ' g (h3 _ p)) (fun σ' B' H' Γ' g p => c σ' B' H' Γ' g (h4 _ p)) (h5 ▸ xx)
theorem ws_from {σ σ1 : L2.St} {B H B1 H1 : Hp} {Γ1 : List Sl} {D : Ends} (h : WS K pin t Γ1 P) (g : GoS K pin σ B H Γ σ1 B1 H1 Γ1)
    (n : ∀ σ' B' H' Γ', GoS K pin σ B H Γ σ' B' H' Γ' → P.nx Γ' → D.nx σ' H')
    (r : ∀ v σ' B' H' r Γ', GoS K pin σ B H Γ σ' B' H' Γ' → ReOk K [] (Own σ Γ) (Own σ' Γ') B' H H' v r → P.rt r Γ' → D.rt v H')
    (b : ∀ σ' B' H' Γ', GoS K pin σ B H Γ σ' B' H' Γ' → P.bk Γ' → D.bk σ' H')
    (c : ∀ σ' B' H' Γ', GoS K pin σ B H Γ σ' B' H' Γ' → P.ct Γ' → D.ct σ' H')
    (xx : ∀ cls d fs σ' B' H' Γ', GoS K pin σ B H Γ σ' B' H' Γ' → ExB K B' d fs → P.ex.q cls fs Γ' → P.ex.W cls d σ' H') : t D σ1 H1 :=
  h σ1 B1 H1 D g.env (fun σ' B' H' Γ' g' p => n σ' B' H' Γ' (g.trans g') p) (fun v σ' B' H' z Γ' g' k p => r v σ' B' H' z Γ' (g.trans g') (ReOk.earlier k g.mv g.new) p)
    (fun σ' B' H' Γ' g' p => b σ' B' H' Γ' (g.trans g') p) (fun σ' B' H' Γ' g' p => c σ' B' H' Γ' (g.trans g') p) (fun cls d fs σ' B' H' Γ' g' hx p => xx cls d fs σ' B' H' Γ' (g.trans g') hx p)
theorem ws_seq (h : WS K pin t Γ { P with nx := fun Γ1 => WS K pin u Γ1 P }) : WS K pin (tSeq t u) Γ P := fun σ B H D E n r b c xx =>
  h σ B H { D with nx := u D } E (fun σ' B' H' Γ' g p => ws_from (t := u) (D := D) p g n r b c xx) r b c xx
theorem ws_nil (p : P.nx Γ) : WS K pin tNext Γ P := fun σ B H D E n r b c xx => n σ B H Γ (.refl E) p
theorem ws_expr (h : WE K te Γ fun _ Γ1 => P.nx Γ1) : WS K pin (tDrop te) Γ P := fun σ B H D E n r b c xx =>
  h σ B H E _ fun v B1 H1 z Γ1 g k p => n σ B1 H1 Γ1 g.s p
theorem ws_ret (h : WE K te Γ fun z Γ1 => z.free = true ∧ P.rt z Γ1) : WS K pin (tRet te) Γ P := fun σ B H D E n r b c xx =>
  h σ B H E _ fun v B1 H1 z Γ1 g k ⟨hf, p⟩ => r v σ B1 H1 z Γ1 g.s (k.off hf) p
theorem ws_retA {i : Nat} {ds : List Dt} (h : Γ[i]? = some (.acc ds)) (p : P.rt (.new ds) (Γ.set i .un)) : WS K pin (tRet (tVar i)) Γ P := ws_ret (we_move h ⟨rfl, p⟩)
theorem ws_if (h : WT K tt Γ fun b Γ1 => (b = true → WS K pin t Γ1 P) ∧ (b = false → WS K pin u Γ1 P)) : WS K pin (tIfS tt t u) Γ P := fun σ B H D E n r b c xx =>
  h σ B H E _ fun z B1 H1 Γ1 g p => by
    cases z with
    | true =>
      show t D σ H1
      exact ws_from (p.1 rfl) g.s n r b c xx
    | false =>
      show u D σ H1
      exact ws_from (p.2 rfl) g.s n r b c xx
theorem ws_asg {i : Nat} (hp : pin.contains i = false) (hi : decide (i < Γ.length) = true) (h : WE K te Γ fun z Γ1 => P.nx (Γ1.set i (slOf z))) : WS K pin (tAsg te (gName i)) Γ P := fun σ B H D E n r b c xx =>
  h σ B H E _ fun v B1 H1 z Γ1 g k p => n _ B1 H1 _ (goS_set g k hp (by rw [← g.env.len, E.len]; exact of_decide_eq_true hi)) p
theorem ws_asgG (h : WE K te Γ fun z Γ1 => ∃ d, z = .val d ∧ WG K pin g d Γ1 P.nx) : WS K pin (tAsg te g) Γ P := fun σ B H D E n r b c xx =>
  h σ B H E _ fun v B1 H1 z Γ1 g1 k p => by
    obtain ⟨d, rfl, p⟩ := p
    exact p σ B1 H1 v g1.env k _ fun σ' Γ' g2 p2 => n σ' B1 H1 Γ' (g1.s.trans g2) p2
theorem wg_name {i : Nat} {d : Dt} {Q : List Sl → Prop} (hp : pin.contains i = false) (hi : decide (i < Γ.length) = true) (p : Q (Γ.set i (.val d))) : WG K pin (gName i) d Γ Q := fun σ B H x E k R q =>
  q _ _ (goS_set (r := .val d) (.refl E) k hp (of_decide_eq_true hi)) p
noncomputable def WGs (K : PySem.W.Frag) (pin : List Nat) (g : TGs) (ds : List Dt) (Γ : List Sl) (P : List Sl → Prop) : Prop := ∀ σ B H xs, Env K B H σ Γ → IsA K B xs ds → ∀ Q : L2.St → Hp → Prop,
  (∀ σ' Γ', GoS K pin σ B H Γ σ' B H Γ' → P Γ' → Q σ' H) → g xs σ H Q
theorem wgs_nil {Q : List Sl → Prop} (p : Q Γ) : WGs K pin gNil [] Γ Q := fun σ B H xs E k R q => by
  have : xs = [] := List.eq_nil_of_length_eq_zero (by rw [k.len]; rfl)
  exact ⟨this, q σ Γ (.refl E) p⟩
theorem wgs_cons {g1 : TG} {g2 : TGs} {d : Dt} {ds : List Dt} {Q : List Sl → Prop} (h : WG K pin g1 d Γ fun Γ1 => WGs K pin g2 ds Γ1 Q) : WGs K pin (gCons g1 g2) (d :: ds) Γ Q := fun σ B H xs E k R q => by
  cases xs with
  | nil => have := k.len; simp at this
  | cons x r =>
    refine ⟨x, r, rfl, h σ B H x E (k.at_ 0 x d rfl rfl) _ fun σ1 Γ1 e1 p1 => ?_⟩
    exact p1 σ1 B H r e1.env ⟨by have := k.len; simpa using this, fun i v d a b => k.at_ (i + 1) v d (by simpa using a) (by simpa using b)⟩ R fun σ2 Γ2 e2 p2 => q σ2 Γ2 (e1.trans e2) p2
theorem wg_tup {n : Nat} {g2 : TGs} {ds : List Dt} {Q : List Sl → Prop} (hn : ds.length = n) (h : WGs K pin g2 ds Γ Q) : WG K pin (gTup K n g2) (.tup ds) Γ Q := fun σ B H x E k R q => by
  obtain ⟨a, xs, rfl, h1, h2⟩ := Is.tupR k
  exact ⟨a, xs, rfl, sqT_mono E.bh h1, by rw [h2.len]; exact hn, h σ B H xs E h2 R q⟩
theorem ws_aug {i : Nat} {f : Int → Int → Int} {a : Int} (hx : Γ[i]? = some (.val (.int a))) (hp : pin.contains i = false) (h : WE K te Γ fun z Γ1 => ∃ b, z = .val (.int b) ∧ P.nx (Γ1.set i (.val (.int (f a b))))) : WS K pin (tAug i te (ipI f)) Γ P := fun σ B H D E n r b c xx => by
  obtain ⟨v, hv, hk⟩ := E.val i _ hx
  cases hk.rawI
  refine ⟨_, hv, h σ B H E _ fun y B1 H1 z Γ1 g k p => ?_⟩
  obtain ⟨b, rfl, p⟩ := p
  cases Is.rawI k
  exact ⟨a, b, rfl, rfl, n _ B1 H1 _ (goS_set (r := .val (.int (f a b))) g (Is.raw _) hp (by rw [← g.env.len, E.len]; exact (List.getElem?_eq_some_iff.mp hx).1)) p⟩
theorem Env.put {σ : L2.St} {B H : Hp} {i : Nat} {ds es : Cn} {l : Addr} {ys : HO} (E : Env K B H σ Γ) (h : Γ[i]? = some (.cel ds)) (hl : σ[i]? = some (some (.ref l))) (ha : CnIs K B l ys es) : Env K B (upd H l ys) σ (Γ.set i (.cel es)) := by
  have hi : i < Γ.length := (List.getElem?_eq_some_iff.mp h).1
  obtain ⟨l', vs, q1, q2, q3, q4⟩ := E.cel i ds h
  rw [hl] at q1; cases q1
  have up : ∀ {j : Nat} {es' : Cn}, (Γ.set i (.cel es))[j]? = some (.cel es') → ∃ ds', Γ[j]? = some (.cel ds') := fun {j es'} hj => by
    by_cases hij : i = j
    · subst hij; exact ⟨ds, h⟩
    · rw [List.getElem?_set_ne hij] at hj; exact ⟨es', hj⟩
  refine ⟨by simp [E.len], fun a u e => ?_, fun j e hj => ?_, fun j es' hj => ?_, fun j k ds' es' l' h1 h2 h3 h4 => ?_⟩
  · rw [upd_ne (ne_of_none e q3)]; exact E.bh a u e
  · by_cases hij : i = j
    · subst hij; rw [List.getElem?_set_self hi] at hj; cases hj
    · rw [List.getElem?_set_ne hij] at hj; exact E.val j e hj
  · by_cases hij : i = j
    · subst hij; rw [List.getElem?_set_self hi] at hj; cases hj
      exact ⟨l, ys, hl, upd_same, q3, ha⟩
    · rw [List.getElem?_set_ne hij] at hj
      obtain ⟨c, us, e1, e2, e3, e4⟩ := E.cel j es' hj
      have hc : c ≠ l := fun z => by
        subst z
        exact hij (E.sep i j ds es' c h hj hl e1)
      exact ⟨c, us, e1, by rw [upd_ne hc]; exact e2, e3, e4⟩
  · obtain ⟨d1, g1⟩ := up h1
    obtain ⟨d2, g2⟩ := up h2
    exact E.sep j k d1 d2 l' g1 g2 h3 h4
theorem Own.put {σ : L2.St} {i : Nat} {ds es : Cn} {a : Addr} (h : Γ[i]? = some (.cel ds)) (o : Own σ (Γ.set i (.cel es)) a) : Own σ Γ a := by
  obtain ⟨j, es', h1, h2⟩ := o
  by_cases hij : i = j
  · subst hij; exact ⟨i, ds, h, h2⟩
  · rw [List.getElem?_set_ne hij] at h1; exact ⟨j, es', h1, h2⟩
theorem Go.putC {σ : L2.St} {B H : Hp} {i : Nat} {ds es : Cn} {l : Addr} {ys : HO} (E : Env K B H σ Γ) (h : Γ[i]? = some (.cel ds)) (hl : σ[i]? = some (some (.ref l))) (ha : CnIs K B l ys es) : Go K σ B H Γ B (upd H l ys) (Γ.set i (.cel es)) :=
  ⟨⟨fun a o na e => by rw [upd_ne (fun z => na (by subst z; exact ⟨i, ds, h, hl⟩))]; exact e, Same.refl B, fun _ _ _ e => e⟩, fun j es' hj => by
    by_cases hij : i = j
    · subst hij; exact ⟨ds, h⟩
    · rw [List.getElem?_set_ne hij] at hj; exact ⟨es', hj⟩, E.put h hl ha⟩
theorem Go.put {σ : L2.St} {B H : Hp} {i : Nat} {ds es : List Dt} {l : Addr} {ys : List V} (E : Env K B H σ Γ) (h : Γ[i]? = some (.acc ds)) (hl : σ[i]? = some (some (.ref l))) (ha : IsA K B ys es) : Go K σ B H Γ B (upd H l (.lst ys)) (Γ.set i (.acc es)) :=
  Go.putC E h hl ⟨ys, rfl, ha⟩
theorem we_append {i : Nat} {ds0 : List Dt} {Post : Re → List Sl → Prop} (h0 : Γ[i]? = some (.acc ds0)) (h : WE K te Γ fun z Γ1 => ∃ d ds, z.dt? = some d ∧ Γ1[i]? = some (.acc ds) ∧ ds.length < 1000000 ∧ Post (.val .non) (Γ1.set i (.acc (ds ++ [d])))) :
    WE K (tBM K "list" rAppend (tVar i) (tCons te tNil)) Γ Post := fun σ B H E Q q => by
  obtain ⟨l, vs, e0, e1, e2, k0⟩ := E.acc i ds0 h0
  refine ⟨.ref l, e0, .inl ⟨rfl, vs, .inl (.inl e1)⟩, ?_⟩
  have h' : WE K te Γ fun z Γ1 => ∃ d ds, z = .val d ∧ Γ1[i]? = some (.acc ds) ∧ ds.length < 1000000 ∧ Post (.val .non) (Γ1.set i (.acc (ds ++ [d]))) := we_freeze (we_mono h fun z Γ1 ⟨d, ds, hd, r⟩ => ⟨d, hd, d, ds, rfl, r⟩)
  refine h' σ B H E _ fun y B1 H1 z Γ1 g k p => ?_
  obtain ⟨d, ds, rfl, hi, hz, p⟩ := p
  obtain ⟨l', us, f0, f1, f2, k1⟩ := g.env.acc i ds hi
  rw [e0] at f0; cases f0
  refine ⟨l, us, y, rfl, rfl, f1, Nat.lt_trans (by rw [k1.len]; exact hz) (by decide), ?_⟩
  have g2 := Go.put g.env hi e0 (k1.snoc k)
  exact q .non B1 _ (.val .non) _ (g.trans g2) (Is.raw _) p
theorem ws_setA {i : Nat} {tj : TE} (h : WE K te Γ fun z Γ1 => ∃ d, z = .val d ∧ (∃ ds1, Γ1[i]? = some (.acc ds1)) ∧ WE K tj Γ1 fun y Γ2 => ∃ ds k j, y = .val (.int k) ∧ Γ2[i]? = some (.acc ds) ∧ ixN ds.length k = some j ∧ P.nx (Γ2.set i (.acc (ds.set j d)))) :
    WS K pin (tAsg te (gSub (tVar i) tj rSetL)) Γ P := fun σ B H D E n r b c xx => by
  refine h σ B H E _ fun v B1 H1 z Γ1 g1 k1 p1 => ?_
  obtain ⟨d, rfl, ⟨ds1, h1⟩, p1⟩ := p1
  obtain ⟨l, vs, e0, e1, e2, k0⟩ := g1.env.acc i ds1 h1
  refine ⟨.ref l, e0, p1 σ B1 H1 g1.env _ fun y B2 H2 w Γ2 g2 k2 p2 => ?_⟩
  obtain ⟨ds, k, j, rfl, hi, hj, p⟩ := p2
  cases Is.rawI k2
  obtain ⟨l', us, f0, f1, f2, k3⟩ := g2.env.acc i ds hi
  rw [e0] at f0; cases f0
  refine ⟨l, us, k, j, rfl, rfl, f1, by rw [k3.len]; exact hj, ?_⟩
  exact n _ B2 _ _ ((g1.trans g2).trans (Go.put g2.env hi e0 (k3.set (Is.mono g2.mv.bb k1)))).s p
theorem we_reverse {i : Nat} {ds : List Dt} {Post : Re → List Sl → Prop} (h0 : Γ[i]? = some (.acc ds)) (p : Post (.val .non) (Γ.set i (.acc ds.reverse))) : WE K (tBM0 K "list" rReverse (tVar i)) Γ Post := fun σ B H E Q q => by
  obtain ⟨l, vs, e0, e1, e2, k0⟩ := E.acc i ds h0
  exact ⟨.ref l, e0, .inl ⟨rfl, vs, .inl (.inl e1)⟩, l, vs, rfl, rfl, e1, q .non B _ (.val .non) _ (Go.put E h0 e0 k0.reverse) (Is.raw _) p⟩
theorem ws_for1 {t1 : TA} (h : WD K t1 Γ fun ds Γ1 => ∃ n : Int, ds = [.int n] ∧ -(2 ^ 62) ≤ n ∧ n < 2 ^ 62 ∧ ∃ Inv : Nat → List Sl → Prop, Inv 0 Γ1 ∧
      (∀ (i : Nat) Γ', (i : Int) < n → Inv i Γ' → WG K pin g (.int i) Γ' fun Γ2 => WS K pin tb' Γ2 ⟨Inv (i + 1), P.rt, P.nx, Inv (i + 1), P.ex⟩) ∧ ∀ Γ', Inv n.toNat Γ' → P.nx Γ') : WS K pin (tFor (iRng1 t1) g tb') Γ P := fun σ B H D E n r b c xx => by
  refine h σ B H E _ fun vs B1 H1 ds Γ1 g1 k p => ?_
  obtain ⟨m, rfl, hlo, hhi, Inv, i0, turn, done⟩ := p
  have ev : vs = [.int m] := IsA.rawsI (xs := [.int m]) k
  refine ⟨m, ev, hlo, hhi, ?_⟩
  refine for_range (lo := 0) (n := m.toNat) (fun i σ' H' => ∃ B' Γ', GoS K pin σ B H Γ σ' B' H' Γ' ∧ Inv i Γ') ⟨B1, Γ1, g1.s, i0⟩ ?_ ?_
  · rintro i σ' H' hi ⟨B', Γ', g2, inv⟩
    have e0 : (0 : Int) + (i : Int) = (i : Int) := Int.zero_add _
    rw [e0]
    refine turn i Γ' (by omega) inv σ' B' H' _ g2.env (.raw _) _ fun σ2 Γ2 g3 w => ?_
    exact ws_from w (g2.trans g3) (fun σ3 B3 H3 Γ3 g4 p => ⟨B3, Γ3, g4, p⟩) r (fun σ3 B3 H3 Γ3 g4 p => n σ3 B3 H3 Γ3 g4 p) (fun σ3 B3 H3 Γ3 g4 p => ⟨B3, Γ3, g4, p⟩) xx
  · rintro σ' H' ⟨B', Γ', g2, inv⟩
    exact n σ' B' H' Γ' g2 (done Γ' inv)
theorem ws_forT (h : WE K te Γ fun z Γ1 => ∃ ds, z = .val (.tup ds) ∧ ∃ Inv : Nat → List Sl → Prop, Inv 0 Γ1 ∧
      (∀ (i : Nat) d Γ', ds[i]? = some d → Inv i Γ' → WG K pin g d Γ' fun Γ2 => WS K pin tb' Γ2 ⟨Inv (i + 1), P.rt, P.nx, Inv (i + 1), P.ex⟩) ∧ ∀ Γ', Inv ds.length Γ' → P.nx Γ') : WS K pin (tFor (iTup K te) g tb') Γ P := fun σ B H D E n r b c xx => by
  refine h σ B H E _ fun v B1 H1 z Γ1 g1 k p => ?_
  obtain ⟨ds, rfl, Inv, i0, turn, done⟩ := p
  obtain ⟨a, xs, rfl, ha, hx⟩ := Is.tupR k
  refine ⟨a, rfl, ⟨xs, sqT_mono g1.env.bh ha⟩, for_tup (xs := xs) (fun i σ' H' => ∃ B' Γ', Same B1 B' ∧ GoS K pin σ B H Γ σ' B' H' Γ' ∧ Inv i Γ') ⟨B1, Γ1, Same.refl _, g1.s, i0⟩ ?_ ?_ ?_⟩
  · rintro i σ' H' _ ⟨B', Γ', sb, g2, _⟩
    exact sqT_mono (sb.trans g2.env.bh) ha
  · rintro i x σ' H' hi ⟨B', Γ', sb, g2, inv⟩
    have hlt : i < ds.length := by rw [← hx.len]; exact (List.getElem?_eq_some_iff.mp hi).1
    refine turn i ds[i] Γ' (List.getElem?_eq_getElem hlt) inv σ' B' H' x g2.env ((hx.at_ i x _ hi (List.getElem?_eq_getElem hlt)).mono sb) _ fun σ2 Γ2 g3 w => ?_
    have g23 := g2.trans g3
    refine w σ2 B' H' _ g23.env (fun σ3 B3 H3 Γ3 g4 p => ⟨B3, Γ3, sb.trans g4.mv.bb, g23.trans g4, p⟩) (fun v σ3 B3 H3 z Γ3 g4 k4 p => r v σ3 B3 H3 z Γ3 (g23.trans g4) (ReOk.earlier k4 g23.mv g23.new) p)
      (fun σ3 B3 H3 Γ3 g4 p => n σ3 B3 H3 Γ3 (g23.trans g4) p) (fun σ3 B3 H3 Γ3 g4 p => ⟨B3, Γ3, sb.trans g4.mv.bb, g23.trans g4, p⟩) (fun cls d fs σ3 B3 H3 Γ3 g4 hx p => xx cls d fs σ3 B3 H3 Γ3 (g23.trans g4) hx p)
  · rintro σ' H' ⟨B', Γ', sb, g2, inv⟩
    rw [hx.len] at inv
    exact n σ' B' H' Γ' g2 (done Γ' inv)
theorem ws_forL (h : WE K te Γ fun z Γ1 => ∃ d ds, z.dt? = some d ∧ d = .lst ds ∧ ∃ Inv : Nat → List Sl → Prop, Inv 0 Γ1 ∧
      (∀ (i : Nat) d Γ', ds[i]? = some d → Inv i Γ' → WG K pin g d Γ' fun Γ2 => WS K pin tb' Γ2 ⟨Inv (i + 1), P.rt, P.nx, Inv (i + 1), P.ex⟩) ∧ ∀ Γ', Inv ds.length Γ' → P.nx Γ') : WS K pin (tFor (iList K te) g tb') Γ P := fun σ B H D E n r b c xx => by
  have h' : WE K te Γ fun z Γ1 => ∃ ds, z = .val (.lst ds) ∧ ∃ Inv : Nat → List Sl → Prop, Inv 0 Γ1 ∧
      (∀ (i : Nat) d Γ', ds[i]? = some d → Inv i Γ' → WG K pin g d Γ' fun Γ2 => WS K pin tb' Γ2 ⟨Inv (i + 1), P.rt, P.nx, Inv (i + 1), P.ex⟩) ∧ ∀ Γ', Inv ds.length Γ' → P.nx Γ' :=
    we_freeze (we_mono h fun z Γ1 ⟨d, ds, hd, e, r⟩ => ⟨d, hd, ds, by rw [e], r⟩)
  refine h' σ B H E _ fun v B1 H1 z Γ1 g1 k p => ?_
  obtain ⟨ds, rfl, Inv, i0, turn, done⟩ := p
  obtain ⟨a, xs, rfl, ha, hx⟩ := Is.lstR k
  refine ⟨a, rfl, ⟨xs, .inl (.inl (g1.env.bh _ _ ha))⟩, for_list (xs := xs) (fun i σ' H' => ∃ B' Γ', Same B1 B' ∧ GoS K pin σ B H Γ σ' B' H' Γ' ∧ Inv i Γ') ⟨B1, Γ1, Same.refl _, g1.s, i0⟩ ?_ ?_ ?_⟩
  · rintro i σ' H' _ ⟨B', Γ', sb, g2, _⟩
    exact .inl (.inl ((sb.trans g2.env.bh) _ _ ha))
  · rintro i x σ' H' hi ⟨B', Γ', sb, g2, inv⟩
    have hlt : i < ds.length := by rw [← hx.len]; exact (List.getElem?_eq_some_iff.mp hi).1
    refine turn i ds[i] Γ' (List.getElem?_eq_getElem hlt) inv σ' B' H' x g2.env ((hx.at_ i x _ hi (List.getElem?_eq_getElem hlt)).mono sb) _ fun σ2 Γ2 g3 w => ?_
    have g23 := g2.trans g3
    refine w σ2 B' H' _ g23.env (fun σ3 B3 H3 Γ3 g4 p => ⟨B3, Γ3, sb.trans g4.mv.bb, g23.trans g4, p⟩) (fun v σ3 B3 H3 z Γ3 g4 k4 p => r v σ3 B3 H3 z Γ3 (g23.trans g4) (ReOk.earlier k4 g23.mv g23.new) p)
      (fun σ3 B3 H3 Γ3 g4 p => n σ3 B3 H3 Γ3 (g23.trans g4) p) (fun σ3 B3 H3 Γ3 g4 p => ⟨B3, Γ3, sb.trans g4.mv.bb, g23.trans g4, p⟩) (fun cls d fs σ3 B3 H3 Γ3 g4 hx p => xx cls d fs σ3 B3 H3 Γ3 (g23.trans g4) hx p)
  · rintro σ' H' ⟨B', Γ', sb, g2, inv⟩
    rw [hx.len] at inv
    exact n σ' B' H' Γ' g2 (done Γ' inv)
theorem ws_while (Inv : Nat → List Sl → Prop) (m0 : Nat) (i0 : Inv m0 Γ)
      (turn : ∀ m Γ', Inv m Γ' → WT K tt Γ' fun z Γ1 => (z = true → WS K pin tb' Γ1 ⟨fun G => ∃ m', m' < m ∧ Inv m' G, P.rt, P.nx, fun G => ∃ m', m' < m ∧ Inv m' G, P.ex⟩) ∧ (z = false → P.nx Γ1)) : WS K pin (tWhile tt tb') Γ P := fun σ B H D E n r b c xx => by
  refine ⟨fun m σ' H' => ∃ B' Γ', GoS K pin σ B H Γ σ' B' H' Γ' ∧ Inv m Γ', ⟨m0, B, Γ, .refl E, i0⟩, ?_⟩
  rintro m σ' H' ⟨B', Γ', g, inv⟩
  refine turn m Γ' inv σ' B' H' g.env _ fun z B1 H1 Γ1 g1 p => ?_
  have gg := g.trans g1.s
  cases z with
  | true =>
    refine (show ∃ N : L2.St → Hp → Prop, _ from ⟨fun σ2 H2 => ∃ B2 Γ2, GoS K pin σ B H Γ σ2 B2 H2 Γ2 ∧ ∃ m', m' < m ∧ Inv m' Γ2, fun σ2 H2 ⟨B2, Γ2, g2, m', hm, inv'⟩ => ⟨m', hm, B2, Γ2, g2, inv'⟩, ?_⟩)
    exact ws_from (p.1 rfl) gg (fun σ3 B3 H3 Γ3 g4 p => ⟨B3, Γ3, g4, p⟩) r (fun σ3 B3 H3 Γ3 g4 p => n σ3 B3 H3 Γ3 g4 p) (fun σ3 B3 H3 Γ3 g4 p => ⟨B3, Γ3, g4, p⟩) xx
  | false => exact n σ' B1 H1 Γ1 gg (p.2 rfl)
end
end Ab

namespace Ab
open PySem L2
noncomputable abbrev AP := List Sl → (Re → List Sl → Prop) → Prop
noncomputable def toSp (K : PySem.W.Frag) (ap : AP) : Sp := fun vs H Q _ => ∃ B as Post, Env K B H (vs.map some) as ∧ ap as Post ∧
  ∀ v B' H' r as', Go K (vs.map some) B H as B' H' as' → ReOk K [] (Own (vs.map some) as) (Own (vs.map some) as') B' H H' v r → Post r as' → Q v H'
noncomputable def exitSl (pin : List Nat) (Γ : List Sl) (i : Nat) : Sl → Sl
  | .val d => .val d
  | .un => .un
  | .cel _ => if pin.contains i then (Γ[i]?).getD .un else .un
noncomputable def exitFrom (pin : List Nat) (Γ : List Sl) : Nat → List Sl → List Sl
  | _, [] => []
  | k, s :: r => exitSl pin Γ k s :: exitFrom pin Γ (k + 1) r
noncomputable def exitArgs (pin : List Nat) (Γ as : List Sl) : List Sl := exitFrom pin Γ 0 as
theorem exitFrom_get (pin : List Nat) (Γ : List Sl) : ∀ (as : List Sl) (k i : Nat), (exitFrom pin Γ k as)[i]? = (as[i]?).map (exitSl pin Γ (k + i))
  | [], k, i => by simp [exitFrom]
  | s :: r, k, 0 => by simp [exitFrom]
  | s :: r, k, i + 1 => by
    rw [exitFrom]
    simp only [List.getElem?_cons_succ]
    rw [exitFrom_get pin Γ r (k + 1) i]
    rw [show k + 1 + i = k + (i + 1) by omega]
theorem exitArgs_get {pin : List Nat} {Γ as : List Sl} {i : Nat} {s : Sl} (h : (exitArgs pin Γ as)[i]? = some s) : ∃ s0, as[i]? = some s0 ∧ s = exitSl pin Γ i s0 := by
  unfold exitArgs at h
  rw [exitFrom_get] at h
  cases q : as[i]? with
  | none => rw [q] at h; cases h
  | some s0 =>
    rw [q] at h
    simp at h
    exact ⟨s0, rfl, h.symm⟩
theorem exitFrom_len (pin : List Nat) (Γ : List Sl) : ∀ (as : List Sl) (k : Nat), (exitFrom pin Γ k as).length = as.length
  | [], _ => rfl
  | s :: r, k => by rw [exitFrom, List.length_cons, List.length_cons, exitFrom_len pin Γ r (k + 1)]
section
variable {K : PySem.W.Frag}
theorem start_get {N : List Str} {vs : List V} {i : Nat} (h : i < vs.length) : (L2.start N vs)[i]? = (vs.map some)[i]? := by
  unfold L2.start
  rw [List.getElem?_append_left (by rw [List.length_map]; exact h)]
theorem env_start {B H : Hp} {N : List Str} {vs : List V} {as : List Sl} (E : Env K B H (vs.map some) as) (hn : as.length ≤ N.length) : Env K B H (L2.start N vs) (as ++ List.replicate (N.length - as.length) .un) := by
  have hl : vs.length = as.length := by have := E.len; simpa using this
  have lt : ∀ {i : Nat} {s : Sl}, (as ++ List.replicate (N.length - as.length) Sl.un)[i]? = some s → s ≠ .un → i < as.length ∧ as[i]? = some s := fun {i s} h hs => by
    by_cases hi : i < as.length
    · rw [List.getElem?_append_left hi] at h; exact ⟨hi, h⟩
    · rw [List.getElem?_append_right (by omega)] at h
      have := List.mem_of_getElem? h
      rw [List.mem_replicate] at this
      exact absurd this.2 hs
  refine ⟨?_, E.bh, fun i d h => ?_, fun i ds h => ?_, fun i j ds es l h1 h2 h3 h4 => ?_⟩
  · unfold L2.start
    rw [List.length_append, List.length_map, List.length_replicate, List.length_append, List.length_replicate, hl]
  · obtain ⟨hi, h⟩ := lt h (fun z => nomatch z)
    rw [start_get (by omega)]
    exact E.val i d h
  · obtain ⟨hi, h⟩ := lt h (fun z => nomatch z)
    rw [start_get (by omega)]
    exact E.cel i ds h
  · obtain ⟨hi, h1⟩ := lt h1 (fun z => nomatch z)
    obtain ⟨hj, h2⟩ := lt h2 (fun z => nomatch z)
    rw [start_get (by omega)] at h3 h4
    exact E.sep i j ds es l h1 h2 h3 h4
theorem own_start {N : List Str} {vs : List V} {as : List Sl} (hl : vs.length = as.length) {a : Addr} : Own (L2.start N vs) (as ++ List.replicate (N.length - as.length) .un) a ↔ Own (vs.map some) as a := by
  constructor
  · rintro ⟨i, ds, h1, h2⟩
    by_cases hi : i < as.length
    · rw [List.getElem?_append_left hi] at h1
      rw [start_get (by omega)] at h2
      exact ⟨i, ds, h1, h2⟩
    · rw [List.getElem?_append_right (by omega)] at h1
      have := List.mem_of_getElem? h1
      rw [List.mem_replicate] at this
      cases this.2
  · rintro ⟨i, ds, h1, h2⟩
    have hi : i < as.length := (List.getElem?_eq_some_iff.mp h1).1
    refine ⟨i, ds, ?_, ?_⟩
    · rw [List.getElem?_append_left hi]; exact h1
    · rw [start_get (by omega)]; exact h2
variable {P : Program} {w : World} {mg : Str → Option Value} {base : Heap}
theorem exit_go {N : List Str} {vs : List V} {as : List Sl} {B H B' H' : Hp} {pin : List Nat} {σ' : L2.St} {Γ' : List Sl} (E1 : Env K B H (vs.map some) as) (hl : vs.length = as.length)
    (g : GoS K pin (L2.start N vs) B H (as ++ List.replicate (N.length - as.length) .un) σ' B' H' Γ') : Go K (vs.map some) B H as B' H' (exitArgs pin Γ' as) ∧
      ∀ v r, ReOk K [] (Own (L2.start N vs) (as ++ List.replicate (N.length - as.length) .un)) (Own σ' Γ') B' H H' v r → ReOk K [] (Own (vs.map some) as) (Own (vs.map some) (exitArgs pin Γ' as)) B' H H' v r := by
  have hpinv : ∀ i, i < vs.length → i ∈ pin → σ'[i]? = (vs.map some)[i]? := fun i hi hp => by rw [g.pin i hp, start_get hi]
  have acc : ∀ {i : Nat} {ds : Cn}, (exitArgs pin Γ' as)[i]? = some (.cel ds) → i ∈ pin ∧ Γ'[i]? = some (.cel ds) ∧ ∃ ds0, as[i]? = some (.cel ds0) := fun {i ds} h => by
    obtain ⟨s0, h0, e⟩ := exitArgs_get h
    cases s0 with
    | un => cases e
    | val d => cases e
    | cel es =>
      unfold exitSl at e
      simp only at e
      split at e
      · rename_i hc
        refine ⟨List.contains_iff_mem.mp hc, ?_, es, h0⟩
        cases q : Γ'[i]? with
        | none => rw [q] at e; cases e
        | some s => rw [q] at e; simp at e; rw [← e]
      · cases e
  have own' : ∀ {a}, Own (vs.map some) (exitArgs pin Γ' as) a → Own σ' Γ' a := fun {a} ⟨i, ds, h1, h2⟩ => by
    obtain ⟨hp, h3, _, _⟩ := acc h1
    have hi : i < vs.length := by
      have := (List.getElem?_eq_some_iff.mp h2).1
      simpa using this
    exact ⟨i, ds, h3, by rw [hpinv i hi hp]; exact h2⟩
  have E' : Env K B' H' (vs.map some) (exitArgs pin Γ' as) := by
    refine ⟨by unfold exitArgs; rw [exitFrom_len, List.length_map, hl], g.env.bh, fun i d h => ?_, fun i ds h => ?_, fun i j ds es l h1 h2 h3 h4 => ?_⟩
    · obtain ⟨s0, h0, e⟩ := exitArgs_get h
      cases s0 with
      | un => cases e
      | val d' =>
        cases e
        obtain ⟨v, e1, e2⟩ := E1.val i d h0
        exact ⟨v, e1, e2.mono g.mv.bb⟩
      | cel es =>
        unfold exitSl at e
        simp only at e
        split at e
        · rename_i hc
          have hp := List.contains_iff_mem.mp hc
          have hi : i < vs.length := by rw [hl]; exact (List.getElem?_eq_some_iff.mp h0).1
          cases q : Γ'[i]? with
          | none => rw [q] at e; cases e
          | some s =>
            rw [q] at e
            simp at e
            subst e
            rw [← hpinv i hi hp]
            exact g.env.val i d q
        · cases e
    · obtain ⟨hp, h3, _, h4⟩ := acc h
      have hi : i < vs.length := by rw [hl]; exact (List.getElem?_eq_some_iff.mp h4).1
      rw [← hpinv i hi hp]
      exact g.env.cel i ds h3
    · obtain ⟨hp, g1, _, _⟩ := acc h1
      obtain ⟨hp2, g2, _, _⟩ := acc h2
      have hi : i < vs.length := by have := (List.getElem?_eq_some_iff.mp h3).1; simpa using this
      have hj : j < vs.length := by have := (List.getElem?_eq_some_iff.mp h4).1; simpa using this
      exact g.env.sep i j ds es l g1 g2 (by rw [hpinv i hi hp]; exact h3) (by rw [hpinv j hj hp2]; exact h4)
  have hm : ∀ a, Own (L2.start N vs) (as ++ List.replicate (N.length - as.length) .un) a ↔ Own (vs.map some) as a := fun a => own_start hl
  refine ⟨⟨⟨fun a o na e => g.mv.kp a o (fun z => na ((hm a).mp z)) e, g.mv.bb, fun a na ha hb => g.mv.off a (fun z => na ((hm a).mp z)) ha hb⟩, fun i ds h1 => ?_, E'⟩, fun v r kk => ?_⟩
  · obtain ⟨_, _, ds0, h3⟩ := acc h1
    exact ⟨ds0, h3⟩
  · cases r with
    | val d => exact kk
    | own i => exact kk
    | nw ds =>
      obtain ⟨l, us, e, h1, h2, h3⟩ := kk
      exact ⟨l, us, e, h1.imp (fun z => (hm l).mp z) id, fun z => h2 (own' z), h3⟩
theorem fn_ab {x qual : Str} {st : Stmt} {f : Addr} {fd : FuncData} {N ps : List Str} {k : Nat} {ap : AP} (pin : List Nat) (F : Fun K x qual st f fd) (S : FnScope N ps (defScope st))
    (hlen : ∀ as Post, ap as Post → as.length = ps.length) (hN : decide (ps.length ≤ N.length) = true)
    (body : ∀ (cdv : Value) (A : Around) (outer : List PySem.Env) (s : Shared) (H : Hp) (E : XK), Room k (A.deeper (PyProof.Rows.envOfC qual (defScope st) s.heap.objs.size f cdv)) →
      ∃ t, PSs (cxOf CX0 P w K mg base N qual (defScope st) f cdv A outer s H E).nox (defBody st) t ∧
        ∀ as Post, ap as Post → WS K pin t (as ++ List.replicate (N.length - as.length) .un) ⟨fun G => Post (.val .non) (exitArgs pin G as), fun r G => Post r (exitArgs pin G as), fun _ => False, fun _ => False, .no⟩) :
    FnOk P w K mg base CX0 (k + 1) f fd ps (toSp K ap) := by
  refine F.ok S (fun vs H Q E h => ?_) (fun cdv A outer s H vs Q E hr h => ?_)
  · obtain ⟨B, as, Post, E1, ha, _⟩ := h
    have := E1.len
    rw [List.length_map] at this
    rw [this]; exact hlen as Post ha
  · obtain ⟨B, as, Post, E1, ha, q⟩ := h
    obtain ⟨t, ht, hw⟩ := body cdv A outer s H E hr
    refine ⟨t, ht, ?_⟩
    have hl : vs.length = as.length := by have := E1.len; simpa using this
    have hps : as.length ≤ N.length := by rw [hlen as Post ha]; exact of_decide_eq_true hN
    have E0 := env_start E1 hps
    have fin : ∀ v σ' B' H' r Γ', GoS K pin (L2.start N vs) B H (as ++ List.replicate (N.length - as.length) .un) σ' B' H' Γ' → ReOk K [] (Own (L2.start N vs) (as ++ List.replicate (N.length - as.length) .un)) (Own σ' Γ') B' H H' v r → Post r (exitArgs pin Γ' as) → Q v H' := by
      intro v σ' B' H' r Γ' g kk p
      obtain ⟨g', kr⟩ := exit_go E1 hl g
      exact q v B' H' r _ g' (kr v r kk) p
    exact hw as Post ha (L2.start N vs) B H _ E0 (fun σ' B' H' Γ' g p => fin .non σ' B' H' (.val .non) Γ' g (Is.raw _) p) (fun v σ' B' H' r Γ' g kk p => fin v σ' B' H' r Γ' g kk p) (fun _ _ _ _ _ p => p.elim) (fun _ _ _ _ _ p => p.elim) (fun _ _ _ _ _ _ _ _ _ p => (show False from p).elim)
end
structure AsOk (K : PySem.W.Frag) (σ : L2.St) (m m' : Addr → Prop) (B' H H' : Hp) (vs : List V) (rs : List Re) : Prop where
  len : vs.length = rs.length
  at_ : ∀ (i : Nat) v r, vs[i]? = some v → rs[i]? = some r → ReOk K σ m m' B' H H' v r
  sep : ∀ (i j : Nat) ds es l, rs[i]? = some (.nw ds) → rs[j]? = some (.nw es) → vs[i]? = some (.ref l) → vs[j]? = some (.ref l) → i = j
noncomputable def WA (K : PySem.W.Frag) (ta : TA) (Γ : List Sl) (Post : List Re → List Sl → Prop) : Prop := ∀ σ B H, Env K B H σ Γ → ∀ Q : List V → Hp → Prop,
  (∀ vs B' H' rs Γ', Go K σ B H Γ B' H' Γ' → AsOk K σ (Own σ Γ) (Own σ Γ') B' H H' vs rs → Post rs Γ' → Q vs H') → ta σ H Q
section
variable {K : PySem.W.Frag} {Γ : List Sl} {te : TE} {tr : TA}
theorem wa_nil {P : List Re → List Sl → Prop} (p : P [] Γ) : WA K tNil Γ P := fun σ B H E Q q => q [] B H [] Γ (.refl E) ⟨rfl, fun i v r a => by simp at a, fun i j ds es l a => by simp at a⟩ p
theorem wa_cons {P : List Re → List Sl → Prop} (h : WE K te Γ fun r Γ1 => WA K tr Γ1 fun rs Γ2 => P (r :: rs) Γ2) : WA K (tCons te tr) Γ P := fun σ B H E Q q => by
  refine h σ B H E _ fun x B1 H1 r Γ1 g1 k1 p1 => ?_
  refine p1 σ B1 H1 g1.env _ fun vs B2 H2 rs Γ2 g2 k2 p2 => ?_
  have k1' := ReOk.step k1 g2.mv g2.sub
  refine q (x :: vs) B2 H2 (r :: rs) Γ2 (g1.trans g2) ⟨by simp [k2.len], fun i v z a b => ?_, fun i j ds es l a b c d => ?_⟩ p2
  · cases i with
    | zero => simp at a b; subst a b; exact k1'
    | succ i => simp at a b; exact ReOk.earlier (k2.at_ i v z a b) g1.mv fun a h => .inl (g1.sub a h)
  · -- two new lists are apart
    have apart : ∀ (j : Nat) es, r = .nw ds → rs[j]? = some (.nw es) → x = .ref l → vs[j]? = some (.ref l) → False := fun j es hr hj hx hv => by
      subst hr
      obtain ⟨l1, us, e, _, n1, t1, _⟩ := k1
      rw [hx] at e; cases e
      obtain ⟨l2, us2, e2, f2, _⟩ := k2.at_ j _ _ hv hj
      cases e2
      rcases f2 with f2 | f2
      · exact n1 f2
      · rw [t1] at f2; cases f2
    cases i with
    | zero =>
      cases j with
      | zero => rfl
      | succ j => simp at a b c d; exact (apart j es a b c d).elim
    | succ i =>
      cases j with
      | zero =>
        simp at a b c d
        have : ∀ es', r = .nw es' → False := fun es' hr => by
          subst hr
          obtain ⟨l1, us, e, _, n1, t1, _⟩ := k1
          rw [d] at e; cases e
          obtain ⟨l2, us2, e2, f2, _⟩ := k2.at_ i _ _ c a
          cases e2
          rcases f2 with f2 | f2
          · exact n1 f2
          · rw [t1] at f2; cases f2
        exact (this es b).elim
      | succ j =>
        simp at a b c d
        rw [k2.sep i j ds es l a b c d]
end
noncomputable def argSl (Γ : List Sl) : Re → Sl
  | .val d => .val d
  | .nw ds => .cel ds
  | .own i => match Γ[i]? with
    | some (.cel ds) => .cel ds
    | _ => .un
noncomputable def putBack : List Re → List Sl → List Sl → List Sl
  | .own i :: rs, s :: as, Γ => putBack rs as (Γ.set i s)
  | _ :: rs, _ :: as, Γ => putBack rs as Γ
  | _, _, Γ => Γ
noncomputable def ownsOf : List Re → List Nat
  | .own i :: rs => i :: ownsOf rs
  | _ :: rs => ownsOf rs
  | [] => []
noncomputable def nodupB : List Nat → Bool
  | [] => true
  | x :: r => !r.contains x && nodupB r
theorem ownsOf_mem {i : Nat} : ∀ {rs : List Re}, i ∈ ownsOf rs ↔ ∃ j : Nat, rs[j]? = some (.own i)
  | [] => by simp [ownsOf]
  | r :: rs => by
    have ih := ownsOf_mem (i := i) (rs := rs)
    have split : (∃ j : Nat, (r :: rs)[j]? = some (.own i)) ↔ r = .own i ∨ ∃ j : Nat, rs[j]? = some (.own i) := by
      constructor
      · rintro ⟨j, h⟩
        cases j with
        | zero => simp at h; exact .inl h
        | succ j => simp at h; exact .inr ⟨j, h⟩
      · rintro (h | ⟨j, h⟩)
        · exact ⟨0, by simp [h]⟩
        · exact ⟨j + 1, by simp [h]⟩
    rw [split]
    cases r with
    | own k => simp only [ownsOf, List.mem_cons, ih, Re.own.injEq]; constructor <;> rintro (h | h) <;> first | exact .inl h.symm | exact .inr h
    | val d => simp [ownsOf, ih]
    | nw ds => simp [ownsOf, ih]
theorem putBack_len : ∀ (rs : List Re) (as Γ : List Sl), (putBack rs as Γ).length = Γ.length
  | [], _, _ => by simp [putBack]
  | .own i :: rs, [], Γ => by simp [putBack]
  | .own i :: rs, s :: as, Γ => by rw [putBack, putBack_len]; simp
  | .val d :: rs, [], Γ => by simp [putBack]
  | .val d :: rs, s :: as, Γ => by rw [putBack, putBack_len]; simp
  | .nw d :: rs, [], Γ => by simp [putBack]
  | .nw d :: rs, s :: as, Γ => by rw [putBack, putBack_len]; simp
theorem putBack_other {i : Nat} : ∀ (rs : List Re) (as Γ : List Sl), i ∉ ownsOf rs → (putBack rs as Γ)[i]? = Γ[i]?
  | [], _, _, _ => by simp [putBack]
  | .own k :: rs, [], Γ, _ => by simp [putBack]
  | .own k :: rs, s :: as, Γ, h => by
    rw [ownsOf, List.mem_cons, not_or] at h
    rw [putBack, putBack_other rs as _ h.2, List.getElem?_set_ne (fun z => h.1 z.symm)]
  | .val d :: rs, [], Γ, _ => by simp [putBack]
  | .val d :: rs, s :: as, Γ, h => by rw [putBack]; exact putBack_other rs as _ h; all_goals simp
  | .nw d :: rs, [], Γ, _ => by simp [putBack]
  | .nw d :: rs, s :: as, Γ, h => by rw [putBack]; exact putBack_other rs as _ h; all_goals simp
theorem putBack_own {i : Nat} : ∀ (rs : List Re) (as Γ : List Sl) (j : Nat), nodupB (ownsOf rs) = true → rs[j]? = some (.own i) → j < as.length → i < Γ.length → (putBack rs as Γ)[i]? = as[j]?
  | [], _, _, _, _, h, _, _ => by simp at h
  | r :: rs, [], Γ, j, _, _, hj, _ => by simp at hj
  | .own k :: rs, s :: as, Γ, 0, nd, h, _, hi => by
    simp at h
    subst h
    rw [ownsOf, nodupB, Bool.and_eq_true] at nd
    have : k ∉ ownsOf rs := fun z => by
      have := List.contains_iff_mem.mpr z
      rw [this] at nd; exact absurd nd.1 (by decide)
    rw [putBack, putBack_other rs as _ this, List.getElem?_set_self hi]; rfl
  | .own k :: rs, s :: as, Γ, j + 1, nd, h, hj, hi => by
    simp at h hj
    rw [ownsOf, nodupB, Bool.and_eq_true] at nd
    rw [putBack, putBack_own rs as _ j nd.2 h hj (by simpa using hi)]; simp
  | .val d :: rs, s :: as, Γ, 0, nd, h, _, hi => by simp at h
  | .val d :: rs, s :: as, Γ, j + 1, nd, h, hj, hi => by
    simp at h hj
    rw [putBack, putBack_own rs as _ j nd h hj hi]; simp
    all_goals simp
  | .nw d :: rs, s :: as, Γ, 0, nd, h, _, hi => by simp at h
  | .nw d :: rs, s :: as, Γ, j + 1, nd, h, hj, hi => by
    simp at h hj
    rw [putBack, putBack_own rs as _ j nd h hj hi]; simp
    all_goals simp
theorem nodupB_ix {rs : List Re} {i : Nat} : ∀ {j k : Nat}, nodupB (ownsOf rs) = true → rs[j]? = some (.own i) → rs[k]? = some (.own i) → j = k := by
  induction rs with
  | nil => intro j k _ h; simp at h
  | cons r rs ih =>
    intro j k nd h1 h2
    have tail : nodupB (ownsOf rs) = true := by
      cases r with
      | own i => rw [ownsOf, nodupB, Bool.and_eq_true] at nd; exact nd.2
      | val d => exact nd
      | nw d => exact nd
    have head : r = .own i → ∀ n : Nat, rs[n]? = some (.own i) → False := fun e n hn => by
      subst e
      rw [ownsOf, nodupB, Bool.and_eq_true] at nd
      have : i ∈ ownsOf rs := ownsOf_mem.mpr ⟨n, hn⟩
      rw [List.contains_iff_mem.mpr this] at nd
      exact absurd nd.1 (by decide)
    cases j with
    | zero =>
      cases k with
      | zero => rfl
      | succ k => simp at h1 h2; exact (head h1 k h2).elim
    | succ j =>
      cases k with
      | zero => simp at h1 h2; exact (head h2 j h1).elim
      | succ k => simp at h1 h2; rw [ih tail h1 h2]
theorem call_go {K : PySem.W.Frag} {σ : L2.St} {B H B1 H1 : Hp} {Γ Γ1 : List Sl} {vs : List V} {rs : List Re} (E : Env K B H σ Γ) (g1 : Go K σ B H Γ B1 H1 Γ1) (k1 : AsOk K σ (Own σ Γ) (Own σ Γ1) B1 H H1 vs rs)
    (nd : nodupB (ownsOf rs) = true) : Env K B1 H1 (vs.map some) (rs.map (argSl Γ1)) ∧ ∀ B2 H2 as', Go K (vs.map some) B1 H1 (rs.map (argSl Γ1)) B2 H2 as' → Go K σ B H Γ B2 H2 (putBack rs as' Γ1) ∧
      ∀ v r, ReOk K [] (Own (vs.map some) (rs.map (argSl Γ1))) (Own (vs.map some) as') B2 H1 H2 v r → ReOk K σ (Own σ Γ) (Own σ (putBack rs as' Γ1)) B2 H H2 v r := by
  have hl := k1.len
  have aget : ∀ {i : Nat} {s : Sl}, (rs.map (argSl Γ1))[i]? = some s → ∃ r, rs[i]? = some r ∧ s = argSl Γ1 r := fun {i s} h => by
    rw [List.getElem?_map] at h
    cases q : rs[i]? with
    | none => rw [q] at h; cases h
    | some r => rw [q] at h; simp at h; exact ⟨r, rfl, h.symm⟩
  have vget : ∀ {i : Nat} {r : Re}, rs[i]? = some r → ∃ v, vs[i]? = some v ∧ (vs.map some)[i]? = some (some v) ∧ ReOk K σ (Own σ Γ) (Own σ Γ1) B1 H H1 v r := fun {i r} h => by
    have hi : i < vs.length := by rw [hl]; exact (List.getElem?_eq_some_iff.mp h).1
    refine ⟨vs[i], List.getElem?_eq_getElem hi, by rw [List.getElem?_map, List.getElem?_eq_getElem hi]; rfl, k1.at_ i _ _ (List.getElem?_eq_getElem hi) h⟩
  -- an owned argument: new or a slot's
  have accArg : ∀ {i : Nat} {ds : Cn}, (rs.map (argSl Γ1))[i]? = some (.cel ds) → (rs[i]? = some (.nw ds)) ∨ ∃ k, rs[i]? = some (.own k) ∧ Γ1[k]? = some (.cel ds) := fun {i ds} h => by
    obtain ⟨r, h1, h2⟩ := aget h
    cases r with
    | val d => cases h2
    | nw es => cases h2; exact .inl h1
    | own k =>
      have h2' : Sl.cel ds = (match Γ1[k]? with
        | some (.cel ds) => .cel ds
        | _ => .un) := h2
      split at h2'
      · rename_i es he
        cases h2'
        exact .inr ⟨k, h1, he⟩
      · cases h2'
  -- who is owned on the callee's side
  have ownArg : ∀ {a}, Own (vs.map some) (rs.map (argSl Γ1)) a → ((∃ (i : Nat) (ds : Cn), rs[i]? = some (Re.nw ds) ∧ vs[i]? = some (V.ref a)) ∨ ∃ (i k : Nat) (ds : Cn), rs[i]? = some (Re.own k) ∧ Γ1[k]? = some (.cel ds) ∧ vs[i]? = some (.ref a) ∧ σ[k]? = some (some (.ref a))) := fun {a} ⟨i, ds, h1, h2⟩ => by
    rw [List.getElem?_map] at h2
    cases hv : vs[i]? with
    | none => rw [hv] at h2; cases h2
    | some v =>
      rw [hv] at h2
      simp at h2
      subst h2
      rcases accArg h1 with h | ⟨k, h, hk⟩
      · exact .inl ⟨i, ds, h, hv⟩
      · obtain ⟨v', e1, _, l, e2, e3⟩ := vget h
        rw [hv] at e1; cases e1; cases e2
        exact .inr ⟨i, k, ds, h, hk, hv, e3⟩
  have newOff : ∀ {i : Nat} {ds a}, rs[i]? = some (.nw ds) → vs[i]? = some (.ref a) → (Own σ Γ a ∨ H a = none) ∧ ¬ Own σ Γ1 a := fun {i ds a} h1 h2 => by
    obtain ⟨v', e1, _, l, us, e2, e3, e4, _⟩ := vget h1
    rw [h2] at e1; cases e1; cases e2
    exact ⟨e3, e4⟩
  have ownBack : ∀ {a}, Own (vs.map some) (rs.map (argSl Γ1)) a → Own σ Γ a ∨ H a = none := fun {a} o => by
    rcases ownArg o with ⟨i, ds, h1, h2⟩ | ⟨i, k, ds, h1, h2, h3, h4⟩
    · exact (newOff h1 h2).1
    · exact .inl (g1.sub a ⟨k, ds, h2, h4⟩)
  have E2 : Env K B1 H1 (vs.map some) (rs.map (argSl Γ1)) := by
    refine ⟨by simp [hl], g1.env.bh, fun i d h => ?_, fun i ds h => ?_, fun i j ds es l h1 h2 h3 h4 => ?_⟩
    · obtain ⟨r, h1, h2⟩ := aget h
      cases r with
      | val d' => cases h2; obtain ⟨v, _, e1, e2⟩ := vget h1; exact ⟨v, e1, e2⟩
      | nw es => cases h2
      | own k =>
        have h2' : Sl.val d = (match Γ1[k]? with
          | some (.cel ds) => .cel ds
          | _ => .un) := h2
        split at h2' <;> cases h2'
    · rcases accArg h with h1 | ⟨k, h1, hk⟩
      · obtain ⟨v, _, e1, l, us, e2, _, _, e3, e4, e5⟩ := vget h1
        subst e2
        exact ⟨l, us, e1, e3, e4, e5⟩
      · obtain ⟨v, _, e1, l, e2, e3⟩ := vget h1
        subst e2
        obtain ⟨c, us, f1, f2, f3, f4⟩ := g1.env.cel k ds hk
        rw [e3] at f1; cases f1
        exact ⟨l, us, e1, f2, f3, f4⟩
    · have v3 : vs[i]? = some (.ref l) := by
        rw [List.getElem?_map] at h3
        cases q : vs[i]? with
        | none => rw [q] at h3; cases h3
        | some v => rw [q] at h3; simp at h3; rw [h3]
      have v4 : vs[j]? = some (.ref l) := by
        rw [List.getElem?_map] at h4
        cases q : vs[j]? with
        | none => rw [q] at h4; cases h4
        | some v => rw [q] at h4; simp at h4; rw [h4]
      rcases accArg h1 with a1 | ⟨k, a1, b1⟩
      · rcases accArg h2 with a2 | ⟨k2, a2, b2⟩
        · exact k1.sep i j ds es l a1 a2 v3 v4
        · obtain ⟨v', e1, _, l2, e2, e3⟩ := vget a2
          rw [v4] at e1; cases e1; cases e2
          exact absurd ⟨k2, es, b2, e3⟩ (newOff a1 v3).2
      · obtain ⟨v', e1, _, l2, e2, e3⟩ := vget a1
        rw [v3] at e1; cases e1; cases e2
        rcases accArg h2 with a2 | ⟨k2, a2, b2⟩
        · exact absurd ⟨k, ds, b1, e3⟩ (newOff a2 v4).2
        · obtain ⟨v', f1, _, l2, f2, f3⟩ := vget a2
          rw [v4] at f1; cases f1; cases f2
          have := g1.env.sep k k2 ds es l b1 b2 e3 f3
          subst this
          exact nodupB_ix nd a1 a2
  refine ⟨E2, fun B2 H2 as' g2 => ?_⟩
  have hal : as'.length = rs.length := by
    have := g2.env.len
    rw [List.length_map] at this
    omega
  -- slot i of the caller afterwards
  have slot : ∀ {i : Nat} {s : Sl}, (putBack rs as' Γ1)[i]? = some s → (∃ j : Nat, rs[j]? = some (.own i) ∧ as'[j]? = some s ∧ ∃ v, (vs.map some)[j]? = some (some v) ∧ σ[i]? = some (some v)) ∨ (i ∉ ownsOf rs ∧ Γ1[i]? = some s) := fun {i s} h => by
    by_cases hi : i ∈ ownsOf rs
    · obtain ⟨j, hj⟩ := ownsOf_mem.mp hi
      have hil : i < Γ1.length := by
        have := (List.getElem?_eq_some_iff.mp h).1
        rw [putBack_len] at this; exact this
      rw [putBack_own rs as' Γ1 j nd hj (by rw [hal]; exact (List.getElem?_eq_some_iff.mp hj).1) hil] at h
      obtain ⟨v, _, e1, l, e2, e3⟩ := vget hj
      exact .inl ⟨j, hj, h, v, e1, by rw [e2]; exact e3⟩
    · rw [putBack_other rs as' Γ1 hi] at h
      exact .inr ⟨hi, h⟩
  -- a slot's list that was not handed over
  have kept : ∀ {i : Nat} {ds : Cn} {l : Addr}, i ∉ ownsOf rs → Γ1[i]? = some (.cel ds) → σ[i]? = some (some (.ref l)) → ¬ Own (vs.map some) (rs.map (argSl Γ1)) l := fun {i ds l} hi h1 h2 o => by
    rcases ownArg o with ⟨j, es, a1, a2⟩ | ⟨j, k, es, a1, a2, a3, a4⟩
    · exact (newOff a1 a2).2 ⟨i, ds, h1, h2⟩
    · have := g1.env.sep i k ds es l h1 a2 h2 a4
      subst this
      exact hi (ownsOf_mem.mpr ⟨j, a1⟩)
  have ac2 : ∀ (i : Nat) ds, (putBack rs as' Γ1)[i]? = some (.cel ds) → ∃ es, Γ1[i]? = some (.cel es) := fun i ds h1 => by
    rcases slot h1 with ⟨j, hj, ha, v, e1, e2⟩ | ⟨_, h⟩
    · obtain ⟨es, h⟩ := g2.ac j ds ha
      rcases accArg h with h | ⟨k, h, hk⟩
      · rw [hj] at h; cases h
      · rw [hj] at h; cases h; exact ⟨es, hk⟩
    · exact ⟨ds, h⟩
  have kOff : ∀ {a}, ¬ Own σ Γ a → H a ≠ none → ¬ Own (vs.map some) (rs.map (argSl Γ1)) a := fun {a} na ha o => (ownBack o).elim na ha
  have E3 : Env K B2 H2 σ (putBack rs as' Γ1) := by
    refine ⟨by rw [putBack_len]; exact g1.env.len, g2.env.bh, fun i d h => ?_, fun i ds h => ?_, fun i j ds es l h1 h2 h3 h4 => ?_⟩
    · rcases slot h with ⟨j, hj, ha, v, e1, e2⟩ | ⟨hi, h⟩
      · obtain ⟨v', f1, f2⟩ := g2.env.val j d ha
        rw [e1] at f1; cases f1
        exact ⟨v, e2, f2⟩
      · obtain ⟨v, f1, f2⟩ := g1.env.val i d h
        exact ⟨v, f1, f2.mono g2.mv.bb⟩
    · rcases slot h with ⟨j, hj, ha, v, e1, e2⟩ | ⟨hi, h⟩
      · obtain ⟨l, us, f1, f2⟩ := g2.env.cel j ds ha
        rw [e1] at f1; cases f1
        exact ⟨l, us, e2, f2⟩
      · obtain ⟨l, us, f1, f2, f3, f4⟩ := g1.env.cel i ds h
        have nk := kept hi h f1
        exact ⟨l, us, f1, g2.mv.kp l _ nk f2, g2.mv.off l nk (by rw [f2]; exact fun z => nomatch z) f3, f4.mono g2.mv.bb⟩
    · obtain ⟨d1, b1⟩ := ac2 i ds h1
      obtain ⟨d2, b2⟩ := ac2 j es h2
      exact g1.env.sep i j d1 d2 l b1 b2 h3 h4
  refine ⟨⟨⟨fun a o na e => ?_, g1.mv.bb.trans g2.mv.bb, fun a na ha hb => ?_⟩, fun i ds h => ?_, E3⟩, fun v r k2 => ?_⟩
  · exact g2.mv.kp a o (kOff na (by rw [e]; exact fun z => nomatch z)) (g1.mv.kp a o na e)
  · refine g2.mv.off a (kOff na ha) ?_ (g1.mv.off a na ha hb)
    cases q : H a with
    | none => exact absurd q ha
    | some o => rw [g1.mv.kp a o na q]; exact fun z => nomatch z
  · obtain ⟨es, h1⟩ := ac2 i ds h
    exact g1.ac i es h1
  · cases r with
    | val d => exact k2
    | own i => obtain ⟨l, _, e⟩ := k2; simp at e
    | nw ds =>
      obtain ⟨l, us, e, f1, f2, f3, f4, f5⟩ := k2
      refine ⟨l, us, e, ?_, ?_, f3, f4, f5⟩
      · rcases f1 with f1 | f1
        · exact ownBack f1
        · exact g1.mv.back f1
      · rintro ⟨i, es, h1, h2⟩
        rcases slot h1 with ⟨j, hj, ha, w, e1, e2⟩ | ⟨hi, h⟩
        · rw [h2] at e2; cases e2
          exact f2 ⟨j, es, ha, e1⟩
        · have nk := kept hi h h2
          rcases f1 with f1 | f1
          · exact nk f1
          · obtain ⟨us', t1, _⟩ := g1.env.tracked ⟨i, es, h, h2⟩
            rw [t1] at f1; cases f1
theorem call_core {K : PySem.W.Frag} {σ : L2.St} {B H B1 H1 : Hp} {Γ Γ1 : List Sl} {vs : List V} {rs : List Re} {Post : Re → List Sl → Prop} {ap : AP} {E0 : XK} {Q : VK} (E : Env K B H σ Γ) (g1 : Go K σ B H Γ B1 H1 Γ1) (k1 : AsOk K σ (Own σ Γ) (Own σ Γ1) B1 H H1 vs rs)
    (nd : nodupB (ownsOf rs) = true) (hap : ap (rs.map (argSl Γ1)) fun r as' => Post r (putBack rs as' Γ1)) (q : ∀ v B' H' r Γ', Go K σ B H Γ B' H' Γ' → ReOk K σ (Own σ Γ) (Own σ Γ') B' H H' v r → Post r Γ' → Q v H') : toSp K ap vs H1 Q E0 := by
  obtain ⟨E2, kk⟩ := call_go E g1 k1 nd
  refine ⟨B1, rs.map (argSl Γ1), _, E2, hap, fun v B2 H2 r as' g2 k2 p => ?_⟩
  obtain ⟨g, kr⟩ := kk B2 H2 as' g2
  exact q v B2 H2 r _ g (kr v r k2) p
theorem we_call {K : PySem.W.Frag} {Γ : List Sl} {Post : Re → List Sl → Prop} {ap : AP} {E0 : XK} {ta : TA} (h : WA K ta Γ fun rs Γ1 => nodupB (ownsOf rs) = true ∧ ap (rs.map (argSl Γ1)) fun r as' => Post r (putBack rs as' Γ1)) : WE K (tCall (toSp K ap) [] E0 ta) Γ Post := fun σ B H E Q q => by
  refine h σ B H E _ fun vs B1 H1 rs Γ1 g1 k1 p1 => ?_
  rw [List.append_nil]
  exact call_core E g1 k1 p1.1 p1.2 q
end Ab

namespace Ab
open PySem L2
noncomputable def keepV : Option Sl → Sl
  | some (.val d) => .val d
  | _ => .un
section
variable {K : PySem.W.Frag} {σ : L2.St} {B H : Hp} {Γ : List Sl}
theorem keepV_acc {o : Option Sl} {ds : Cn} (h : keepV o = .cel ds) : False := by
  unfold keepV at h
  split at h <;> cases h
theorem Env.updOff {D : Addr} {o : HO} (E : Env K B H σ Γ) (hb : B D = none) (hn : ¬ Own σ Γ D) : Env K B (upd H D o) σ Γ := by
  refine ⟨E.len, fun a u e => ?_, E.val, fun i ds h => ?_, E.sep⟩
  · rw [upd_ne (ne_of_none e hb)]; exact E.bh a u e
  · obtain ⟨l, vs, e, e1, e2, q⟩ := E.cel i ds h
    have : l ≠ D := fun z => by subst z; exact hn ⟨i, ds, h, e⟩
    exact ⟨l, vs, e, by rw [upd_ne this]; exact e1, e2, q⟩
theorem env_back {j : Nat} {x : Option V} {Γ0 : List Sl} {B0 H0 : Hp} (E0 : Env K B0 H0 σ Γ0) (bb : Same B0 B) (E : Env K B H (σ.set j x) Γ) (hj : j < Γ.length) : Env K B H σ (Γ.set j (keepV Γ0[j]?)) := by
  have ne : ∀ {k : Nat} {ds : Cn}, (Γ.set j (keepV Γ0[j]?))[k]? = some (.cel ds) → j ≠ k := fun {k ds} h z => by
    subst z
    rw [List.getElem?_set_self hj] at h
    exact keepV_acc (Option.some.inj h)
  refine ⟨?_, E.bh, fun k d h => ?_, fun k ds h => ?_, fun i k ds es l h1 h2 h3 h4 => ?_⟩
  · have := E.len
    rw [List.length_set] at this ⊢
    exact this
  · by_cases hk : j = k
    · subst hk
      rw [List.getElem?_set_self hj] at h
      cases q : Γ0[j]? with
      | none => rw [q] at h; cases h
      | some s =>
        rw [q] at h
        cases s with
        | un => cases h
        | cel ds => cases h
        | val d' =>
          cases h
          obtain ⟨v, e1, e2⟩ := E0.val j d q
          exact ⟨v, e1, e2.mono bb⟩
    · rw [List.getElem?_set_ne hk] at h
      obtain ⟨v, e1, e2⟩ := E.val k d h
      rw [List.getElem?_set_ne hk] at e1
      exact ⟨v, e1, e2⟩
  · have hk := ne h
    rw [List.getElem?_set_ne hk] at h
    obtain ⟨l, vs, e1, e2⟩ := E.cel k ds h
    rw [List.getElem?_set_ne hk] at e1
    exact ⟨l, vs, e1, e2⟩
  · have a1 := ne h1
    have a2 := ne h2
    rw [List.getElem?_set_ne a1] at h1
    rw [List.getElem?_set_ne a2] at h2
    exact E.sep i k ds es l h1 h2 (by rw [List.getElem?_set_ne a1]; exact h3) (by rw [List.getElem?_set_ne a2]; exact h4)
theorem own_back {j : Nat} {x : Option V} {s : Sl} {a : Addr} (hs : ∀ ds, s ≠ .cel ds) (h : Own σ (Γ.set j s) a) : Own (σ.set j x) Γ a := by
  obtain ⟨k, ds, h1, h2⟩ := h
  by_cases hk : j = k
  · subst hk
    have hj : j < Γ.length := by
      have := (List.getElem?_eq_some_iff.mp h1).1
      simpa using this
    rw [List.getElem?_set_self hj] at h1
    exact absurd (Option.some.inj h1) (hs ds)
  · rw [List.getElem?_set_ne hk] at h1
    exact ⟨k, ds, h1, by rw [List.getElem?_set_ne hk]; exact h2⟩
theorem Mv.iff {m m1 : Addr → Prop} {B' H' : Hp} (h : ∀ a, m1 a → m a) (x : Mv m1 B H B' H') : Mv m B H B' H' := ⟨fun a o na e => x.kp a o (fun z => na (h a z)) e, x.bb, fun a na ha hb => x.off a (fun z => na (h a z)) ha hb⟩
structure LcSt (K : PySem.W.Frag) (σ : L2.St) (B H : Hp) (Γ : List Sl) (j : Nat) (D : Addr) (Inv : Nat → List Dt → List Sl → Prop) (i : Nat) (H' : Hp) (B' : Hp) (Γ' : List Sl) (vs : List V) (es : List Dt) : Prop where
  mv : Mv (Own σ Γ) B H B' H'
  ac : ∀ (k : Nat) ds, Γ'[k]? = some (.cel ds) → ∃ es, Γ[k]? = some (.cel es)
  env : Env K B' H' σ Γ'
  hD : H' D = some (.lst vs)
  bD : B' D = none
  oD : ¬ Own σ Γ' D
  its : IsA K B' vs es
  len : es.length ≤ i
  inv : Inv i es Γ'
theorem lc_run {j n : Nat} {J : It} {dt : Nat → Dt} {tt : TT} {te : TE} {Post : Re → List Sl → Prop} {Q : VK} (E : Env K B H σ Γ) (hj : j < Γ.length) (hja : ∀ ds, Γ[j]? ≠ some (.cel ds)) (hn : n ≤ 1000000)
    (Inv : Nat → List Dt → List Sl → Prop)
    (go : ∀ i B' H' es Γ', i < n → Same B B' → Env K B' H' σ Γ' → Inv i es Γ' → J.go i H') (yl : ∀ i H' x H'' B' es Γ', i < n → Same B B' → Env K B' H' σ Γ' → Inv i es Γ' → J.yld i H' x H'' → H'' = H' ∧ Is K B' x (dt i)) (stop : ∀ B' H' es Γ', Same B B' → Env K B' H' σ Γ' → Inv n es Γ' → J.stop n H')
    (i0 : Inv 0 [] Γ)
    (turn : ∀ i es Γ', i < n → Inv i es Γ' → WT K tt (Γ'.set j (.val (dt i))) fun b Γ2 => (b = true → WE K te Γ2 fun r Γ3 => ∃ d, r.dt? = some d ∧ Inv (i + 1) (es ++ [d]) (Γ3.set j (keepV Γ[j]?))) ∧ (b = false → Inv (i + 1) es (Γ2.set j (keepV Γ[j]?))))
    (done : ∀ es Γ', Inv n es Γ' → Post (.new es) Γ') (q : ∀ v B' H' r Γ', Go K σ B H Γ B' H' Γ' → ReOk K σ (Own σ Γ) (Own σ Γ') B' H H' v r → Post r Γ' → Q v H') :
    ∀ D, H D = none → ∃ W : Nat → Nat → Hp → Prop, (∃ m, W 0 m (upd H D (.lst []))) ∧ ∀ i m H, W i m H →
      (J.stop i H ∧ Q (.ref D) H) ∨ (J.go i H ∧ ∃ Nx : Hp → Prop, (∀ H', Nx H' → ∃ m', m' < m ∧ W (i + 1) m' H') ∧ ∀ x H', J.yld i H x H' → gName j x (wipe σ [j]) H' fun σ2 H2 => wipe σ2 [j] = wipe σ [j] ∧ tt σ2 H2 fun b H3 =>
        if b = true then te σ2 H3 fun y H4 => ∃ acc, H4 D = some (.lst acc) ∧ acc.length < sizeLine ∧ Nx (upd H4 D (.lst (acc ++ [y]))) else Nx H3) := by
  intro D hD
  have hjs : j < σ.length := by rw [E.len]; exact hj
  refine ⟨fun i m H' => m = n - i ∧ i ≤ n ∧ ∃ B' Γ' vs es, LcSt K σ B H Γ j D Inv i H' B' Γ' vs es, ⟨n, by simp, Nat.zero_le _, B, Γ, [], [], ⟨(Go.beside E hD).mv, fun k ds h => ⟨ds, h⟩, E.beside hD, upd_same, E.base_none hD, E.not_own hD, .nil, Nat.le_refl _, i0⟩⟩, ?_⟩
  rintro i m H' ⟨rfl, hi, B', Γ', vs, es, S⟩
  by_cases hlt : i < n
  · refine .inr ⟨go i B' H' es Γ' hlt S.mv.bb S.env S.inv, fun H2 => ∃ B' Γ' vs es, LcSt K σ B H Γ j D Inv (i + 1) H2 B' Γ' vs es, fun H2 ⟨B2, Γ2, vs2, es2, S2⟩ => ⟨n - (i + 1), by omega, rfl, hlt, B2, Γ2, vs2, es2, S2⟩, fun x H2 hy => ?_⟩
    obtain ⟨e, hx⟩ := yl i H' x H2 B' es Γ' hlt S.mv.bb S.env S.inv hy
    subst e
    have hj' : j < Γ'.length := by rw [← S.env.len]; exact hjs
    have es2 : (wipe σ [j]).set j (some x) = σ.set j (some x) := by
      show (σ.set j none).set j (some x) = _
      rw [List.set_set]
    show wipe ((wipe σ [j]).set j (some x)) [j] = wipe σ [j] ∧ _
    rw [es2]
    refine ⟨by show (σ.set j (some x)).set j none = σ.set j none; rw [List.set_set], ?_⟩
    have E2 := S.env.setV hj' hx
    -- owners within and without
    have ow1 : ∀ a, Own (σ.set j (some x)) (Γ'.set j (.val (dt i))) a → Own σ Γ' a := fun a h => h.set_ne fun ds z => nomatch z
    have nA : ¬ Own (σ.set j (some x)) (Γ'.set j (.val (dt i))) D := fun z => S.oD (ow1 D z)
    have tD : H2 D ≠ none := by rw [S.hD]; exact fun z => nomatch z
    -- what a turn comes to
    have fin : ∀ {B3 H3 : Hp} {Γ3 : List Sl}, Go K (σ.set j (some x)) B' H2 (Γ'.set j (.val (dt i))) B3 H3 Γ3 →
        Mv (Own σ Γ) B H B3 H3 ∧ (∀ (k : Nat) ds, (Γ3.set j (keepV Γ[j]?))[k]? = some (.cel ds) → ∃ es, Γ[k]? = some (.cel es)) ∧ Env K B3 H3 σ (Γ3.set j (keepV Γ[j]?)) ∧ H3 D = some (.lst vs) ∧ B3 D = none ∧ ¬ Own σ (Γ3.set j (keepV Γ[j]?)) D ∧ IsA K B3 vs es := by
      intro B3 H3 Γ3 g
      have hj3 : j < Γ3.length := by
        have h1 := g.env.len
        rw [List.length_set] at h1
        omega
      have subO : ∀ a, Own σ (Γ3.set j (keepV Γ[j]?)) a → Own (σ.set j (some x)) Γ3 a := fun a h => own_back (fun ds z => keepV_acc z) h
      refine ⟨S.mv.trans (m1 := Own σ Γ') (fun a ⟨k, ds, h1, h2⟩ => .inl (by obtain ⟨es, h⟩ := S.ac k ds h1; exact ⟨k, es, h, h2⟩)) (g.mv.iff ow1), fun k ds h => ?_, env_back E (S.mv.bb.trans g.mv.bb) g.env hj3, g.mv.kp D _ nA S.hD, g.mv.off D nA tD S.bD, fun z => nA (g.sub D (subO D z)), S.its.mono g.mv.bb⟩
      by_cases hk : j = k
      · subst hk
        rw [List.getElem?_set_self hj3] at h
        exact (keepV_acc (Option.some.inj h)).elim
      · rw [List.getElem?_set_ne hk] at h
        obtain ⟨es', h1⟩ := g.ac k ds h
        rw [List.getElem?_set_ne hk] at h1
        exact S.ac k es' h1
    refine turn i es Γ' hlt S.inv (σ.set j (some x)) B' H2 E2 _ fun b B3 H3 Γ3 g3 p => ?_
    cases b with
    | true =>
      show te (σ.set j (some x)) H3 _
      have p1 : WE K te Γ3 fun r Γ4 => ∃ d, r = .val d ∧ Inv (i + 1) (es ++ [d]) (Γ4.set j (keepV Γ[j]?)) := we_freeze (we_mono (p.1 rfl) fun r Γ4 ⟨d, hd, k⟩ => ⟨d, hd, d, rfl, k⟩)
      refine p1 (σ.set j (some x)) B3 H3 g3.env _ fun y B4 H4 r Γ4 g4 k4 p4 => ?_
      obtain ⟨d, rfl, inv⟩ := p4
      obtain ⟨f1, f2, f3, f4, f5, f6, f7⟩ := fin (g3.trans g4)
      refine ⟨vs, f4, ?_, B4, Γ4.set j (keepV Γ[j]?), vs ++ [y], es ++ [d], ?_⟩
      · rw [S.its.len]
        have := S.len
        exact Nat.lt_of_le_of_lt this (Nat.lt_of_lt_of_le hlt (Nat.le_trans hn (by decide)))
      · refine ⟨⟨fun a o na e => ?_, f1.bb, f1.off⟩, f2, f3.updOff f5 f6, upd_same, f5, f6, f7.snoc k4, by rw [List.length_append]; have := S.len; simp; omega, inv⟩
        rw [upd_ne (ne_of_none e hD)]
        exact f1.kp a o na e
    | false =>
      show ∃ B' Γ' vs es, _
      obtain ⟨f1, f2, f3, f4, f5, f6, f7⟩ := fin g3
      exact ⟨B3, Γ3.set j (keepV Γ[j]?), vs, es, ⟨f1, f2, f3, f4, f5, f6, f7, Nat.le_trans S.len (Nat.le_succ i), p.2 rfl⟩⟩
  · have e : i = n := by omega
    subst e
    exact .inl ⟨stop B' H' es Γ' S.mv.bb S.env S.inv, q (.ref D) B' H' (.new es) Γ' ⟨S.mv, S.ac, S.env⟩ ⟨D, _, rfl, .inr hD, S.oD, S.hD, S.bD, vs, rfl, S.its⟩ (done es Γ' S.inv)⟩
end
section
variable {K : PySem.W.Frag} {Γ : List Sl} {Post : Re → List Sl → Prop} {te tl : TE} {tt : TT} {j : Nat}
noncomputable def notAcc : Option Sl → Bool
  | some (.cel _) => false
  | _ => true
theorem notAcc_ne {o : Option Sl} (h : notAcc o = true) (ds : Cn) : o ≠ some (.cel ds) := fun z => by subst z; cases h
theorem we_lc1 {t1 : TA} (h : WD K t1 Γ fun ds Γ1 => ∃ n : Nat, ds = [.int n] ∧ n ≤ 1000000 ∧ decide (j < Γ1.length) = true ∧ notAcc Γ1[j]? = true ∧ ∃ Inv : Nat → List Dt → List Sl → Prop, Inv 0 [] Γ1 ∧
      (∀ i es Γ', i < n → Inv i es Γ' → WT K tt (Γ'.set j (.val (.int i))) fun b Γ2 => (b = true → WE K te Γ2 fun r Γ3 => ∃ d, r.dt? = some d ∧ Inv (i + 1) (es ++ [d]) (Γ3.set j (keepV Γ1[j]?))) ∧ (b = false → Inv (i + 1) es (Γ2.set j (keepV Γ1[j]?)))) ∧
      ∀ es Γ', Inv n es Γ' → Post (.new es) Γ') : WE K (tLc (iRng1 t1) (gName j) tt te [j]) Γ Post := fun σ B H E Q q => by
  refine h σ B H E _ fun vs B1 H1 ds Γ1 g1 k p => ?_
  obtain ⟨n, rfl, hn, hj, hja, Inv, i0, turn, done⟩ := p
  have ev : vs = [.int n] := IsA.rawsI (xs := [.int n]) k
  refine ⟨n, ev, by omega, by omega, ?_⟩
  have e0 : ((n : Int)).toNat = n := by omega
  rw [e0]
  refine lc_run (n := n) (dt := fun i => .int i) (J := Itr 0 n) g1.env (of_decide_eq_true hj) (notAcc_ne hja) hn Inv (fun i B' H' _ _ hi _ _ _ => hi) (fun i H' x H'' B' _ _ hi _ _ _ hy => ?_) (fun B' H' _ _ _ _ _ => Nat.le_refl _) i0 turn done fun v B2 H2 r Γ2 g2 k2 p2 => q v B2 H2 r Γ2 (g1.trans g2) (ReOk.earlier k2 g1.mv fun a h => .inl (g1.sub a h)) p2
  obtain ⟨e1, e2⟩ := hy
  subst e1 e2
  rw [Int.zero_add]
  exact ⟨rfl, .raw _⟩
theorem we_lcT (h : WE K tl Γ fun z Γ1 => ∃ ds, z = .val (.tup ds) ∧ ds.length ≤ 1000000 ∧ decide (j < Γ1.length) = true ∧ notAcc Γ1[j]? = true ∧ ∃ Inv : Nat → List Dt → List Sl → Prop, Inv 0 [] Γ1 ∧
      (∀ (i : Nat) d es Γ', ds[i]? = some d → Inv i es Γ' → WT K tt (Γ'.set j (.val d)) fun b Γ2 => (b = true → WE K te Γ2 fun r Γ3 => ∃ d, r.dt? = some d ∧ Inv (i + 1) (es ++ [d]) (Γ3.set j (keepV Γ1[j]?))) ∧ (b = false → Inv (i + 1) es (Γ2.set j (keepV Γ1[j]?)))) ∧
      ∀ es Γ', Inv ds.length es Γ' → Post (.new es) Γ') : WE K (tLc (iTup K tl) (gName j) tt te [j]) Γ Post := fun σ B H E Q q => by
  refine h σ B H E _ fun v B1 H1 z Γ1 g1 k p => ?_
  obtain ⟨ds, rfl, hn, hj, hja, Inv, i0, turn, done⟩ := p
  obtain ⟨a, xs, rfl, ha, hx⟩ := Is.tupR k
  refine ⟨a, rfl, ⟨xs, sqT_mono g1.env.bh ha⟩, ?_⟩
  have at_ : ∀ i, i < ds.length → ds[i]? = some (ds.getD i .non) := fun i hi => by rw [List.getD_eq_getElem?_getD, List.getElem?_eq_getElem hi]; rfl
  refine lc_run (n := ds.length) (dt := fun i => ds.getD i .non) (J := Itt K a) g1.env (of_decide_eq_true hj) (notAcc_ne hja) hn Inv (fun i B' H' _ _ hi b1 b2 _ => ?_) (fun i H' x H'' B' _ _ hi b1 b2 _ hy => ?_) (fun B' H' _ _ b1 b2 _ => ?_) i0 (fun i es Γ' hi' => turn i _ es Γ' (at_ i hi')) done fun v B2 H2 r Γ2 g2 k2 p2 => q v B2 H2 r Γ2 (g1.trans g2) (ReOk.earlier k2 g1.mv fun a h => .inl (g1.sub a h)) p2
  · obtain ⟨x, h1, _⟩ := hx.get (at_ i hi)
    exact ⟨xs, x, sqT_mono (b1.trans b2.bh) ha, h1⟩
  · obtain ⟨e1, e2⟩ := hy
    subst e1
    exact ⟨rfl, (hx.at_ i x _ (e2 xs (sqT_mono (b1.trans b2.bh) ha)) (at_ i hi)).mono b1⟩
  · exact ⟨xs, sqT_mono (b1.trans b2.bh) ha, by rw [hx.len]; exact Nat.le_refl _⟩
end
theorem we_lcA {K : PySem.W.Frag} {Γ : List Sl} {Post : Re → List Sl → Prop} {te : TE} {tt : TT} {j k : Nat} {ds : List Dt} (h0 : Γ[k]? = some (.acc ds)) (hn : ds.length ≤ 1000000) (hj : decide (j < Γ.length) = true) (hja : notAcc Γ[j]? = true) (Inv : Nat → List Dt → List Sl → Prop) (i0 : Inv 0 [] Γ)
      (hk : ∀ i es Γ', Inv i es Γ' → Γ'[k]? = some (.acc ds))
      (turn : ∀ (i : Nat) d es Γ', ds[i]? = some d → Inv i es Γ' → WT K tt (Γ'.set j (.val d)) fun b Γ2 => (b = true → WE K te Γ2 fun r Γ3 => ∃ d, r.dt? = some d ∧ Inv (i + 1) (es ++ [d]) (Γ3.set j (keepV Γ[j]?))) ∧ (b = false → Inv (i + 1) es (Γ2.set j (keepV Γ[j]?))))
      (done : ∀ es Γ', Inv ds.length es Γ' → Post (.new es) Γ') : WE K (tLc (iList K (tVar k)) (gName j) tt te [j]) Γ Post := fun σ B H E Q q => by
  obtain ⟨l, xs, e0, e1, e2, hx⟩ := E.acc k ds h0
  have at_ : ∀ i, i < ds.length → ds[i]? = some (ds.getD i .non) := fun i hi => by rw [List.getD_eq_getElem?_getD, List.getElem?_eq_getElem hi]; rfl
  have items : ∀ {i es B' H' Γ'}, Env K B' H' σ Γ' → Inv i es Γ' → ∃ ys, H' l = some (.lst ys) ∧ IsA K B' ys ds := fun {i es B' H' Γ'} E' inv => by
    obtain ⟨c, ys, q1, q2, q3, q4⟩ := E'.acc k ds (hk i es Γ' inv)
    rw [e0] at q1
    cases q1
    exact ⟨ys, q2, q4⟩
  refine ⟨.ref l, e0, l, rfl, ⟨xs, .inl (.inl e1)⟩, ?_⟩
  refine lc_run (n := ds.length) (dt := fun i => ds.getD i .non) (J := Itl K l) E (of_decide_eq_true hj) (notAcc_ne hja) hn Inv (fun i B' H' es Γ' hi b1 b2 inv => ?_) (fun i H' x H'' B' es Γ' hi b1 b2 inv hy => ?_) (fun B' H' es Γ' b1 b2 inv => ?_) i0 (fun i es Γ' hi' => turn i _ es Γ' (at_ i hi')) done q
  · obtain ⟨ys, h1, h2⟩ := items b2 inv
    obtain ⟨x, h3, _⟩ := h2.get (at_ i hi)
    exact ⟨ys, x, .inl (.inl h1), h3⟩
  · obtain ⟨ys, h1, h2⟩ := items b2 inv
    obtain ⟨e1, e2⟩ := hy
    subst e1
    exact ⟨rfl, h2.at_ i x _ (e2 ys (.inl (.inl h1))) (at_ i hi)⟩
  · obtain ⟨ys, h1, h2⟩ := items b2 inv
    exact ⟨ys, .inl (.inl h1), by rw [h2.len]; exact Nat.le_refl _⟩
mutual
noncomputable def Dt.py : Dt → Option PyData
  | .raw .non => some .none
  | .raw (.bl b) => some (.bool b)
  | .raw (.int i) => some (.int i)
  | .raw (.str s) => some (.str s)
  | .raw _ => none
  | .tup ds => (pyAll ds).map .tuple
  | .lst ds => (pyAll ds).map .list
  | .obj _ _ => none
  | .scr ns => none
  | .dK _ => none
  | .dT _ => none
  | .exn _ _ _ => none
  | .err _ _ => none
  | .fz _ => none
  | .dN _ _ => none
noncomputable def pyAll : List Dt → Option (List PyData)
  | [] => some []
  | d :: ds => match Dt.py d, pyAll ds with
    | some p, some ps => some (p :: ps)
    | _, _ => none
end
section
variable {K : PySem.W.Frag} {B H : Hp}
theorem pyAll_dp : ∀ {ds : List Dt} {ps : List PyData} {vs : List V}, (∀ d p v, d ∈ ds → Dt.py d = some p → Is K B v d → Dp K B v p) → pyAll ds = some ps → IsA K B vs ds → DpAll K B vs ps
  | [], ps, vs, _, e, h => by
    rw [pyAll] at e
    cases e
    have : vs = [] := List.eq_nil_of_length_eq_zero (by rw [h.len]; rfl)
    subst this; exact .nil
  | d :: ds, ps, vs, f, e, h => by
    rw [pyAll] at e
    split at e
    · rename_i p qs h1 h2
      cases e
      cases vs with
      | nil => have := h.len; simp at this
      | cons v vs =>
        refine .cons (f d p v (List.mem_cons_self) h1 (h.at_ 0 v d rfl rfl)) (pyAll_dp (fun d p v hd => f d p v (List.mem_cons_of_mem _ hd)) h2 ⟨by have := h.len; simpa using this, fun i v d a b => h.at_ (i + 1) v d (by simpa using a) (by simpa using b)⟩)
    · cases e
theorem is_dp {v : V} {d : Dt} (h : Is K B v d) : ∀ {p : PyData}, d.py = some p → Dp K B v p := by
  induction h with
  | raw v =>
    intro p e
    cases v <;> (simp only [Dt.py] at e; cases e) <;> constructor
  | @tup a xs ds h hl hi ih =>
    intro p e
    rw [Dt.py] at e
    cases q : pyAll ds with
    | none => rw [q] at e; cases e
    | some ps =>
      rw [q] at e
      cases e
      refine .tup h ?_
      clear h
      induction ds generalizing xs ps with
      | nil =>
        rw [pyAll] at q; cases q
        have : xs = [] := List.eq_nil_of_length_eq_zero (by rw [hl]; rfl)
        subst this; exact .nil
      | cons d ds ihd =>
        rw [pyAll] at q
        split at q
        · rename_i p1 qs h1 h2
          cases q
          cases xs with
          | nil => simp at hl
          | cons x xs =>
            exact .cons (ih 0 x d rfl rfl h1) (ihd (by simpa using hl) (fun i v d a b => hi (i + 1) v d (by simpa using a) (by simpa using b)) (fun i v d a b => ih (i + 1) v d (by simpa using a) (by simpa using b)) qs h2)
        · cases q
  | @lst a xs ds h hl hi ih =>
    intro p e
    rw [Dt.py] at e
    cases q : pyAll ds with
    | none => rw [q] at e; cases e
    | some ps =>
      rw [q] at e
      cases e
      refine .lst (.inl (.inl h)) ?_
      clear h
      induction ds generalizing xs ps with
      | nil =>
        rw [pyAll] at q; cases q
        have : xs = [] := List.eq_nil_of_length_eq_zero (by rw [hl]; rfl)
        subst this; exact .nil
      | cons d ds ihd =>
        rw [pyAll] at q
        split at q
        · rename_i p1 qs h1 h2
          cases q
          cases xs with
          | nil => simp at hl
          | cons x xs =>
            exact .cons (ih 0 x d rfl rfl h1) (ihd (by simpa using hl) (fun i v d a b => hi (i + 1) v d (by simpa using a) (by simpa using b)) (fun i v d a b => ih (i + 1) v d (by simpa using a) (by simpa using b)) qs h2)
        · cases q
  | obj h hk hi ih => intro p e; rw [Dt.py] at e; cases e
  | dK h hk hi ih => intro p e; rw [Dt.py] at e; cases e
  | dT h hk hi ih => intro p e; rw [Dt.py] at e; cases e
  | exn0 => intro p e; rw [Dt.py] at e; cases e
  | exnD h hk hi ih => intro p e; rw [Dt.py] at e; cases e
  | err0 h => intro p e; rw [Dt.py] at e; cases e
  | fz h hk hi ih => intro p e; rw [Dt.py] at e; cases e
  | errD h hd hk hi ih => intro p e; rw [Dt.py] at e; cases e
  | dN h hk hq hi ihq ih => intro p e; rw [Dt.py] at e; cases e
  | scr h => intro p e; rw [Dt.py] at e; cases e
mutual
theorem dp_mono {B' : Hp} (s : Same B B') {v : V} : ∀ {p : PyData}, Dp K B v p → Dp K B' v p
  | _, .non => .non
  | _, .bl b => .bl b
  | _, .int i => .int i
  | _, .str x => .str x
  | _, .lst h hs => .lst (s.seq h) (dpAll_mono s hs)
  | _, .tup h hs => .tup (sqT_mono s h) (dpAll_mono s hs)
theorem dpAll_mono {B' : Hp} (s : Same B B') : ∀ {vs : List V} {ps : List PyData}, DpAll K B vs ps → DpAll K B' vs ps
  | _, _, .nil => .nil
  | _, _, .cons h hs => .cons (dp_mono s h) (dpAll_mono s hs)
end
end
noncomputable def Re.py (Γ : List Sl) : Re → Option PyData
  | .val d => d.py
  | .nw (.lst ds) => (pyAll ds).map .list
  | .nw _ => none
  | .own i => match Γ[i]? with
    | some (Sl.cel (.lst ds)) => (pyAll ds).map .list
    | _ => none
section
variable {K : PySem.W.Frag} {Γ : List Sl} {Post : Re → List Sl → Prop} {ta tb : TE}
theorem rv_dp {σ : L2.St} {B H : Hp} {v : V} {r : Re} {p : PyData} (E : Env K B H σ Γ) (h : RvOk K σ B H Γ v r) (e : r.py Γ = some p) : Dp K H v p := by
  have lst : ∀ {ds : List Dt}, lstOf Γ r = some ds → (pyAll ds).map PyData.list = some p → Dp K H v p := fun {ds} h1 h2 => by
    obtain ⟨a, vs, rfl, hq, ha⟩ := rv_lst E h h1
    cases q : pyAll ds with
    | none => rw [q] at h2; cases h2
    | some ps =>
      rw [q] at h2
      cases h2
      exact .lst hq (dpAll_mono E.bh (pyAll_dp (fun d p v _ e k => is_dp k e) q ha))
  cases r with
  | val d => exact dp_mono E.bh (is_dp h e)
  | nw c =>
    cases c with
    | lst ds => exact lst rfl e
    | dK es => cases e
    | dT es => cases e
    | dN w es => cases e
  | own i =>
    have e' : (match Γ[i]? with
      | some (Sl.cel (.lst ds)) => (pyAll ds).map PyData.list
      | _ => none) = some p := e
    split at e'
    · rename_i ds hi
      exact lst (by show (match Γ[i]? with | some (Sl.cel (.lst ds)) => some ds | _ => none) = some ds; rw [hi]) e'
    · cases e'
end
end Ab

namespace Ab
open PySem L2
noncomputable abbrev rSubI : R2 := rI0 fun i j => .int (i - j)
noncomputable def CDiv64 (i j : Int) : Prop := 0 < j ∧ j < 18446744073709551616
noncomputable abbrev rDivI : R2 := rI CDiv64 fun i j => .int (i / j)
theorem op_fdivW {X : Cx} : OpR X (binaryOp .FloorDiv) rDivI := opI fun i j _ _ _ _ _ hc q => by
  have h1 : (0 : Int) < j := hc.1
  have h2 : j < 18446744073709551616 := hc.2
  refine PyProof.Rows.floordiv_int (by omega) (by rw [Int.fdiv_eq_ediv_of_nonneg i (by omega)]; exact q) (.inl (PyProof.noPylong_of_log2 ?_))
  have h3 : j.natAbs < 2 ^ 64 := by omega
  have h4 : j.natAbs.log2 < 64 := (Nat.log2_lt (by omega)).mpr h3
  omega
noncomputable abbrev rModI : R2 := rI (fun _ j => 0 < j) fun i j => .int (i % j)
noncomputable abbrev rPowI : R2 := rI CPow fun i j => .int (i ^ j.toNat)
noncomputable abbrev rLtI : R2 := rI0 fun i j => .bl (decide (i < j))
noncomputable abbrev rLeI : R2 := rI0 fun i j => .bl (decide (i ≤ j))
noncomputable abbrev rGtI : R2 := rI0 fun i j => .bl (decide (j < i))
noncomputable abbrev rGeI : R2 := rI0 fun i j => .bl (decide (j ≤ i))
noncomputable abbrev rNegI : V → Hp → VK → Prop := rU fun i => .int (-i)
noncomputable def rAddG (K : PySem.W.Frag) : R2 := fun x y H Q => rI0 (fun i j => .int (i + j)) x y H Q ∨ (∃ i j, x = .str i ∧ y = .str j ∧ i.length + j.length ≤ sizeLine ∧ Q (.str (i ++ j)) H) ∨ rCatA K x y H Q ∨ rCat x y H Q
noncomputable def rMulG (K : PySem.W.Frag) : R2 := fun x y H Q => rI CMul (fun i j => .int (i * j)) x y H Q ∨ rI CMulW (fun i j => .int (i * j)) x y H Q
noncomputable def rEqG (K : PySem.W.Frag) : R2 := fun x y H Q => rEq x y H Q ∨ rEqD K x y H Q
noncomputable def rNeG (K : PySem.W.Frag) : R2 := fun x y H Q => rNe x y H Q ∨ rNeD K x y H Q
noncomputable def rLtG (K : PySem.W.Frag) : R2 := fun x y H Q => rI0 (fun i j => .bl (decide (i < j))) x y H Q ∨ (∃ i j, x = .str i ∧ y = .str j ∧ Q (.bl (decide (i.cps.toList < j.cps.toList))) H) ∨ rLtT K x y H Q
noncomputable def rInG (K : PySem.W.Frag) : R2 := fun x y H Q => rIn K false x y H Q ∨ ∃ (c : Nat) (z : Str), x = .str ⟨#[c]⟩ ∧ y = .str z ∧ Q (.bl (decide (c ∈ z.cps.toList))) H
noncomputable def rSlG (K : PySem.W.Frag) : V → Option Int → Option Int → Hp → VK → Prop := fun x lo hi H Q => rSlL K x lo hi H Q ∨ rSlA K x lo hi H Q ∨ rSlS x lo hi H Q
section
variable {X : Cx}
theorem op_addG : OpR X (binaryOp .Add) (rAddG X.K) := op_add.or (op_add_str.or (op_catA.or op_cat))
theorem op_mulG : OpR X (binaryOp .Mult) (rMulG X.K) := op_mul.or op_mulW
theorem op_eqG (hu : X.A.units + 64 < cLine) : OpR X (compareOp .Eq) (rEqG X.K) := op_eq.or (op_eqD hu)
theorem op_neG (hu : X.A.units + 64 < cLine) : OpR X (compareOp .NotEq) (rNeG X.K) := op_ne.or (op_neD hu)
theorem op_ltG (hu : X.A.units < cLine) : OpR X (compareOp .Lt) (rLtG X.K) := op_lt.or (op_lt_str.or (op_ltT hu))
theorem op_inG : OpR X (compareOp .In) (rInG X.K) := op_in_seq.or op_in_sign
theorem sl_G : SlR X (rSlG X.K) := sl_list.or (sl_tupA.or sl_str)
end
noncomputable def Re.isScr : Re → Bool
  | .val (.scr _) => true
  | _ => false
noncomputable def AddP (ra rb : Re) (Γ : List Sl) (Post : Re → List Sl → Prop) : Prop :=
  (∃ i j, ra = .val (.int i) ∧ rb = .val (.int j) ∧ Post (.val (.int (i + j))) Γ) ∨ (∃ s t : Str, ra = .val (.str s) ∧ rb = .val (.str t) ∧ s.length + t.length ≤ 1000000 ∧ Post (.val (.str (s ++ t))) Γ) ∨
  (∃ ds es, ra = .val (.tup ds) ∧ rb = .val (.tup es) ∧ ds.length + es.length ≤ 1000000 ∧ Post (.val (.tup (ds ++ es))) Γ) ∨ (∃ ds es, lstOf Γ ra = some ds ∧ lstOf Γ rb = some es ∧ ra.isScr = false ∧ rb.isScr = false ∧ ds.length + es.length ≤ 1000000 ∧ Post (.new (ds ++ es)) Γ)
noncomputable def EqP (neg : Bool) (ra rb : Re) (Γ : List Sl) (Post : Re → List Sl → Prop) : Prop :=
  (∃ x y : V, ra = .val (.raw x) ∧ rb = .val (.raw y) ∧ scal x y = true ∧ Post (.val (.bl (neg ^^ decide (x = y)))) Γ) ∨
  (∃ p q : PyData, ra.py Γ = some p ∧ rb.py Γ = some q ∧ SeqAt.shaped p = true ∧ SeqAt.shaped q = true ∧ Post (.val (.bl (neg ^^ PyData.eqv p q))) Γ)
noncomputable def MulP (ra rb : Re) (Γ : List Sl) (Post : Re → List Sl → Prop) : Prop := ∃ i j, ra = .val (.int i) ∧ rb = .val (.int j) ∧ (CMul i j ∨ CMulW i j) ∧ Post (.val (.int (i * j))) Γ
noncomputable def IxP (ra rb : Re) (Γ : List Sl) (Post : Re → List Sl → Prop) : Prop :=
  (∃ ds k d, seqOf Γ ra = some ds ∧ rb = .val (.int k) ∧ atI ds k = some d ∧ Post (.val d) Γ) ∨ (∃ z k c, ra = .val (.str z) ∧ rb = .val (.int k) ∧ z.length ≤ 1000000 ∧ atI z.cps.toList k = some c ∧ Post (.val (.str ⟨#[c]⟩)) Γ)
noncomputable def LenP (r : Re) (Γ : List Sl) (Post : Re → List Sl → Prop) : Prop := (∃ ds, seqOf Γ r = some ds ∧ Post (.val (.int ds.length)) Γ) ∨ (∃ z : Str, r = .val (.str z) ∧ z.length ≤ 1000000 ∧ Post (.val (.int z.length)) Γ)
noncomputable def IntP (r : Re) (Γ : List Sl) (Post : Re → List Sl → Prop) : Prop := (∃ i, r = .val (.int i) ∧ Post (.val (.int i)) Γ) ∨ (∃ b, r = .val (.bl b) ∧ Post (.val (.int (if b then 1 else 0))) Γ)
section
variable {K : PySem.W.Frag} {Γ : List Sl} {Post : Re → List Sl → Prop} {ta tb tc te : TE}
theorem rv_lstH {σ : L2.St} {B H : Hp} {v : V} {r : Re} {ds : List Dt} (E : Env K B H σ Γ) (h : RvOk K σ B H Γ v r) (e : lstOf Γ r = some ds) (hs : r.isScr = false) : ∃ a vs, v = .ref a ∧ H a = some (.lst vs) ∧ IsA K B vs ds := by
  cases r with
  | val d =>
    cases d with
    | lst es => cases e; obtain ⟨a, xs, rfl, h1, h2⟩ := Is.lstR h; exact ⟨a, xs, rfl, E.bh _ _ h1, h2⟩
    | raw u => cases e
    | tup es => cases e
    | obj C fs => cases e
    | dK es => cases e
    | dT es => cases e
    | exn a d fs => cases e
    | err C fs => cases e
    | fz kvs => cases e
    | dN w es => cases e
    | scr ns => cases hs
  | nw c =>
    cases c with
    | lst es => cases e; obtain ⟨l, o, rfl, _, h1, _, vs, rfl, h2⟩ := h; exact ⟨l, vs, rfl, h1, h2⟩
    | dK es => cases e
    | dT es => cases e
    | dN w es => cases e
  | own i =>
    obtain ⟨l, rfl, hl⟩ := h
    have e' : (match Γ[i]? with
      | some (Sl.cel (.lst ds)) => some ds
      | _ => none) = some ds := e
    split at e'
    · rename_i es hi
      cases e'
      obtain ⟨c, us, q1, q2, q3, q4⟩ := E.acc i _ hi
      rw [hl] at q1; cases q1
      exact ⟨l, us, rfl, q2, q4⟩
    · cases e'
theorem we_addG (h : WE K ta Γ fun ra Γ1 => WE K tb Γ1 fun rb Γ2 => AddP ra rb Γ2 Post) : WE K (tOp (rAddG K) ta tb) Γ Post :=
  we_two' (we_mono h fun ra Γ1 h1 => we_mono h1 fun rb Γ2 hp => fun σ B H x y E kx ky Q q => by
    rcases hp with ⟨i, j, rfl, rfl, p⟩ | ⟨s, t, rfl, rfl, hz, p⟩ | ⟨ds, es, rfl, rfl, hz, p⟩ | ⟨ds, es, h1, h2, s1, s2, hz, p⟩
    · cases Is.rawI kx; cases Is.rawI ky
      exact .inl ⟨i, j, rfl, rfl, q _ B H _ Γ2 (.refl E) (.raw _) p⟩
    · cases Is.rawI kx; cases Is.rawI ky
      exact .inr (.inl ⟨s, t, rfl, rfl, Nat.le_trans hz (by decide), q _ B H _ Γ2 (.refl E) (.raw _) p⟩)
    · obtain ⟨a, xs, rfl, h1, h2⟩ := Is.tupR kx
      obtain ⟨b, ys, rfl, g1, g2⟩ := Is.tupR ky
      refine .inr (.inr (.inl ⟨a, b, xs, ys, rfl, rfl, sqT_mono E.bh h1, sqT_mono E.bh g1, Nat.le_trans (by rw [h2.len, g2.len]; exact hz) (by decide), fun e => ?_, fun e1 e => ?_, fun _ _ l hl => ?_⟩))
      · have : ds = [] := List.eq_nil_of_length_eq_zero (by rw [← h2.len, e]; rfl)
        subst this
        exact q _ B H (.val _) Γ2 (.refl E) (show Is K B _ _ from ky) p
      · have : es = [] := List.eq_nil_of_length_eq_zero (by rw [← g2.len, e]; rfl)
        subst this
        rw [List.append_nil] at p
        exact q _ B H (.val _) Γ2 (.refl E) (show Is K B _ _ from kx) p
      · exact q _ _ _ _ Γ2 (Go.laid E hl) (re_laidT E (h2.append g2) hl) p
    · obtain ⟨a, xs, rfl, a1, a2⟩ := rv_lstH E kx h1 s1
      obtain ⟨b, ys, rfl, b1, b2⟩ := rv_lstH E ky h2 s2
      exact .inr (.inr (.inr ⟨a, b, xs, ys, rfl, rfl, a1, b1, Nat.le_trans (by rw [a2.len, b2.len]; exact hz) (by decide), fun l hl => q _ _ _ _ Γ2 (Go.beside E hl) (re_newL E (a2.append b2) hl) p⟩)))
theorem we_mulG (h : WE K ta Γ fun ra Γ1 => WE K tb Γ1 fun rb Γ2 => MulP ra rb Γ2 Post) : WE K (tOp (rMulG K) ta tb) Γ Post :=
  we_two' (we_mono h fun ra Γ1 h1 => we_mono h1 fun rb Γ2 hp => fun σ B H x y E kx ky Q q => by
    obtain ⟨i, j, rfl, rfl, hc, p⟩ := hp
    cases Is.rawI kx; cases Is.rawI ky
    have fin := q _ B H _ Γ2 (.refl E) (.raw _) p
    rcases hc with hc | hc
    · exact .inl ⟨i, j, rfl, rfl, hc, fin⟩
    · exact .inr ⟨i, j, rfl, rfl, hc, fin⟩)
theorem we_eqG (h : WE K ta Γ fun ra Γ1 => WE K tb Γ1 fun rb Γ2 => EqP false ra rb Γ2 Post) : WE K (tOp (rEqG K) ta tb) Γ Post :=
  we_two' (we_mono h fun ra Γ1 h1 => we_mono h1 fun rb Γ2 hp => fun σ B H x y E kx ky Q q => by
    rcases hp with ⟨u, w, rfl, rfl, hs, p⟩ | ⟨a, b, e1, e2, s1, s2, p⟩
    · cases Is.rawI kx; cases Is.rawI ky
      rw [Bool.false_xor] at p
      exact .inl ⟨hs, q _ B H _ Γ2 (.refl E) (.raw _) p⟩
    · rw [Bool.false_xor] at p
      exact .inr ⟨a, b, rv_dp E kx e1, rv_dp E ky e2, s1, s2, q _ B H _ Γ2 (.refl E) (.raw _) p⟩)
theorem we_neG (h : WE K ta Γ fun ra Γ1 => WE K tb Γ1 fun rb Γ2 => EqP true ra rb Γ2 Post) : WE K (tOp (rNeG K) ta tb) Γ Post :=
  we_two' (we_mono h fun ra Γ1 h1 => we_mono h1 fun rb Γ2 hp => fun σ B H x y E kx ky Q q => by
    rcases hp with ⟨u, w, rfl, rfl, hs, p⟩ | ⟨a, b, e1, e2, s1, s2, p⟩
    · cases Is.rawI kx; cases Is.rawI ky
      rw [Bool.true_xor] at p
      exact .inl ⟨hs, q _ B H _ Γ2 (.refl E) (.raw _) p⟩
    · rw [Bool.true_xor] at p
      exact .inr ⟨a, b, rv_dp E kx e1, rv_dp E ky e2, s1, s2, q _ B H _ Γ2 (.refl E) (.raw _) p⟩)
theorem we_ixG (h : WE K ta Γ fun ra Γ1 => WE K tb Γ1 fun rb Γ2 => IxP ra rb Γ2 Post) : WE K (tOp (rIx K) ta tb) Γ Post :=
  we_two' (we_mono h fun ra Γ1 h1 => we_mono h1 fun rb Γ2 hp => fun σ B H x y E kx ky Q q => by
    rcases hp with ⟨ds, k, d, hs, rfl, hd, p⟩ | ⟨z, k, c, rfl, rfl, hz, hd, p⟩
    · cases Is.rawI ky
      obtain ⟨a, vs, rfl, hq, ha⟩ := rv_seq E kx hs
      obtain ⟨v, hv, hi⟩ := ha.atI hd
      have fin := q v B H (.val d) Γ2 (.refl E) hi p
      rcases hq with hq | hq
      · exact .inl ⟨a, vs, k, v, rfl, rfl, hq, hv, fin⟩
      · exact .inr (.inl ⟨a, vs, k, v, rfl, rfl, hq, hv, fin⟩)
    · cases Is.rawI ky
      cases Is.rawI kx
      exact .inr (.inr ⟨z, k, c, rfl, rfl, Nat.le_trans hz (by decide), hd, q _ B H _ Γ2 (.refl E) (.raw _) p⟩))
theorem we_lenG (h : WE K te Γ fun r Γ1 => LenP r Γ1 Post) : WE K (tCB (rLenV K) (tCons te tNil)) Γ Post :=
  we_cb1 (we_mono h fun r Γ1 hp => fun σ B H x E kx Q q => by
    rcases hp with ⟨ds, hs, p⟩ | ⟨z, rfl, hz, p⟩
    · obtain ⟨a, vs, rfl, hq, ha⟩ := rv_seq E kx hs
      have e : (ds.length : Int) = (vs.length : Int) := by rw [ha.len]
      rw [e] at p
      refine ⟨_, vs.length, rfl, ?_, q _ B H _ Γ1 (.refl E) (.raw _) p⟩
      rcases hq with hq | hq
      · exact .inl ⟨vs, hq, rfl⟩
      · exact .inr ⟨vs, hq, rfl⟩
    · cases Is.rawI kx
      exact ⟨_, z.length, rfl, ⟨Nat.le_trans hz (by decide), rfl⟩, q _ B H _ Γ1 (.refl E) (.raw _) p⟩)
theorem we_intG (h : WE K te Γ fun r Γ1 => IntP r Γ1 Post) : WE K (tCB rInt1 (tCons te tNil)) Γ Post :=
  we_cb1 (we_mono h fun r Γ1 hp => fun σ B H x E kx Q q => by
    rcases hp with ⟨i, rfl, p⟩ | ⟨b, rfl, p⟩
    · cases Is.rawI kx; exact .inl ⟨i, rfl, q _ B H _ Γ1 (.refl E) (.raw _) p⟩
    · cases Is.rawI kx; exact .inr ⟨b, rfl, q _ B H _ Γ1 (.refl E) (.raw _) p⟩)
noncomputable def WO (K : PySem.W.Frag) (to : TO) (Γ : List Sl) (Post : Option Int → List Sl → Prop) : Prop := ∀ σ B H, Env K B H σ Γ → ∀ Q : Option Int → Hp → Prop, (∀ o B' H' Γ', Go K σ B H Γ B' H' Γ' → Post o Γ' → Q o H') → to σ H Q
theorem wo_none {P : Option Int → List Sl → Prop} (p : P none Γ) : WO K tNoPart Γ P := fun σ B H E Q q => q none B H Γ (.refl E) p
theorem wo_some {P : Option Int → List Sl → Prop} (h : WE K te Γ fun r Γ1 => ∃ i, r = .val (.int i) ∧ P (some i) Γ1) : WO K (tPart te) Γ P := fun σ B H E Q q => by
  refine h σ B H E _ fun v B1 H1 r Γ1 g k ⟨i, e, p⟩ => ?_
  subst e
  cases Is.rawI k
  exact ⟨i, rfl, q _ B1 H1 Γ1 g p⟩
noncomputable def cutD (xs : List Dt) (lo hi : Option Int) : List Dt := (xs.drop (HT.sIx xs.length 0 lo)).take (HT.sIx xs.length xs.length hi - HT.sIx xs.length 0 lo)
noncomputable def SlP (ra : Re) (lo hi : Option Int) (Γ : List Sl) (Post : Re → List Sl → Prop) : Prop :=
  (∃ ds, lstOf Γ ra = some ds ∧ Post (.new (cutD ds lo hi)) Γ) ∨ (∃ ds, ra = .val (.tup ds) ∧ Post (.val (.tup (cutD ds lo hi))) Γ) ∨ (∃ z : Str, ra = .val (.str z) ∧ z.length ≤ 1000000 ∧ Post (.val (.str (cutS z lo hi))) Γ)
theorem cut_is {B : Hp} {vs : List V} {ds : List Dt} (lo hi : Option Int) (h : IsA K B vs ds) : IsA K B (cutV vs lo hi) (cutD ds lo hi) := by
  unfold cutV cutD
  rw [h.len]
  exact (h.drop _).take _
theorem cut_whole {ds : List Dt} {lo hi : Option Int} (h : HT.sIx ds.length 0 lo = 0 ∧ HT.sIx ds.length ds.length hi = ds.length) : cutD ds lo hi = ds := by
  unfold cutD
  rw [h.1, h.2, List.drop_zero, Nat.sub_zero, List.take_length]
theorem we_slG {tl th : TO} (h : WE K ta Γ fun ra Γ1 => WO K tl Γ1 fun lo Γ2 => WO K th Γ2 fun hi Γ3 => SlP ra lo hi Γ3 Post) : WE K (tSl (rSlG K) ta tl th) Γ Post := fun σ B H E Q q => by
  refine h σ B H E _ fun x B1 H1 ra Γ1 g1 k1 p1 => ?_
  refine p1 σ B1 H1 g1.env _ fun lo B2 H2 Γ2 g2 p2 => ?_
  refine p2 σ B2 H2 g2.env _ fun hi B3 H3 Γ3 g3 p3 => ?_
  have g23 := g2.trans g3
  have kx := ReOk.rv (ReOk.step k1 g23.mv g23.sub)
  have g := g1.trans g23
  have fin : ∀ v B' H' z Γ', Go K σ B3 H3 Γ3 B' H' Γ' → ReOk K σ (Own σ Γ3) (Own σ Γ') B' H3 H' v z → Post z Γ' → Q v H' := fun v B' H' z Γ' g4 k4 p4 => q v B' H' z Γ' (g.trans g4) (ReOk.earlier k4 g.mv fun a h => .inl (g.sub a h)) p4
  rcases p3 with ⟨ds, hs, p⟩ | ⟨ds, rfl, p⟩ | ⟨z, rfl, hz, p⟩
  · obtain ⟨a, vs, rfl, hq, ha⟩ := rv_lst g3.env kx hs
    exact .inl ⟨a, vs, rfl, hq, fun l hl => fin _ _ _ _ Γ3 (Go.beside g3.env hl) (re_newL g3.env (cut_is lo hi ha) hl) p⟩
  · obtain ⟨a, vs, rfl, hq, ha⟩ := Is.tupR kx
    refine .inr (.inl ⟨a, vs, rfl, sqT_mono g3.env.bh hq, fun hw => ?_, fun _ l hl => fin _ _ _ _ Γ3 (Go.laid g3.env hl) (re_laidT g3.env (cut_is lo hi ha) hl) p⟩)
    rw [ha.len] at hw
    rw [cut_whole hw] at p
    exact fin _ B3 H3 (.val _) Γ3 (.refl g3.env) (show Is K B3 _ _ from kx) p
  · cases Is.rawI kx
    exact .inr (.inr ⟨z, rfl, Nat.le_trans hz (by decide), fin _ B3 H3 _ Γ3 (.refl g3.env) (.raw _) p⟩)
noncomputable def InP (neg : Bool) (ra rb : Re) (Γ : List Sl) (Post : Re → List Sl → Prop) : Prop :=
  (∃ (x : V) (us : List V), ra = .val (.raw x) ∧ seqOf Γ rb = some (us.map Dt.raw) ∧ flatV x = true ∧ us.all flatV = true ∧ Post (.val (.bl (if neg then !inV x us else inV x us))) Γ)
theorem we_inG (h : WE K ta Γ fun ra Γ1 => WE K tb Γ1 fun rb Γ2 => InP false ra rb Γ2 Post ∨ ∃ (c : Nat) (z : Str), ra = .val (.str ⟨#[c]⟩) ∧ rb = .val (.str z) ∧ Post (.val (.bl (decide (c ∈ z.cps.toList)))) Γ2) : WE K (tOp (rInG K) ta tb) Γ Post :=
  we_two' (we_mono h fun ra Γ1 h1 => we_mono h1 fun rb Γ2 hp => fun σ B H y z E ky kz Q q => by
    rcases hp with ⟨x, us, rfl, hs, hx, hu, p⟩ | ⟨c, s, rfl, rfl, p⟩
    · cases Is.rawI ky
      obtain ⟨a, vs, rfl, hq, ha⟩ := rv_seq E kz hs
      cases ha.rawsI
      exact .inl ⟨a, _, rfl, hq, hx, hu, q _ B H _ Γ2 (.refl E) (.raw _) p⟩
    · cases Is.rawI ky; cases Is.rawI kz
      exact .inr ⟨c, s, rfl, rfl, q _ B H _ Γ2 (.refl E) (.raw _) p⟩)
theorem we_notInG (h : WE K ta Γ fun ra Γ1 => WE K tb Γ1 fun rb Γ2 => InP true ra rb Γ2 Post) : WE K (tOp (rIn K true) ta tb) Γ Post := we_in h
end
noncomputable def LtP (ra rb : Re) (Γ : List Sl) (Post : Re → List Sl → Prop) : Prop :=
  (∃ i j, ra = .val (.int i) ∧ rb = .val (.int j) ∧ Post (.val (.bl (decide (i < j)))) Γ) ∨ (∃ s t : Str, ra = .val (.str s) ∧ rb = .val (.str t) ∧ Post (.val (.bl (decide (s.cps.toList < t.cps.toList)))) Γ) ∨
  (∃ ns ms : List Int, ra = .val (.tup (ns.map Dt.int)) ∧ rb = .val (.tup (ms.map Dt.int)) ∧ Post (.val (.bl (HT.lexLt ns ms))) Γ)
theorem we_ltG {K : PySem.W.Frag} {Γ : List Sl} {Post : Re → List Sl → Prop} {ta tb : TE} (h : WE K ta Γ fun ra Γ1 => WE K tb Γ1 fun rb Γ2 => LtP ra rb Γ2 Post) : WE K (tOp (rLtG K) ta tb) Γ Post :=
  we_two' (we_mono h fun ra Γ1 h1 => we_mono h1 fun rb Γ2 hp => fun σ B H x y E kx ky Q q => by
    rcases hp with ⟨i, j, rfl, rfl, p⟩ | ⟨s, t, rfl, rfl, p⟩ | ⟨ns, ms, rfl, rfl, p⟩
    · cases Is.rawI kx; cases Is.rawI ky
      exact .inl ⟨i, j, rfl, rfl, q _ B H _ Γ2 (.refl E) (.raw _) p⟩
    · cases Is.rawI kx; cases Is.rawI ky
      exact .inr (.inl ⟨s, t, rfl, rfl, q _ B H _ Γ2 (.refl E) (.raw _) p⟩)
    · obtain ⟨a, xs, rfl, h1, h2⟩ := Is.tupR kx
      obtain ⟨b, ys, rfl, g1, g2⟩ := Is.tupR ky
      have e1 : xs = ns.map V.int := IsA.rawsI (xs := ns.map V.int) (by rw [List.map_map]; exact h2)
      have e2 : ys = ms.map V.int := IsA.rawsI (xs := ms.map V.int) (by rw [List.map_map]; exact g2)
      subst e1 e2
      exact .inr (.inr ⟨a, b, ns, ms, rfl, rfl, sqT_mono E.bh h1, sqT_mono E.bh g1, q _ B H _ Γ2 (.refl E) (.raw _) p⟩))
theorem fn_never {P : Program} {w : World} {K : PySem.W.Frag} {mg : Str → Option Value} {base : Heap} {x qual : Str} {st : Stmt} {f : Addr} {fd : FuncData} {N ps : List Str} {k : Nat} (F : Fun K x qual st f fd) (S : FnScope N ps (defScope st)) :
    FnOk P w K mg base CX0 (k + 1) f fd ps (toSp K fun _ _ => False) := by
  refine F.ok S (fun vs H Q E h => ?_) (fun cdv A outer s H vs Q E hr h => ?_)
  · obtain ⟨_, _, _, _, z, _⟩ := h; exact z.elim
  · obtain ⟨_, _, _, _, z, _⟩ := h; exact z.elim
theorem law_sp {K : PySem.W.Frag} {ap : AP} {H : Hp} {a : Addr} {ns : List Int} {E : XK} (hS : SqL K H a (ns.map V.int)) (h : ∀ Post : Re → List Sl → Prop, (∀ as, Post (.val (.bl true)) as) → ap [.val (.scr ns)] Post) : toSp K ap [.ref a] H (fun v _ => v = .bl true) E := by
  refine ⟨H, [.val (.scr ns)], fun r _ => r = .val (.bl true), ⟨rfl, Same.refl H, fun i d hi => ?_, fun i ds hi => ?_, fun i j ds es l hi => ?_⟩, h _ (fun _ => rfl), fun v B' H' r as' g k p => ?_⟩
  · cases i with
    | zero => simp at hi; subst hi; exact ⟨.ref a, rfl, .scr hS⟩
    | succ i => simp at hi
  · cases i with
    | zero => simp at hi
    | succ i => simp at hi
  · cases i with
    | zero => simp at hi
    | succ i => simp at hi
  · subst p; exact Is.rawI k
theorem bi_int : bootBuiltins "int" = some (.type "int") := by decide +kernel
theorem bi_bool : bootBuiltins "bool" = some (.type "bool") := by decide +kernel
theorem bi_str : bootBuiltins "str" = some (.type "str") := by decide +kernel
theorem bi_list : bootBuiltins "list" = some (.type "list") := by decide +kernel
theorem bi_tuple : bootBuiltins "tuple" = some (.type "tuple") := by decide +kernel
theorem bi_len : bootBuiltins "len" = some (.builtin "len") := by decide +kernel
theorem bi_abs : bootBuiltins "abs" = some (.builtin "abs") := by decide +kernel
theorem bi_min : bootBuiltins "min" = some (.builtin "min") := by decide +kernel
theorem bi_max : bootBuiltins "max" = some (.builtin "max") := by decide +kernel
theorem bi_isinstance : bootBuiltins "isinstance" = some (.builtin "isinstance") := by decide +kernel
end Ab

namespace Ab
open PySem L2
section
variable {Γ : List Sl} {Post : Re → List Sl → Prop}
theorem addp_i {i j : Int} (p : Post (.val (.int (i + j))) Γ) : AddP (.val (.int i)) (.val (.int j)) Γ Post := .inl ⟨i, j, rfl, rfl, p⟩
theorem addp_s {s t : Str} (hz : s.length + t.length ≤ 1000000) (p : Post (.val (.str (s ++ t))) Γ) : AddP (.val (.str s)) (.val (.str t)) Γ Post := .inr (.inl ⟨s, t, rfl, rfl, hz, p⟩)
theorem addp_t {ds es : List Dt} (hz : ds.length + es.length ≤ 1000000) (p : Post (.val (.tup (ds ++ es))) Γ) : AddP (.val (.tup ds)) (.val (.tup es)) Γ Post := .inr (.inr (.inl ⟨ds, es, rfl, rfl, hz, p⟩))
theorem addp_l {ra rb : Re} {ds es : List Dt} (h1 : lstOf Γ ra = some ds) (h2 : lstOf Γ rb = some es) (s1 : ra.isScr = false) (s2 : rb.isScr = false) (hz : ds.length + es.length ≤ 1000000) (p : Post (.new (ds ++ es)) Γ) : AddP ra rb Γ Post := .inr (.inr (.inr ⟨ds, es, h1, h2, s1, s2, hz, p⟩))
theorem mulp_l {i j : Int} (hc : -(2 ^ 64) < i ∧ i < 2 ^ 64) (p : Post (.val (.int (i * j))) Γ) : MulP (.val (.int i)) (.val (.int j)) Γ Post := ⟨i, j, rfl, rfl, .inl (.inl hc), p⟩
theorem mulp_r {i j : Int} (hc : -(2 ^ 64) < j ∧ j < 2 ^ 64) (p : Post (.val (.int (i * j))) Γ) : MulP (.val (.int i)) (.val (.int j)) Γ Post := ⟨i, j, rfl, rfl, .inl (.inr hc), p⟩
theorem eqp_s {neg : Bool} {x y : V} (hs : scal x y = true) (p : Post (.val (.bl (neg ^^ decide (x = y)))) Γ) : EqP neg (.val (.raw x)) (.val (.raw y)) Γ Post := .inl ⟨x, y, rfl, rfl, hs, p⟩
theorem dec_i {i j : Int} : decide (V.int i = V.int j) = decide (i = j) := by
  by_cases h : i = j
  · subst h; simp
  · have : ¬ V.int i = V.int j := fun z => h (V.int.inj z)
    rw [decide_eq_false this, decide_eq_false h]
theorem eqp_i {i j : Int} (p : Post (.val (.bl (decide (i = j)))) Γ) : EqP false (.val (.int i)) (.val (.int j)) Γ Post := eqp_s rfl (by rw [dec_i, Bool.false_xor]; exact p)
theorem nep_i {i j : Int} (p : Post (.val (.bl (!decide (i = j)))) Γ) : EqP true (.val (.int i)) (.val (.int j)) Γ Post := eqp_s rfl (by rw [dec_i, Bool.true_xor]; exact p)
theorem eqp_d {neg : Bool} {ra rb : Re} {p q : PyData} (h1 : ra.py Γ = some p) (h2 : rb.py Γ = some q) (s1 : SeqAt.shaped p = true) (s2 : SeqAt.shaped q = true) (k : Post (.val (.bl (neg ^^ PyData.eqv p q))) Γ) : EqP neg ra rb Γ Post := .inr ⟨p, q, h1, h2, s1, s2, k⟩
theorem intp_i {i : Int} (p : Post (.val (.int i)) Γ) : IntP (.val (.int i)) Γ Post := .inl ⟨i, rfl, p⟩
theorem intp_b {b : Bool} (p : Post (.val (.int (if b then 1 else 0))) Γ) : IntP (.val (.bl b)) Γ Post := .inr ⟨b, rfl, p⟩
theorem ltp_i {i j : Int} (p : Post (.val (.bl (decide (i < j)))) Γ) : LtP (.val (.int i)) (.val (.int j)) Γ Post := .inl ⟨i, j, rfl, rfl, p⟩
theorem ixp {ra : Re} {ds : List Dt} {k : Int} {d : Dt} (h1 : seqOf Γ ra = some ds) (h2 : atI ds k = some d) (p : Post (.val d) Γ) : IxP ra (.val (.int k)) Γ Post := .inl ⟨ds, k, d, h1, rfl, h2, p⟩
theorem ixp_s {z : Str} {k : Int} {c : Nat} (hz : z.length ≤ 1000000) (h2 : atI z.cps.toList k = some c) (p : Post (.val (.str ⟨#[c]⟩)) Γ) : IxP (.val (.str z)) (.val (.int k)) Γ Post := .inr ⟨z, k, c, rfl, rfl, hz, h2, p⟩
theorem lenp {r : Re} {ds : List Dt} (h : seqOf Γ r = some ds) (p : Post (.val (.int ds.length)) Γ) : LenP r Γ Post := .inl ⟨ds, h, p⟩
theorem lenp_s {z : Str} (hz : z.length ≤ 1000000) (p : Post (.val (.int z.length)) Γ) : LenP (.val (.str z)) Γ Post := .inr ⟨z, rfl, hz, p⟩
theorem slp_t {ds : List Dt} {lo hi : Option Int} (p : Post (.val (.tup (cutD ds lo hi))) Γ) : SlP (.val (.tup ds)) lo hi Γ Post := .inr (.inl ⟨ds, rfl, p⟩)
theorem slp_s {z : Str} {lo hi : Option Int} (hz : z.length ≤ 1000000) (p : Post (.val (.str (cutS z lo hi))) Γ) : SlP (.val (.str z)) lo hi Γ Post := .inr (.inr ⟨z, rfl, hz, p⟩)
theorem atI_of {α : Type} {xs : List α} {k : Int} {j : Nat} {x : α} (e : k = (j : Int)) (h : xs[j]? = some x) : atI xs k = some x := by
  subst e
  have hj : j < xs.length := (List.getElem?_eq_some_iff.mp h).1
  unfold atI ixN
  rw [if_pos (by omega), if_pos (by omega)]
  simpa using h
end
section
variable {K : PySem.W.Frag} {Γ : List Sl} {Post : Re → List Sl → Prop} {te : TE}
noncomputable def IsiP (c : String) (r : Re) (Γ : List Sl) (Post : Re → List Sl → Prop) : Prop := (∀ i, r = .own i → ∃ ds, Γ[i]? = some (.acc ds)) ∧ ∃ T b, tyOf r = some T ∧ kitB T c = some b ∧ Post (.val (.bl b)) Γ
theorem we_isiG {c : String} (h : WE K te Γ fun r Γ1 => IsiP c r Γ1 Post) : WE K (tCB (rIsi K) (tCons te (tCons (tC (.ty c)) tNil))) Γ Post := we_isi h
theorem isi_own {i : Nat} {ds : List Dt} {c : String} {b : Bool} (h : Γ[i]? = some (.acc ds)) (hk : kitB "list" c = some b) (p : Post (.val (.bl b)) Γ) : IsiP c (.own i) Γ Post :=
  ⟨fun j e => by cases e; exact ⟨ds, h⟩, "list", b, rfl, hk, p⟩
theorem isi_val {d : Dt} {T c : String} {b : Bool} (ht : tyOf (.val d) = some T) (hk : kitB T c = some b) (p : Post (.val (.bl b)) Γ) : IsiP c (.val d) Γ Post :=
  ⟨(fun j e => nomatch e), T, b, ht, hk, p⟩
theorem isi_new {ds : List Dt} {c : String} {b : Bool} (hk : kitB "list" c = some b) (p : Post (.val (.bl b)) Γ) : IsiP c (.new ds) Γ Post :=
  ⟨(fun j e => nomatch e), "list", b, rfl, hk, p⟩
theorem kb_tt : kitB "tuple" "tuple" = some true := by decide +kernel
theorem kb_ll : kitB "list" "list" = some true := by decide +kernel
theorem kb_ii : kitB "int" "int" = some true := by decide +kernel
theorem kb_ib : kitB "int" "bool" = some false := by decide +kernel
theorem kb_bb : kitB "bool" "bool" = some true := by decide +kernel
theorem kb_bi : kitB "bool" "int" = some true := by decide +kernel
theorem kb_ss : kitB "str" "str" = some true := by decide +kernel
theorem kb_sb : kitB "str" "bool" = some false := by decide +kernel
theorem kb_si : kitB "str" "int" = some false := by decide +kernel
theorem kb_tb : kitB "tuple" "bool" = some false := by decide +kernel
theorem kb_ti : kitB "tuple" "int" = some false := by decide +kernel
theorem kb_ts : kitB "tuple" "str" = some false := by decide +kernel
theorem kb_tl : kitB "tuple" "list" = some false := by decide +kernel
theorem kb_lb : kitB "list" "bool" = some false := by decide +kernel
theorem kb_li : kitB "list" "int" = some false := by decide +kernel
theorem kb_ls : kitB "list" "str" = some false := by decide +kernel
theorem kb_lt : kitB "list" "tuple" = some false := by decide +kernel
theorem kb_is : kitB "int" "str" = some false := by decide +kernel
theorem kb_it : kitB "int" "tuple" = some false := by decide +kernel
theorem kb_il : kitB "int" "list" = some false := by decide +kernel
theorem kb_st : kitB "str" "tuple" = some false := by decide +kernel
theorem kb_sl : kitB "str" "list" = some false := by decide +kernel
theorem kb_nb : kitB "NoneType" "bool" = some false := by decide +kernel
theorem kb_ni : kitB "NoneType" "int" = some false := by decide +kernel
theorem kb_ns : kitB "NoneType" "str" = some false := by decide +kernel
theorem kb_nt : kitB "NoneType" "tuple" = some false := by decide +kernel
theorem kb_nl : kitB "NoneType" "list" = some false := by decide +kernel
theorem kb_bs : kitB "bool" "str" = some false := by decide +kernel
theorem kb_bt : kitB "bool" "tuple" = some false := by decide +kernel
theorem kb_bl : kitB "bool" "list" = some false := by decide +kernel
end
inductive Hold (p : Prop) : Prop where
  | a (h : p)
  | b (h : p) (_ : True)
theorem Hold.get {p : Prop} (h : Hold p) : p := by
  cases h with
  | a h => exact h
  | b h _ => exact h
theorem ws_cut {K : PySem.W.Frag} {pin : List Nat} {Γ : List Sl} {P : Ps} {t u : TS} (M : List Sl → Prop) (h : WS K pin t Γ { P with nx := fun G => Hold (M G) }) (k : ∀ G, M G → WS K pin u G P) : WS K pin (tSeq t u) Γ P := ws_seq (ws_mono h (fun G hG => k G hG.get) (fun _ _ h => h) (fun _ h => h) (fun _ h => h))
section
variable {K : PySem.W.Frag} {pin : List Nat} {Γ : List Sl} {P : Ps} {te tl : TE} {tt : TT} {tb : TS} {g : TG} {j : Nat} {Post : Re → List Sl → Prop}
theorem for_range1 {t1 : TA} (n : Int) (Inv : Nat → List Sl → Prop) (h : WD K t1 Γ fun ds Γ1 => Hold (ds = [.int n] ∧ -(2 ^ 62) ≤ n ∧ n < 2 ^ 62 ∧ Inv 0 Γ1))
    (turn : ∀ (i : Nat) G, (i : Int) < n → Inv i G → WG K pin g (.int i) G fun G2 => WS K pin tb G2 ⟨fun G => Hold (Inv (i + 1) G), P.rt, P.nx, fun G => Hold (Inv (i + 1) G), P.ex⟩) (done : ∀ G, Inv n.toNat G → P.nx G) : WS K pin (tFor (iRng1 t1) g tb) Γ P :=
  ws_for1 fun σ B H E Q q => h σ B H E Q fun vs B' H' ds Γ' g k p => q vs B' H' ds Γ' g k (by
    obtain ⟨e, h1, h2, h3⟩ := p.get
    exact ⟨n, e, h1, h2, fun i G => Hold (Inv i G), .a h3, fun i G hi hG => turn i G hi hG.get, fun G hG => done G hG.get⟩)
theorem for_tuple (ds : List Dt) (Inv : Nat → List Sl → Prop) (h : WE K te Γ fun z Γ1 => Hold (z = .val (.tup ds) ∧ Inv 0 Γ1))
    (turn : ∀ (i : Nat) d G, ds[i]? = some d → Inv i G → WG K pin g d G fun G2 => WS K pin tb G2 ⟨fun G => Hold (Inv (i + 1) G), P.rt, P.nx, fun G => Hold (Inv (i + 1) G), P.ex⟩) (done : ∀ G, Inv ds.length G → P.nx G) : WS K pin (tFor (iTup K te) g tb) Γ P :=
  ws_forT (we_mono h fun z Γ1 p => by
    obtain ⟨e, h3⟩ := p.get
    exact ⟨ds, e, fun i G => Hold (Inv i G), .a h3, fun i d G hd hG => turn i d G hd hG.get, fun G hG => done G hG.get⟩)
theorem for_lst (ds : List Dt) (Inv : Nat → List Sl → Prop) (h : WE K te Γ fun z Γ1 => Hold (z.dt? = some (.lst ds) ∧ Inv 0 Γ1))
    (turn : ∀ (i : Nat) d G, ds[i]? = some d → Inv i G → WG K pin g d G fun G2 => WS K pin tb G2 ⟨fun G => Hold (Inv (i + 1) G), P.rt, P.nx, fun G => Hold (Inv (i + 1) G), P.ex⟩) (done : ∀ G, Inv ds.length G → P.nx G) : WS K pin (tFor (iList K te) g tb) Γ P :=
  ws_forL (we_mono h fun z Γ1 p => by
    obtain ⟨e, h3⟩ := p.get
    exact ⟨_, ds, e, rfl, fun i G => Hold (Inv i G), .a h3, fun i d G hd hG => turn i d G hd hG.get, fun G hG => done G hG.get⟩)
theorem lc_range1 {t1 : TA} (n : Nat) (Inv : Nat → List Dt → List Sl → Prop) (h : WD K t1 Γ fun ds Γ1 => Hold (ds = [.int n] ∧ n ≤ 1000000 ∧ decide (j < Γ1.length) = true ∧ notAcc Γ1[j]? = true ∧ keepV Γ1[j]? = keepV Γ[j]? ∧ Inv 0 [] Γ1))
    (turn : ∀ i es G, i < n → Inv i es G → WT K tt (G.set j (.val (.int i))) fun b G2 => (b = true → WE K te G2 fun r G3 => ∃ d, r.dt? = some d ∧ Hold (Inv (i + 1) (es ++ [d]) (G3.set j (keepV Γ[j]?)))) ∧ (b = false → Hold (Inv (i + 1) es (G2.set j (keepV Γ[j]?)))))
    (done : ∀ es G, Inv n es G → Post (.new es) G) : WE K (tLc (iRng1 t1) (gName j) tt te [j]) Γ Post :=
  we_lc1 fun σ B H E Q q => h σ B H E Q fun vs B' H' ds Γ1 g k p => q vs B' H' ds Γ1 g k (by
    obtain ⟨e, h1, h2, h3, h4, h5⟩ := p.get
    refine ⟨n, e, h1, h2, h3, fun i es G => Hold (Inv i es G), .a h5, fun i es G hi hG => ?_, fun es G hG => done es G hG.get⟩
    rw [h4]
    exact turn i es G hi hG.get)
theorem lc_tuple (ds : List Dt) (Inv : Nat → List Dt → List Sl → Prop) (h : WE K tl Γ fun z Γ1 => Hold (z = .val (.tup ds) ∧ ds.length ≤ 1000000 ∧ decide (j < Γ1.length) = true ∧ notAcc Γ1[j]? = true ∧ keepV Γ1[j]? = keepV Γ[j]? ∧ Inv 0 [] Γ1))
    (turn : ∀ (i : Nat) d es G, ds[i]? = some d → Inv i es G → WT K tt (G.set j (.val d)) fun b G2 => (b = true → WE K te G2 fun r G3 => ∃ d, r.dt? = some d ∧ Hold (Inv (i + 1) (es ++ [d]) (G3.set j (keepV Γ[j]?)))) ∧ (b = false → Hold (Inv (i + 1) es (G2.set j (keepV Γ[j]?)))))
    (done : ∀ es G, Inv ds.length es G → Post (.new es) G) : WE K (tLc (iTup K tl) (gName j) tt te [j]) Γ Post :=
  we_lcT (we_mono h fun z Γ1 p => by
    obtain ⟨e, h1, h2, h3, h4, h5⟩ := p.get
    refine ⟨ds, e, h1, h2, h3, fun i es G => Hold (Inv i es G), .a h5, fun i d es G hi hG => ?_, fun es G hG => done es G hG.get⟩
    rw [h4]
    exact turn i d es G hi hG.get)
theorem lc_acc {k : Nat} (ds : List Dt) (Inv : Nat → List Dt → List Sl → Prop) (h0 : Γ[k]? = some (.acc ds)) (hn : ds.length ≤ 1000000) (hj : decide (j < Γ.length) = true) (hja : notAcc Γ[j]? = true) (i0 : Inv 0 [] Γ) (hk : ∀ i es G, Inv i es G → G[k]? = some (.acc ds))
    (turn : ∀ (i : Nat) d es G, ds[i]? = some d → Inv i es G → WT K tt (G.set j (.val d)) fun b G2 => (b = true → WE K te G2 fun r G3 => ∃ d, r.dt? = some d ∧ Hold (Inv (i + 1) (es ++ [d]) (G3.set j (keepV Γ[j]?)))) ∧ (b = false → Hold (Inv (i + 1) es (G2.set j (keepV Γ[j]?)))))
    (done : ∀ es G, Inv ds.length es G → Post (.new es) G) : WE K (tLc (iList K (tVar k)) (gName j) tt te [j]) Γ Post :=
  we_lcA h0 hn hj hja (fun i es G => Hold (Inv i es G)) (.a i0) (fun i es G hG => hk i es G hG.get) (fun i d es G hi hG => turn i d es G hi hG.get) fun es G hG => done es G hG.get
theorem for_range1H {t1 : TA} (h : WD K t1 Γ fun ds Γ1 => Hold (∃ n : Int, ds = [.int n] ∧ -(2 ^ 62) ≤ n ∧ n < 2 ^ 62 ∧ ∃ Inv : Nat → List Sl → Prop, Inv 0 Γ1 ∧
      (∀ (i : Nat) Γ', (i : Int) < n → Inv i Γ' → WG K pin g (.int i) Γ' fun Γ2 => WS K pin tb Γ2 ⟨fun G => Hold (Inv (i + 1) G), P.rt, P.nx, fun G => Hold (Inv (i + 1) G), P.ex⟩) ∧ ∀ Γ', Inv n.toNat Γ' → P.nx Γ')) : WS K pin (tFor (iRng1 t1) g tb) Γ P :=
  ws_for1 fun σ B H E Q q => h σ B H E Q fun vs B' H' ds Γ' g k p => q vs B' H' ds Γ' g k (by
    obtain ⟨n, e, h1, h2, Inv, i0, turn, done⟩ := p.get
    exact ⟨n, e, h1, h2, fun i G => Hold (Inv i G), .a i0, fun i G hi hG => turn i G hi hG.get, fun G hG => done G hG.get⟩)
theorem wt_yes {Q : Bool → List Sl → Prop} (p : Q true Γ) : WT K tYes Γ Q := fun σ B H E R q => q true B H Γ (.refl E) p
end
theorem we_sum {K : PySem.W.Frag} {Γ : List Sl} {Post : Re → List Sl → Prop} {te : TE} (h : WE K te Γ fun r Γ1 => Hold (∃ ns : List Int, lstOf Γ1 r = some (ns.map Dt.int) ∧ Post (.val (.int ns.sum)) Γ1)) : WE K (tCB (rSum K) (tCons te tNil)) Γ Post :=
  we_cb1 (we_mono h fun r Γ1 hp => fun σ B H x E kx Q q => by
    obtain ⟨ns, hs, p⟩ := hp.get
    obtain ⟨a, vs, rfl, hq, ha⟩ := rv_lst E kx hs
    have e : vs = ns.map V.int := IsA.rawsI (xs := ns.map V.int) (by rw [List.map_map]; exact ha)
    subst e
    exact ⟨a, ns, rfl, hq, q _ B H _ Γ1 (.refl E) (.raw _) p⟩)
noncomputable def NormP (Γ : List Sl) (Q : List Sl → Prop) : Prop := Q Γ
theorem norm_intro {Γ Γ' : List Sl} {Q : List Sl → Prop} (e : Γ = Γ') (h : Q Γ') : NormP Γ Q := by
  subst e
  exact h
theorem norm_cons {a a' : Sl} {Γ Γt Γt' : List Sl} (e : Γ = a :: Γt) (ea : a = a') (et : Γt = Γt') : Γ = a' :: Γt' := by
  subst ea et
  exact e
theorem norm_v {d : Dt} : slOf (.val d) = .val d := rfl
theorem norm_n {ds : List Dt} : slOf (.new ds) = .acc ds := rfl
theorem norm_o {i : Nat} : slOf (.own i) = .un := rfl
theorem ws_asgN {K : PySem.W.Frag} {pin : List Nat} {Γ : List Sl} {P : Ps} {te : TE} {i : Nat} (hp : pin.contains i = false) (hi : decide (i < Γ.length) = true) (h : WE K te Γ fun z Γ1 => NormP (Γ1.set i (slOf z)) P.nx) : WS K pin (tAsg te (gName i)) Γ P := ws_asg hp hi h
theorem wg_nameN {K : PySem.W.Frag} {pin : List Nat} {Γ : List Sl} {i : Nat} {d : Dt} {Q : List Sl → Prop} (hp : pin.contains i = false) (hi : decide (i < Γ.length) = true) (p : NormP (Γ.set i (.val d)) Q) : WG K pin (gName i) d Γ Q := wg_name hp hi p
theorem we_appendN {K : PySem.W.Frag} {Γ : List Sl} {te : TE} {i : Nat} {ds0 : List Dt} {Post : Re → List Sl → Prop} (h0 : Γ[i]? = some (.acc ds0)) (h : WE K te Γ fun z Γ1 => ∃ d ds, z.dt? = some d ∧ Γ1[i]? = some (.acc ds) ∧ ds.length < 1000000 ∧ NormP (Γ1.set i (.acc (ds ++ [d]))) (Post (.val .non))) :
    WE K (tBM K "list" rAppend (tVar i) (tCons te tNil)) Γ Post := we_append h0 h
theorem ws_setN {K : PySem.W.Frag} {pin : List Nat} {Γ : List Sl} {P : Ps} {te tj : TE} {i : Nat} (h : WE K te Γ fun z Γ1 => ∃ d, z = .val d ∧ (∃ ds1, Γ1[i]? = some (.acc ds1)) ∧ WE K tj Γ1 fun y Γ2 => ∃ ds k j, y = .val (.int k) ∧ Γ2[i]? = some (.acc ds) ∧ ixN ds.length k = some j ∧ NormP (Γ2.set i (.acc (ds.set j d))) P.nx) :
    WS K pin (tAsg te (gSub (tVar i) tj rSetL)) Γ P := ws_setA h
theorem we_reverseN {K : PySem.W.Frag} {Γ : List Sl} {i : Nat} {ds : List Dt} {Post : Re → List Sl → Prop} (h0 : Γ[i]? = some (.acc ds)) (p : NormP (Γ.set i (.acc ds.reverse)) (Post (.val .non))) : WE K (tBM0 K "list" rReverse (tVar i)) Γ Post := we_reverse h0 p
theorem ws_augN {K : PySem.W.Frag} {pin : List Nat} {Γ : List Sl} {P : Ps} {te : TE} {i : Nat} {f : Int → Int → Int} {a : Int} (hx : Γ[i]? = some (.val (.int a))) (hp : pin.contains i = false) (h : WE K te Γ fun z Γ1 => ∃ b, z = .val (.int b) ∧ NormP (Γ1.set i (.val (.int (f a b)))) P.nx) : WS K pin (tAug i te (ipI f)) Γ P := ws_aug hx hp h
theorem we_callH {K : PySem.W.Frag} {Γ : List Sl} {Post : Re → List Sl → Prop} {ap : AP} {E0 : XK} {ta : TA} (h : WA K ta Γ fun rs Γ1 => nodupB (ownsOf rs) = true ∧ Hold (ap (rs.map (argSl Γ1)) fun r as' => NormP (putBack rs as' Γ1) (Post r))) : WE K (tCall (toSp K ap) [] E0 ta) Γ Post :=
  we_call fun σ B H E Q q => h σ B H E Q fun vs B' H' rs Γ1 g k p => q vs B' H' rs Γ1 g k ⟨p.1, p.2.get⟩
theorem nd_t {c : Prop} [Decidable c] (h : (!decide c) = true) : ¬ c := by
  intro hc
  rw [decide_eq_true hc] at h
  cases h
theorem nd_f {c : Prop} [Decidable c] (h : (!decide c) = false) : c := by
  by_cases hc : c
  · exact hc
  · rw [decide_eq_false hc] at h; cases h
theorem len_map {α β : Type} (f : α → β) (xs : List α) : ((xs.map f).length : Int) = (xs.length : Int) := by rw [List.length_map]
theorem at_map {α β : Type} {f : α → β} {xs : List α} {k : Int} (h0 : 0 ≤ k) (h1 : k < xs.length) (d : α) : atI (xs.map f) k = some (f (xs.getD k.toNat d)) := by
  refine atI_of (j := k.toNat) (by omega) ?_
  rw [List.getElem?_map, List.getD_eq_getElem?_getD, List.getElem?_eq_getElem (by omega)]
  rfl
mutual
noncomputable def plain : Dt → Bool
  | .raw .non => true
  | .raw (.int _) => true
  | .raw (.str s) => PyData.canLay0 (.str s)
  | .raw _ => false
  | .tup ds => plainAll ds
  | .lst ds => plainAll ds
  | .obj _ _ => false
  | .scr _ => false
  | .dK _ => false
  | .dT _ => false
  | .exn _ _ _ => false
  | .err _ _ => false
  | .fz _ => false
  | .dN _ _ => false
noncomputable def plainAll : List Dt → Bool
  | [] => true
  | d :: ds => plain d && plainAll ds
end
end Ab

namespace Ab
open PySem L2
local macro_rules | `(tactic| walk_at "no") => `(tactic| first
  | exact fun h => Bool.noConfusion (show true = false from h)
  | exact fun h => Bool.noConfusion (show false = true from h)
  | exact fun h => absurd (of_decide_eq_true h) (by omega)
  | exact fun h => absurd (by omega) (of_decide_eq_false h)
  | exact fun h => absurd (by omega) (nd_t h)
  | exact fun h => absurd (nd_f h) (by omega)
  | fail "no")
local macro_rules | `(tactic| walk_at "kb") => `(tactic| first | exact kb_tt | exact kb_ll | exact kb_ii | exact kb_ib | exact kb_ss | exact kb_sb | exact kb_si | exact kb_tb | exact kb_ti | exact kb_ts | exact kb_tl | exact kb_lb | exact kb_li | exact kb_ls | exact kb_lt | exact kb_is | exact kb_it | exact kb_il | exact kb_st | exact kb_sl | exact kb_bb | exact kb_bi | exact kb_nb | exact kb_ni | exact kb_ns | exact kb_nt | exact kb_nl | exact kb_bs | exact kb_bt | exact kb_bl | fail "kb")
local macro_rules | `(tactic| walk_at "norm") => `(tactic| first
  | exact (rfl : _ = ([] : List Sl))
  | ((refine' norm_cons (rfl : _ = _ :: _) ?ea ?et); (case ea => first | exact norm_v | exact norm_n | exact norm_o | exact rfl | fail "norm"); (case et => walk_at "norm"))
  | fail "norm")
local macro_rules | `(tactic| walk_at "x") => `(tactic| first
  | ((with_reducible refine' norm_intro ?hn ?_); (case hn => walk_at "norm"))
  | ((with_reducible refine' we_var ?hh ?_); (case hh => exact rfl))
  | ((with_reducible refine' we_own ?hh ?_); (case hh => exact rfl))
  | with_reducible refine we_c ?_
  | with_reducible refine we_addG ?_
  | with_reducible refine addp_i ?_
  | with_reducible refine we_opI0 ?_
  | with_reducible refine we_opI ?_
  | with_reducible refine we_mulG ?_
  | ((with_reducible refine' mulp_r ?h1 ?_); (case h1 => first | decide | omega | fail "m"))
  | ((with_reducible refine' mulp_l ?h1 ?_); (case h1 => first | decide | omega | fail "m"))
  | with_reducible refine we_neg ?_
  | with_reducible refine we_ltG ?_
  | with_reducible refine ltp_i ?_
  | with_reducible refine we_eqG ?_
  | with_reducible refine we_neG ?_
  | with_reducible refine eqp_i ?_
  | with_reducible refine nep_i ?_
  | with_reducible refine we_ixG ?_
  | ((with_reducible refine' ixp ?h1 ?h2 ?_); (case h1 => exact rfl); (case h2 => exact rfl))
  | with_reducible refine we_lenG ?_
  | ((with_reducible refine' lenp ?hh ?_); (case hh => exact rfl))
  | with_reducible refine we_intG ?_
  | with_reducible refine intp_i ?_
  | with_reducible refine intp_b ?_
  | with_reducible refine we_abs ?_
  | with_reducible refine we_tup ?_
  | with_reducible refine we_lst ?_
  | with_reducible refine we_tuple ?_
  | with_reducible refine we_list ?_
  | with_reducible refine we_sum ?_
  | with_reducible refine we_max2 ?_
  | with_reducible refine we_min2 ?_
  | with_reducible refine wd_cons ?_
  | with_reducible refine wd_nil ?_
  | with_reducible refine wa_cons ?_
  | with_reducible refine wa_nil ?_
  | with_reducible refine we_callH ?_
  | with_reducible refine we_isiG ?_
  | ((with_reducible refine' isi_own ?h1 ?h2 ?_); (case h1 => exact rfl); (case h2 => walk_at "kb"))
  | ((with_reducible refine' isi_val ?h1 ?h2 ?_); (case h1 => exact rfl); (case h2 => walk_at "kb"))
  | ((with_reducible refine' isi_new ?h2 ?_); (case h2 => walk_at "kb"))
  | with_reducible refine we_chainI ?_
  | with_reducible refine we_andV ?_
  | with_reducible refine we_orV ?_
  | with_reducible refine we_notV ?_
  | with_reducible refine wt_test ?_
  | with_reducible refine wt_B ?_
  | with_reducible refine wt_yes ?_
  | with_reducible refine wt_and ?_
  | with_reducible refine wt_or ?_
  | with_reducible refine wt_not ?_
  | ((with_reducible refine' ws_retA ?hh ?_); (case hh => exact rfl))
  | with_reducible refine ws_ret ?_
  | with_reducible refine ws_if ?_
  | with_reducible refine ws_nil ?_
  | with_reducible refine ws_expr ?_
  | with_reducible refine ws_asgN rfl rfl ?_
  | with_reducible refine ws_setN ?_
  | with_reducible refine ws_asgG ?_
  | ((with_reducible refine' wg_tup ?hh ?_); (case hh => exact rfl))
  | with_reducible refine wgs_cons ?_
  | with_reducible refine wgs_nil ?_
  | with_reducible refine wg_nameN rfl rfl ?_
  | ((with_reducible refine' we_appendN ?hh ?_); (case hh => exact rfl))
  | ((with_reducible refine' we_reverseN ?hh ?_); (case hh => exact rfl))
  | ((with_reducible refine' ws_augN ?h1 ?h2 ?_); (case h1 => exact rfl); (case h2 => exact rfl))
  | (refine ⟨_, rfl, ⟨_, rfl⟩, ?_⟩)
  | (refine ⟨_, rfl, ?_⟩)
  | (refine ⟨_, _, _, rfl, rfl, rfl, ?_⟩)
  | (refine ⟨_, _, rfl, rfl, (Nat.le_of_ble_eq_true rfl : _ ≤ _), ?_⟩)
  | (refine ⟨_, _, rfl, rfl, ?_⟩)
  | (refine ⟨(Nat.le_of_ble_eq_true rfl : _ ≤ _), ?_⟩)
  | (refine ⟨(rfl : _ = true), ?_⟩)
  | ((refine' ⟨fun _ => ?_, fun hY => absurd hY ?k2⟩); (case k2 => walk_at "no"))
  | ((refine' ⟨fun hY => absurd hY ?k2, fun _ => ?_⟩); (case k2 => walk_at "no"))
  | (refine ⟨⟨(by omega), (by omega)⟩, ?_⟩)
  | (refine ⟨⟨(by decide), (by decide), (by decide)⟩, ?_⟩)
  | (refine ⟨(by first | decide | omega | fail "c"), ?_⟩)
  | fail "stop")
local macro_rules | `(tactic| walk_at "e") => `(tactic| first | with_reducible refine ws_seq ?_ | walk_at "x" | fail "stop")
local macro_rules | `(tactic| walk_at "xs") => `(tactic| repeat' walk_at "x")
local macro_rules | `(tactic| walk_at "es") => `(tactic| repeat' walk_at "e")
noncomputable def PoolIs (c : Int) (ds : List Dt) : Prop := ∃ cell flag seed : Int, ds = [.int cell, .int c, .int flag, .int seed, .int 3] ∧ 0 ≤ cell ∧ 0 ≤ seed ∧ seed < 2147483647
noncomputable def ap_pool : AP := fun as Post => ∃ (ns : List Int) (k : Int), as = [.val (.scr ns), .val (.int k)] ∧ 0 ≤ k ∧ k < 1000000 ∧ ∀ ds, PoolIs 0 ds → Post (.new ds) as
noncomputable def ap_take : AP := fun as Post => ∃ ds c n, as = [.acc ds, .val (.int n)] ∧ PoolIs c ds ∧ 0 ≤ c ∧ c < 1000000000 ∧ 0 < n ∧ n < 18446744073709551616 ∧ ∀ ds' g, PoolIs (c + 1) ds' → 0 ≤ g → g < n → Post (.val (.int g)) [.acc ds', .val (.int n)]
noncomputable def tPool (K : PySem.W.Frag) : TS :=
    (tSeq (tAsg (tC (.int 0)) (gName 2))
    (tSeq (tIfS (tTest (tOp (rLtG K) (tVar 1) (tCB (rLenV K) (tCons (tVar 0) tNil)))) (tAsg (tCB rAbs (tCons (tCB rInt1 (tCons (tOp (rIx K) (tVar 0) (tVar 1)) tNil)) tNil)) (gName 2)) tNext)
    (tRet (tLst (tCons (tVar 2) (tCons (tC (.int 0)) (tCons (tCB rInt1 (tCons (tOp rGeI (tVar 2) (tOp rPowI (tC (.int 10)) (tC (.int 18)))) tNil)) (tCons (tOp rModI (tCB rInt1 (tCons (tOp (rAddG K) (tVar 2) (tOp (rMulG K) (tVar 1) (tC (.int 7919)))) tNil)) (tC (.int 2147483647))) (tCons (tC (.int 3)) tNil)))))))))
noncomputable def tTakeA (K : PySem.W.Frag) : TS :=
    (tSeq (tAsg (tOp (rAddG K) (tOp (rIx K) (tVar 0) (tC (.int 1))) (tC (.int 1))) (gSub (tVar 0) (tC (.int 1)) rSetL))
    (tSeq (tIfS (tTest (tOp (rEqG K) (tOp (rIx K) (tVar 0) (tC (.int 2))) (tC (.int 1)))) (tSeq (tAsg (tOp rModI (tCB rInt1 (tCons (tOp (rIx K) (tVar 0) (tC (.int 0))) tNil)) (tVar 1)) (gName 2))
    (tSeq (tAsg (tOp rDivI (tOp (rIx K) (tVar 0) (tC (.int 0))) (tVar 1)) (gSub (tVar 0) (tC (.int 0)) rSetL))
    (tRet (tVar 2)))) tNext)
    (tSeq (tAsg (tOp rModI (tCB rInt1 (tCons (tOp (rAddG K) (tOp (rAddG K) (tOp (rMulG K) (tOp (rIx K) (tVar 0) (tC (.int 3))) (tC (.int 48271))) (tOp (rMulG K) (tOp (rIx K) (tVar 0) (tC (.int 1))) (tC (.int 69621)))) (tC (.int 11))) tNil)) (tC (.int 2147483647))) (gName 3))
    (tSeq (tAsg (tOp rModI (tCB rInt1 (tCons (tOp (rAddG K) (tOp (rAddG K) (tOp (rMulG K) (tVar 3) (tC (.int 16807))) (tOp rDivI (tVar 3) (tC (.int 65536)))) (tOp (rMulG K) (tOp (rMulG K) (tOp (rIx K) (tVar 0) (tC (.int 1))) (tOp (rIx K) (tVar 0) (tC (.int 1)))) (tC (.int 40692)))) tNil)) (tC (.int 2147483399))) (gName 4))
    (tRet (tOp rModI (tCB rInt1 (tCons (tOp rDivI (tVar 4) (tOp (rAddG K) (tOp (rIx K) (tVar 0) (tC (.int 1))) (tC (.int 6)))) tNil)) (tVar 1)))))))
theorem run_tPool {K : PySem.W.Frag} (as : List Sl) (Post : Re → List Sl → Prop) (h : ap_pool as Post) : WS K [] (tPool K) (as ++ List.replicate (3 - as.length) .un) ⟨fun G => Post (.val .non) (exitArgs [] G as), fun r G => Post r (exitArgs [] G as), fun _ => False, fun _ => False, .no⟩ := by
  obtain ⟨ns, k, rfl, h0, hk, p⟩ := h
  unfold tPool
  show WS K [] _ [.val (.scr ns), .val (.int k), .un] _
  walk_at "e"; walk_at "e"; walk_at "e"
  refine ws_cut (fun G => ∃ c : Int, 0 ≤ c ∧ G = [.val (.scr ns), .val (.int k), .val (.int c)]) ?_ ?_
  · walk_at "es"
    refine ⟨fun h1 => ?_, fun h1 => ?_⟩
    · have h1' := of_decide_eq_true h1
      rw [len_map] at h1'
      walk_at "es"
      refine ixp rfl (at_map h0 h1' 0) ?_
      walk_at "es"
      refine .a ⟨_, ?_, rfl⟩
      split <;> omega
    · walk_at "es"
      exact .a ⟨0, Int.le_refl _, rfl⟩
  · rintro G ⟨c, hc, rfl⟩
    walk_at "es"
    exact p _ ⟨_, _, _, rfl, hc, Int.emod_nonneg _ (by decide), Int.emod_lt_of_pos _ (by decide)⟩
theorem run_tTakeA {K : PySem.W.Frag} (as : List Sl) (Post : Re → List Sl → Prop) (h : ap_take as Post) : WS K [0] (tTakeA K) (as ++ List.replicate (5 - as.length) .un) ⟨fun G => Post (.val .non) (exitArgs [0] G as), fun r G => Post r (exitArgs [0] G as), fun _ => False, fun _ => False, .no⟩ := by
  obtain ⟨ds, c, n, rfl, ⟨cell, flag, seed, rfl, hc, hs, hs2⟩, hc0, hc1, hn, hn2, p⟩ := h
  unfold tTakeA
  show WS K [0] _ [.acc _, .val (.int n), .un, .un, .un] _
  walk_at "es"
  refine ⟨fun h1 => ?_, fun h1 => ?_⟩
  · walk_at "es"
    exact p _ _ ⟨_, _, _, rfl, Int.ediv_nonneg hc (by omega), hs, hs2⟩ (Int.emod_nonneg _ (by omega)) (Int.emod_lt_of_pos _ hn)
  · walk_at "es"
    exact p _ _ ⟨_, _, _, rfl, hc, hs, hs2⟩ (Int.emod_nonneg _ (by omega)) (Int.emod_lt_of_pos _ hn)
end Ab

namespace Ab
open PySem L2
local macro_rules | `(tactic| walk_at "no") => `(tactic| first
  | exact fun h => Bool.noConfusion (show true = false from h)
  | exact fun h => Bool.noConfusion (show false = true from h)
  | exact fun h => absurd (of_decide_eq_true h) (by omega)
  | exact fun h => absurd (by omega) (of_decide_eq_false h)
  | exact fun h => absurd (by omega) (nd_t h)
  | exact fun h => absurd (nd_f h) (by omega)
  | fail "no")
local macro_rules | `(tactic| walk_at "kb") => `(tactic| first | exact kb_tt | exact kb_ll | exact kb_ii | exact kb_ib | exact kb_ss | exact kb_sb | exact kb_si | exact kb_tb | exact kb_ti | exact kb_ts | exact kb_tl | exact kb_lb | exact kb_li | exact kb_ls | exact kb_lt | exact kb_is | exact kb_it | exact kb_il | exact kb_st | exact kb_sl | exact kb_bb | exact kb_bi | exact kb_nb | exact kb_ni | exact kb_ns | exact kb_nt | exact kb_nl | exact kb_bs | exact kb_bt | exact kb_bl | fail "kb")
local macro_rules | `(tactic| walk_at "norm") => `(tactic| first
  | exact (rfl : _ = ([] : List Sl))
  | ((refine' norm_cons (rfl : _ = _ :: _) ?ea ?et); (case ea => first | exact norm_v | exact norm_n | exact norm_o | exact rfl | fail "norm"); (case et => walk_at "norm"))
  | fail "norm")
local macro_rules | `(tactic| walk_at "e") => `(tactic| first
  | ((with_reducible refine' norm_intro ?hn ?_); (case hn => walk_at "norm"))
  | ((with_reducible refine' we_var ?hh ?_); (case hh => exact rfl))
  | ((with_reducible refine' we_own ?hh ?_); (case hh => exact rfl))
  | with_reducible refine we_c ?_
  | with_reducible refine we_addG ?_
  | with_reducible refine addp_i ?_
  | with_reducible refine we_opI0 ?_
  | with_reducible refine we_opI ?_
  | with_reducible refine we_mulG ?_
  | ((with_reducible refine' mulp_r ?h1 ?_); (case h1 => first | decide | omega | fail "m"))
  | ((with_reducible refine' mulp_l ?h1 ?_); (case h1 => first | decide | omega | fail "m"))
  | with_reducible refine we_neg ?_
  | with_reducible refine we_ltG ?_
  | with_reducible refine ltp_i ?_
  | with_reducible refine we_eqG ?_
  | with_reducible refine we_neG ?_
  | with_reducible refine eqp_i ?_
  | with_reducible refine nep_i ?_
  | with_reducible refine we_ixG ?_
  | ((with_reducible refine' ixp ?h1 ?h2 ?_); (case h1 => exact rfl); (case h2 => exact rfl))
  | with_reducible refine we_lenG ?_
  | ((with_reducible refine' lenp ?hh ?_); (case hh => exact rfl))
  | with_reducible refine we_intG ?_
  | with_reducible refine intp_i ?_
  | with_reducible refine intp_b ?_
  | with_reducible refine we_abs ?_
  | with_reducible refine we_tup ?_
  | with_reducible refine we_lst ?_
  | with_reducible refine we_tuple ?_
  | with_reducible refine we_list ?_
  | with_reducible refine we_sum ?_
  | with_reducible refine we_max2 ?_
  | with_reducible refine we_min2 ?_
  | with_reducible refine wd_cons ?_
  | with_reducible refine wd_nil ?_
  | with_reducible refine wa_cons ?_
  | with_reducible refine wa_nil ?_
  | with_reducible refine we_callH ?_
  | with_reducible refine we_isiG ?_
  | ((with_reducible refine' isi_own ?h1 ?h2 ?_); (case h1 => exact rfl); (case h2 => walk_at "kb"))
  | ((with_reducible refine' isi_val ?h1 ?h2 ?_); (case h1 => exact rfl); (case h2 => walk_at "kb"))
  | ((with_reducible refine' isi_new ?h2 ?_); (case h2 => walk_at "kb"))
  | with_reducible refine we_chainI ?_
  | with_reducible refine we_andV ?_
  | with_reducible refine we_orV ?_
  | with_reducible refine we_notV ?_
  | with_reducible refine wt_test ?_
  | with_reducible refine wt_B ?_
  | with_reducible refine wt_yes ?_
  | with_reducible refine wt_and ?_
  | with_reducible refine wt_or ?_
  | with_reducible refine wt_not ?_
  | with_reducible refine ws_seq ?_
  | ((with_reducible refine' ws_retA ?hh ?_); (case hh => exact rfl))
  | with_reducible refine ws_ret ?_
  | with_reducible refine ws_if ?_
  | with_reducible refine ws_nil ?_
  | with_reducible refine ws_expr ?_
  | with_reducible refine ws_asgN rfl rfl ?_
  | with_reducible refine ws_setN ?_
  | with_reducible refine ws_asgG ?_
  | ((with_reducible refine' wg_tup ?hh ?_); (case hh => exact rfl))
  | with_reducible refine wgs_cons ?_
  | with_reducible refine wgs_nil ?_
  | with_reducible refine wg_nameN rfl rfl ?_
  | ((with_reducible refine' we_appendN ?hh ?_); (case hh => exact rfl))
  | ((with_reducible refine' we_reverseN ?hh ?_); (case hh => exact rfl))
  | ((with_reducible refine' ws_augN ?h1 ?h2 ?_); (case h1 => exact rfl); (case h2 => exact rfl))
  | (refine ⟨_, rfl, ⟨_, rfl⟩, ?_⟩)
  | (refine ⟨_, rfl, ?_⟩)
  | (refine ⟨_, _, _, rfl, rfl, rfl, ?_⟩)
  | (refine ⟨_, _, rfl, rfl, (Nat.le_of_ble_eq_true rfl : _ ≤ _), ?_⟩)
  | (refine ⟨_, _, rfl, rfl, ?_⟩)
  | (refine ⟨(Nat.le_of_ble_eq_true rfl : _ ≤ _), ?_⟩)
  | (refine ⟨(rfl : _ = true), ?_⟩)
  | ((refine' ⟨fun _ => ?_, fun hY => absurd hY ?k2⟩); (case k2 => walk_at "no"))
  | ((refine' ⟨fun hY => absurd hY ?k2, fun _ => ?_⟩); (case k2 => walk_at "no"))
  | (refine ⟨⟨(by omega), (by omega)⟩, ?_⟩)
  | (refine ⟨⟨(by decide), (by decide), (by decide)⟩, ?_⟩)
  | (refine ⟨(by first | decide | omega | fail "c"), ?_⟩)
  | fail "stop")
local macro_rules | `(tactic| walk_at "es") => `(tactic| repeat' walk_at "e")
noncomputable def isNonR : Re → Bool
  | .val (.raw v) => decide (v = .non)
  | _ => false
theorem we_isN {K : PySem.W.Frag} {Γ : List Sl} {Post : Re → List Sl → Prop} {ta : TE} (h : WE K ta Γ fun r Γ1 => Post (.val (.bl (isNonR r))) Γ1) : WE K (tIsN ta) Γ Post := fun σ B H E Q q => by
  refine h σ B H E _ fun x B1 H1 r Γ1 g k p => ?_
  have e : decide (x = V.non) = isNonR r := by
    cases r with
    | val d =>
      cases d with
      | raw v => cases Is.rawI k; rfl
      | tup ds => obtain ⟨a, xs, rfl, _⟩ := Is.tupR k; rfl
      | lst ds => obtain ⟨a, xs, rfl, _⟩ := Is.lstR k; rfl
      | obj C fs => cases k; rfl
      | scr ns => cases k; rfl
      | dK es => cases k; rfl
      | dT es => cases k; rfl
      | exn a d fs => cases k <;> rfl
      | err C fs => cases k <;> rfl
      | fz kvs => cases k <;> rfl
      | dN w es => cases k; rfl
    | nw ds => obtain ⟨l, vs, rfl, _⟩ := k; rfl
    | own i => obtain ⟨l, rfl, _⟩ := k; rfl
  rw [e]
  exact q _ B1 H1 _ Γ1 g (.raw _) p
theorem we_notN {K : PySem.W.Frag} {Γ : List Sl} {Post : Re → List Sl → Prop} {ta : TE} (h : WE K ta Γ fun r Γ1 => Post (.val (.bl (!isNonR r))) Γ1) : WE K (tNotN ta) Γ Post := fun σ B H E Q q => by
  refine h σ B H E _ fun x B1 H1 r Γ1 g k p => ?_
  have e : decide (x = V.non) = isNonR r := by
    cases r with
    | val d =>
      cases d with
      | raw v => cases Is.rawI k; rfl
      | tup ds => obtain ⟨a, xs, rfl, _⟩ := Is.tupR k; rfl
      | lst ds => obtain ⟨a, xs, rfl, _⟩ := Is.lstR k; rfl
      | obj C fs => cases k; rfl
      | scr ns => cases k; rfl
      | dK es => cases k; rfl
      | dT es => cases k; rfl
      | exn a d fs => cases k <;> rfl
      | err C fs => cases k <;> rfl
      | fz kvs => cases k <;> rfl
      | dN w es => cases k; rfl
    | nw ds => obtain ⟨l, vs, rfl, _⟩ := k; rfl
    | own i => obtain ⟨l, rfl, _⟩ := k; rfl
  rw [e]
  exact q _ B1 H1 _ Γ1 g (.raw _) p
local macro_rules | `(tactic| walk_at "e") => `(tactic| first | with_reducible refine we_isN ?_ | with_reducible refine we_notN ?_ | fail "is")
mutual
noncomputable def okD : Dt → Bool
  | .raw .non => true
  | .raw (.bl _) => true
  | .raw (.int _) => true
  | .raw (.str _) => true
  | .raw _ => false
  | .tup ds => decide (ds.length ≤ 1000000) && okAll ds
  | .lst ds => decide (ds.length ≤ 1000000) && okAll ds
  | .obj _ _ => false
  | .scr _ => false
  | .dK _ => false
  | .dT _ => false
  | .exn _ _ _ => false
  | .err _ _ => false
  | .fz _ => false
  | .dN _ _ => false
noncomputable def okAll : List Dt → Bool
  | [] => true
  | d :: ds => okD d && okAll ds
end
mutual
noncomputable def depD : Dt → Nat
  | .raw _ => 0
  | .tup ds => depAll ds + 1
  | .lst ds => depAll ds + 1
  | .obj _ _ => 0
  | .scr _ => 0
  | .dK _ => 0
  | .dT _ => 0
  | .exn _ _ _ => 0
  | .err _ _ => 0
  | .fz _ => 0
  | .dN _ _ => 0
noncomputable def depAll : List Dt → Nat
  | [] => 0
  | d :: ds => max (depD d) (depAll ds)
end
theorem okAll_at : ∀ {ds : List Dt} {i : Nat} {d : Dt}, okAll ds = true → ds[i]? = some d → okD d = true
  | [], _, _, _, h => by simp at h
  | x :: r, 0, d, h, e => by
    rw [okAll, Bool.and_eq_true] at h
    simp at e; subst e; exact h.1
  | x :: r, i + 1, d, h, e => by
    rw [okAll, Bool.and_eq_true] at h
    exact okAll_at h.2 (by simpa using e)
theorem depAll_at : ∀ {ds : List Dt} {i : Nat} {d : Dt}, ds[i]? = some d → depD d ≤ depAll ds
  | [], _, _, h => by simp at h
  | x :: r, 0, d, e => by
    simp at e; subst e; rw [depAll]; omega
  | x :: r, i + 1, d, e => by
    have := depAll_at (ds := r) (i := i) (d := d) (by simpa using e)
    rw [depAll]; omega
noncomputable def slDt : Sl → Option Dt
  | .val d => some d
  | .cel (.lst ds) => some (.lst ds)
  | .cel _ => none
  | .un => none
noncomputable def ap_same (n : Nat) : AP := fun as Post => ∃ s0 s1 d, as = [s0, s1] ∧ slDt s0 = some d ∧ slDt s1 = some d ∧ okD d = true ∧ depD d ≤ n ∧ Post (.val (.bl true)) [s0, s1]
noncomputable def tSame (K : PySem.W.Frag) (ap__law_same : AP) : TS :=
    (tSeq (tIfS (tOr (tB (tCB (rIsi K) (tCons (tVar 0) (tCons (tC (.ty "bool")) tNil)))) (tB (tCB (rIsi K) (tCons (tVar 1) (tCons (tC (.ty "bool")) tNil))))) (tRet (tAndV (tCB (rIsi K) (tCons (tVar 0) (tCons (tC (.ty "bool")) tNil))) (tAndV (tCB (rIsi K) (tCons (tVar 1) (tCons (tC (.ty "bool")) tNil))) (tOp (rEqG K) (tVar 0) (tVar 1))))) tNext)
    (tSeq (tIfS (tAnd (tB (tCB (rIsi K) (tCons (tVar 0) (tCons (tC (.ty "int")) tNil)))) (tB (tCB (rIsi K) (tCons (tVar 1) (tCons (tC (.ty "int")) tNil))))) (tRet (tOp (rEqG K) (tVar 0) (tVar 1))) tNext)
    (tSeq (tIfS (tAnd (tB (tCB (rIsi K) (tCons (tVar 0) (tCons (tC (.ty "str")) tNil)))) (tB (tCB (rIsi K) (tCons (tVar 1) (tCons (tC (.ty "str")) tNil))))) (tRet (tOp (rEqG K) (tVar 0) (tVar 1))) tNext)
    (tSeq (tAsg (tAndV (tCB (rIsi K) (tCons (tVar 0) (tCons (tC (.ty "tuple")) tNil))) (tCB (rIsi K) (tCons (tVar 1) (tCons (tC (.ty "tuple")) tNil)))) (gName 2))
    (tSeq (tIfS (tOr (tB (tVar 2)) (tAnd (tB (tCB (rIsi K) (tCons (tVar 0) (tCons (tC (.ty "list")) tNil)))) (tB (tCB (rIsi K) (tCons (tVar 1) (tCons (tC (.ty "list")) tNil)))))) (tSeq (tIfS (tTest (tOp (rNeG K) (tCB (rLenV K) (tCons (tVar 0) tNil)) (tCB (rLenV K) (tCons (tVar 1) tNil)))) (tRet (tC (.bl false))) tNext)
    (tSeq (tFor (iRng1 (tCons (tCB (rLenV K) (tCons (tVar 0) tNil)) tNil)) (gName 3) (tIfS (tNot (tB (tCall (toSp K ap__law_same) [] E0 (tCons (tOp (rIx K) (tVar 0) (tVar 3)) (tCons (tOp (rIx K) (tVar 1) (tVar 3)) tNil))))) (tRet (tC (.bl false))) tNext))
    (tRet (tC (.bl true))))) tNext)
    (tRet (tAndV (tIsN (tVar 0)) (tIsN (tVar 1)))))))))
noncomputable def SameIn (n : Nat) (ap : AP) : Prop := ∀ d Post, okD d = true → depD d < n → Post (.val (.bl true)) [.val d, .val d] → ap [.val d, .val d] Post
theorem run_tSame {K : PySem.W.Frag} {n : Nat} {ap : AP} (hap : SameIn n ap) (as : List Sl) (Post : Re → List Sl → Prop) (h : ap_same n as Post) : WS K [0, 1] (tSame K ap) (as ++ List.replicate (4 - as.length) .un) ⟨fun G => Post (.val .non) (exitArgs [0, 1] G as), fun r G => Post r (exitArgs [0, 1] G as), fun _ => False, fun _ => False, .no⟩ := by
  obtain ⟨s0, s1, d, rfl, h0, h1, ok, dp, p⟩ := h
  unfold tSame
  show WS K [0, 1] _ [s0, s1, .un, .un] _
  have acc0 : ∀ {s : Sl} {d : Dt}, slDt s = some d → s = .val d ∨ ∃ ds, d = .lst ds ∧ s = .acc ds := fun {s d} h => by
    cases s with
    | un => cases h
    | val e => cases h; exact .inl rfl
    | cel c =>
      cases c with
      | lst es => cases h; exact .inr ⟨es, rfl, rfl⟩
      | dK es => cases h
      | dT es => cases h
      | dN w es => cases h
  have scal : ∀ v : V, d = .raw v → s0 = .val (.raw v) ∧ s1 = .val (.raw v) := fun v e => by
    subst e
    rcases acc0 h0 with rfl | ⟨ds, e, _⟩
    · rcases acc0 h1 with rfl | ⟨ds, e, _⟩
      · exact ⟨rfl, rfl⟩
      · cases e
    · cases e
  cases d with
  | obj C fs => simp [okD] at ok
  | dK fs => simp [okD] at ok
  | dT fs => simp [okD] at ok
  | exn a d fs => simp [okD] at ok
  | err C fs => simp [okD] at ok
  | fz kvs => simp [okD] at ok
  | dN w es => simp [okD] at ok
  | scr ns => simp [okD] at ok
  | raw v =>
    obtain ⟨rfl, rfl⟩ := scal v rfl
    cases v with
    | non => walk_at "es"; exact p
    | bl b =>
      walk_at "es"
      refine eqp_s rfl ?_
      rw [decide_eq_true rfl]
      exact ⟨rfl, p⟩
    | int i =>
      walk_at "es"
      rw [decide_eq_true rfl]
      exact p
    | str x =>
      walk_at "es"
      refine eqp_s rfl ?_
      rw [decide_eq_true rfl]
      exact ⟨rfl, p⟩
    | byt b => simp [okD] at ok
    | flt b => simp [okD] at ok
    | ref a => simp [okD] at ok
    | ty t => simp [okD] at ok
  | tup ds =>
    rw [okD, Bool.and_eq_true, decide_eq_true_eq] at ok
    obtain ⟨hlen, ok⟩ := ok
    rw [depD] at dp
    have e0 : s0 = .val (.tup ds) := by
      rcases acc0 h0 with rfl | ⟨_, e, _⟩
      · rfl
      · cases e
    have e1 : s1 = .val (.tup ds) := by
      rcases acc0 h1 with rfl | ⟨_, e, _⟩
      · rfl
      · cases e
    subst e0 e1
    walk_at "es"
    refine for_range1 ds.length (fun i G => ∃ s3, G = [.val (.tup ds), .val (.tup ds), .val (.bl true), s3]) ?_ ?_ ?_
    · walk_at "es"
      exact .a ⟨rfl, by omega, by omega, _, rfl⟩
    · rintro i G hi ⟨s3, rfl⟩
      have hi' : i < ds.length := by omega
      have g := List.getElem?_eq_getElem hi'
      walk_at "es"
      refine ixp rfl (atI_of (j := i) rfl g) ?_
      walk_at "es"
      refine ixp rfl (atI_of (j := i) rfl g) ?_
      walk_at "es"
      refine .a (hap _ _ (okAll_at ok g) (by have := depAll_at g; omega) ?_)
      walk_at "es"
      exact .a ⟨_, rfl⟩
    · rintro G ⟨s3, rfl⟩
      walk_at "es"
      exact p
  | lst ds =>
    rw [okD, Bool.and_eq_true, decide_eq_true_eq] at ok
    obtain ⟨hlen, ok⟩ := ok
    rw [depD] at dp
    have e0 : s0 = .val (.lst ds) ∨ s0 = .acc ds := by
      rcases acc0 h0 with rfl | ⟨_, e, rfl⟩
      · exact .inl rfl
      · cases e; exact .inr rfl
    have e1 : s1 = .val (.lst ds) ∨ s1 = .acc ds := by
      rcases acc0 h1 with rfl | ⟨_, e, rfl⟩
      · exact .inl rfl
      · cases e; exact .inr rfl
    rcases e0 with rfl | rfl <;> rcases e1 with rfl | rfl
    · walk_at "es"
      refine for_range1 ds.length (fun i G => ∃ s3, G = [.val (.lst ds), .val (.lst ds), .val (.bl false), s3]) ?_ ?_ ?_
      · walk_at "es"
        exact .a ⟨rfl, by omega, by omega, _, rfl⟩
      · rintro i G hi ⟨s3, rfl⟩
        have hi' : i < ds.length := by omega
        have g := List.getElem?_eq_getElem hi'
        walk_at "es"
        refine ixp rfl (atI_of (j := i) rfl g) ?_
        walk_at "es"
        refine ixp rfl (atI_of (j := i) rfl g) ?_
        walk_at "es"
        refine .a (hap _ _ (okAll_at ok g) (by have := depAll_at g; omega) ?_)
        walk_at "es"
        exact .a ⟨_, rfl⟩
      · rintro G ⟨s3, rfl⟩
        walk_at "es"
        exact p
    · walk_at "es"
      refine for_range1 ds.length (fun i G => ∃ s3, G = [.val (.lst ds), .acc ds, .val (.bl false), s3]) ?_ ?_ ?_
      · walk_at "es"
        exact .a ⟨rfl, by omega, by omega, _, rfl⟩
      · rintro i G hi ⟨s3, rfl⟩
        have hi' : i < ds.length := by omega
        have g := List.getElem?_eq_getElem hi'
        walk_at "es"
        refine ixp rfl (atI_of (j := i) rfl g) ?_
        walk_at "es"
        refine ixp rfl (atI_of (j := i) rfl g) ?_
        walk_at "es"
        refine .a (hap _ _ (okAll_at ok g) (by have := depAll_at g; omega) ?_)
        walk_at "es"
        exact .a ⟨_, rfl⟩
      · rintro G ⟨s3, rfl⟩
        walk_at "es"
        exact p
    · walk_at "es"
      refine for_range1 ds.length (fun i G => ∃ s3, G = [.acc ds, .val (.lst ds), .val (.bl false), s3]) ?_ ?_ ?_
      · walk_at "es"
        exact .a ⟨rfl, by omega, by omega, _, rfl⟩
      · rintro i G hi ⟨s3, rfl⟩
        have hi' : i < ds.length := by omega
        have g := List.getElem?_eq_getElem hi'
        walk_at "es"
        refine ixp rfl (atI_of (j := i) rfl g) ?_
        walk_at "es"
        refine ixp rfl (atI_of (j := i) rfl g) ?_
        walk_at "es"
        refine .a (hap _ _ (okAll_at ok g) (by have := depAll_at g; omega) ?_)
        walk_at "es"
        exact .a ⟨_, rfl⟩
      · rintro G ⟨s3, rfl⟩
        walk_at "es"
        exact p
    · walk_at "es"
      refine for_range1 ds.length (fun i G => ∃ s3, G = [.acc ds, .acc ds, .val (.bl false), s3]) ?_ ?_ ?_
      · walk_at "es"
        exact .a ⟨rfl, by omega, by omega, _, rfl⟩
      · rintro i G hi ⟨s3, rfl⟩
        have hi' : i < ds.length := by omega
        have g := List.getElem?_eq_getElem hi'
        walk_at "es"
        refine ixp rfl (atI_of (j := i) rfl g) ?_
        walk_at "es"
        refine ixp rfl (atI_of (j := i) rfl g) ?_
        walk_at "es"
        refine .a (hap _ _ (okAll_at ok g) (by have := depAll_at g; omega) ?_)
        walk_at "es"
        exact .a ⟨_, rfl⟩
      · rintro G ⟨s3, rfl⟩
        walk_at "es"
        exact p
end Ab

set_option maxHeartbeats 2000000
namespace Ab
open PySem L2
noncomputable def rJoin (K : PySem.W.Frag) : V → List V → Hp → VK → Prop := fun x xs H Q => ∃ a p, ∃ ys : List Str, x = .str a ∧ xs = [.ref p] ∧ (SqL K H p (ys.map V.str) ∨ SqT K H p (ys.map V.str)) ∧
  (ys.map (·.length)).sum + ys.length * a.length ≤ 16777216 ∧ Q (.str (Txt.join a ys)) H
theorem pe_joinR {X : Cx} {o e : Expr} {to te : TE} {apos pos : Pos} (ho : PE X o to) (he : PE X e te) (hs : starEach [e] X.env = [(false, eval e X.env)] := by rfl) (hbase : attributeBase o "join" X.env (eval o X.env) = eval o X.env := by rfl) (hline : (apos.endLine == pos.line) = true := by rfl) :
    PE X (.Call (.Attribute o "join" apos) [e] [] pos) (tM1 (rJoin X.K) to te) := pe_join ho he hs hbase hline
theorem rawsI_str {K : PySem.W.Frag} {B : Hp} {vs : List V} {ys : List Str} (h : IsA K B vs (ys.map Dt.str)) : vs = ys.map V.str := by
  have : ys.map Dt.str = (ys.map V.str).map Dt.raw := by rw [List.map_map]; rfl
  rw [this] at h
  exact h.rawsI
theorem we_join {K : PySem.W.Frag} {Γ : List Sl} {Post : Re → List Sl → Prop} {to te : TE} (h : WE K to Γ fun r Γ1 => ∃ a : Str, r = .val (.str a) ∧ WE K te Γ1 fun z Γ2 => Hold (∃ ys : List Str, lstOf Γ2 z = some (ys.map Dt.str) ∧ (ys.map (·.length)).sum + ys.length * a.length ≤ 16777216 ∧ Post (.val (.str (Txt.join a ys))) Γ2)) :
    WE K (tM1 (rJoin K) to te) Γ Post := fun σ B H E Q q => by
  refine h σ B H E _ fun x B1 H1 r Γ1 g1 k1 p1 => ?_
  obtain ⟨a, rfl, p1⟩ := p1
  cases Is.rawI k1
  refine ⟨⟨a, rfl⟩, ?_⟩
  refine p1 σ B1 H1 g1.env _ fun y B2 H2 z Γ2 g2 k2 p2 => ?_
  obtain ⟨ys, hl, hz, p⟩ := p2.get
  obtain ⟨b, vs, rfl, hq, ha⟩ := rv_lst g2.env k2.rv hl
  rw [rawsI_str ha] at hq
  exact ⟨a, b, ys, rfl, rfl, .inl hq, hz, q _ B2 H2 _ Γ2 (g1.trans g2) (.raw _) p⟩
noncomputable def rGtS : R2 := fun x y H Q => ∃ i j : Str, x = .str i ∧ y = .str j ∧ Q (.bl (decide (j.cps.toList < i.cps.toList))) H
theorem op_gtS {X : Cx} : OpR X (compareOp .Gt) rGtS := op_gt_str
theorem we_gtS {K : PySem.W.Frag} {Γ : List Sl} {Post : Re → List Sl → Prop} {ta tb : TE} (h : WE K ta Γ fun ra Γ1 => WE K tb Γ1 fun rb Γ2 => ∃ s t : Str, ra = .val (.str s) ∧ rb = .val (.str t) ∧ Post (.val (.bl (decide (t.cps.toList < s.cps.toList)))) Γ2) : WE K (tOp rGtS ta tb) Γ Post :=
  we_two' (we_mono h fun ra Γ1 h1 => we_mono h1 fun rb Γ2 hp => fun σ B H x y E kx ky Q q => by
    obtain ⟨s, t, rfl, rfl, p⟩ := hp
    cases Is.rawI kx; cases Is.rawI ky
    exact ⟨s, t, rfl, rfl, q _ B H _ Γ2 (.refl E) (.raw _) p⟩)
noncomputable def KTup (K : PySem.W.Frag) (a : Addr) (xs : List V) : Prop := ∃ (o : Obj) (its : Array Value) (n : Nat), K.lookup a = some o ∧ o.cls = .type "tuple" ∧ o.data = .seq its n ∧ its.size ≤ sizeLine ∧ Vals xs its.toList
theorem we_ktup {K : PySem.W.Frag} {Γ : List Sl} {Post : Re → List Sl → Prop} {c : Addr} {xs : List V} (h : KTup K c xs) (p : Post (.val (.tup (xs.map Dt.raw))) Γ) : WE K (tC (.ref c)) Γ Post := fun σ B H E Q q => by
  have ha : IsA K B xs (xs.map Dt.raw) := IsA.raws
  exact q _ B H (.val _) Γ (.refl E) (Is.tup (.inr h) ha.len ha.at_) p
theorem we_extend {K : PySem.W.Frag} {Γ : List Sl} {te : TE} {i : Nat} {ds0 : List Dt} {Post : Re → List Sl → Prop} (h0 : Γ[i]? = some (.acc ds0)) (h : WE K te Γ fun z Γ1 => ∃ es ds, lstOf Γ1 z = some es ∧ z.isScr = false ∧ Γ1[i]? = some (.acc ds) ∧ ds.length + es.length ≤ 1000000 ∧ NormP (Γ1.set i (.acc (ds ++ es))) (Post (.val .non))) :
    WE K (tBM K "list" rExtend (tVar i) (tCons te tNil)) Γ Post := fun σ B H E Q q => by
  obtain ⟨l, vs, e0, e1, e2, k0⟩ := E.acc i ds0 h0
  refine ⟨.ref l, e0, .inl ⟨rfl, vs, .inl (.inl e1)⟩, ?_⟩
  refine h σ B H E _ fun y B1 H1 z Γ1 g k p => ?_
  obtain ⟨es, ds, hl, hs, hi, hz, p⟩ := p
  obtain ⟨l', us, f0, f1, f2, k1⟩ := g.env.acc i ds hi
  rw [e0] at f0; cases f0
  obtain ⟨b, zs, rfl, hb, kz⟩ := rv_lstH g.env k.rv hl hs
  refine ⟨l, b, us, zs, rfl, rfl, f1, hb, Nat.le_trans (by rw [k1.len, kz.len]; exact hz) (by decide), ?_⟩
  have g2 := Go.put g.env hi e0 (k1.append kz)
  exact q .non B1 _ (.val .non) _ (g.trans g2) (Is.raw _) p
theorem at_lit {α : Type} {f : α → Dt} {xs : List α} {k : Int} (h0 : 0 ≤ k) (h1 : k < xs.length) : ∃ v, v ∈ xs ∧ atI (xs.map f) k = some (f v) := by
  have hl : k.toNat < xs.length := by omega
  exact ⟨xs[k.toNat], List.getElem_mem hl, atI_of (j := k.toNat) (by omega) (by rw [List.getElem?_map, List.getElem?_eq_getElem hl]; rfl)⟩
end Ab

namespace Ab
open PySem L2
section
variable {K : PySem.W.Frag} {B H : Hp} {v : V} {C : Addr} {gs : List (Str × Dt)}
theorem Is.objR (h : Is K B v (.obj C gs)) : ∃ a dx fs, v = .ref a ∧ B a = some (.ins C dx fs) ∧ (∀ f : Str, (fs.lookup f).isSome = (gs.lookup f).isSome) ∧ ∀ (f : Str) w d, fs.lookup f = some w → gs.lookup f = some d → Is K B w d := by
  cases h with
  | obj h hk hi => exact ⟨_, _, _, rfl, h, hk, hi⟩
theorem lk_none {f : Str} {fs : List (Str × V)} (hk : (fs.lookup f).isSome = (gs.lookup f).isSome) (h : gs.lookup f = none) : fs.lookup f = none := by
  rw [h] at hk
  cases q : fs.lookup f with
  | none => rfl
  | some w => rw [q] at hk; cases hk
theorem lk_some {f : Str} {fs : List (Str × V)} {d : Dt} (hk : (fs.lookup f).isSome = (gs.lookup f).isSome) (h : gs.lookup f = some d) : ∃ w, fs.lookup f = some w := by
  rw [h] at hk
  cases q : fs.lookup f with
  | none => rw [q] at hk; cases hk
  | some w => exact ⟨w, rfl⟩
end
section
variable {K : PySem.W.Frag} {Γ : List Sl} {Post : Re → List Sl → Prop} {ta tb te : TE}
theorem asOk_val {σ : L2.St} {m m' : Addr → Prop} {B' H H' : Hp} {vs : List V} {ds : List Dt} (h : IsA K B' vs ds) : AsOk K σ m m' B' H H' vs (ds.map Re.val) := by
  refine ⟨by rw [h.len, List.length_map], fun i v r a b => ?_, fun i j es fs l a => ?_⟩
  · rw [List.getElem?_map] at b
    cases q : ds[i]? with
    | none => rw [q] at b; cases b
    | some d => rw [q] at b; cases b; exact h.at_ i v d a q
  · rw [List.getElem?_map] at a
    cases q : ds[i]? with
    | none => rw [q] at a; cases a
    | some d => rw [q] at a; cases a
theorem owns_vals : ∀ ds : List Dt, ownsOf (ds.map Re.val) = []
  | [] => rfl
  | d :: r => by show ownsOf (Re.val d :: r.map Re.val) = []; exact owns_vals r
theorem back_vals : ∀ (ds : List Dt) (as G : List Sl), putBack (ds.map Re.val) as G = G
  | [], as, G => by cases as <;> rfl
  | d :: r, [], G => rfl
  | d :: r, s :: t, G => back_vals r t G
theorem args_vals {Γ : List Sl} (ds : List Dt) : (ds.map Re.val).map (argSl Γ) = ds.map Sl.val := by rw [List.map_map]; rfl
theorem we_meth {m : Str} {C : Addr} {ap : AP} {E0 : XK} {t : TA} (h : WE K ta Γ fun r Γ1 => ∃ gs, r = .val (.obj C gs) ∧ gs.lookup m = none ∧ WD K t Γ1 fun ds Γ2 => Hold (ap (.val (.obj C gs) :: ds.map Sl.val) fun r as' => Post r Γ2)) : WE K (tMeth C m (toSp K ap) [] E0 ta t) Γ Post := fun σ B H E Q q => by
  refine h σ B H E _ fun x B1 H1 r Γ1 g1 k1 p1 => ?_
  obtain ⟨gs, rfl, hl, p1⟩ := p1
  obtain ⟨a, dx, fs, rfl, hb, hk, hi⟩ := Is.objR k1
  refine ⟨a, dx, fs, rfl, g1.env.bh _ _ hb, lk_none (hk m) hl, ?_⟩
  refine p1 σ B1 H1 g1.env _ fun vs B2 H2 ds Γ2 g2 k2 p2 => ?_
  rw [List.append_nil]
  have k3 : IsA K B2 (V.ref a :: vs) (.obj C gs :: ds) := .cons (Is.mono g2.mv.bb k1) k2
  refine call_core E (g1.trans g2) (asOk_val k3) (by rw [owns_vals]; rfl) (Post := Post) ?_ q
  rw [args_vals]
  simp only [back_vals]
  exact p2.get
noncomputable def rOwn (C : Addr) (sp : Sp) (E : XK) : R2 := fun x y H Q => ∃ a b dx dy fs gs, x = .ref a ∧ y = .ref b ∧ H a = some (.ins C dx fs) ∧ H b = some (.ins C dy gs) ∧ sp [x, y] H Q E
theorem we_own2 {C : Addr} {ap : AP} {E0 : XK} (h : WE K ta Γ fun ra Γ1 => ∃ gs, ra = .val (.obj C gs) ∧ WE K tb Γ1 fun rb Γ2 => ∃ hs, rb = .val (.obj C hs) ∧ Hold (ap [.val (.obj C gs), .val (.obj C hs)] fun r as' => Post r Γ2)) : WE K (tOp (rOwn C (toSp K ap) E0) ta tb) Γ Post := fun σ B H E Q q => by
  refine h σ B H E _ fun x B1 H1 ra Γ1 g1 k1 p1 => ?_
  obtain ⟨gs, rfl, p1⟩ := p1
  refine p1 σ B1 H1 g1.env _ fun y B2 H2 rb Γ2 g2 k2 p2 => ?_
  obtain ⟨hs, rfl, p2⟩ := p2
  have k1' := Is.mono g2.mv.bb k1
  obtain ⟨a, dx, fs, rfl, hb, _, _⟩ := Is.objR k1'
  obtain ⟨b, dy, fs', rfl, hb', _, _⟩ := Is.objR k2
  refine ⟨a, b, dx, dy, fs, fs', rfl, rfl, g2.env.bh _ _ hb, g2.env.bh _ _ hb', ?_⟩
  have k3 : IsA K B2 [V.ref a, V.ref b] [.obj C gs, .obj C hs] := .cons k1' (.cons k2 .nil)
  refine call_core E (g1.trans g2) (asOk_val k3) rfl (Post := Post) ?_ q
  rw [args_vals]
  simp only [back_vals]
  exact p2.get
structure ClsOk (K : PySem.W.Frag) (C : Addr) : Prop where
  cl : Cls K C
  ha : PySem.W.findIn K (.ref C) "__class__" = some (some (.builtin "object.__class__"))
  hn : PySem.W.specialIn K (.builtin "object.__class__") "__get__" = some (some (.builtin "getset_descriptor.__get__"))
  ht : PySem.W.takesIn K (.builtin "object.__class__") = some true
  hm : PySem.W.mroIn K C (.type "object") = some true
end
structure FsIs (K : PySem.W.Frag) (B : Hp) (fs : List (Str × V)) (gs : List (Str × Dt)) : Prop where
  len : fs.length ≤ gs.length
  hk : ∀ f : Str, (fs.lookup f).isSome = (gs.lookup f).isSome
  hi : ∀ (f : Str) v d, fs.lookup f = some v → gs.lookup f = some d → Is K B v d
theorem putF_len (f : Str) (v : V) : ∀ fs : List (Str × V), (putF f v fs).length ≤ fs.length + 1
  | [] => by simp [putF]
  | (g, x) :: r => by
    unfold putF
    split
    · simp
    · have := putF_len f v r
      simp only [List.length_cons]
      omega
theorem FsIs.mono {K : PySem.W.Frag} {B B' : Hp} {fs : List (Str × V)} {gs : List (Str × Dt)} (e : Same B B') (h : FsIs K B fs gs) : FsIs K B' fs gs := ⟨h.len, h.hk, fun f v d a b => (h.hi f v d a b).mono e⟩
theorem FsIs.put {K : PySem.W.Frag} {B : Hp} {fs : List (Str × V)} {gs : List (Str × Dt)} {f : Str} {v : V} {d : Dt} (h : FsIs K B fs gs) (hn : gs.lookup f = none) (hv : Is K B v d) : FsIs K B (putF f v fs) (gs ++ [(f, d)]) := by
  have lk : ∀ g : Str, (gs ++ [(f, d)]).lookup g = if g = f then some d else gs.lookup g := fun g => by
    by_cases hg : g = f
    · subst hg
      rw [if_pos rfl]
      clear h
      induction gs with
      | nil => simp [List.lookup]
      | cons x r ih =>
        obtain ⟨k, y⟩ := x
        have hgk : (g == k) = false := by
          cases q : g == k with
          | false => rfl
          | true => simp only [List.lookup, q] at hn; cases hn
        simp only [List.lookup, hgk] at hn
        simp only [List.cons_append, List.lookup, hgk]
        exact ih hn
    · rw [if_neg hg]
      clear h hn
      have hb : (g == f) = false := beq_eq_false_iff_ne.mpr hg
      induction gs with
      | nil => simp [List.lookup, hb]
      | cons x r ih =>
        obtain ⟨k, y⟩ := x
        cases q : g == k with
        | false => simp only [List.cons_append, List.lookup, q]; exact ih
        | true => simp only [List.cons_append, List.lookup, q]
  refine ⟨?_, fun g => ?_, fun g w e a b => ?_⟩
  · have := putF_len f v fs
    have := h.len
    rw [List.length_append, List.length_singleton]
    omega
  · rw [lookup_putF, lk]
    split
    · rfl
    · exact h.hk g
  · rw [lookup_putF] at a
    rw [lk] at b
    split at a
    · rename_i hg
      rw [if_pos hg] at b
      cases a; cases b
      exact hv
    · rename_i hg
      rw [if_neg hg] at b
      exact h.hi g w e a b
noncomputable abbrev AI := List Dt → (List (Str × Dt) → Prop) → Prop
noncomputable def toSpI (K : PySem.W.Frag) (C : Addr) (ai : AI) : Sp := fun vs H Q _ => ∃ x dx ws B ds Post, vs = V.ref x :: ws ∧ H x = some (.ins C dx []) ∧ B x = none ∧ Same B H ∧ IsA K B ws ds ∧ ai ds Post ∧
  ∀ B' H' fs gs, Mv (fun a => a = x) B H B' H' → Same B' H' → H' x = some (.ins C dx fs) → B' x = none → FsIs K B' fs gs → Post gs → Q .non H'
structure Mg (K : PySem.W.Frag) (C x dx : Addr) (σ : L2.St) (B H : Hp) (Γ : List Sl) (gs : List (Str × Dt)) : Prop where
  env : Env K B H σ Γ
  sl : σ[0]? = some (some (.ref x))
  un : Γ[0]? = some .un
  no : ¬ Own σ Γ x
  hx : ∃ fs, H x = some (.ins C dx fs) ∧ FsIs K B fs gs
  bx : B x = none
structure GoI (K : PySem.W.Frag) (C x dx : Addr) (σ : L2.St) (B H : Hp) (Γ : List Sl) (σ' : L2.St) (B' H' : Hp) (Γ' : List Sl) (gs' : List (Str × Dt)) : Prop where
  mv : Mv (fun a => Own σ Γ a ∨ a = x) B H B' H'
  new : ∀ a, Own σ' Γ' a → Own σ Γ a ∨ H a = none
  mg : Mg K C x dx σ' B' H' Γ' gs'
theorem GoI.trans {K : PySem.W.Frag} {C x dx : Addr} {σ σ1 σ2 : L2.St} {B H B1 H1 B2 H2 : Hp} {Γ Γ1 Γ2 : List Sl} {gs1 gs2 : List (Str × Dt)} (a : GoI K C x dx σ B H Γ σ1 B1 H1 Γ1 gs1) (b : GoI K C x dx σ1 B1 H1 Γ1 σ2 B2 H2 Γ2 gs2) : GoI K C x dx σ B H Γ σ2 B2 H2 Γ2 gs2 :=
  ⟨a.mv.trans (fun c hc => hc.elim (fun h => (a.new c h).imp .inl id) fun h => .inl (.inr h)) b.mv, fun c h => (b.new c h).elim (fun z => a.new c z) fun z => (a.mv.back z).elim (fun q => q.elim .inl fun e => by
    subst e
    obtain ⟨fs, hf, _⟩ := a.mg.hx
    rw [hf] at z; cases z) .inr, b.mg⟩
section
variable {K : PySem.W.Frag} {C : Addr} {Γ : List Sl} {gs : List (Str × Dt)} {P : List (Str × Dt) → List Sl → Prop} {t u : TS} {te : TE}
variable {Pg : Program} {w : World} {mg : Str → Option Value} {base : Heap}
theorem we_make {Post : Re → List Sl → Prop} {ai : AI} {E0 : XK} {t : TA} (h : WD K t Γ fun ds Γ1 => Hold (ai ds fun gs => Post (.val (.obj C gs)) Γ1)) : WE K (tMake C (toSpI K C ai) [] E0 t) Γ Post := fun σ B H E Q q => by
  refine h σ B H E _ fun vs B1 H1 ds Γ1 g1 k1 p1 => ?_
  intro x dx hx hdx hne
  rw [List.append_nil]
  have hxx : upd (upd H1 dx (.own x)) x (.ins C dx []) x = some (.ins C dx []) := upd_same
  have b1x : B1 x = none := g1.env.base_none hx
  have s12 : ∀ a o, H1 a = some o → upd (upd H1 dx (.own x)) x (.ins C dx []) a = some o := fun a o e => by
    rw [upd_ne (ne_of_none e hx), upd_ne (ne_of_none e hdx)]; exact e
  refine ⟨x, dx, vs, B1, ds, _, rfl, hxx, b1x, fun a o e => s12 a o (g1.env.bh a o e), k1, p1.get, fun B' H' fs gs mv sb hx' bx' hf p => ⟨rfl, ?_⟩⟩
  have sBB : Same B' (upd B' x (.ins C dx fs)) := fun a o e => by rw [upd_ne (ne_of_none e bx')]; exact e
  have kept : ∀ a o, H1 a = some o → H' a = some o := fun a o e => mv.kp a o (fun z => by subst z; rw [hx] at e; cases e) (s12 a o e)
  have offB : ∀ a, H1 a ≠ none → B1 a = none → B' a = none := fun a ha hb => by
    have hne : a ≠ x := fun z => by subst z; exact ha hx
    refine mv.off a hne ?_ hb
    cases qq : H1 a with
    | none => exact absurd qq ha
    | some o => rw [s12 a o qq]; exact fun z => nomatch z
  have E2 : Env K (upd B' x (.ins C dx fs)) H' σ Γ1 := by
    refine ⟨g1.env.len, fun a o e => ?_, fun i d hi => ?_, fun i es hi => ?_, g1.env.sep⟩
    · by_cases ha : a = x
      · subst ha; rw [upd_same] at e; cases e; exact hx'
      · rw [upd_ne ha] at e; exact sb a o e
    · obtain ⟨v, e1, e2⟩ := g1.env.val i d hi
      exact ⟨v, e1, e2.mono (mv.bb.trans sBB)⟩
    · obtain ⟨l, us, e1, e2, e3, e4⟩ := g1.env.cel i es hi
      have hl : l ≠ x := fun z => by subst z; rw [hx] at e2; cases e2
      exact ⟨l, us, e1, kept l _ e2, by rw [upd_ne hl]; exact offB l (by rw [e2]; exact fun z => nomatch z) e3, e4.mono (mv.bb.trans sBB)⟩
  have g2 : Go K σ B1 H1 Γ1 (upd B' x (.ins C dx fs)) H' Γ1 := by
    refine ⟨⟨fun a o _ e => kept a o e, mv.bb.trans sBB, fun a na ha hb => ?_⟩, fun i es hi => ⟨es, hi⟩, E2⟩
    have hne : a ≠ x := fun z => by subst z; exact ha hx
    rw [upd_ne hne]; exact offB a ha hb
  have hf' := hf.mono sBB
  exact q (.ref x) _ H' (.val (.obj C gs)) Γ1 (g1.trans g2) (Is.obj upd_same hf'.hk hf'.hi) p
end
section
variable {K : PySem.W.Frag} {Γ : List Sl} {Post : Re → List Sl → Prop} {ta : TE}
noncomputable def FldP (K : PySem.W.Frag) (f : Str) (r : Re) (Γ : List Sl) (Post : Re → List Sl → Prop) : Prop := ∃ C gs d, r = .val (.obj C gs) ∧ Cls K C ∧ NoAttr K C f ∧ gs.lookup f = some d ∧ Post (.val d) Γ
theorem we_fldG {f : Str} (h : WE K ta Γ fun r Γ1 => FldP K f r Γ1 Post) : WE K (tFld K ta f) Γ Post := fun σ B H E Q q => by
  refine h σ B H E _ fun x B1 H1 r Γ1 g1 k1 p1 => ?_
  obtain ⟨C, gs, d, rfl, cl, na, hl, p⟩ := p1
  obtain ⟨a, dx, fs, rfl, hb, hk, hi⟩ := Is.objR k1
  obtain ⟨w, hw⟩ := lk_some (hk f) hl
  exact ⟨a, C, dx, fs, w, rfl, g1.env.bh _ _ hb, cl, na, hw, q w B1 H1 (.val d) Γ1 g1 (hi f w d hw hl) p⟩
theorem fldp {f : Str} {C : Addr} {gs : List (Str × Dt)} {d : Dt} (cl : Cls K C) (na : NoAttr K C f) (hl : gs.lookup f = some d) (p : Post (.val d) Γ) : FldP K f (.val (.obj C gs)) Γ Post := ⟨C, gs, d, rfl, cl, na, hl, p⟩
noncomputable def MetP (m : Str) (C : Addr) (ap : AP) (t : TA) (K : PySem.W.Frag) (r : Re) (Γ : List Sl) (Post : Re → List Sl → Prop) : Prop := ∃ gs, r = .val (.obj C gs) ∧ gs.lookup m = none ∧ WD K t Γ fun ds Γ2 => Hold (ap (.val (.obj C gs) :: ds.map Sl.val) fun r as' => Post r Γ2)
theorem we_methG {m : Str} {C : Addr} {ap : AP} {E0 : XK} {t : TA} (h : WE K ta Γ fun r Γ1 => MetP m C ap t K r Γ1 Post) : WE K (tMeth C m (toSp K ap) [] E0 ta t) Γ Post := we_meth h
theorem metp {m : Str} {C : Addr} {ap : AP} {t : TA} {gs : List (Str × Dt)} (hl : gs.lookup m = none) (h : WD K t Γ fun ds Γ2 => Hold (ap (.val (.obj C gs) :: ds.map Sl.val) fun r as' => Post r Γ2)) : MetP m C ap t K (.val (.obj C gs)) Γ Post := ⟨gs, rfl, hl, h⟩
theorem kit_self {C : Addr} : PySem.W.kitOne K (.ref C) (.ref C) = some true := by
  unfold PySem.W.kitOne
  rw [if_pos (beq_iff_eq.mpr rfl)]
noncomputable def IsoP (K : PySem.W.Frag) (D : Addr) (r : Re) (Γ : List Sl) (Post : Re → List Sl → Prop) : Prop := ∃ C gs b, r = .val (.obj C gs) ∧ ClsOk K C ∧ PySem.W.kitOne K (.ref C) (.ref D) = some b ∧ Post (.val (.bl b)) Γ
theorem we_isoG {D : Addr} (h : WE K ta Γ fun r Γ1 => IsoP K D r Γ1 Post) : WE K (tCB (rIsi K) (tCons ta (tCons (tC (.ref D)) tNil))) Γ Post :=
  we_one' (r := fun x H Q => rIsi K [x, .ref D] H Q) (we_mono h fun r Γ1 ⟨C, gs, b, e, co, hk, p⟩ => fun σ B H x E kx Q q => by
    subst e
    obtain ⟨a, dx, fs, rfl, hb, _, _⟩ := Is.objR kx
    exact ⟨.ref a, .ref D, .ref C, .ref D, b, rfl, .own D, .base (.ins (E.bh _ _ hb) co.cl co.ha co.hn co.ht co.hm), hk, q _ B H _ Γ1 (.refl E) (.raw _) p⟩)
theorem isop {C : Addr} {gs : List (Str × Dt)} (co : ClsOk K C) (p : Post (.val (.bl true)) Γ) : IsoP K C (.val (.obj C gs)) Γ Post := ⟨C, gs, true, rfl, co, kit_self, p⟩
end
end Ab

namespace Ab
open PySem L2
noncomputable abbrev RunOk (K : PySem.W.Frag) (pin : List Nat) (t : TS) (N : Nat) (ap : AP) : Prop := ∀ (as : List Sl) (Post : Re → List Sl → Prop), ap as Post → WS K pin t (as ++ List.replicate (N - as.length) .un) ⟨fun G => Post (.val .non) (exitArgs pin G as), fun r G => Post r (exitArgs pin G as), fun _ => False, fun _ => False, .no⟩
theorem cut_mid {α : Type} {f : α → Dt} {xs : List α} {a b : Nat} (h : a ≤ b) (h2 : b ≤ xs.length) : cutD (xs.map f) (some (a : Int)) (some (b : Int)) = ((xs.drop a).take (b - a)).map f := by
  unfold cutD
  rw [HT.sIx_nat, HT.sIx_nat, List.length_map, Nat.min_eq_left h2, Nat.min_eq_left (show a ≤ xs.length by omega), ← List.map_drop, ← List.map_take]
noncomputable def rSumG (K : PySem.W.Frag) : List V → Hp → VK → Prop := fun vs H Q => ∃ (a : Addr) (ns : List Int), vs = [V.ref a] ∧ (SqL K H a (ns.map V.int) ∨ SqT K H a (ns.map V.int)) ∧ Q (.int ns.sum) H
theorem we_sumG {K : PySem.W.Frag} {Γ : List Sl} {Post : Re → List Sl → Prop} {te : TE} (h : WE K te Γ fun r Γ1 => Hold (∃ ns : List Int, seqOf Γ1 r = some (ns.map Dt.int) ∧ Post (.val (.int ns.sum)) Γ1)) : WE K (tCB (rSumG K) (tCons te tNil)) Γ Post :=
  we_cb1 (we_mono h fun r Γ1 hp => fun σ B H x E kx Q q => by
    obtain ⟨ns, hs, p⟩ := hp.get
    obtain ⟨a, vs, rfl, hq, ha⟩ := rv_seq E kx hs
    have e : vs = ns.map V.int := IsA.rawsI (xs := ns.map V.int) (by rw [List.map_map]; exact ha)
    subst e
    exact ⟨a, ns, rfl, hq, q _ B H _ Γ1 (.refl E) (.raw _) p⟩)
theorem normD_cons {a : Dt} {l t t' : List Dt} (e : l = a :: t) (et : t = t') : l = a :: t' := by
  subst et
  exact e
theorem slp_tE {Γ : List Sl} {Post : Re → List Sl → Prop} {ds es : List Dt} {lo hi : Option Int} (h : cutD ds lo hi = es) (p : Post (.val (.tup es)) Γ) : SlP (.val (.tup ds)) lo hi Γ Post := slp_t (by rw [h]; exact p)
theorem addp_tE {Γ : List Sl} {Post : Re → List Sl → Prop} {ds es fs : List Dt} (hz : ds.length + es.length ≤ 1000000) (h : ds ++ es = fs) (p : Post (.val (.tup fs)) Γ) : AddP (.val (.tup ds)) (.val (.tup es)) Γ Post := addp_t hz (by rw [h]; exact p)
theorem we_clearN {K : PySem.W.Frag} {Γ : List Sl} {i : Nat} {ds : List Dt} {Post : Re → List Sl → Prop} (h0 : Γ[i]? = some (.acc ds)) (p : NormP (Γ.set i (.acc [])) (Post (.val .non))) : WE K (tBM0 K "list" rClear (tVar i)) Γ Post := fun σ B H E Q q => by
  obtain ⟨l, vs, e0, e1, e2, k0⟩ := E.acc i ds h0
  exact ⟨.ref l, e0, .inl ⟨rfl, vs, .inl (.inl e1)⟩, l, vs, rfl, rfl, e1, q .non B _ (.val .non) _ (Go.put E h0 e0 .nil) (Is.raw _) p⟩
noncomputable def PoolUp (b : Int) (ds : List Dt) : Prop := ∃ c, PoolIs c ds ∧ 0 ≤ c ∧ c ≤ b
theorem PoolIs.up {ds : List Dt} {c b : Int} (h : PoolIs c ds) (h0 : 0 ≤ c) (hb : c ≤ b) : PoolUp b ds := ⟨c, h, h0, hb⟩
theorem PoolUp.mono {ds : List Dt} {a b : Int} (h : PoolUp a ds) (hb : a ≤ b) : PoolUp b ds := by obtain ⟨c, h1, h2, h3⟩ := h; exact ⟨c, h1, h2, by omega⟩
theorem tk {ds : List Dt} {b n : Int} {Post : Re → List Sl → Prop} (h : PoolUp b ds) (hb : b < 900000000) (hn : 0 < n) (hn2 : n < 18446744073709551616) (k : ∀ ds' g, PoolUp (b + 1) ds' → 0 ≤ g → g < n → Post (.val (.int g)) [.acc ds', .val (.int n)]) : ap_take [.acc ds, .val (.int n)] Post := by
  obtain ⟨c, h1, h2, h3⟩ := h
  exact ⟨ds, c, n, rfl, h1, h2, by omega, hn, hn2, fun ds' g h' g0 g1 => k ds' g ⟨c + 1, h', by omega, by omega⟩ g0 g1⟩
theorem str_ne {a b : Str} (h : ¬ a = b) : ¬ (V.str a = V.str b) := fun e => h (by cases e; rfl)
theorem eqp_st {Γ : List Sl} {Post : Re → List Sl → Prop} {a : Str} (p : Post (.val (.bl true)) Γ) : EqP false (.val (.str a)) (.val (.str a)) Γ Post := eqp_s rfl (by rw [decide_eq_true rfl]; exact p)
theorem nep_st {Γ : List Sl} {Post : Re → List Sl → Prop} {a : Str} (p : Post (.val (.bl false)) Γ) : EqP true (.val (.str a)) (.val (.str a)) Γ Post := eqp_s rfl (by rw [decide_eq_true rfl]; exact p)
theorem eqp_sf {Γ : List Sl} {Post : Re → List Sl → Prop} {a b : Str} (h : ¬ a = b) (p : Post (.val (.bl false)) Γ) : EqP false (.val (.str a)) (.val (.str b)) Γ Post := eqp_s rfl (by rw [decide_eq_false (str_ne h)]; exact p)
theorem nep_sf {Γ : List Sl} {Post : Re → List Sl → Prop} {a b : Str} (h : ¬ a = b) (p : Post (.val (.bl true)) Γ) : EqP true (.val (.str a)) (.val (.str b)) Γ Post := eqp_s rfl (by rw [decide_eq_false (str_ne h)]; exact p)
noncomputable def pick {α : Type} (o : List Nat) (xs : List α) : List α := o.filterMap fun i => xs[i]?
theorem pick_nil {α : Type} (xs : List α) : pick [] xs = [] := rfl
theorem pick_cons {α : Type} {i : Nat} {o : List Nat} {xs : List α} {x : α} (h : xs[i]? = some x) : pick (i :: o) xs = x :: pick o xs := by
  unfold pick
  rw [List.filterMap_cons_some h]
theorem pick_skip {α : Type} {i : Nat} {o : List Nat} {xs : List α} (h : xs[i]? = none) : pick (i :: o) xs = pick o xs := by
  unfold pick
  rw [List.filterMap_cons_none h]
theorem pick_isA {K : PySem.W.Frag} {B : Hp} {vs : List V} {ds : List Dt} (h : IsA K B vs ds) : ∀ o : List Nat, IsA K B (pick o vs) (pick o ds)
  | [] => .nil
  | i :: o => by
    cases q : ds[i]? with
    | none =>
      have : vs[i]? = none := by
        rw [List.getElem?_eq_none_iff] at q ⊢
        rw [h.len]; exact q
      rw [pick_skip q, pick_skip this]; exact pick_isA h o
    | some d =>
      obtain ⟨v, hv, iv⟩ := h.get q
      rw [pick_cons q, pick_cons hv]
      exact .cons iv (pick_isA h o)
noncomputable def upO (o : List Nat) : List Nat := o.map (· + 1)
theorem pick_up {α : Type} (x : α) (xs : List α) : ∀ o : List Nat, pick (upO o) (x :: xs) = pick o xs
  | [] => rfl
  | i :: o => by
    show pick ((i + 1) :: upO o) (x :: xs) = _
    have e : (x :: xs)[i + 1]? = xs[i]? := List.getElem?_cons_succ
    cases q : xs[i]? with
    | none => rw [pick_skip (e.trans q), pick_skip q]; exact pick_up x xs o
    | some y => rw [pick_cons (e.trans q), pick_cons q, pick_up x xs o]
section
variable {K : PySem.W.Frag} {Γ : List Sl} {Post : Re → List Sl → Prop} {C : Addr}
theorem make_core {σ : L2.St} {B H B1 H1 : Hp} {Γ1 : List Sl} {vs : List V} {ds : List Dt} {ai : AI} {E0 : XK} {Q : VK} (g1 : Go K σ B H Γ B1 H1 Γ1) (k1 : IsA K B1 vs ds) (p1 : ai ds fun gs => Post (.val (.obj C gs)) Γ1)
    (q : ∀ v B' H' r Γ', Go K σ B H Γ B' H' Γ' → ReOk K σ (Own σ Γ) (Own σ Γ') B' H H' v r → Post r Γ' → Q v H') : ∀ x dx, H1 x = none → H1 dx = none → dx ≠ x → toSpI K C ai (.ref x :: vs) (upd (upd H1 dx (.own x)) x (.ins C dx [])) (fun v H3 => v = .non ∧ Q (.ref x) H3) E0 := by
  have t : WE K (tMake C (toSpI K C ai) [] E0 (fun _ H2 R => ∀ B2, Same B2 H2 → R vs H2)) Γ1 Post → True := fun _ => trivial
  intro x dx hx hdx hne
  have hxx : upd (upd H1 dx (.own x)) x (.ins C dx []) x = some (.ins C dx []) := upd_same
  have b1x : B1 x = none := g1.env.base_none hx
  have s12 : ∀ a o, H1 a = some o → upd (upd H1 dx (.own x)) x (.ins C dx []) a = some o := fun a o e => by
    rw [upd_ne (ne_of_none e hx), upd_ne (ne_of_none e hdx)]; exact e
  refine ⟨x, dx, vs, B1, ds, _, rfl, hxx, b1x, fun a o e => s12 a o (g1.env.bh a o e), k1, p1, fun B' H' fs gs mv sb hx' bx' hf p => ⟨rfl, ?_⟩⟩
  have sBB : Same B' (upd B' x (.ins C dx fs)) := fun a o e => by rw [upd_ne (ne_of_none e bx')]; exact e
  have kept : ∀ a o, H1 a = some o → H' a = some o := fun a o e => mv.kp a o (fun z => by subst z; rw [hx] at e; cases e) (s12 a o e)
  have offB : ∀ a, H1 a ≠ none → B1 a = none → B' a = none := fun a ha hb => by
    have hne : a ≠ x := fun z => by subst z; exact ha hx
    refine mv.off a hne ?_ hb
    cases qq : H1 a with
    | none => exact absurd qq ha
    | some o => rw [s12 a o qq]; exact fun z => nomatch z
  have E2 : Env K (upd B' x (.ins C dx fs)) H' σ Γ1 := by
    refine ⟨g1.env.len, fun a o e => ?_, fun i d hi => ?_, fun i es hi => ?_, g1.env.sep⟩
    · by_cases ha : a = x
      · subst ha; rw [upd_same] at e; cases e; exact hx'
      · rw [upd_ne ha] at e; exact sb a o e
    · obtain ⟨v, e1, e2⟩ := g1.env.val i d hi
      exact ⟨v, e1, e2.mono (mv.bb.trans sBB)⟩
    · obtain ⟨l, us, e1, e2, e3, e4⟩ := g1.env.cel i es hi
      have hl : l ≠ x := fun z => by subst z; rw [hx] at e2; cases e2
      exact ⟨l, us, e1, kept l _ e2, by rw [upd_ne hl]; exact offB l (by rw [e2]; exact fun z => nomatch z) e3, e4.mono (mv.bb.trans sBB)⟩
  have g2 : Go K σ B1 H1 Γ1 (upd B' x (.ins C dx fs)) H' Γ1 := by
    refine ⟨⟨fun a o _ e => kept a o e, mv.bb.trans sBB, fun a na ha hb => ?_⟩, fun i es hi => ⟨es, hi⟩, E2⟩
    have hne : a ≠ x := fun z => by subst z; exact ha hx
    rw [upd_ne hne]; exact offB a ha hb
  have hf' := hf.mono sBB
  exact q (.ref x) _ H' (.val (.obj C gs)) Γ1 (g1.trans g2) (Is.obj upd_same hf'.hk hf'.hi) p
theorem we_makeD {dvs : List V} {ai : AI} {E0 : XK} {t : TA} (h : WD K t Γ fun ds Γ1 => Hold (ai (ds ++ dvs.map Dt.raw) fun gs => Post (.val (.obj C gs)) Γ1)) : WE K (tMake C (toSpI K C ai) dvs E0 t) Γ Post := fun σ B H E Q q => by
  refine h σ B H E _ fun vs B1 H1 ds Γ1 g1 k1 p1 => ?_
  exact make_core g1 (k1.append .raws) p1.get q
theorem we_makeK {n m : Nat} {o : List Nat} {mz : List V} {ai : AI} {E0 : XK} {t tk : TA} (h : WD K t Γ fun ds Γ1 => WD K tk Γ1 fun es Γ2 => (ds.length == n && es.length == m) = true ∧ Hold (ai (pick o (ds ++ mz.map Dt.raw ++ es)) fun gs => Post (.val (.obj C gs)) Γ2)) :
    WE K (tMakeK C n m (toSpI K C ai) (fun vs zs => pick (0 :: upO o) (vs ++ mz ++ zs)) E0 t tk) Γ Post := fun σ B H E Q q => by
  refine h σ B H E _ fun vs B1 H1 ds Γ1 g1 k1 p1 => ?_
  refine p1 σ B1 H1 g1.env _ fun zs B2 H2 es Γ2 g2 k2 p2 => ?_
  obtain ⟨l0, p⟩ := p2
  rw [Bool.and_eq_true] at l0
  have l1 := beq_iff_eq.mp l0.1
  have l2 := beq_iff_eq.mp l0.2
  refine ⟨by rw [k1.len]; exact l1, by rw [k2.len]; exact l2, fun x dx hx hdx hne => ?_⟩
  have e : pick (0 :: upO o) ((V.ref x :: vs) ++ mz ++ zs) = .ref x :: pick o (vs ++ mz ++ zs) := by
    rw [pick_cons (x := V.ref x) rfl]
    show V.ref x :: pick (upO o) (V.ref x :: (vs ++ mz ++ zs)) = _
    rw [pick_up]
  show toSpI K C ai (pick (0 :: upO o) ((V.ref x :: vs) ++ mz ++ zs)) _ _ _
  rw [e]
  exact make_core (g1.trans g2) (pick_isA (((k1.mono g2.mv.bb).append .raws).append k2) o) p.get q x dx hx hdx hne
structure SMet (K : PySem.W.Frag) (C : Addr) (m : Str) (p f : Addr) : Prop where
  rd : PySem.W.readsIn K C (.type "type") = true
  ga : PySem.W.specialIn K (.ref C) "__getattribute__" = some (some (.builtin "type.__getattribute__"))
  at_ : PySem.W.findCls K (.ref C) (.type "type") m = some (.get (.builtin "staticmethod.__get__") (.ref p) .none (.ref C))
  rc : ∃ rest, PySem.W.recIn K p "staticmethod" = some (.ref f :: rest)
noncomputable def tSMeth (C : Addr) (sp : Sp) (E : XK) (ta : TE) (t : TA) : TE := fun σ H Q => ta σ H fun x H1 => x = .ref C ∧ t σ H1 fun vs H2 => sp (vs ++ []) H2 Q E
theorem we_smeth {ap : AP} {E0 : XK} {ta : TA} (h : WA K ta Γ fun rs Γ1 => nodupB (ownsOf rs) = true ∧ Hold (ap (rs.map (argSl Γ1)) fun r as' => NormP (putBack rs as' Γ1) (Post r))) : WE K (tSMeth C (toSp K ap) E0 (tC (.ref C)) ta) Γ Post := fun σ B H E Q q => by
  refine ⟨rfl, ?_⟩
  exact we_callH (E0 := E0) h σ B H E Q q
end
end Ab

namespace Ab
open PySem L2
section
variable {κ : Type} [DecidableEq κ]
noncomputable def valD (kvs : List (κ × Dt)) (k : κ) : Option Dt := (kvs.find? fun kv => decide (kv.1 = k)).map (·.2)
noncomputable def putE (kvs : List (κ × Dt)) (k : κ) (v : Dt) : List (κ × Dt) :=
  if (kvs.any fun kv => decide (kv.1 = k)) = true then kvs.map (fun kv => if kv.1 = k then (kv.1, v) else kv) else kvs ++ [(k, v)]
variable {K : PySem.W.Frag} {B : Hp}
theorem IsKv.nil : IsKv K B ([] : List (κ × V)) [] := ⟨rfl, .nil⟩
theorem IsKv.cons {k : κ} {v : V} {d : Dt} {xs : List (κ × V)} {kvs : List (κ × Dt)} (h : Is K B v d) (r : IsKv K B xs kvs) : IsKv K B ((k, v) :: xs) ((k, d) :: kvs) :=
  ⟨by simp [r.ks], .cons h r.vs⟩
theorem IsKv.ind {M : List (κ × V) → List (κ × Dt) → Prop} (h0 : M [] []) (h1 : ∀ k v d xs kvs, Is K B v d → IsKv K B xs kvs → M xs kvs → M ((k, v) :: xs) ((k, d) :: kvs)) : ∀ {xs : List (κ × V)} {kvs : List (κ × Dt)}, IsKv K B xs kvs → M xs kvs
  | [], [], _ => h0
  | [], _ :: _, h => by have := h.ks; simp at this
  | _ :: _, [], h => by have := h.ks; simp at this
  | (k, v) :: xs, (k', d) :: kvs, h => by
    have e := h.ks
    simp only [List.map_cons, List.cons.injEq] at e
    obtain ⟨rfl, e⟩ := e
    have hv : Is K B v d := h.vs.at_ 0 v d (by simp) (by simp)
    have hr : IsKv K B xs kvs := ⟨e, by have := h.vs.drop 1; simpa using this⟩
    exact h1 k v d xs kvs hv hr (IsKv.ind h0 h1 hr)
theorem IsKv.len {xs : List (κ × V)} {kvs : List (κ × Dt)} (h : IsKv K B xs kvs) : xs.length = kvs.length := by
  have := congrArg List.length h.ks; simpa using this
theorem IsKv.val {xs : List (κ × V)} {kvs : List (κ × Dt)} (h : IsKv K B xs kvs) (k : κ) : (valV xs k = none ∧ valD kvs k = none) ∨ ∃ v d, valV xs k = some v ∧ valD kvs k = some d ∧ Is K B v d := by
  refine IsKv.ind (M := fun xs kvs => (valV xs k = none ∧ valD kvs k = none) ∨ ∃ v d, valV xs k = some v ∧ valD kvs k = some d ∧ Is K B v d) (.inl ⟨rfl, rfl⟩) (fun k' v d xs kvs hv _ ih => ?_) h
  by_cases e : k' = k
  · exact .inr ⟨v, d, by simp [valV, e], by simp [valD, e], hv⟩
  · simpa [valV, valD, e] using ih
theorem IsKv.valS {xs : List (κ × V)} {kvs : List (κ × Dt)} (h : IsKv K B xs kvs) {k : κ} {d : Dt} (e : valD kvs k = some d) : ∃ v, valV xs k = some v ∧ Is K B v d := by
  rcases h.val k with ⟨_, e2⟩ | ⟨v, d', e1, e2, hv⟩
  · rw [e] at e2; cases e2
  · rw [e] at e2; cases e2; exact ⟨v, e1, hv⟩
theorem IsKv.put {xs : List (κ × V)} {kvs : List (κ × Dt)} (h : IsKv K B xs kvs) (k : κ) {v : V} {d : Dt} (hv : Is K B v d) : IsKv K B (putK xs k v) (putE kvs k d) := by
  have ea : (xs.any fun kv => decide (kv.1 = k)) = (kvs.any fun kv => decide (kv.1 = k)) :=
    IsKv.ind (K := K) (B := B) (M := fun xs kvs => (xs.any fun kv => decide (kv.1 = k)) = (kvs.any fun kv => decide (kv.1 = k))) rfl (fun k' v d xs kvs _ _ ih => by simp only [List.any_cons, ih]) h
  have em : IsKv K B (xs.map (fun kv => if kv.1 = k then (kv.1, v) else kv)) (kvs.map (fun kv => if kv.1 = k then (kv.1, d) else kv)) :=
    IsKv.ind (K := K) (B := B) (M := fun xs kvs => IsKv K B (xs.map (fun kv => if kv.1 = k then (kv.1, v) else kv)) (kvs.map (fun kv => if kv.1 = k then (kv.1, d) else kv))) .nil (fun k' v' d' xs kvs hv' _ ih => by
      by_cases e : k' = k
      · simp only [List.map_cons, e, if_true]; exact .cons hv ih
      · simp only [List.map_cons, e, if_false]; exact .cons hv' ih) h
  have es : IsKv K B (xs ++ [(k, v)]) (kvs ++ [(k, d)]) := ⟨by simp [h.ks], by simpa using h.vs.snoc hv⟩
  unfold putK putE
  rw [ea]
  split
  · exact em
  · exact es
end
section
variable {K : PySem.W.Frag} {σ : L2.St} {B H : Hp} {Γ : List Sl} {v : V} {r : Re}
end
section
variable {K : PySem.W.Frag} {pin : List Nat} {Γ : List Sl} {P : Ps} {Post : Re → List Sl → Prop} {td ty tv tx : TE}
end
section
variable {K : PySem.W.Frag} {Γ : List Sl} {Post : Re → List Sl → Prop}
theorem IsKv.mono {κ : Type} {B B' : Hp} {xs : List (κ × V)} {kvs : List (κ × Dt)} (s : Same B B') (h : IsKv K B xs kvs) : IsKv K B' xs kvs := ⟨h.ks, h.vs.mono s⟩
end
end Ab

namespace Ab
open PySem L2 PyProof.Rows
section
variable {K : PySem.W.Frag} {pin : List Nat} {Γ : List Sl} {P : Ps} {Post : Re → List Sl → Prop} {te ta tb : TE}
theorem we_all (h : WE K te Γ fun r Γ1 => Hold (∃ bs : List Bool, lstOf Γ1 r = some (bs.map Dt.bl) ∧ Post (.val (.bl (bs.all id))) Γ1)) : WE K (tCB (rAll K) (tCons te tNil)) Γ Post :=
  we_cb1 (we_mono h fun r Γ1 hp => fun σ B H x E kx Q q => by
    obtain ⟨bs, hs, p⟩ := hp.get
    obtain ⟨a, vs, rfl, hq, ha⟩ := rv_lst E kx hs
    have e : vs = bs.map V.bl := IsA.rawsI (xs := bs.map V.bl) (by rw [List.map_map]; exact ha)
    subst e
    exact ⟨a, bs, rfl, hq, q _ B H _ Γ1 (.refl E) (.raw _) p⟩)
end
noncomputable def rRepS : R2 := fun x y H Q => ∃ z n, x = .str z ∧ y = .int n ∧ -1000 ≤ n ∧ n ≤ 1000 ∧ z.length ≤ 1000 ∧ Q (.str (PySem.Txt.mul z n)) H
theorem op_repS {X : Cx} : OpR X (binaryOp .Mult) rRepS := by
  intro pins s σ H x y v u Q I rx ry h
  obtain ⟨z, n, rfl, rfl, h1, h2, h3, q⟩ := h
  obtain ⟨t, rfl⟩ := rx
  obtain ⟨t', rfl⟩ := ry
  exact PySem.SB.mul (mulOk_of 1000 1000 h3 (by omega) (by omega) (by omega) (by omega)) fun t' k => ⟨.str _, H, I.tok _, ⟨_, rfl⟩, q⟩
theorem we_repS {K : PySem.W.Frag} {Γ : List Sl} {Post : Re → List Sl → Prop} {ta tb : TE} (h : WE K ta Γ fun ra Γ1 => WE K tb Γ1 fun rb Γ2 => ∃ z n, ra = .val (.str z) ∧ rb = .val (.int n) ∧ -1000 ≤ n ∧ n ≤ 1000 ∧ z.length ≤ 1000 ∧ Post (.val (.str (PySem.Txt.mul z n))) Γ2) : WE K (tOp rRepS ta tb) Γ Post :=
  we_two' (we_mono h fun ra Γ1 h1 => we_mono h1 fun rb Γ2 hp => fun σ B H x y E kx ky Q q => by
    obtain ⟨s, t, rfl, rfl, h1, h2, h3, p⟩ := hp
    cases Is.rawI kx; cases Is.rawI ky
    exact ⟨s, t, rfl, rfl, h1, h2, h3, q _ B H _ Γ2 (.refl E) (.raw _) p⟩)
end Ab

namespace Ab
open PySem PySem.Spec L2 PyProof.Rows
theorem lc_str {K : PySem.W.Frag} {Γ : List Sl} {Post : Re → List Sl → Prop} {te tl : TE} {tt : TT} {j : Nat} (s : Str) (Inv : Nat → List Dt → List Sl → Prop) (h : WE K tl Γ fun z Γ1 => Hold (z = .val (.str s) ∧ s.length ≤ 1000000 ∧ decide (j < Γ1.length) = true ∧ notAcc Γ1[j]? = true ∧ keepV Γ1[j]? = keepV Γ[j]? ∧ Inv 0 [] Γ1))
    (turn : ∀ (i : Nat) c es G, s.cps[i]? = some c → Inv i es G → WT K tt (G.set j (.val (.str ⟨#[c]⟩))) fun b G2 => (b = true → WE K te G2 fun r G3 => ∃ d, r.dt? = some d ∧ Hold (Inv (i + 1) (es ++ [d]) (G3.set j (keepV Γ[j]?)))) ∧ (b = false → Hold (Inv (i + 1) es (G2.set j (keepV Γ[j]?)))))
    (done : ∀ es G, Inv s.cps.size es G → Post (.new es) G) : WE K (tLc (iStr tl) (gName j) tt te [j]) Γ Post := fun σ B H E Q q => by
  refine h σ B H E _ fun v B1 H1 z Γ1 g1 k p => ?_
  obtain ⟨rfl, hn, hj, hja, h4, i0⟩ := p.get
  have hv : v = .str s := Is.rawI k
  subst hv
  refine ⟨s, rfl, ?_⟩
  have at_ : ∀ i, i < s.cps.size → s.cps[i]? = some (s.cps.getD i 0) := fun i hi => by simp [hi]
  refine lc_run (n := s.cps.size) (dt := fun i => .str ⟨#[s.cps.getD i 0]⟩) (J := Its s) g1.env (of_decide_eq_true hj) (notAcc_ne hja) hn (fun i es G => Hold (Inv i es G)) (fun i B' H' _ _ hi b1 b2 _ => hi) (fun i H' x H'' B' _ _ hi b1 b2 _ hy => ?_) (fun B' H' _ _ b1 b2 _ => Nat.le_refl _) (.a i0) (fun i es Γ' hi' hI => ?_) (fun es G hG => done es G hG.get) fun v B2 H2 r Γ2 g2 k2 p2 => q v B2 H2 r Γ2 (g1.trans g2) (ReOk.earlier k2 g1.mv fun a h => .inl (g1.sub a h)) p2
  · obtain ⟨e1, c, e2, e3⟩ := hy
    rw [at_ i hi] at e2
    cases e2
    subst e3
    exact ⟨e1, .raw _⟩
  · rw [h4]
    exact turn i _ es Γ' (at_ i hi') hI.get
end Ab

namespace Ab
open PySem PySem.Spec L2 PyProof.Rows
set_option maxHeartbeats 8000000 in
theorem meets_enumerate_new1 {v : Value} {o : Obj} {H : Heap → Prop} (B : Begins v o H) :
    Meets (Builtin.«enumerate.__new__» ⟨[.type "enumerate", v], []⟩) (fun _ R s => H s.heap ∧
      R (.ok (.ret (.ref (s.heap.push o).objs.size))) { s with heap := (s.heap.push o).push { cls := .type "enumerate", data := .fields #[.none, .bool false, .ref s.heap.objs.size, rawInt 0, .none, .none] } }) :=
  .of_wp fun prog w A R s h => by
    obtain ⟨hp, g, d, tk, os⟩ := s; obtain ⟨h1, h⟩ := h
    have hsub := sub_enumerate
    have q1 : ∀ {A' : Around} {E : Value → Shared → Prop} {Q : Value → Shared → Prop}, Q (.ref hp.objs.size) ⟨hp.push o, g, d, tk, os⟩ → wpAny (model prog w) A' (pyIter v) Q E ⟨hp, g, d, tk, os⟩ :=
      fun q => B.iter prog w _ _ ⟨hp, g, d, tk, os⟩ _ h1 q
    wp_walk using q1
    refine wpAny_stack_any fun st => wpAny_pure ?_
    split
    · rename_i c _ _ _ _ _
      cases (c == Value.type "enumerate")
      · wp_walk using q1
        exact ⟨_, rfl, h⟩
      · wp_walk using q1
        exact ⟨_, rfl, h⟩
    · wp_walk using q1
      exact ⟨_, rfl, h⟩
theorem enum_begins1 {prog : Program} {w : World} {A : Around} {E : Value → Shared → Prop} {s : Shared} {v : Value} {o : Obj} {H : Heap → Prop} {Q : Value → Shared → Prop} (B : Begins v o H) (h1 : H s.heap)
    (h : ∀ h', IsEnum h' (s.heap.objs.size + 1) s.heap.objs.size 0 .none → h'.get? s.heap.objs.size = some o → h'.objs.size = s.heap.objs.size + 2 →
      (∀ b o, s.heap.get? b = some o → h'.get? b = some o) → Q (.ref (s.heap.objs.size + 1)) { s with heap := h' }) :
    wpAny (model prog w) A (call (.type "enumerate") [v]) Q E s := by
  refine callType_new F.called_enumerate (by decide) (F.typeCall_enumerate_1 _) (F.newCall_enumerate_1 _) (fun obj => F.args_object_init_2 obj _) F.entry_enumerate_new
    (meets_enumerate_new1 B) ⟨h1, ?_⟩
  have hz : (s.heap.push o).objs.size = s.heap.objs.size + 1 := Heap.size_push ..
  show _ ∧ _
  rw [hz]
  have he : IsEnum ((s.heap.push o).push { cls := .type "enumerate", data := .fields #[.none, .bool false, .ref s.heap.objs.size, rawInt 0, .none, .none] }) (s.heap.objs.size + 1) s.heap.objs.size 0 .none := by
    have := Heap.get?_push_size (s.heap.push o) (o := { cls := .type "enumerate", data := .fields #[.none, .bool false, .ref s.heap.objs.size, rawInt 0, .none, .none] }) rfl
    rw [hz] at this; exact this
  refine ⟨⟨_, he, rfl⟩, h _ he (Heap.get?_push_of_some _ (Heap.get?_push_size _ B.free)) (by rw [Heap.size_push, hz]) fun b o x => Heap.get?_push_of_some _ (Heap.get?_push_of_some _ x)⟩
noncomputable def IteT (K : PySem.W.Frag) (a : Addr) (c : Int) : It :=
  ⟨fun i H => ∃ (xs : List V) (x : V), SqT K H a xs ∧ xs[i]? = some x, fun i H v H' => ∃ T x, v = .ref T ∧ H T = none ∧ H' = upd H T (.tup [.int (c + (i : Nat)), x]) ∧ ∀ xs, SqT K H a xs → xs[i]? = some x, fun i H => ∃ xs : List V, SqT K H a xs ∧ xs.length = i⟩
theorem turn_enumT {P : Program} {w : World} {K : PySem.W.Frag} {elts : List Expr} {kk : Nat} {tpos : Pos} (a e it : Addr) (c : Int) (hai : a ≠ it) (hae : a ≠ e) :
    Turn P w K (.Tuple elts kk tpos) (IteT K a c) [e, it] e (fun i h => (∃ old, IsEnum h e it (c + ((i : Nat) : Int)) old) ∧ h.IsTupleIter it a i ∧ e ≠ it) where
  mem := by simp
  obj := fun i h st b hb => by
    obtain ⟨⟨old, he⟩, ⟨o, ho, hc, hd⟩, _⟩ := st
    have e' : b = e ∨ b = it := by simpa using hb
    rcases e' with z | z
    · rw [z]; exact ⟨_, he, fun v q => nomatch q⟩
    · rw [z]; exact ⟨o, ho, fun v q => by rw [hd] at q; cases q⟩
  keep := fun i h h' st k => let ⟨⟨old, he⟩, hi, hne⟩ := st; ⟨⟨old, k e (by simp) _ he⟩, hi.at fun o q => k it (by simp) o q, hne⟩
  item := by
    intro X hP hw hK hc i pins s σ H E I hf st hg
    subst hP hw hK
    obtain ⟨⟨old, he⟩, hit, hne⟩ := st
    obtain ⟨xs, x, hq, hx⟩ := hg
    obtain ⟨its, rv, p, hz⟩ := I.tuple hq
    obtain ⟨u, hu, ru⟩ := rv.get hx
    have hel : e < s.heap.objs.size := Heap.lt_size he
    have hil : it < s.heap.objs.size := by obtain ⟨_, q, _⟩ := hit; exact Heap.lt_size q
    have D : Draws X.prog X.w X.A.in1 it [it, a] its.toArray.size (fun i v => its.toArray[i]? = some v) (fun i h => h.IsTupleIter it a i ∧ h.IsTuple a its.toArray) := Draws.tuple (A := X.A.in1) (show X.A.in1.handled = none from I.ok.hd hc) it a hai its.toArray
    have hlt : i < its.toArray.size := by
      have := (List.getElem?_eq_some_iff.mp hu).1
      simpa using this
    refine wpAny_pyNext_enum_itemC D he ⟨hit, p⟩ hlt hne (by simp; exact ⟨hne, fun z => hae z.symm⟩) fun x' h' tk hP ho hit' hT hsz hk => ?_
    have hxu : x' = u := by
      have : its[i]? = some x' := by simpa using hP
      rw [hu] at this; cases this; rfl
    subst hxu
    refine ⟨_, rfl, wpAny_letOwnedTupleGo_enum (s := { s with heap := h', toks := tk + 1 }) ho fun h'' he' sb => ?_⟩
    have hT2 : h''.get? s.heap.objs.size = some { cls := .type "tuple", data := .seq #[.int (c + (i : Nat)) tk, x'] } := (sb.2 _ (Nat.ne_of_gt hel)).trans hT
    have new : ObjOk X.prog X.w (upd H s.heap.objs.size (.tup [.int (c + (i : Nat)), x])) h'' s.heap.objs.size (.tup [.int (c + (i : Nat)), x]) :=
      ⟨by show 2 ≤ sizeLine; decide, [.int (c + (i : Nat)) tk, x'], .cons ⟨_, rfl⟩ (.cons ru .nil), ⟨_, hT2, rfl, _, rfl⟩⟩
    have I1 : Inv X pins σ (upd H s.heap.objs.size (.tup [.int (c + (i : Nat)), x])) { s with heap := h'', toks := tk + 1 } :=
      I.turnedNew (ch := [e, it]) (fun b ob hb q => (sb.2 b (fun z => hb (by simp [z]))).trans (hk b ob (fun z => hb (by simp [z])) (fun z => hb (by simp [z])) q)) hf (Nat.le_refl _) new
    refine ⟨.ref s.heap.objs.size, _, I1, rfl, ⟨_, x, rfl, I.hok.fresh (Nat.le_refl _), rfl, fun ys hy => by rw [I.tuple_inj hy hq]; exact hx⟩, ⟨⟨x', ?_⟩, hit'.1.at fun o q => (sb.2 it (Ne.symm hne)).trans q, hne⟩, fun b hb => ?_⟩
    · have e1 : c + ((i + 1 : Nat) : Int) = c + (i : Int) + 1 := by omega
      rw [e1]; exact he'
    · have hb' : b < s.heap.objs.size := by
        have e' : b = e ∨ b = it := by simpa using hb
        rcases e' with z | z
        · rw [z]; exact hel
        · rw [z]; exact hil
      rw [upd_ne (Nat.ne_of_lt hb')]
      exact (hf b hb).1
  done := by
    intro X hP hw hK hc i pins s σ H E I hf st hg
    subst hP hw hK
    obtain ⟨⟨old, he⟩, hit, hne⟩ := st
    obtain ⟨xs, hq, hx⟩ := hg
    obtain ⟨its, rv, p, hz⟩ := I.tuple hq
    obtain ⟨f0, f1, f2, f3, f4, f5⟩ := hf it (by simp)
    have hl := rv.length
    have D : Draws X.prog X.w X.A.in1 it [it, a] its.toArray.size (fun i v => its.toArray[i]? = some v) (fun i h => h.IsTupleIter it a i ∧ h.IsTuple a its.toArray) := Draws.tuple (A := X.A.in1) (show X.A.in1.handled = none from I.ok.hd hc) it a hai its.toArray
    have hn : i = its.toArray.size := by simp; omega
    subst hn
    exact wpAny_pyNext_enum_endD D he ⟨hit, p⟩ fun h' eb => ⟨rfl, I.turned (t' := s.toks) (fun b o hb q => eb b o hb q) f0 f1 f3 f4 f5⟩
  self := fun A i s Q E st h => let ⟨⟨_, he⟩, _⟩ := st; wpAny_pyIter_enum he h
noncomputable def iEnumT (K : PySem.W.Frag) (ta : TA) : TI := fun σ H R => ta σ H fun vs H1 => ∃ a xs, vs = [.ref a] ∧ SqT K H1 a xs ∧ R (IteT K a 0) H1
theorem pi_enumT {X : Cx} {e : Expr} {ta : TA} {p pos tpos : Pos} {elts : List Expr} {kk : Nat} (hg : Gl X "enumerate") (hm : X.mg "enumerate" = none) (ha : PA X [e] ta) (hs : starEach [e] X.env = [(false, eval e X.env)] := by rfl) :
    PI X (.Tuple elts kk tpos) (.Call (.Name "enumerate" p) [e] [] pos) (iEnumT X.K ta) := by
  refine ⟨fun pins s σ H R I h => ?_⟩
  refine Call_ (ld_blt I hg hm boot_enumerate (PyProof.Rows.callWith_type1 (thn (ha.run pos pins s σ H _ I h) fun us s1 ⟨vs, H1, I1, r1, q1⟩ => ?_) hs rfl))
  obtain ⟨a, xs, ex, hq, q⟩ := q1
  subst ex
  cases r1 with
  | cons r rr =>
    cases rr
    cases r
    obtain ⟨its, rv, p', hz⟩ := I1.tuple hq
    have hal : a < s1.heap.objs.size := by obtain ⟨_, q, _⟩ := p'; exact Heap.lt_size q
    refine enum_begins1 (begins_tuple a its.toArray) p' fun h' he hit hsz hk => wpAny_pyIter_enum he ?_
    have I2 : Inv X pins σ H1 { s1 with heap := h' } := I1.kept (t' := s1.toks) hk
    refine ⟨s1.heap.objs.size + 1, [s1.heap.objs.size + 1, s1.heap.objs.size], _, _, H1, rfl, I2, turn_enumT a (s1.heap.objs.size + 1) s1.heap.objs.size 0 (Nat.ne_of_lt hal) (Nat.ne_of_lt (Nat.lt_succ_of_lt hal)), ⟨⟨.none, he⟩, ⟨_, hit, rfl, rfl⟩, Nat.succ_ne_self _⟩, fun b hb => ?_, q⟩
    have e' : b = s1.heap.objs.size + 1 ∨ b = s1.heap.objs.size := by simpa using hb
    have hle : s1.heap.objs.size ≤ b := by
      rcases e' with z | z
      · rw [z]; exact Nat.le_add_right _ _
      · rw [z]; exact Nat.le_refl _
    exact I1.fpOk hle (I1.hok.fresh hle)
section
variable {K : PySem.W.Frag} {σ : L2.St} {B H : Hp} {Γ : List Sl}
noncomputable abbrev g2 (K : PySem.W.Frag) (j k : Nat) : TG := gTup K 2 (gCons (gName j) (gCons (gName k) gNil))
end
end Ab
namespace Ab
open PySem PySem.Spec L2 PyProof.Rows
theorem bi_all : bootBuiltins "all" = some (.builtin "all") := by decide +kernel
end Ab

namespace Ab
open PySem L2
section
variable {K : PySem.W.Frag} {pin : List Nat} {Γ : List Sl} {P : Ps} {te tl : TE} {tt : TT} {tb : TS} {g : TG} {j : Nat} {Post : Re → List Sl → Prop}
theorem for_lstT {α : Type} (xs : List α) (c : α → Dt) (Inv : Nat → List Sl → Prop) (h : WE K te Γ fun z Γ1 => Hold (z.dt? = some (.lst (xs.map c)) ∧ Inv 0 Γ1))
    (turn : ∀ (i : Nat) x G, xs[i]? = some x → Inv i G → WG K pin g (c x) G fun G2 => WS K pin tb G2 ⟨fun G => Hold (Inv (i + 1) G), P.rt, P.nx, fun G => Hold (Inv (i + 1) G), P.ex⟩) (done : ∀ G, Inv xs.length G → P.nx G) : WS K pin (tFor (iList K te) g tb) Γ P :=
  for_lst (xs.map c) Inv h (fun i d G hd hG => by
    rw [List.getElem?_map] at hd
    obtain ⟨x, hx, rfl⟩ := Option.map_eq_some_iff.mp hd
    exact turn i x G hx hG) (fun G hG => done G (by rwa [List.length_map] at hG))
theorem at_mapI {α : Type} {c : α → Dt} {xs : List α} {k : Int} {i : Nat} {x : α} (e : k = (i : Int)) (h : xs[i]? = some x) : atI (xs.map c) k = some (c x) := atI_of (j := i) e (by rw [List.getElem?_map, h]; rfl)
end
end Ab

namespace Ab
open PySem L2
noncomputable abbrev APX := List Sl → (Re → List Sl → Prop) → (Value → List (Str × Dt) → List Sl → Prop) → Prop
noncomputable def toSpX (K : PySem.W.Frag) (ap : APX) : Sp := fun vs H Q E => ∃ B as Post XP, Env K B H (vs.map some) as ∧ ap as Post XP ∧
  (∀ v B' H' r as', Go K (vs.map some) B H as B' H' as' → ReOk K [] (Own (vs.map some) as) (Own (vs.map some) as') B' H H' v r → Post r as' → Q v H') ∧
  ∀ cls d fs B' H' as', Go K (vs.map some) B H as B' H' as' → ExB K B' d fs → XP cls fs as' → E cls d H'
noncomputable abbrev RunOkX (K : PySem.W.Frag) (pin : List Nat) (t : WX → TS) (N : Nat) (ap : APX) : Prop := ∀ (W : WX) (as : List Sl) (Post : Re → List Sl → Prop) (XP : Value → List (Str × Dt) → List Sl → Prop), ap as Post XP →
  WS K pin (t W) (as ++ List.replicate (N - as.length) .un) ⟨fun G => Post (.val .non) (exitArgs pin G as), fun r G => Post r (exitArgs pin G as), fun _ => False, fun _ => False, ⟨W, fun cls fs G => XP cls fs (exitArgs pin G as)⟩⟩
section
variable {P : Program} {w : World} {K : PySem.W.Frag} {mg : Str → Option Value} {base : Heap}
theorem fn_abX {x qual : Str} {st : Stmt} {f : Addr} {fd : FuncData} {N ps : List Str} {k : Nat} {ap : APX} (pin : List Nat) (F : Fun K x qual st f fd) (S : FnScope N ps (defScope st))
    (hlen : ∀ as Post XP, ap as Post XP → as.length = ps.length) (hN : decide (ps.length ≤ N.length) = true) (t : WX → TS)
    (body : ∀ (cdv : Value) (A : Around) (outer : List PySem.Env) (s : Shared) (H : Hp) (E : XK), Room k (A.deeper (PyProof.Rows.envOfC qual (defScope st) s.heap.objs.size f cdv)) →
      PSs (cxOf (L2.CX P w) P w K mg base N qual (defScope st) f cdv A outer s H E) (defBody st) (t fun cls d _ H' => E cls d H'))
    (run : RunOkX K pin t N.length ap) :
    FnOk P w K mg base (L2.CX P w) (k + 1) f fd ps (toSpX K ap) := by
  refine F.okX S (fun vs H Q E h => ?_) (fun cdv A outer s H vs Q E hr h => ?_)
  · obtain ⟨B, as, Post, XP, E1, ha, _⟩ := h
    have := E1.len
    rw [List.length_map] at this
    rw [this]; exact hlen as Post XP ha
  · obtain ⟨B, as, Post, XP, E1, ha, q, qx⟩ := h
    refine ⟨_, body cdv A outer s H E hr, ?_⟩
    have hl : vs.length = as.length := by have := E1.len; simpa using this
    have hps : as.length ≤ N.length := by rw [hlen as Post XP ha]; exact of_decide_eq_true hN
    have E0 := env_start E1 hps
    have fin : ∀ v σ' B' H' r Γ', GoS K pin (L2.start N vs) B H (as ++ List.replicate (N.length - as.length) .un) σ' B' H' Γ' → ReOk K [] (Own (L2.start N vs) (as ++ List.replicate (N.length - as.length) .un)) (Own σ' Γ') B' H H' v r → Post r (exitArgs pin Γ' as) → Q v H' := by
      intro v σ' B' H' r Γ' g kk p
      obtain ⟨g', kr⟩ := exit_go E1 hl g
      exact q v B' H' r _ g' (kr v r kk) p
    exact run _ as Post XP ha (L2.start N vs) B H _ E0 (fun σ' B' H' Γ' g p => fin .non σ' B' H' (.val .non) Γ' g (Is.raw _) p) (fun v σ' B' H' r Γ' g kk p => fin v σ' B' H' r Γ' g kk p) (fun _ _ _ _ _ p => p.elim) (fun _ _ _ _ _ p => p.elim)
      (fun cls d fs σ' B' H' Γ' g hx p => qx cls d fs B' H' _ (exit_go E1 hl g).1 hx p)
end
noncomputable def tRaise (W : WX) (cls : Value) : TS := fun _ σ H => W cls none σ H
section
variable {K : PySem.W.Frag} {pin : List Nat} {Γ : List Sl} {P : Ps} {Post : Re → List Sl → Prop} {te : TE} {ta : TA}
theorem ws_raise {W : WX} {cls : Value} (hW : P.ex.W = W) (p : P.ex.q cls [] Γ) : WS K pin (tRaise W cls) Γ P := fun σ B H D E n r b c xx => by
  subst hW
  exact xx cls none [] σ B H Γ (.refl E) .none p
noncomputable def tCallX (K : PySem.W.Frag) (ap : APX) (W : WX) (ta : TA) : TE := fun σ H Q => ta σ H fun vs H1 => toSpX K ap vs H1 Q (fun cls d H' => W cls d σ H')
noncomputable def WX' (K : PySem.W.Frag) (X : Ex) (te : TE) (Γ : List Sl) (Post : Re → List Sl → Prop) : Prop := ∀ σ B H, Env K B H σ Γ → ∀ Q : VK,
  (∀ v B' H' r Γ', Go K σ B H Γ B' H' Γ' → ReOk K σ (Own σ Γ) (Own σ Γ') B' H H' v r → Post r Γ' → Q v H') →
  (∀ cls d fs B' H' Γ', Go K σ B H Γ B' H' Γ' → ExB K B' d fs → X.q cls fs Γ' → X.W cls d σ H') → te σ H Q
theorem wx_call {X : Ex} {W : WX} {ap : APX} (hW : X.W = W) (h : WA K ta Γ fun rs Γ1 => nodupB (ownsOf rs) = true ∧ Hold (ap (rs.map (argSl Γ1)) (fun r as' => NormP (putBack rs as' Γ1) (Post r)) fun cls fs as' => NormP (putBack rs as' Γ1) (X.q cls fs))) : WX' K X (tCallX K ap W ta) Γ Post := fun σ B H E Q q qx => by
  subst hW
  refine h σ B H E _ fun vs B1 H1 rs Γ1 g1 k1 p1 => ?_
  obtain ⟨E2, kk⟩ := call_go E g1 k1 p1.1
  exact ⟨B1, rs.map (argSl Γ1), _, _, E2, p1.2.get, fun v B2 H2 r as' g2 k2 p => q v B2 H2 r _ (kk B2 H2 as' g2).1 ((kk B2 H2 as' g2).2 v r k2) p,
    fun cls d fs B2 H2 as' g2 hx p => qx cls d fs B2 H2 _ (kk B2 H2 as' g2).1 hx p⟩
theorem wx_freeze {X : Ex} (h : WX' K X te Γ fun r Γ1 => ∃ d, r.dt? = some d ∧ Post (.val d) Γ1) : WX' K X te Γ Post := fun σ B H E Q q qx => by
  refine h σ B H E Q (fun v B1 H1 r Γ1 g k p => ?_) qx
  obtain ⟨d, hd, p⟩ := p
  cases r with
  | own i => cases hd
  | val d =>
    cases hd
    exact q v B1 H1 (.val d) Γ1 g k p
  | nw ds =>
    cases hd
    obtain ⟨l, vs, rfl, h1, h2, h3, h4, h5⟩ := k
    have sB : Same B1 (upd B1 l vs) := fun a u e => by rw [upd_ne (ne_of_none e h4)]; exact e
    refine q (.ref l) (upd B1 l vs) H1 (.val ds.dt) Γ1 ⟨⟨g.mv.kp, g.mv.bb.trans sB, fun a na ha hb => ?_⟩, g.ac, ?_⟩ ?_ p
    · have hal : a ≠ l := fun z => by
        subst z
        exact h1.elim na ha
      rw [upd_ne hal]; exact g.mv.off a na ha hb
    · refine ⟨g.env.len, fun a u e => ?_, fun i d hi => ?_, fun i es hi => ?_, g.env.sep⟩
      · by_cases ha : a = l
        · subst ha; rw [upd_same] at e; cases e; exact h3
        · rw [upd_ne ha] at e; exact g.env.bh a u e
      · obtain ⟨w, e, k⟩ := g.env.val i d hi
        exact ⟨w, e, k.mono sB⟩
      · obtain ⟨c, us, e, e1, e2, k⟩ := g.env.cel i es hi
        have hc : c ≠ l := fun z => by
          subst z
          exact h2 ⟨i, es, hi, e⟩
        exact ⟨c, us, e, e1, by rw [upd_ne hc]; exact e2, k.mono sB⟩
    · exact (h5.mono sB).is upd_same
theorem wx_mono {X : Ex} {Post' : Re → List Sl → Prop} (h : WX' K X te Γ Post) (k : ∀ r G, Post r G → Post' r G) : WX' K X te Γ Post' := fun σ B H E Q q qx =>
  h σ B H E Q (fun v B' H' r Γ' g kk p => q v B' H' r Γ' g kk (k _ _ p)) qx
theorem wx_lst1 {X : Ex} (h : WX' K X te Γ fun r Γ1 => ∃ d, r.dt? = some d ∧ Post (.new [d]) Γ1) : WX' K X (tLst (tCons te tNil)) Γ Post := fun σ B H E Q q qx => by
  have h' : WX' K X te Γ fun r Γ1 => ∃ d, r = .val d ∧ Post (.new [d]) Γ1 := wx_freeze (wx_mono h fun r G ⟨d, hd, p⟩ => ⟨d, hd, d, rfl, p⟩)
  refine h' σ B H E _ (fun v B1 H1 r Γ1 g k p => ?_) qx
  obtain ⟨d, rfl, p⟩ := p
  refine ⟨by show 1 ≤ sizeLine; decide, fun a ha => ?_⟩
  have g2 := Go.beside (o := .lst [v]) g.env ha
  exact q (.ref a) _ _ (.new [d]) Γ1 (g.trans g2) ⟨a, _, rfl, g.mv.back ha, g.env.not_own ha, upd_same, g.env.base_none ha, [v], rfl, .cons k .nil⟩ p
theorem ws_retX (h : WX' K P.ex te Γ fun z Γ1 => z.free = true ∧ P.rt z Γ1) : WS K pin (tRet te) Γ P := fun σ B H D E n r b c xx =>
  h σ B H E _ (fun v B1 H1 z Γ1 g k ⟨hf, p⟩ => r v σ B1 H1 z Γ1 g.s (k.off hf) p) fun cls d fs B1 H1 Γ1 g hx p => xx cls d fs σ B1 H1 Γ1 g.s hx p
theorem ws_asgX {i : Nat} (hp : pin.contains i = false) (hi : decide (i < Γ.length) = true) (h : WX' K P.ex te Γ fun z Γ1 => NormP (Γ1.set i (slOf z)) P.nx) : WS K pin (tAsg te (gName i)) Γ P := fun σ B H D E n r b c xx =>
  h σ B H E _ (fun v B1 H1 z Γ1 g k p => n _ B1 H1 _ (goS_set g k hp (by rw [← g.env.len, E.len]; exact of_decide_eq_true hi)) p) fun cls d fs B1 H1 Γ1 g hx p => xx cls d fs σ B1 H1 Γ1 g.s hx p
theorem ws_asgGX {g : TG} (h : WX' K P.ex te Γ fun z Γ1 => ∃ d, z = .val d ∧ WG K pin g d Γ1 P.nx) : WS K pin (tAsg te g) Γ P := fun σ B H D E n r b c xx =>
  h σ B H E _ (fun v B1 H1 z Γ1 g1 k p => by
    obtain ⟨d, rfl, p⟩ := p
    exact p σ B1 H1 v g1.env k _ fun σ' Γ' g2 p2 => n σ' B1 H1 Γ' (g1.s.trans g2) p2) fun cls d fs B1 H1 Γ1 g hx p => xx cls d fs σ B1 H1 Γ1 g.s hx p
noncomputable def tTryO (K : PySem.W.Frag) (c : Value) (tb : WX → TS) (ts : TS) (Wout : WX) : TS := fun D σ H => tb (wOnly K c (fun _ _ _ => ts) Wout D) D σ H
theorem ws_tryO {c : Value} {tb : WX → TS} {ts : TS} {Wout : WX} (q' : Value → List (Str × Dt) → List Sl → Prop) (h : ∀ W, WS K pin (tb W) Γ ⟨P.nx, P.rt, P.bk, P.ct, ⟨W, fun cls fs G => Hold (q' cls fs G)⟩⟩)
    (k : ∀ cls fs G, q' cls fs G → ∃ b, PySem.W.exmOne K cls c = some b ∧ (b = true → WS K pin ts G P) ∧ (b = false → P.ex.W = Wout ∧ P.ex.q cls fs G)) : WS K pin (tTryO K c tb ts Wout) Γ P := fun σ B H D E n r b cc xx => by
  refine h _ σ B H D E n r b cc fun cls d fs σ' B' H' Γ' g hx p => ?_
  obtain ⟨z, hz, hy, hn⟩ := k cls fs Γ' p.get
  refine ⟨z, hz, fun e a ha => ?_, fun e => ?_⟩
  · exact ws_from (hy e) g n r b cc xx
  · obtain ⟨rfl, pq⟩ := hn e
    exact xx cls d fs σ' B' H' Γ' g hx pq
end
end Ab

namespace Ab
open PySem L2
section
variable {K : PySem.W.Frag} {B H B' H' : Hp} {σ τ σ' : L2.St} {Γ Δ Γ' : List Sl} {pin : List Nat}
theorem pre_get {α : Type} {a b : List α} {i : Nat} {x : α} (h : a[i]? = some x) : (a ++ b)[i]? = some x := by
  rw [List.getElem?_append_left (List.getElem?_eq_some_iff.mp h).1]; exact h
theorem app_get {α : Type} {a b : List α} {i : Nat} {x : α} (h : (a ++ b)[i]? = some x) : a[i]? = some x ∨ (a.length ≤ i ∧ b[i - a.length]? = some x) := by
  by_cases hi : i < a.length
  · rw [List.getElem?_append_left hi] at h; exact .inl h
  · rw [List.getElem?_append_right (by omega)] at h; exact .inr ⟨by omega, h⟩
theorem own_pre {a : Addr} (h : Own σ Γ a) : Own (σ ++ τ) (Γ ++ Δ) a := by
  obtain ⟨i, c, h1, h2⟩ := h
  exact ⟨i, c, pre_get h1, pre_get h2⟩
theorem env_ext (E : Env K B H (σ ++ τ) (Γ ++ Δ)) (hl : σ.length = Γ.length) (g : GoS K pin σ B H Γ σ' B' H' Γ') : Env K B' H' (σ' ++ τ) (Γ' ++ Δ) := by
  have hl' := g.env.len
  have hL : τ.length = Δ.length := by have := E.len; rw [List.length_append, List.length_append] at this; omega
  -- a cell of a field
  have cell : ∀ {i : Nat} {c : Cn}, Δ[i]? = some (.cel c) → ∃ l o, τ[i]? = some (some (.ref l)) ∧ H l = some o ∧ B l = none ∧ CnIs K B l o c ∧ ¬ Own σ Γ l := fun {i c} h => by
    have h1 : (Γ ++ Δ)[Γ.length + i]? = some (.cel c) := by rw [List.getElem?_append_right (by omega), Nat.add_sub_cancel_left]; exact h
    obtain ⟨l, o, e1, e2, e3, e4⟩ := E.cel _ c h1
    have e1' : τ[i]? = some (some (.ref l)) := by rw [List.getElem?_append_right (by omega)] at e1; rw [← e1]; congr 1; omega
    refine ⟨l, o, e1', e2, e3, e4, fun ⟨j, d, q1, q2⟩ => ?_⟩
    have hj := (List.getElem?_eq_some_iff.mp q1).1
    have := E.sep j (Γ.length + i) d c l (pre_get q1) h1 (pre_get q2) e1
    omega
  refine ⟨by rw [List.length_append, List.length_append, hl', hL], g.env.bh, fun i d h => ?_, fun i c h => ?_, fun i j c d l h1 h2 h3 h4 => ?_⟩
  · rcases app_get h with h | ⟨hi, h⟩
    · obtain ⟨v, e1, e2⟩ := g.env.val i d h
      exact ⟨v, pre_get e1, e2⟩
    · have h1 : (Γ ++ Δ)[Γ.length + (i - Γ'.length)]? = some (.val d) := by rw [List.getElem?_append_right (by omega), Nat.add_sub_cancel_left]; exact h
      obtain ⟨v, e1, e2⟩ := E.val _ d h1
      refine ⟨v, ?_, e2.mono g.mv.bb⟩
      rw [List.getElem?_append_right (by omega)] at e1
      rw [List.getElem?_append_right (by omega), ← e1]; congr 1; omega
  · rcases app_get h with h | ⟨hi, h⟩
    · obtain ⟨l, o, e1, e2⟩ := g.env.cel i c h
      exact ⟨l, o, pre_get e1, e2⟩
    · obtain ⟨l, o, e1, e2, e3, e4, e5⟩ := cell h
      refine ⟨l, o, ?_, g.mv.kp l o e5 e2, g.mv.off l e5 (by rw [e2]; exact fun z => nomatch z) e3, e4.mono g.mv.bb⟩
      rw [List.getElem?_append_right (by omega), hl']; exact e1
  · have mix : ∀ {i j : Nat} {c d : Cn}, Γ'[i]? = some (.cel c) → Δ[j - Γ'.length]? = some (.cel d) → Γ'.length ≤ j → (σ' ++ τ)[i]? = some (some (.ref l)) → (σ' ++ τ)[j]? = some (some (.ref l)) → False := fun {i j c d} h1 h2 hj h3 h4 => by
      have hi := (List.getElem?_eq_some_iff.mp h1).1
      rw [List.getElem?_append_left (by omega)] at h3
      rw [List.getElem?_append_right (by omega), hl'] at h4
      obtain ⟨l', o, e1, e2, e3, e4, e5⟩ := cell h2
      rw [h4] at e1; cases e1
      rcases g.new l ⟨i, c, h1, h3⟩ with z | z
      · exact e5 z
      · rw [z] at e2; cases e2
    rcases app_get h1 with a1 | ⟨i1, a1⟩
    · rcases app_get h2 with a2 | ⟨i2, a2⟩
      · have b1 := (List.getElem?_eq_some_iff.mp a1).1
        have b2 := (List.getElem?_eq_some_iff.mp a2).1
        rw [List.getElem?_append_left (by omega)] at h3 h4
        exact g.env.sep i j c d l a1 a2 h3 h4
      · exact (mix a1 a2 i2 h3 h4).elim
    · rcases app_get h2 with a2 | ⟨i2, a2⟩
      · exact (mix a2 a1 i1 h4 h3).elim
      · have c1 : (Γ ++ Δ)[Γ.length + (i - Γ'.length)]? = some (.cel c) := by rw [List.getElem?_append_right (by omega), Nat.add_sub_cancel_left]; exact a1
        have c2 : (Γ ++ Δ)[Γ.length + (j - Γ'.length)]? = some (.cel d) := by rw [List.getElem?_append_right (by omega), Nat.add_sub_cancel_left]; exact a2
        rw [List.getElem?_append_right (by omega)] at h3 h4
        have d1 : (σ ++ τ)[Γ.length + (i - Γ'.length)]? = some (some (.ref l)) := by rw [List.getElem?_append_right (by omega), ← h3]; congr 1; omega
        have d2 : (σ ++ τ)[Γ.length + (j - Γ'.length)]? = some (some (.ref l)) := by rw [List.getElem?_append_right (by omega), ← h4]; congr 1; omega
        have := E.sep _ _ c d l c1 c2 d1 d2
        omega
end
structure Mj (K : PySem.W.Frag) (C x dx : Addr) (σ τ : L2.St) (B H : Hp) (Γ Δ : List Sl) (ns : List Str) : Prop where
  len : σ.length = Γ.length
  env : Env K B H (σ ++ τ) (Γ ++ Δ)
  sl : σ[0]? = some (some (.ref x))
  un : Γ[0]? = some .un
  no : ¬ Own (σ ++ τ) (Γ ++ Δ) x
  fs : ∃ vs : List V, τ = vs.map some ∧ H x = some (.ins C dx (ns.zip vs)) ∧ vs.length = ns.length
  bx : B x = none
structure GoJ (K : PySem.W.Frag) (C x dx : Addr) (σ τ : L2.St) (B H : Hp) (Γ Δ : List Sl) (σ' τ' : L2.St) (B' H' : Hp) (Γ' Δ' : List Sl) (ns' : List Str) : Prop where
  mv : Mv (fun a => Own (σ ++ τ) (Γ ++ Δ) a ∨ a = x) B H B' H'
  new : ∀ a, Own (σ' ++ τ') (Γ' ++ Δ') a → Own (σ ++ τ) (Γ ++ Δ) a ∨ H a = none
  mg : Mj K C x dx σ' τ' B' H' Γ' Δ' ns'
section
variable {K : PySem.W.Frag} {C x dx : Addr} {σ τ σ1 τ1 σ2 τ2 : L2.St} {B H B1 H1 B2 H2 : Hp} {Γ Δ Γ1 Δ1 Γ2 Δ2 : List Sl} {ns ns1 ns2 : List Str} {pin : List Nat}
theorem Mj.hx (M : Mj K C x dx σ τ B H Γ Δ ns) : H x ≠ none := by
  obtain ⟨vs, _, h, _⟩ := M.fs
  rw [h]; exact fun z => nomatch z
theorem GoJ.trans (a : GoJ K C x dx σ τ B H Γ Δ σ1 τ1 B1 H1 Γ1 Δ1 ns1) (b : GoJ K C x dx σ1 τ1 B1 H1 Γ1 Δ1 σ2 τ2 B2 H2 Γ2 Δ2 ns2) : GoJ K C x dx σ τ B H Γ Δ σ2 τ2 B2 H2 Γ2 Δ2 ns2 :=
  ⟨a.mv.trans (fun c hc => hc.elim (fun h => (a.new c h).imp .inl id) fun h => .inl (.inr h)) b.mv, fun c h => (b.new c h).elim (fun z => a.new c z) fun z => (a.mv.back z).elim (fun q => q.elim .inl fun e => by
    subst e
    exact absurd z a.mg.hx) .inr, b.mg⟩
theorem GoJ.refl (M : Mj K C x dx σ τ B H Γ Δ ns) : GoJ K C x dx σ τ B H Γ Δ σ τ B H Γ Δ ns := ⟨Mv.refl _ _ _, fun _ h => .inl h, M⟩
theorem GoJ.of (M : Mj K C x dx σ τ B H Γ Δ ns) (g : GoS K pin σ B H Γ σ1 B1 H1 Γ1) (hp : 0 ∈ pin) (hu : Γ1[0]? = some .un) : GoJ K C x dx σ τ B H Γ Δ σ1 τ B1 H1 Γ1 Δ ns := by
  have no : ¬ Own σ Γ x := fun z => M.no (own_pre z)
  have hL : τ.length = Δ.length := by have := M.env.len; rw [List.length_append, List.length_append] at this; have := M.len; omega
  have new : ∀ a, Own (σ1 ++ τ) (Γ1 ++ Δ) a → Own (σ ++ τ) (Γ ++ Δ) a ∨ H a = none := fun a ⟨i, c, h1, h2⟩ => by
    have hl1 := g.env.len
    rcases app_get h1 with h1 | ⟨hi, h1⟩
    · have := (List.getElem?_eq_some_iff.mp h1).1
      rw [List.getElem?_append_left (by omega)] at h2
      exact (g.new a ⟨i, c, h1, h2⟩).imp own_pre id
    · rw [List.getElem?_append_right (by omega), hl1] at h2
      refine .inl ⟨Γ.length + (i - Γ1.length), c, ?_, ?_⟩
      · rw [List.getElem?_append_right (by omega), Nat.add_sub_cancel_left]; exact h1
      · rw [List.getElem?_append_right (by have := M.len; omega), ← h2]; congr 1; have := M.len; omega
  obtain ⟨vs, e1, e2, e3⟩ := M.fs
  refine ⟨⟨fun a o na e => g.mv.kp a o (fun z => na (.inl (own_pre z))) e, g.mv.bb, fun a na ha hb => g.mv.off a (fun z => na (.inl (own_pre z))) ha hb⟩, new, ⟨g.env.len, env_ext M.env M.len g, ?_, hu, fun z => ?_, ⟨vs, e1, g.mv.kp x _ no e2, e3⟩, g.mv.off x no M.hx M.bx⟩⟩
  · rw [g.pin 0 hp]; exact M.sl
  · rcases new x z with z | z
    · exact M.no z
    · exact M.hx z
theorem GoJ.put (M : Mj K C x dx σ τ B H Γ Δ ns) {j : Nat} {ds es : List Dt} {l : Addr} {ys : List V} (h : Δ[j]? = some (.acc ds)) (hl : τ[j]? = some (some (.ref l))) (ha : IsA K B ys es) :
    GoJ K C x dx σ τ B H Γ Δ σ τ B (upd H l (.lst ys)) Γ (Δ.set j (.acc es)) ns := by
  have h' : (Γ ++ Δ)[Γ.length + j]? = some (.acc ds) := by rw [List.getElem?_append_right (by omega), Nat.add_sub_cancel_left]; exact h
  have hl' : (σ ++ τ)[Γ.length + j]? = some (some (.ref l)) := by rw [List.getElem?_append_right (by have := M.len; omega), M.len, Nat.add_sub_cancel_left]; exact hl
  have g := Go.put M.env h' hl' ha
  have es' : (Γ ++ Δ).set (Γ.length + j) (.acc es) = Γ ++ Δ.set j (.acc es) := by
    rw [List.set_append_right _ _ (by omega), Nat.add_sub_cancel_left]
  rw [es'] at g
  have own : Own (σ ++ τ) (Γ ++ Δ) l := ⟨_, _, h', hl'⟩
  have nx : x ≠ l := fun z => by subst z; exact M.no own
  obtain ⟨vs, e1, e2, e3⟩ := M.fs
  exact ⟨⟨fun a o na e => g.mv.kp a o (fun z => na (.inl z)) e, g.mv.bb, fun a na ha hb => g.mv.off a (fun z => na (.inl z)) ha hb⟩, fun a z => .inl (g.sub a z), ⟨M.len, g.env, M.sl, M.un, fun z => M.no (g.sub x z), ⟨vs, e1, by rw [upd_ne nx]; exact e2, e3⟩, M.bx⟩⟩
theorem zip_get {ns : List Str} {vs : List V} {f : Str} {j : Nat} {v : V} (hj : ns[j]? = some f) (hn : ∀ i, i < j → ∀ g, ns[i]? = some g → ¬ f = g) (hv : vs[j]? = some v) : (ns.zip vs).lookup f = some v := by
  induction ns generalizing vs j with
  | nil => simp at hj
  | cons n r ih =>
    cases vs with
    | nil => simp at hv
    | cons u us =>
      cases j with
      | zero =>
        simp at hj hv; subst hj hv
        have hb : (n == n) = true := beq_iff_eq.mpr rfl
        simp only [List.zip_cons_cons, List.lookup, hb]
      | succ j =>
        have hne := hn 0 (by omega) n rfl
        have hb : (f == n) = false := beq_eq_false_iff_ne.mpr hne
        simp only [List.zip_cons_cons, List.lookup, hb]
        exact ih (by simpa using hj) (fun i hi g hg => hn (i + 1) (by omega) g (by simpa using hg)) (by simpa using hv)
end
section
variable {K : PySem.W.Frag} {C : Addr} {Γ Δ : List Sl} {ns : List Str} {P : List Sl → List Sl → List Str → Prop} {t u tb : TS} {te : TE} {g : TG}
end
section
variable {K : PySem.W.Frag} {C : Addr} {Γ Δ : List Sl} {ns : List Str} {P : List Sl → List Sl → List Str → Prop} {Post : Dt → List Sl → Prop} {t u tb : TS} {te ta tb' : TE} {g : TG} {f : Str} {j : Nat}
theorem Mj.cell {x dx : Addr} {σ τ : L2.St} {B H : Hp} {ds : List Dt} (M : Mj K C x dx σ τ B H Γ Δ ns) (hf : ns[j]? = some f) (hn : ∀ i, i < j → ∀ g, ns[i]? = some g → ¬ f = g) (h : Δ[j]? = some (.acc ds)) :
    ∃ l vs fs, τ[j]? = some (some (.ref l)) ∧ H l = some (.lst vs) ∧ IsA K B vs ds ∧ H x = some (.ins C dx fs) ∧ fs.lookup f = some (.ref l) := by
  have h' : (Γ ++ Δ)[Γ.length + j]? = some (.acc ds) := by rw [List.getElem?_append_right (by omega), Nat.add_sub_cancel_left]; exact h
  obtain ⟨l, vs, e1, e2, e3, e4⟩ := M.env.acc _ _ h'
  rw [List.getElem?_append_right (by have := M.len; omega), M.len, Nat.add_sub_cancel_left] at e1
  obtain ⟨us, f1, f2, f3⟩ := M.fs
  have hu : us[j]? = some (.ref l) := by
    rw [f1, List.getElem?_map] at e1
    cases q : us[j]? with
    | none => rw [q] at e1; cases e1
    | some u => rw [q] at e1; cases e1; rfl
  exact ⟨l, vs, _, e1, e2, e4, f2, zip_get hf hn hu⟩
end
end Ab

namespace Ab
open PySem L2
noncomputable def CS (z : Str) : Prop := ∀ c ∈ z.cps.toList, c < 1114112
theorem CS.app {a b : Str} (ha : CS a) (hb : CS b) : CS (a ++ b) := fun c hc => by
  have e : (a ++ b).cps.toList = a.cps.toList ++ b.cps.toList := by show (a.cps ++ b.cps).toList = _; simp
  rw [e] at hc
  rcases List.mem_append.mp hc with h | h
  · exact ha c h
  · exact hb c h
theorem CS.cut {z : Str} (h : CS z) (lo hi : Option Int) : CS (cutS z lo hi) := fun c hc => by
  unfold cutS at hc
  exact h c (List.mem_of_mem_drop (List.mem_of_mem_take (by simpa using hc)))
theorem CS.nil : CS "" := fun c hc => by
  have : (("" : Str)).cps.toList = [] := by decide +kernel
  rw [this] at hc
  cases hc
theorem CS.join : ∀ {ys : List Str}, (∀ y ∈ ys, CS y) → CS (Txt.join "" ys)
  | [], _ => by rw [TL.join_eq]; exact fun c hc => nomatch hc
  | [x], h => by rw [TL.join_eq]; exact h x List.mem_cons_self
  | x :: y :: r, h => by
    have ih := CS.join (ys := y :: r) fun z hz => h z (List.mem_cons_of_mem _ hz)
    rw [TL.join_eq] at ih ⊢
    show CS (x ++ "" ++ Str.join "" (y :: r))
    exact ((h x List.mem_cons_self).app CS.nil).app ih
theorem CS.one {c : Nat} (h : c < 1114112) : CS ⟨#[c]⟩ := fun d hd => by
  rw [List.mem_singleton.mp (show d ∈ [c] from hd)]
  exact h
theorem at_str {z : Str} {k : Int} (h0 : 0 ≤ k) (h1 : k < z.length) : ∃ c, c ∈ z.cps.toList ∧ atI z.cps.toList k = some c := by
  have hl : k.toNat < z.cps.toList.length := by
    have : z.cps.toList.length = z.length := by rw [Array.length_toList]; rfl
    omega
  exact ⟨z.cps.toList[k.toNat], List.getElem_mem hl, atI_of (j := k.toNat) (by omega) (List.getElem?_eq_getElem hl)⟩
theorem join_len : ∀ (ys : List Str), (Txt.join "" ys).length = (ys.map (·.length)).sum
  | [] => by rw [TL.join_eq]; rfl
  | [x] => by rw [TL.join_eq]; show x.length = _; simp
  | x :: y :: r => by
    have ih := join_len (y :: r)
    rw [TL.join_eq] at ih ⊢
    show (x ++ "" ++ Str.join "" (y :: r)).length = _
    rw [PySem.Str.length_append, PySem.Str.length_append, ih]
    show x.length + 0 + _ = _
    simp
theorem ones_len {ys : List Str} (h : ∀ y ∈ ys, y.length = 1) : (ys.map (·.length)).sum = ys.length := by
  induction ys with
  | nil => rfl
  | cons x r ih =>
    rw [List.map_cons, List.sum_cons, ih fun y hy => h y (List.mem_cons_of_mem _ hy), h x List.mem_cons_self, List.length_cons]
    omega
theorem cutS_take {z : Str} {m : Nat} (h : m ≤ z.length) : (cutS z none (some (m : Int))).length = m := by
  have e : z.cps.toList.length = z.length := by rw [Array.length_toList]; rfl
  unfold cutS
  show (List.toArray _).size = m
  rw [HT.sIx_none, HT.sIx_nat, Nat.min_eq_left h, List.drop_zero, Nat.sub_zero, List.size_toArray, List.length_take, e, Nat.min_eq_left h]
theorem cutS_drop {z : Str} {m : Nat} (h : m ≤ z.length) : (cutS z (some (m : Int)) none).length = z.length - m := by
  have e : z.cps.toList.length = z.length := by rw [Array.length_toList]; rfl
  unfold cutS
  show (List.toArray _).size = _
  rw [HT.sIx_none, HT.sIx_nat, Nat.min_eq_left h, List.size_toArray, List.length_take, List.length_drop, e, Nat.min_self]
noncomputable def Az (z : Str) : Prop := ∀ c ∈ z.cps.toList, 97 ≤ c ∧ c ≤ 122
theorem Az.cs {z : Str} (h : Az z) : CS z := fun c hc => by have := h c hc; omega
theorem Az.app {a b : Str} (ha : Az a) (hb : Az b) : Az (a ++ b) := fun c hc => by
  have e : (a ++ b).cps.toList = a.cps.toList ++ b.cps.toList := by show (a.cps ++ b.cps).toList = _; simp
  rw [e] at hc
  rcases List.mem_append.mp hc with h | h
  · exact ha c h
  · exact hb c h
theorem Az.cut {z : Str} (h : Az z) (lo hi : Option Int) : Az (cutS z lo hi) := fun c hc => by
  unfold cutS at hc
  exact h c (List.mem_of_mem_drop (List.mem_of_mem_take (by simpa using hc)))
theorem Az.nil : Az "" := fun c hc => by
  have : (("" : Str)).cps.toList = [] := by decide +kernel
  rw [this] at hc
  cases hc
theorem join_all {Pc : Nat → Prop} : ∀ {ys : List Str}, (∀ y ∈ ys, ∀ c ∈ y.cps.toList, Pc c) → ∀ c ∈ (Txt.join "" ys).cps.toList, Pc c
  | [], _ => by rw [TL.join_eq]; exact fun c hc => nomatch hc
  | [x], h => by rw [TL.join_eq]; exact h x List.mem_cons_self
  | x :: y :: r, h => by
    have ih := join_all (ys := y :: r) fun z hz => h z (List.mem_cons_of_mem _ hz)
    rw [TL.join_eq] at ih ⊢
    show ∀ c ∈ (x ++ "" ++ Str.join "" (y :: r)).cps.toList, Pc c
    have e : (x ++ "" ++ Str.join "" (y :: r)).cps.toList = x.cps.toList ++ (Str.join "" (y :: r)).cps.toList := by show ((x.cps ++ #[]) ++ (Str.join "" (y :: r)).cps).toList = _; simp
    intro c hc
    rw [e] at hc
    rcases List.mem_append.mp hc with h1 | h1
    · exact h x List.mem_cons_self c h1
    · exact ih c h1
noncomputable def signs : Str := " abcdefghijklmnopqrstuvwxyzABCDEFGHIJKLMNOPQRSTUVWXYZ0123456789.,;:!?'()|"
noncomputable def Tx (z : Str) : Prop := ∀ c ∈ z.cps.toList, c ∈ signs.cps.toList
theorem signs_cs : ∀ c ∈ signs.cps.toList, c < 1114112 := by decide +kernel
theorem Tx.cs {z : Str} (h : Tx z) : CS z := fun c hc => signs_cs c (h c hc)
end Ab

namespace Ab
open PySem L2
noncomputable abbrev Ty := Dt → Prop
inductive TIs (e : Dt) : Ty where
  | mk : TIs e e
inductive TInt (lo hi : Int) : Ty where
  | mk {i : Int} (h0 : lo ≤ i) (h1 : i ≤ hi) : TInt lo hi (.int i)
inductive TBl : Ty where
  | mk {b : Bool} : TBl (.bl b)
inductive TStr (n m : Nat) : Ty where
  | mk {z : Str} (h0 : n ≤ z.length) (h1 : z.length ≤ m) : TStr n m (.str z)
inductive TNm (n m : Nat) : Ty where
  | mk {z : Str} (h0 : n ≤ z.length) (h1 : z.length ≤ m) (ha : Az z) : TNm n m (.str z)
inductive T1 (A : Ty) : Ty where
  | mk {a : Dt} (ha : A a) : T1 A (.tup [a])
inductive T2 (A B : Ty) : Ty where
  | mk {a b : Dt} (ha : A a) (hb : B b) : T2 A B (.tup [a, b])
inductive T3 (A B C : Ty) : Ty where
  | mk {a b c : Dt} (ha : A a) (hb : B b) (hc : C c) : T3 A B C (.tup [a, b, c])
inductive T4 (A B C D : Ty) : Ty where
  | mk {a b c d : Dt} (ha : A a) (hb : B b) (hc : C c) (hd : D d) : T4 A B C D (.tup [a, b, c, d])
inductive TTs (A : Ty) (n m : Nat) : Ty where
  | mk {ds : List Dt} (h0 : n ≤ ds.length) (h1 : ds.length ≤ m) (h : ∀ d ∈ ds, A d) : TTs A n m (.tup ds)
inductive TLs (A : Ty) (n m : Nat) : Ty where
  | mk {ds : List Dt} (h0 : n ≤ ds.length) (h1 : ds.length ≤ m) (h : ∀ d ∈ ds, A d) : TLs A n m (.lst ds)
noncomputable abbrev STy := Sl → Prop
inductive SAny : STy where
  | mk {s : Sl} : SAny s
inductive SIs (t : Sl) : STy where
  | mk : SIs t t
inductive SVal (A : Ty) : STy where
  | mk {d : Dt} (h : A d) : SVal A (.val d)
inductive SAcc (A : Ty) (n m : Nat) : STy where
  | mk {ds : List Dt} (h0 : n ≤ ds.length) (h1 : ds.length ≤ m) (h : ∀ d ∈ ds, A d) : SAcc A n m (.cel (.lst ds))
inductive SPool (b : Int) : STy where
  | mk {ds : List Dt} (h : PoolUp b ds) : SPool b (.cel (.lst ds))
inductive EnvT : List STy → List Sl → Prop where
  | nil : EnvT [] []
  | cons {S : STy} {s : Sl} {D : List STy} {G : List Sl} (h : S s) (t : EnvT D G) : EnvT (S :: D) (s :: G)
theorem EnvT.len : ∀ {D : List STy} {G : List Sl}, EnvT D G → G.length = D.length
  | _, _, .nil => rfl
  | _, _, .cons _ t => by rw [List.length_cons, List.length_cons, t.len]
inductive RVal (A : Ty) : Re → Prop where
  | mk {d : Dt} (h : A d) : RVal A (.val d)
inductive RNew (A : Ty) (n m : Nat) : Re → Prop where
  | mk {ds : List Dt} (h0 : n ≤ ds.length) (h1 : ds.length ≤ m) (h : ∀ d ∈ ds, A d) : RNew A n m (.nw (.lst ds))
section
variable {Γ : List Sl} {Post : Re → List Sl → Prop}
end
theorem all_cons {A : Ty} {a : Dt} {l : List Dt} (h : A a) (t : ∀ d ∈ l, A d) : ∀ d ∈ a :: l, A d := fun d hd => (List.mem_cons.mp hd).elim (fun e => e ▸ h) (t d)
theorem Az.one {c : Nat} (h : 97 ≤ c ∧ c ≤ 122) : Az ⟨#[c]⟩ := fun d hd => by
  rw [List.mem_singleton.mp (show d ∈ [c] from hd)]
  exact h
end Ab

namespace Ab
open PySem L2
section
variable {X : Cx} {d : Addr} {es : Array DictEntry} {n : Nat}
end

inductive KV (K : PySem.W.Frag) : V → Dt → Prop where
  | raw (v : V) : KV K v (.raw v)
  | tup {a : Addr} {xs : List V} (h : KTup K a xs) : KV K (.ref a) (.tup (xs.map Dt.raw))
theorem KV.is {K : PySem.W.Frag} {B : Hp} {v : V} {d : Dt} (h : KV K v d) : Is K B v d := by
  cases h with
  | raw => exact .raw _
  | @tup a xs h =>
    have ha : IsA K B xs (xs.map Dt.raw) := IsA.raws
    exact Is.tup (.inr h) ha.len ha.at_
noncomputable def KEnts (K : PySem.W.Frag) : List DictEntry → List (Str × Dt) → Prop
  | [], [] => True
  | e :: es, kv :: kvs => (∃ t, e.key = .str kv.1 t) ∧ (∃ v, RelV v e.val ∧ KV K v kv.2) ∧ KEnts K es kvs
  | _, _ => False
noncomputable def valS (kvs : List (Str × Dt)) (z : Str) : Option Dt := (kvs.find? fun kv => decide (kv.1 = z)).map (·.2)
structure KDic (K : PySem.W.Frag) (w : World) (c : Addr) (kvs : List (Str × Dt)) : Prop where
  ex : ∃ es n, KDict K w c es n ∧ KEnts K es.toList kvs
theorem KEnts.val {K : PySem.W.Frag} : ∀ {es : List DictEntry} {kvs : List (Str × Dt)}, KEnts K es kvs → ∀ z, (es.any fun e => e.refKey) = false ∧ ((valS kvs z = none ∧ es.find? (fun e => e.key.isStr z) = none) ∨ ∃ e d v, valS kvs z = some d ∧ es.find? (fun e => e.key.isStr z) = some e ∧ RelV v e.val ∧ KV K v d)
  | [], [], _, z => ⟨rfl, .inl ⟨rfl, rfl⟩⟩
  | [], _ :: _, h, _ => h.elim
  | _ :: _, [], h, _ => h.elim
  | e :: es, kv :: kvs, h, z => by
    obtain ⟨⟨t, hk⟩, ⟨v, hv, hd⟩, hr⟩ := h
    obtain ⟨i1, i2⟩ := KEnts.val hr z
    refine ⟨?_, ?_⟩
    · rw [List.any_cons, i1, Bool.or_false]
      unfold DictEntry.refKey
      rw [hk]
    · unfold valS at *
      rw [List.find?_cons, List.find?_cons]
      have e1 : e.key.isStr z = decide (kv.1 = z) := by
        rw [hk]
        show (kv.1 == z) = decide (kv.1 = z)
        rw [Bool.eq_iff_iff]; simp
      rw [e1]
      by_cases c : kv.1 = z
      · rw [decide_eq_true c]
        exact .inr ⟨e, kv.2, v, rfl, rfl, hv, hd⟩
      · rw [decide_eq_false c]
        exact i2
theorem KDic.val {K : PySem.W.Frag} {w : World} {c : Addr} {kvs : List (Str × Dt)} (h : KDic K w c kvs) (z : Str) : (valS kvs z = none ∧ PySem.W.nsIn K c z = some none) ∨ ∃ u d v, valS kvs z = some d ∧ PySem.W.nsIn K c z = some (some u) ∧ RelV v u ∧ KV K v d := by
  obtain ⟨es, n, D, E⟩ := h.ex
  have hn : PySem.W.nsIn K c z = match es.toList.find? (fun x => x.key.isStr z) with
    | some e => some (some e.val)
    | none => if (es.toList.any fun x => x.refKey) = true then none else some none := by
    unfold PySem.W.nsIn; rw [D.at_]
    rfl
  obtain ⟨i1, i2⟩ := E.val z
  rw [hn, i1]
  rcases i2 with ⟨a, b⟩ | ⟨e, d, v, a, b, c1, c2⟩
  · rw [b]; exact .inl ⟨a, rfl⟩
  · rw [b]; exact .inr ⟨e.val, d, v, a, rfl, c1, c2⟩
section
variable {K : PySem.W.Frag} {w : World} {c : Addr} {kvs : List (Str × Dt)} {Γ : List Sl} {Post : Re → List Sl → Prop} {tk tx : TE}
end
section
variable {K : PySem.W.Frag} {pin : List Nat} {Γ : List Sl} {P : Ps} {Post : Re → List Sl → Prop} {te ta tb : TE} {g : TG} {tb' : TS}
end
section
variable {K : PySem.W.Frag} {pin : List Nat} {Γ : List Sl} {P : Ps} {Post : Re → List Sl → Prop} {td ty tv tx : TE}
end
section
variable {K : PySem.W.Frag} {pin : List Nat} {Γ : List Sl} {P : Ps} {te : TE} {g : TG} {tb' : TS}
end
end Ab

namespace Ab
open PySem L2
structure Yp where
  nx : List Dt → List Sl → Prop
  bk : List Dt → List Sl → Prop := fun _ _ => False
  ct : List Dt → List Sl → Prop := fun _ _ => False
section
variable {K : PySem.W.Frag} {pin : List Nat} {Γ : List Sl} {ys : List Dt} {P : Yp} {te : TE} {t u tb : TGn}
end
section
variable {K : PySem.W.Frag} {Γ : List Sl} {ta : TA} {Post : Re → List Sl → Prop}
end
section
variable {K : PySem.W.Frag} {pin : List Nat} {Γ : List Sl} {P : Ps} {g : TG} {tb' : TS}
theorem ws_for3 {t1 : TA} (h : WD K t1 Γ fun ds Γ1 => ∃ lo m : Int, ds = [.int lo, .int m, .int (-1)] ∧ (-(2 ^ 62) ≤ lo ∧ lo < 2 ^ 62 ∧ -(2 ^ 62) ≤ m ∧ m < 2 ^ 62) ∧ ∃ Inv : Nat → List Sl → Prop, Inv 0 Γ1 ∧
      (∀ (i : Nat) Γ', m < lo - (i : Int) → Inv i Γ' → WG K pin g (.int (lo - i)) Γ' fun Γ2 => WS K pin tb' Γ2 ⟨Inv (i + 1), P.rt, P.nx, Inv (i + 1), P.ex⟩) ∧ ∀ Γ', Inv (lo - m).toNat Γ' → P.nx Γ') : WS K pin (tFor (iRng3 t1) g tb') Γ P := fun σ B H D E n r b c xx => by
  refine h σ B H E _ fun vs B1 H1 ds Γ1 g1 k p => ?_
  obtain ⟨lo, m, rfl, hb, Inv, i0, turn, done⟩ := p
  have ev : vs = [.int lo, .int m, .int (-1)] := IsA.rawsI (xs := [.int lo, .int m, .int (-1)]) k
  refine ⟨lo, m, -1, (lo - m).toNat, ev, RgC.neg hb.1 hb.2.1 hb.2.2.1 hb.2.2.2, ?_⟩
  refine for_rangeC (lo := lo) (c := -1) (n := (lo - m).toNat) (fun i σ' H' => ∃ B' Γ', GoS K pin σ B H Γ σ' B' H' Γ' ∧ Inv i Γ') ⟨B1, Γ1, g1.s, i0⟩ ?_ ?_
  · rintro i σ' H' hi ⟨B', Γ', g2, inv⟩
    rw [show lo + (i : Int) * (-1) = lo - i by omega]
    refine turn i Γ' (by omega) inv σ' B' H' _ g2.env (.raw _) _ fun σ2 Γ2 g3 w => ?_
    exact ws_from w (g2.trans g3) (fun σ3 B3 H3 Γ3 g4 p => ⟨B3, Γ3, g4, p⟩) r (fun σ3 B3 H3 Γ3 g4 p => n σ3 B3 H3 Γ3 g4 p) (fun σ3 B3 H3 Γ3 g4 p => ⟨B3, Γ3, g4, p⟩) xx
  · rintro σ' H' ⟨B', Γ', g2, inv⟩
    exact n σ' B' H' Γ' g2 (done Γ' inv)
theorem for_3H {t1 : TA} (h : WD K t1 Γ fun ds Γ1 => Hold (∃ lo m : Int, ds = [.int lo, .int m, .int (-1)] ∧ (-(2 ^ 62) ≤ lo ∧ lo < 2 ^ 62 ∧ -(2 ^ 62) ≤ m ∧ m < 2 ^ 62) ∧ ∃ Inv : Nat → List Sl → Prop, Inv 0 Γ1 ∧
      (∀ (i : Nat) Γ', m < lo - (i : Int) → Inv i Γ' → WG K pin g (.int (lo - i)) Γ' fun Γ2 => WS K pin tb' Γ2 ⟨fun G => Hold (Inv (i + 1) G), P.rt, P.nx, fun G => Hold (Inv (i + 1) G), P.ex⟩) ∧ ∀ Γ', Inv (lo - m).toNat Γ' → P.nx Γ')) : WS K pin (tFor (iRng3 t1) g tb') Γ P :=
  ws_for3 fun σ B H E Q q => h σ B H E Q fun vs B' H' ds Γ' g k p => q vs B' H' ds Γ' g k (by
    obtain ⟨lo, m, e, hb, Inv, i0, turn, done⟩ := p.get
    exact ⟨lo, m, e, hb, fun i G => Hold (Inv i G), .a i0, fun i G hi hG => turn i G hi hG.get, fun G hG => done G hG.get⟩)
end
noncomputable def tTru (K : PySem.W.Frag) (te : TE) : TT := fun σ H Q => te σ H fun x H' => ∃ k, TruV K x H' k ∧ Q k H'
theorem pt_tru {X : Cx} {a : Expr} {ta : TE} (ha : PE X a ta) (he : ∀ whole, isTrue a X.env whole = (do let v ← whole; standAt a.pos; holding [v] (truthy v))) : PT X a (tTru X.K ta) := pt_truth ha he
theorem wt_truA {K : PySem.W.Frag} {Γ : List Sl} {P : Bool → List Sl → Prop} {i : Nat} {ds : List Dt} (h : Γ[i]? = some (.acc ds)) (p : P (!ds.isEmpty) Γ) : WT K (tTru K (tVar i)) Γ P := fun σ B H E Q q => by
  obtain ⟨l, vs, e1, e2, _, ha⟩ := E.acc i ds h
  have hl : vs.isEmpty = ds.isEmpty := by
    have := ha.len
    cases vs <;> cases ds <;> simp_all
  exact ⟨.ref l, e1, !ds.isEmpty, .inl ⟨vs, .inl (.inl e2), by rw [hl]⟩, q _ B H Γ (.refl E) p⟩
end Ab

set_option maxHeartbeats 2000000
namespace Ga
open PySem PySem.Spec PyProof.Rows L2
noncomputable def yArgs (n : Nat) (dvs : List V) (ta : TA) : TA := fun σ H R => ta σ H fun vs H1 => (vs ++ dvs).length = n ∧ R (vs ++ dvs) H1
section
variable {X : Cx} {k : Nat} {x : Str} {p pos : Pos} {e : Expr} {es : List Expr} {ta : TA} {ps N : List Str} {qual : Str} {st : Stmt} {f : Addr} {fd : FuncData} {dvs : List V} {ds : List Value}
theorem run_gen {pins : List (Addr × Obj)} {σ : L2.St} {H : Hp} {s : Shared} {us : List Value} {vs : List V} {R : List V → Hp → Prop} {E : Value → Shared → Prop} (F : Fun X.K x qual st f fd) (S : GScope N ps (defScope st)) (nc : ∀ y ∈ (defScope st).names, y.2 ≠ .cell) (hr : Room (k + 1) X.A) (hb : Binds X.K fd ps ds) (hd : Vals dvs ds)
    (I : Inv X pins σ H s) (r : Vals vs us) (hl : (vs ++ dvs).length = ps.length) (q : R (vs ++ dvs) H) :
    wpAny (model X.prog X.w) X.A (call (.ref f) us) (fun u s' => ∃ vs H1 sc a g cd, Inv X pins σ H1 sc ∧ R vs H1 ∧ u = .ref a ∧ YNew N qual (defScope st) f (defBody st) vs sc a g cd s') E s := by
  obtain ⟨oc, od, kV, doc, pm, an, cdv, ct, osl, rfl, lk, hcd⟩ := F.ex
  have r2 : Vals (vs ++ dvs) (us ++ ds) := r.append hd
  have hl2 : (us ++ ds).length = ps.length := by rw [← r2.length]; exact hl
  refine wpAny_call (codeAny_mono (yfn_of lk hcd S nc hr I.env0 (hb s us I.kIn hl2) r2 hl) fun r s' hq => ?_)
  obtain ⟨u, rfl, a, g, rfl, Y⟩ := hq
  exact ⟨_, H, s, a, g, cdv, I, q, rfl, Y⟩
theorem py_call (F : Fun X.K x qual st f fd) (S : GScope N ps (defScope st)) (nc : ∀ y ∈ (defScope st).names, y.2 ≠ .cell) (hr : Room (k + 1) X.A) (hg : Gl X x) (hm : X.mg x = some (.ref f)) (hk : PySem.W.keepIn X.K (.ref f) = true) (hb : Binds X.K fd ps ds) (hd : Vals dvs ds) (ha : PA X (e :: es) ta)
    (hdb : (x == ("__debug__" : Str)) = false := by decide) (he : starEach (e :: es) X.env = (false, eval e X.env) :: starEach es X.env := by rfl) (hpl : (backTo pos (starEach es X.env)).any (·.1) = false := by rfl) :
    PY X (.Call (.Name x p) (e :: es) [] pos) N qual (defScope st) f (defBody st) (yArgs ps.length dvs ta) := by
  refine ⟨fun pins s σ H R I h => wpAny_Call_Name_kw (ld_glob I hg hm (PySem.W.callWith_K (h₀ := X.base) I.ok.mod.kin hk (wpAny_mono (ha.run pos pins s σ H _ I h) (fun us s1 q => ?_) fun _ _ z => z) he hpl) hdb)⟩
  obtain ⟨vs, H1, I1, r, hl, q⟩ := q
  exact ⟨I1.kIn, run_gen F S nc hr hb hd I1 r hl q⟩
end
end Ga

namespace Ab
open PySem L2 Ga
inductive NoT : Dt → Prop
  | raw (v : V) : NoT (.raw v)
  | tup {ds : List Dt} (h : ∀ d ∈ ds, NoT d) : NoT (.tup ds)
  | lst {ds : List Dt} (h : ∀ d ∈ ds, NoT d) : NoT (.lst ds)
  | obj {C : Addr} {gs : List (Str × Dt)} (h : ∀ f d, gs.lookup f = some d → NoT d) : NoT (.obj C gs)
  | scr (ns : List Int) : NoT (.scr ns)
  | dK {kvs : List (Key × Dt)} (h : ∀ d ∈ kvs.map (·.2), NoT d) : NoT (.dK kvs)
noncomputable def pb (B : Hp) : Hp := fun b => match B b with
  | some o => if plainO o = true then some o else none
  | none => none
theorem pb_some {B : Hp} {b : Addr} {o : HO} (e : B b = some o) (p : plainO o = true) : pb B b = some o := by unfold pb; rw [e]; exact if_pos p
theorem of_pb {B : Hp} {b : Addr} {o : HO} (e : pb B b = some o) : B b = some o ∧ plainO o = true := by
  unfold pb at e
  cases q : B b with
  | none => rw [q] at e; cases e
  | some v =>
    rw [q] at e
    by_cases p : plainO v = true
    · rw [show (match some v with | some o => if plainO o = true then some o else none | none => none) = some v from if_pos p] at e
      cases e; exact ⟨rfl, p⟩
    · rw [show (match some v with | some o => if plainO o = true then some o else none | none => none) = none from if_neg p] at e
      cases e
section
variable {K : PySem.W.Frag} {B B' H H' : Hp} {v : V} {d : Dt} {vs : List V} {ds : List Dt} {σ : L2.St} {Γ : List Sl}
theorem sqT_keep {a : Addr} {xs : List V} (e : ∀ b o, B b = some o → plainO o = true → B' b = some o) (h : SqT K B a xs) : SqT K B' a xs := by
  rcases h with (h | ⟨o, h⟩) | h
  · exact .inl (.inl (e _ _ h rfl))
  · exact .inl (.inr ⟨o, e _ _ h rfl⟩)
  · exact .inr h
theorem is_pb (e : ∀ b o, B b = some o → plainO o = true → B' b = some o) (h : Is K B v d) (n : NoT d) : Is K B' v d := by
  induction h with
  | raw v => exact .raw v
  | tup h hl hi ih =>
    cases n with
    | tup n => exact .tup (sqT_keep e h) hl fun i v d a b => ih i v d a b (n d (List.mem_of_getElem? b))
  | lst h hl hi ih =>
    cases n with
    | lst n => exact .lst (e _ _ h rfl) hl fun i v d a b => ih i v d a b (n d (List.mem_of_getElem? b))
  | obj h hk hi ih =>
    cases n with
    | obj n => exact .obj (e _ _ h rfl) hk fun f v d a b => ih f v d a b (n f d b)
  | scr h =>
    refine .scr ?_
    rcases h with (h | ⟨o, h⟩) | h
    · exact .inl (.inl (e _ _ h rfl))
    · exact .inl (.inr ⟨o, e _ _ h rfl⟩)
    · exact .inr h
  | dK h hk hi ih =>
    cases n with
    | dK n => exact .dK (e _ _ h rfl) hk fun i v d a b => ih i v d a b (n d (List.mem_of_getElem? b))
  | _ => cases n
theorem is_keep (e : ∀ b o, B b = some o → mkO o = false → B' b = some o) (h : Is K B v d) : Is K B' v d := by
  have sq : ∀ {a : Addr} {xs : List V}, SqT K B a xs → SqT K B' a xs := fun {a xs} h => by
    rcases h with (h | ⟨o, h⟩) | h
    · exact .inl (.inl (e _ _ h rfl))
    · exact .inl (.inr ⟨o, e _ _ h rfl⟩)
    · exact .inr h
  induction h with
  | raw v => exact .raw v
  | tup h hl hi ih => exact .tup (sq h) hl ih
  | lst h hl hi ih => exact .lst (e _ _ h rfl) hl ih
  | obj h hk hi ih => exact .obj (e _ _ h rfl) hk ih
  | scr h =>
    refine .scr ?_
    rcases h with (h | ⟨o, h⟩) | h
    · exact .inl (.inl (e _ _ h rfl))
    · exact .inl (.inr ⟨o, e _ _ h rfl⟩)
    · exact .inr h
  | dK h hk hi ih => exact .dK (e _ _ h rfl) hk ih
  | dT h hk hi ih => exact .dT (e _ _ h rfl) hk ih
  | exn0 => exact .exn0
  | exnD h hk hi ih => exact .exnD (e _ _ h rfl) hk ih
  | err0 h => exact .err0 (e _ _ h rfl)
  | errD h hd hk hi ih => exact .errD (e _ _ h rfl) (e _ _ hd rfl) hk ih
  | dN h hk hq hi ihq ih => exact .dN (e _ _ h rfl) hk ihq ih
  | fz h hk hi ih => exact .fz (h.imp (fun z => e _ _ z rfl) fun ⟨o, h⟩ => ⟨o, e _ _ h rfl⟩) hk ih
theorem isA_keep (e : ∀ b o, B b = some o → mkO o = false → B' b = some o) (h : IsA K B vs ds) : IsA K B' vs ds := ⟨h.len, fun i v d a b => is_keep e (h.at_ i v d a b)⟩
theorem cn_mk {a : Addr} {o : HO} {c : Cn} (h : CnIs K B a o c) : mkO o = false := by
  cases c with
  | lst ds => obtain ⟨_, rfl, _⟩ := h; rfl
  | dK kvs => obtain ⟨_, rfl, _⟩ := h; rfl
  | dT kvs => obtain ⟨_, rfl, _⟩ := h; rfl
  | dN w kvs => obtain ⟨_, rfl, _⟩ := h; rfl
theorem cn_keep {a : Addr} {o : HO} {c : Cn} (e : ∀ b o, B b = some o → mkO o = false → B' b = some o) (h : CnIs K B a o c) : CnIs K B' a o c := by
  cases c with
  | lst ds => obtain ⟨vs, e1, e2⟩ := h; exact ⟨vs, e1, isA_keep e e2⟩
  | dK kvs => obtain ⟨vs, e1, e2, e3⟩ := h; exact ⟨vs, e1, e2, isA_keep e e3⟩
  | dT kvs => obtain ⟨vs, e1, e2, e3⟩ := h; exact ⟨vs, e1, e2, isA_keep e e3⟩
  | dN w kvs => obtain ⟨vs, e1, e2⟩ := h; exact ⟨vs, e1, e2.ks, fun i x q => is_keep e (e2.qs i x q), isA_keep e e2.vs⟩
theorem env_keep (E : Env K B H σ Γ) (e : ∀ b o, B b = some o → mkO o = false → B' b = some o) (n : ∀ b, B b = none → B' b = none) (hh : ∀ b o, H b = some o → mkO o = false → H' b = some o) (s : Same B' H') : Env K B' H' σ Γ := by
  refine ⟨E.len, s, fun i d h => ?_, fun i c h => ?_, E.sep⟩
  · obtain ⟨v, e1, e2⟩ := E.val i d h
    exact ⟨v, e1, is_keep e e2⟩
  · obtain ⟨l, o, e1, e2, e3, e4⟩ := E.cel i c h
    exact ⟨l, o, e1, hh l o e2 (cn_mk e4), n l e3, cn_keep e e4⟩
theorem env_woken {H1 H2 : Hp} (E : Env K B H1 σ Γ) (u : um H2 = um H1) : Env K (um B) H2 σ Γ := by
  have w : ∀ b o, H1 b = some o → mkO o = false → H2 b = some o := fun b o e m => by
    have q : um H1 b = some o := um_some e m
    rw [← u] at q
    exact (of_um q).1
  exact env_keep E (fun b o e m => um_some e m) (fun b e => um_none e) w fun b o e => w b o (E.bh b o (of_um e).1) (of_um e).2
theorem env_umz {sz : Nat} (E : Env K B H σ Γ) : Env K (umz sz B) (umz sz H) σ Γ :=
  env_keep E (fun b o e m => umz_keep e m) (fun b e => umz_none e) (fun b o e m => umz_keep e m) fun b o e => by
    by_cases q : sz ≤ b
    · rw [umz_ge q] at e ⊢
      exact um_some (E.bh b o (of_um e).1) (of_um e).2
    · have q := Nat.lt_of_not_le q
      rw [umz_lt q] at e ⊢
      exact E.bh b o e
theorem env_more {H2 : Hp} (E : Env K B H σ Γ) (h : Le H H2) : Env K B H2 σ Γ := by
  refine ⟨E.len, fun b o e => h b o (E.bh b o e), E.val, fun i c q => ?_, E.sep⟩
  obtain ⟨l, o, e1, e2, e3, e4⟩ := E.cel i c q
  exact ⟨l, o, e1, h l o e2, e3, e4⟩
end
structure Zp where
  nx : Nat → List Sl → Prop
  bk : Nat → List Sl → Prop := fun _ _ => False
  ct : Nat → List Sl → Prop := fun _ _ => False
noncomputable def Pl (B : Hp) : Prop := ∀ b o, B b = some o → plainO o = true
structure ZD (K : PySem.W.Frag) (ds : List Dt) (D : GE) : Prop where
  lim : D.lim = ds.length
  yl : ∀ j x B d, ds[j]? = some d → Is K B x d → D.yl j x B
noncomputable def ZK (K : PySem.W.Frag) (p : Nat → List Sl → Prop) (q : Nat → Hp → L2.St → Hp → Prop) : Prop := ∀ j σ B H Bx Γ, Env K B H σ Γ → Le Bx B → Pl Bx → p j Γ → q j Bx σ H
noncomputable def WZ (K : PySem.W.Frag) (ds : List Dt) (t : TY) (j : Nat) (Γ : List Sl) (P : Zp) : Prop := ∀ σ B H Bx (D : GE), Env K B H σ Γ → Le Bx B → Pl Bx → ZD K ds D → ZK K P.nx D.nx → ZK K P.bk D.bk → ZK K P.ct D.ct → t D j Bx σ H
section
variable {K : PySem.W.Frag} {ds : List Dt} {Γ : List Sl} {j : Nat} {P : Zp} {te : TE} {t u tb : TY}
theorem wz_plain {ts : TS} (h : WS K [] ts Γ ⟨P.nx j, fun _ _ => False, P.bk j, P.ct j, .no⟩) : WZ K ds (yPlain ts) j Γ P := fun σ B H Bx D E l pl zd n b c =>
  h σ B H (D.at j Bx) E (fun s B1 H1 G g p => n j s B1 H1 Bx G g.env (fun b o e => g.mv.bb b o (l b o e)) pl p) (fun _ _ _ _ _ _ _ _ p => p.elim) (fun s B1 H1 G g p => b j s B1 H1 Bx G g.env (fun b o e => g.mv.bb b o (l b o e)) pl p)
    (fun s B1 H1 G g p => c j s B1 H1 Bx G g.env (fun b o e => g.mv.bb b o (l b o e)) pl p) fun _ _ _ _ _ _ _ _ _ p => p.elim
theorem wz_seq (h : WZ K ds t j Γ { P with nx := fun j1 Γ1 => WZ K ds u j1 Γ1 P }) : WZ K ds (yThen t u) j Γ P := fun σ B H Bx D E l pl zd n b c =>
  h σ B H Bx { D with nx := fun j' B' σ' H' => u D j' B' σ' H' } E l pl ⟨zd.lim, zd.yl⟩ (fun j1 σ1 B1 H1 Bx1 Γ1 E1 l1 pl1 p => p σ1 B1 H1 Bx1 D E1 l1 pl1 zd n b c) b c
theorem wz_nil (p : P.nx j Γ) : WZ K ds yNil j Γ P := fun σ B H Bx D E l pl zd n b c => n j σ B H Bx Γ E l pl p
theorem wz_yield {d : Dt} (hj : ds[j]? = some d) (hn : NoT d) (h : WE K te Γ fun z Γ1 => z = .val d ∧ P.nx (j + 1) Γ1) : WZ K ds (yYield te) j Γ P := fun σ B H Bx D E l pl zd n b c => by
  refine ⟨by rw [zd.lim]; exact (List.getElem?_eq_some_iff.mp hj).1, h σ B H E _ fun x B1 H1 z Γ1 g k p => ?_⟩
  obtain ⟨rfl, p⟩ := p
  have k : Is K B1 x d := k
  have l1 : Le Bx B1 := fun b o e => g.mv.bb b o (l b o e)
  refine ⟨pb B1, ⟨fun b o e => pb_some (l1 b o e) (pl b o e), fun b o e => g.env.bh b o (of_pb e).1, fun b o e => (of_pb e).2⟩, zd.yl j x _ d hj (is_pb (fun b o e p => pb_some e p) k hn), fun H2 u => ?_⟩
  exact n (j + 1) σ _ H2 (pb B1) Γ1 (env_woken g.env u) (fun b o e => um_some (of_pb e).1 (plain_mk (of_pb e).2)) (fun b o e => (of_pb e).2) p
theorem wz_while {tt : TT} (Inv : Nat → Nat → List Sl → Prop) (m0 : Nat) (i0 : Inv m0 j Γ)
    (turn : ∀ m j' Γ', Inv m j' Γ' → WT K tt Γ' fun z Γ1 => (z = true → WZ K ds tb j' Γ1 ⟨fun y G => ∃ m', m' < m ∧ Inv m' y G, P.nx, fun y G => ∃ m', m' < m ∧ Inv m' y G⟩) ∧ (z = false → P.nx j' Γ1)) : WZ K ds (yWhile tt tb) j Γ P := fun σ B H Bx D E l pl zd n b c => by
  refine ⟨fun m j' Bx' σ' H' => ∃ B' Γ', Env K B' H' σ' Γ' ∧ Le Bx' B' ∧ Pl Bx' ∧ Inv m j' Γ', ⟨m0, B, Γ, E, l, pl, i0⟩, ?_⟩
  rintro m j' Bx' σ' H' ⟨B', Γ', E', l', pl', inv⟩
  refine turn m j' Γ' inv σ' B' H' E' _ fun z B1 H1 Γ1 g1 p => ?_
  have l1 : Le Bx' B1 := fun b o e => g1.mv.bb b o (l' b o e)
  cases z with
  | true =>
    refine (show ∃ N : Nat → Hp → L2.St → Hp → Prop, _ from ⟨fun j2 Bx2 σ2 H2 => ∃ B2 Γ2, Env K B2 H2 σ2 Γ2 ∧ Le Bx2 B2 ∧ Pl Bx2 ∧ ∃ m', m' < m ∧ Inv m' j2 Γ2, fun j2 Bx2 σ2 H2 ⟨B2, Γ2, E2, l2, pl2, m', hm, inv'⟩ => ⟨m', hm, B2, Γ2, E2, l2, pl2, inv'⟩, ?_⟩)
    exact p.1 rfl σ' B1 H1 Bx' _ g1.env l1 pl' ⟨zd.lim, zd.yl⟩ (fun j2 σ2 B2 H2 Bx2 Γ2 E2 l2 pl2 q => ⟨B2, Γ2, E2, l2, pl2, q⟩) n fun j2 σ2 B2 H2 Bx2 Γ2 E2 l2 pl2 q => ⟨B2, Γ2, E2, l2, pl2, q⟩
  | false => exact n j' σ' B1 H1 Bx' Γ1 g1.env l1 pl' (p.2 rfl)
end
noncomputable abbrev AZ := List Dt → List Dt → Prop
noncomputable def RunZ (K : PySem.W.Frag) (t : TY) (n : Nat) (ap : AZ) : Prop := ∀ as ds, ap as ds → as.length ≤ n ∧ (∀ d ∈ as, NoT d) ∧ WZ K ds t 0 (as.map Sl.val ++ List.replicate (n - as.length) .un) ⟨fun j _ => j = ds.length, fun _ _ => False, fun _ _ => False⟩
section
variable {K : PySem.W.Frag} {pin : List Nat} {Γ : List Sl} {P : Ps} {ta : TA} {g : TG} {tb : TS} {t : TY} {N : List Str} {n : Nat} {ap : AZ}
theorem ws_forY (run : RunZ K t N.length ap) (h : WD K ta Γ fun as Γ1 => as.length = n ∧ ∃ ds, ap as ds ∧ ∃ Inv : Nat → List Sl → Prop, Inv 0 Γ1 ∧ (∀ Γ', Inv ds.length Γ' → P.nx Γ') ∧
      ∀ j d Γ', ds[j]? = some d → Inv j Γ' → WG K pin g d Γ' fun Γ2 => WS K pin tb Γ2 ⟨Inv (j + 1), P.rt, P.nx, Inv (j + 1), .no⟩) : WS K pin (tForY (yArgs n [] ta) N t g tb) Γ P := fun σ B H D E nx r b c xx => by
  refine h σ B H E _ fun vs B1 H1 as Γ1 g1 k1 p1 => ?_
  obtain ⟨hl, ds, hap, Inv, i0, done, turn⟩ := p1
  rw [List.append_nil]
  refine ⟨by rw [k1.len]; exact hl, pb B1, ds.length, fun j x B' => ∃ d, ds[j]? = some d ∧ Is K B' x d, fun j => j = ds.length, fun b o e => g1.env.bh b o (of_pb e).1, fun b o e => (of_pb e).2, fun H0 le0 => ?_, fun sz hsz => ?_⟩
  · obtain ⟨hN, hT, hw⟩ := run as ds hap
    have E0 : Env K (pb B1) H0 (vs.map some) (as.map Sl.val) := by
      refine ⟨by rw [List.length_map, List.length_map, k1.len], le0, fun i d q => ?_, fun i c q => ?_, fun i j c d l q => ?_⟩
      · rw [List.getElem?_map] at q
        cases e : as[i]? with
        | none => rw [e] at q; cases q
        | some d' =>
          rw [e] at q; cases q
          obtain ⟨v, e1, e2⟩ := k1.get e
          exact ⟨v, by rw [List.getElem?_map, e1]; rfl, is_pb (fun b o e p => pb_some e p) e2 (hT d (List.mem_of_getElem? e))⟩
      · rw [List.getElem?_map] at q
        cases e : as[i]? <;> rw [e] at q <;> cases q
      · rw [List.getElem?_map] at q
        cases e : as[i]? <;> rw [e] at q <;> cases q
    have E2 := env_start (N := N) E0 (by rw [List.length_map]; exact hN)
    rw [List.length_map] at E2
    exact hw _ (pb B1) H0 (pb B1) _ E2 (fun _ _ e => e) (fun b o e => (of_pb e).2) ⟨rfl, fun j x B' d e i => ⟨d, e, i⟩⟩ (fun j σ' B' H' Bx Γ' E' l pl p => ⟨p, fun b o e => E'.bh b o (l b o e)⟩) (fun _ _ _ _ _ _ _ _ _ p => p.elim) fun _ _ _ _ _ _ _ _ _ p => p.elim
  · refine ⟨fun j Bx σ' H' => ∃ B' Γ', GoS K pin σ B1 H1 Γ1 σ' B' H' Γ' ∧ Inv j Γ' ∧ Le Bx B', ⟨B1, Γ1, .refl g1.env, i0, fun b o e => (of_pb e).1⟩, ?_, ?_⟩
    · rintro j Bx σ' H' H2 ⟨B', Γ', g2, inv, _⟩ rfl le
      refine nx σ' B' H2 Γ' (g1.s.trans ⟨⟨fun a o na e => le a o (g2.mv.kp a o na e), g2.mv.bb, g2.mv.off⟩, g2.new, env_more g2.env le, g2.pin⟩) (done Γ' inv)
    · rintro j Bx σ' H' x B' H2 ⟨Bh, Γ', g2, inv, lb⟩ hj ⟨d, hd, is⟩ m1 le2 leH pl fresh
      have none2 : ∀ a, H' a ≠ none → Bh a = none → jn Bh B' a = none := fun a h1 h2 => by
        rw [jn_r h2]
        cases q : B' a with
        | none => rfl
        | some o =>
          rcases fresh a o q with z | z
          · exact (h1 z).elim
          · rw [lb a o z] at h2; cases h2
      have bhH : ∀ a o, jn Bh B' a = some o → H2 a = some o := fun a o e => by
        rcases of_jn e with z | ⟨_, z⟩
        · exact leH a o (g2.env.bh a o z)
        · exact le2 a o z
      have bnew : Same B' (jn Bh B') := fun a o e => by
        cases q : Bh a with
        | none => rw [jn_r q]; exact e
        | some u =>
          have h1 := leH a u (g2.env.bh a u q)
          rw [le2 a o e] at h1; cases h1
          exact jn_l q
      have E2 : Env K (jn Bh B') H2 σ' Γ' := by
        refine ⟨g2.env.len, bhH, fun i d q => ?_, fun i c q => ?_, g2.env.sep⟩
        · obtain ⟨v, e1, e2⟩ := g2.env.val i d q
          exact ⟨v, e1, e2.mono fun a o e => jn_l e⟩
        · obtain ⟨l, o, e1, e2, e3, e4⟩ := g2.env.cel i c q
          exact ⟨l, o, e1, leH l o e2, none2 l (some_ne e2) e3, e4.mono fun a o e => jn_l e⟩
      have G2 : GoS K pin σ B1 H1 Γ1 σ' (jn Bh B') H2 Γ' := by
        refine ⟨⟨fun a o na e => leH a o (g2.mv.kp a o na e), fun a o e => jn_l (g2.mv.bb a o e), fun a na h1 h2 => ?_⟩, g2.new, E2, g2.pin⟩
        obtain ⟨o, ho⟩ := ne_some h1
        exact none2 a (some_ne (g2.mv.kp a o na ho)) (g2.mv.off a na h1 h2)
      refine turn j d Γ' hd inv σ' _ H2 x E2 (is.mono bnew) _ fun σ2 Γ2 g3 w => ?_
      have G3 := G2.trans g3
      have step : ∀ σ3 B3 H3 Γ3, GoS K pin σ2 (jn Bh B') H2 Γ2 σ3 B3 H3 Γ3 → Inv (j + 1) Γ3 → Le B' H3 ∧ ∃ B4 Γ4, GoS K pin σ B1 H1 Γ1 σ3 B4 (umz sz H3) Γ4 ∧ Inv (j + 1) Γ4 ∧ Le B' B4 := fun σ3 B3 H3 Γ3 g4 p => by
        have G4 := G3.trans g4
        have b3 : ∀ a o, B' a = some o → B3 a = some o := fun a o e => g4.mv.bb a o (bnew a o e)
        refine ⟨fun a o e => g4.env.bh a o (b3 a o e), umz sz B3, Γ3, ⟨⟨fun a o na e => ?_, fun a o e => ?_, fun a na h1 h2 => umz_none (G4.mv.off a na h1 h2)⟩, G4.new, env_umz G4.env, G4.pin⟩, p, fun a o e => umz_keep (b3 a o e) (plain_mk (pl a o e))⟩
        · rw [umz_lt (hsz a (some_ne e))]; exact G4.mv.kp a o na e
        · rw [umz_lt (hsz a (some_ne (g1.env.bh a o e)))]; exact G4.mv.bb a o e
      have G3s := g1.s.trans G3
      exact w σ2 _ H2 _ g3.env (fun σ3 B3 H3 Γ3 g4 p => step σ3 B3 H3 Γ3 g4 p) (fun v σ3 B3 H3 z Γ3 g4 k p => r v σ3 B3 H3 z Γ3 (G3s.trans g4) (ReOk.earlier k G3s.mv G3s.new) p) (fun σ3 B3 H3 Γ3 g4 p => nx σ3 B3 H3 Γ3 (G3s.trans g4) p)
        (fun σ3 B3 H3 Γ3 g4 p => step σ3 B3 H3 Γ3 g4 p) fun _ _ _ _ _ _ _ _ _ p => p.elim
end
end Ab

namespace Ab
open PySem L2
theorem ExB.nil {K : PySem.W.Frag} {B : Hp} {d : Option Addr} (h : ExB K B d []) : d = Option.none := by
  cases h with
  | none => rfl
  | some _ _ _ hne => exact absurd rfl hne
section
variable {K : PySem.W.Frag} {pin : List Nat} {Γ : List Sl} {P : Ps}
theorem GoS.un {σ σ1 : L2.St} {B H B1 H1 : Hp} {Γ1 : List Sl} (g : GoS K pin σ B H Γ σ1 B1 H1 Γ1) {i : Nat} (hp : pin.contains i = false) : GoS K pin σ B H Γ (σ1.set i none) B1 H1 (Γ1.set i .un) := by
  by_cases hi : i < Γ1.length
  · refine g.trans ⟨Mv.refl _ _ _, fun a h => .inl (h.set_ne fun ds z => nomatch z), g.env.setU none hi, pin_set hp⟩
  · rw [List.set_eq_of_length_le (l := σ1) (by rw [g.env.len]; omega), List.set_eq_of_length_le (l := Γ1) (by omega)]
    exact g
theorem takes00 {X : Cx} : Takes X (fun _ _ _ _ => False) := fun _ _ x => by
  obtain ⟨_, _, _, _, _, _, _, _, _, _, _, _, _, _, _, _, z⟩ := x
  exact z.elim
end
end Ab

set_option maxHeartbeats 2000000
namespace Ab
open PySem L2 PySem.Spec PyProof.Rows
structure Dd (P : Program) (w : World) (K : PySem.W.Frag) (mg : Str → Option Value) (base : Heap) (CX : CXT) (k : Nat) (f : Addr) (sp : Sp) : Prop where
  ex : ∃ fd ps, FnOk P w K mg base CX k f fd ps sp ∧ Binds K fd ps [] ∧ PySem.W.keepIn K (.ref f) = true
section
variable {K : PySem.W.Frag} {Γ : List Sl} {ta : TA} {Post : Re → List Sl → Prop} {Kn : Addr → Prop} {i : Nat} {f : Addr}
end
end Ab

set_option maxHeartbeats 1000000
namespace L2
open PySem PySem.W PySem.Spec PySem.Calls PyProof.Rows
theorem star_items {prog : Program} {w : World} {A : Around} {E : Value → Shared → Prop} {s : Shared} {l : Addr} {items : Array Value} {Q : List Value → Shared → Prop} (hl : s.heap.IsList l items) (hh : A.handled = none) (h1 : 1 ≤ items.size) (hz : items.size ≤ sizeLine)
    (h : ∀ (h₂ : Heap) (tk : Nat), (∀ b o, s.heap.get? b = some o → h₂.get? b = some o) → Q (items.toList.take 1 ++ [.ref h₂.objs.size]) { s with heap := h₂.push { cls := .type "list", data := .seq (items.toList.drop 1).toArray }, toks := tk }) : wpAny (model prog w) A (unpackItems (.ref l) 2 (some 1)) Q E s := by
  have hlt : l ≠ s.heap.objs.size := by obtain ⟨o, ho, _⟩ := hl; exact Nat.ne_of_lt (Heap.lt_size ho)
  have hll : l < s.heap.objs.size := by obtain ⟨o, ho, _⟩ := hl; exact Heap.lt_size ho
  unfold unpackItems
  refine wpAny_bind ?_
  unfold notIterableAtAll
  refine wpAny_bind (wpAny_specialOf hl.typeIs slot_list_iter.lookup ?_)
  refine wpAny_pure ?_
  simp only [Bool.false_eq_true, if_false]
  refine wpAny_bind (wpAny_holding (wpAny_pyIter_list hl ?_))
  refine wpAny_bind (wpAny_holding (kun_draw hlt 1 0 _ _ ⟨_, Heap.get?_push_size _ rfl, rfl, rfl⟩ (hl.push _) (by omega) fun h₁ hit₁ hs₁ => ?_))
  have hl₁ : h₁.IsList l items := (hl.push _).extBut hs₁.extBut hlt
  rw [Nat.zero_add] at hit₁
  have hit₁' := hit₁
  obtain ⟨oi, hoi, _⟩ := hit₁'
  have hl₁' := hl₁
  obtain ⟨ol, hol, _⟩ := hl₁'
  rw [List.drop_zero]
  have hfl : (items.toList.take 1).length = 1 := by rw [List.length_take, Array.length_toList]; omega
  rw [if_neg (show ¬ ((items.toList.take 1).length < 1) by rw [hfl]; omega)]
  refine wpAny_bind (wpAny_holding (kun_collect (s := { s with heap := h₁ }) (T := "list_iterator") (.inr (.inr (.inl rfl))) (Walks.list (A := A.in1) hh s.heap.objs.size l hlt items) (fun j u st => st.1.typeIs) (k := 1) (by omega) ⟨hit₁, hl₁⟩ (Heap.lt_size hoi) (Heap.lt_size hol) (fun h₂ tk hk => ?_) hz))
  have hrl : (items.toList.drop 1).length = items.size - 1 := by rw [List.length_drop, Array.length_toList]
  show wpAny _ _ (if (items.toList.drop 1).length < 0 then _ else _) _ _ _
  rw [if_neg (by omega)]
  show wpAny _ _ (newList ((items.toList.drop 1).take ((items.toList.drop 1).length - 0)) >>= fun d => pure (items.toList.take 1 ++ [d] ++ (items.toList.drop 1).drop ((items.toList.drop 1).length - 0))) _ _ _
  rw [Nat.sub_zero, List.take_length, List.drop_length]
  refine wpAny_bind (wpAny_newList (wpAny_pure (by rw [List.append_nil]; exact h h₂ tk fun b o e => hk b o (Nat.ne_of_lt (Heap.lt_size e)) (hs₁.extBut b o (Nat.ne_of_lt (Heap.lt_size e)) (Heap.get?_push_of_some _ e)))) (by rw [hrl]; omega))
section
variable {X : Cx} {pos : Pos}
noncomputable def gStar (K : PySem.W.Frag) (t : TGs) : TG := fun v σ H Q => ∃ a x xs, v = .ref a ∧ SqL K H a (x :: xs) ∧ ∀ p, H p = none → t [x, .ref p] σ (upd H p (.lst xs)) Q
theorem pg_star {e0 e1 : Expr} {k : Nat} {p' : Pos} {t : TGs} (hc : X.calm = true) (h : PGs X [e0, e1] t)
    (hm : (assignEach [e0, .Starred e1 p'] X.env).map (·.2) = (assignEach [e0, e1] X.env).map (·.2) := by rfl)
    (hn : (assignEach [e0, .Starred e1 p'] X.env).length = 2 := by rfl) (hst : (assignEach [e0, .Starred e1 p'] X.env).findIdx? (·.1) = some 1 := by rfl) : PG X (.Tuple [e0, .Starred e1 p'] k pos) (gStar X.K t) := by
  refine ⟨fun pins s σ H v u Q I r hw => ?_⟩
  obtain ⟨a, x, xs, e1, hq, hw⟩ := hw
  subst e1
  cases r
  obtain ⟨its, rv, pl, hz⟩ := I.list hq
  have hl' : s.heap.IsList a its.toArray := by
    obtain ⟨o, m, e, c, d, q⟩ := pl
    exact ⟨o, e, c, m, q⟩
  rw [PyProof.Rows.assign_Tuple]
  refine wpAny_bind (wpAny_standAt ?_)
  unfold unpack
  rw [hn, hst, hm]
  cases rv with
  | cons r1 rv =>
    rename_i b bs
    have e9 := rv.length
    refine wpAny_bind (wpAny_holding (star_items (A := X.A) hl' (I.ok.hd hc) (by simp) (by simp at hz e9 ⊢; omega) fun h₂ tk hk => ?_))
    have I1 : Inv X pins σ H { s with heap := h₂, toks := tk } := I.kept hk
    have hp := I1.hok.fresh (Nat.le_refl _)
    have I2 := I1.laid (h' := h₂.push { cls := .type "list", data := .seq bs.toArray }) (t' := tk) (a := h₂.objs.size) (o := .lst xs) (fun b u q => Heap.get?_push_of_some _ q) (Nat.le_refl _) ⟨by simp at hz; omega, bs, 0, rv, Heap.get?_push_size (o := { cls := .type "list", data := .seq bs.toArray }) h₂ rfl⟩
    exact h.run pins _ σ _ [x, .ref h₂.objs.size] _ Q I2 (.cons (by simpa using r1) (.cons rfl .nil)) (hw _ hp)
end
end L2

namespace Ab
open PySem L2
inductive PD where
  | int (i : Int)
  | str (s : Str)
  | tup (l : List PD)
mutual
noncomputable def PD.dt : PD → Dt
  | .int i => .int i
  | .str s => .str s
  | .tup l => .tup (PD.dts l)
noncomputable def PD.dts : List PD → List Dt
  | [] => []
  | x :: r => x.dt :: PD.dts r
end
mutual
noncomputable def PD.py : PD → PyData
  | .int i => .int i
  | .str s => .str s
  | .tup l => .tuple (PD.pys l)
noncomputable def PD.pys : List PD → List PyData
  | [] => []
  | x :: r => x.py :: PD.pys r
end
mutual
noncomputable def PD.dep : PD → Nat
  | .int _ => 0
  | .str _ => 0
  | .tup l => PD.deps l + 1
noncomputable def PD.deps : List PD → Nat
  | [] => 0
  | x :: r => max x.dep (PD.deps r)
end
mutual
noncomputable def PD.ok : PD → Prop
  | .int _ => True
  | .str s => CS s
  | .tup l => l.length ≤ 1000000 ∧ PD.oks l
noncomputable def PD.oks : List PD → Prop
  | [] => True
  | x :: r => x.ok ∧ PD.oks r
end
theorem PD.dts_map : ∀ l : List PD, PD.dts l = l.map PD.dt
  | [] => by rw [PD.dts]; rfl
  | x :: r => by rw [PD.dts, PD.dts_map r]; rfl
theorem PD.deps_le {n : Nat} : ∀ {l : List PD}, PD.deps l ≤ n ↔ ∀ x ∈ l, x.dep ≤ n
  | [] => by simp [PD.deps]
  | x :: r => by
    rw [PD.deps, Nat.max_le, PD.deps_le (l := r)]
    simp
noncomputable def PD.eq (a b : PD) : Bool := PyData.eqv a.py b.py
noncomputable def PD.eqs (a b : List PD) : Bool := PyData.eqvAll (PD.pys a) (PD.pys b)
mutual
theorem PD.eq_iff : ∀ (a b : PD), PD.eq a b = true ↔ a = b
  | .int i, .int j => by simp [PD.eq, PD.py, PyData.eqv]
  | .int i, .str t => by simp [PD.eq, PD.py, PyData.eqv]
  | .int i, .tup m => by simp [PD.eq, PD.py, PyData.eqv]
  | .str s, .int j => by simp [PD.eq, PD.py, PyData.eqv]
  | .str s, .str t => by simp [PD.eq, PD.py, PyData.eqv]
  | .str s, .tup m => by simp [PD.eq, PD.py, PyData.eqv]
  | .tup l, .int j => by simp [PD.eq, PD.py, PyData.eqv]
  | .tup l, .str t => by simp [PD.eq, PD.py, PyData.eqv]
  | .tup l, .tup m => by
    have h := PD.eqs_iff l m
    unfold PD.eqs at h
    simp only [PD.eq, PD.py, PyData.eqv, PD.tup.injEq]
    exact h
theorem PD.eqs_iff : ∀ (a b : List PD), PD.eqs a b = true ↔ a = b
  | [], [] => by simp [PD.eqs, PD.pys, PyData.eqvAll]
  | [], y :: s => by simp [PD.eqs, PD.pys, PyData.eqvAll]
  | x :: r, [] => by simp [PD.eqs, PD.pys, PyData.eqvAll]
  | x :: r, y :: s => by
    have h1 := PD.eq_iff x y
    have h2 := PD.eqs_iff r s
    unfold PD.eqs at h2
    unfold PD.eq at h1
    simp only [PD.eqs, PD.pys, PyData.eqvAll, Bool.and_eq_true, List.cons.injEq]
    rw [h1, h2]
end
theorem PD.eq_false {a b : PD} (h : a ≠ b) : PD.eq a b = false := by
  cases e : PD.eq a b with
  | false => rfl
  | true => exact absurd ((PD.eq_iff a b).mp e) h
inductive SmP : List Sl → Bool → Nat → Prop
  | dat (a b : PD) (ha : a.ok) (hb : b.ok) : SmP [.val a.dt, .val b.dt] (PD.eq a b) (max a.dep b.dep)
  | lst (a b : List PD) (ha : PD.oks a) (hb : PD.oks b) (la : a.length ≤ 1000000) (lb : b.length ≤ 1000000) : SmP [.acc (PD.dts a), .acc (PD.dts b)] (PD.eqs a b) (max (PD.deps a) (PD.deps b) + 1)
end Ab

namespace L2
open PySem PySem.Spec PyProof.Rows PySem.W PySem.Calls
section
variable {X : Cx} {pins : List (Addr × Obj)} {σ : St} {H : Hp} {s : Shared} {D : Ends} {C f cda cc : Addr} {fd : FuncData} {body rest : List Stmt} {e : Expr} {es : List Expr} {p0 p1 p2 p3 p4 : Pos} {ta : TA} {t : TS}
  {oc ccl cl : Value} {od cdd cld : Option Addr} {osl ccs csl : Array (Option Value)} {ar : Arg} {vs : Array Value} {file : Str} {tf : Tok}
end
structure SupF (P : Program) (K : Frag) (C f : Addr) (F : NdefX.NF) (fd : FuncData) (x0 : Str) : Prop where
  lk : ∃ oc od dV kV doc pm an ct osl, fd = fnX F.name F.qual F.params F.body F.scope F.cl dV kV doc pm an (.ref F.c) ct ∧ K.lookup f = some ⟨oc, od, .func fd, osl⟩
  cd : codeIn K (.ref F.c) F.qual = true
  code : ∃ ccl cdd vs ccs file tf, K.lookup F.c = some ⟨ccl, cdd, .fields vs, ccs⟩ ∧ vs[2]? = some (.str file tf) ∧ ((P.main.file : Str) == file) = true
  top : (P.main.scope.names.lookup ("super" : Str)).isSome = false
  cell : ∃ cc cl cld csl, F.cl = [(("__class__" : Str), cc)] ∧ K.lookup cc = some ⟨cl, cld, .cell (some (.ref C)), csl⟩
  arg : ∃ ar, (F.params.posonlyargs ++ F.params.args).head? = some ar ∧ ar.arg = x0
  sup : ks_superIn K C C "__init__" = some (some (.builtin "ValueError.__init__"))
  opq : nsIn K cStatics "thirdparty.any" = some none
section
variable {CX : CXT} {P : Program} {w : World} {K : Frag} {mg : Str → Option Value} {base : Heap} {fI C : Addr} {F : NdefX.NF} {fd : FuncData} {x y f g msg : Str} {j : Nat} {p0 p1 p2 p3 p4 p5 p6 p7 q0 q1 q2 q3 q4 q5 q6 q7 : Pos}
end
end L2

namespace Ab
open PySem L2
noncomputable def tyS (x : V) (_ : Hp) : Prop := ∃ a : Str, x = .str a
theorem ty_S {X : Cx} : TyOk X "str" tyS := by
  intro pins σ H s x v I r ty
  obtain ⟨a, rfl⟩ := ty
  obtain ⟨t, rfl⟩ := r
  exact ⟨typeIs_str _ _ _, fun b e => nomatch e⟩
noncomputable def rSplitS : V → List V → Hp → VK → Prop := fun x xs H Q => ∃ a b, x = .str a ∧ xs = [.str b] ∧ (b.length == 0) = false ∧ a.length + 2 ≤ sizeLine ∧ rNewStrs (Txt.split a b) H Q
theorem mt_splitS {X : Cx} : MtR X "str.split" rSplitS := mt_split
noncomputable def rFind3 : V → List V → Hp → VK → Prop := fun x xs H Q => ∃ (a b : Str) (i : Int), x = .str a ∧ xs = [.str b, .int i] ∧ Q (.int (Txt.find3 a b i)) H
theorem mt_find3S {X : Cx} : MtR X "str.find" rFind3 := mt_find3
noncomputable def rGeS : R2 := fun x y H Q => ∃ i j : Str, x = .str i ∧ y = .str j ∧ Q (.bl (!decide (i.cps.toList < j.cps.toList))) H
theorem op_geS {X : Cx} : OpR X (compareOp .GtE) rGeS := op_ge_str
section
variable {K : PySem.W.Frag} {Γ : List Sl} {Post : Re → List Sl → Prop} {ta tb te to : TE} {pin : List Nat} {P : Ps}
theorem we_joinG (h : WE K to Γ fun r Γ1 => ∃ a : Str, r = .val (.str a) ∧ WE K te Γ1 fun z Γ2 => Hold (∃ ys : List Str, seqOf Γ2 z = some (ys.map Dt.str) ∧ (ys.map (·.length)).sum + ys.length * a.length ≤ 16777216 ∧ Post (.val (.str (Txt.join a ys))) Γ2)) :
    WE K (tM1 (rJoin K) to te) Γ Post := fun σ B H E Q q => by
  refine h σ B H E _ fun x B1 H1 r Γ1 g1 k1 p1 => ?_
  obtain ⟨a, rfl, p1⟩ := p1
  cases Is.rawI k1
  refine ⟨⟨a, rfl⟩, ?_⟩
  refine p1 σ B1 H1 g1.env _ fun y B2 H2 z Γ2 g2 k2 p2 => ?_
  obtain ⟨ys, hl, hz, p⟩ := p2.get
  obtain ⟨b, vs, rfl, hq, ha⟩ := rv_seq g2.env k2.rv hl
  rw [rawsI_str ha] at hq
  exact ⟨a, b, ys, rfl, rfl, hq, hz, q _ B2 H2 _ Γ2 (g1.trans g2) (.raw _) p⟩
theorem we_geS (h : WE K ta Γ fun ra Γ1 => WE K tb Γ1 fun rb Γ2 => ∃ s t : Str, ra = .val (.str s) ∧ rb = .val (.str t) ∧ Post (.val (.bl (!decide (s.cps.toList < t.cps.toList)))) Γ2) : WE K (tOp rGeS ta tb) Γ Post :=
  we_two' (we_mono h fun ra Γ1 h1 => we_mono h1 fun rb Γ2 hp => fun σ B H x y E kx ky Q q => by
    obtain ⟨s, t, rfl, rfl, p⟩ := hp
    cases Is.rawI kx; cases Is.rawI ky
    exact ⟨s, t, rfl, rfl, q _ B H _ Γ2 (.refl E) (.raw _) p⟩)
theorem we_splitS (h : WE K to Γ fun r Γ1 => ∃ s : Str, r = .val (.str s) ∧ WE K te Γ1 fun z Γ2 => ∃ t : Str, z = .val (.str t) ∧ (t.length == 0) = false ∧ s.length + 2 ≤ sizeLine ∧ Post (.new ((Txt.split s t).map Dt.str)) Γ2) : WE K (tM1 rSplitS to te) Γ Post := fun σ B H E Q q => by
  refine h σ B H E _ fun x B1 H1 r Γ1 g1 k1 p1 => ?_
  obtain ⟨a, rfl, p1⟩ := p1
  cases Is.rawI k1
  refine ⟨⟨a, rfl⟩, ?_⟩
  refine p1 σ B1 H1 g1.env _ fun y B2 H2 z Γ2 g2 k2 p2 => ?_
  obtain ⟨b, rfl, hb, hz, p⟩ := p2
  cases Is.rawI k2
  refine ⟨a, b, rfl, rfl, hb, hz, fun l hl => ?_⟩
  have ia : IsA K B2 ((Txt.split a b).map V.str) ((Txt.split a b).map Dt.str) := by
    have := IsA.raws (K := K) (B := B2) (xs := (Txt.split a b).map V.str)
    rw [List.map_map] at this
    exact this
  have g := g1.trans g2
  have kk : ReOk K σ (Own σ Γ2) (Own σ Γ2) B2 H2 (upd H2 l (.lst ((Txt.split a b).map V.str))) (.ref l) (.new ((Txt.split a b).map Dt.str)) := ⟨l, _, rfl, .inr hl, g.env.not_own hl, upd_same, g.env.base_none hl, _, rfl, ia⟩
  exact q _ _ _ (.new _) Γ2 (g.trans (Go.beside g.env hl)) (ReOk.earlier kk g.mv fun a h => .inl (g.sub a h)) p
theorem we_find3 {t : TA} (h : WE K to Γ fun r Γ1 => ∃ s : Str, r = .val (.str s) ∧ WD K t Γ1 fun ds Γ2 => ∃ (b : Str) (i : Int), ds = [.str b, .int i] ∧ Post (.val (.int (Txt.find3 s b i))) Γ2) : WE K (tMG tyS rFind3 to t) Γ Post := fun σ B H E Q q => by
  refine h σ B H E _ fun x B1 H1 r Γ1 g1 k1 p1 => ?_
  obtain ⟨a, rfl, p1⟩ := p1
  cases Is.rawI k1
  refine ⟨⟨a, rfl⟩, ?_⟩
  refine p1 σ B1 H1 g1.env _ fun vs B2 H2 ds Γ2 g2 k2 p2 => ?_
  obtain ⟨b, i, rfl, p⟩ := p2
  have ev : vs = [.str b, .int i] := IsA.rawsI (xs := [.str b, .int i]) k2
  subst ev
  exact ⟨a, b, i, rfl, rfl, q _ B2 H2 _ Γ2 (g1.trans g2) (.raw _) p⟩
theorem ws_star {i j : Nat} (hp : pin.contains i = false) (hq : pin.contains j = false) (hi : decide (i < Γ.length) = true) (hj : decide (j < Γ.length) = true) (hij : i ≠ j)
    (h : WE K te Γ fun z Γ1 => ∃ d ds, z = .new (d :: ds) ∧ P.nx ((Γ1.set i (.val d)).set j (.acc ds))) : WS K pin (tAsg te (gStar K (gCons (gName i) (gCons (gName j) gNil)))) Γ P := fun σ B H D E n r b c xx =>
  h σ B H E _ fun v B1 H1 z Γ1 g k p => by
    obtain ⟨d, ds, rfl, p⟩ := p
    obtain ⟨l, o, rfl, h1, h2, h3, h4, vs, rfl, h5⟩ := k
    cases vs with
    | nil => have := h5.len; simp at this
    | cons x xs =>
      have kx : Is K B1 x d := h5.at_ 0 x d rfl rfl
      have kr : IsA K B1 xs ds := ⟨by have := h5.len; simpa using this, fun i v d a b => h5.at_ (i + 1) v d (by simpa using a) (by simpa using b)⟩
      refine ⟨l, x, xs, rfl, .inl (.inl h3), fun q hq0 => ?_⟩
      have gb := Go.beside (o := .lst xs) g.env hq0
      have e1 : i < Γ1.length := by rw [← g.env.len, E.len]; exact of_decide_eq_true hi
      have e2 : j < Γ1.length := by rw [← g.env.len, E.len]; exact of_decide_eq_true hj
      have kk : ReOk K σ (Own σ Γ1) (Own σ Γ1) B1 H1 (upd H1 q (.lst xs)) (.ref q) (.new ds) := ⟨q, _, rfl, .inr hq0, g.env.not_own hq0, upd_same, g.env.base_none hq0, _, rfl, kr⟩
      have s1 := goS_set (pin := pin) (g.trans gb) (ReOk.earlier kk g.mv fun a h => .inl (g.sub a h)) hq e2
      have s2 := goS_set (r := .val d) (v := x) (pin := pin) (.refl s1.env) kx hp (by simpa using e1)
      have s3 := s1.trans s2
      refine ⟨x, _, rfl, _, _, rfl, rfl, ?_⟩
      have c1 : (σ.set j (some (V.ref q))).set i (some x) = (σ.set i (some x)).set j (some (V.ref q)) := List.set_comm _ _ (Ne.symm hij)
      have c2 : (Γ1.set j (slOf (.new ds))).set i (slOf (.val d)) = (Γ1.set i (.val d)).set j (.acc ds) := List.set_comm _ _ (Ne.symm hij)
      rw [c1, c2] at s3
      exact n _ _ _ _ s3 p
end
end Ab

namespace Ab
open PySem L2
noncomputable def rNotInC : R2 := fun x y H Q => ∃ (c : Nat) (z : Str), x = .str ⟨#[c]⟩ ∧ y = .str z ∧ Q (.bl (!decide (c ∈ z.cps.toList))) H
theorem op_notInC {X : Cx} : OpR X (compareOp .NotIn) rNotInC := op_notIn_sign
theorem we_notInC {K : PySem.W.Frag} {Γ : List Sl} {Post : Re → List Sl → Prop} {ta tb : TE} (h : WE K ta Γ fun ra Γ1 => WE K tb Γ1 fun rb Γ2 => ∃ (c : Nat) (z : Str), ra = .val (.str ⟨#[c]⟩) ∧ rb = .val (.str z) ∧ Post (.val (.bl (!decide (c ∈ z.cps.toList)))) Γ2) : WE K (tOp rNotInC ta tb) Γ Post :=
  we_two' (we_mono h fun ra Γ1 h1 => we_mono h1 fun rb Γ2 hp => fun σ B H y z E ky kz Q q => by
    obtain ⟨c, s, rfl, rfl, p⟩ := hp
    cases Is.rawI ky; cases Is.rawI kz
    exact ⟨c, s, rfl, rfl, q _ B H _ Γ2 (.refl E) (.raw _) p⟩)
end Ab

namespace Ab
open PySem L2
theorem en_turns {a : Addr} {xs : List V} {gt : TG} {tb : TS} {D : Ends} {σ : L2.St} {H : Hp} (Pv : Nat → L2.St → Hp → Prop) (h0 : Pv 0 σ H) (hl : ∀ i σ H, i ≤ xs.length → Pv i σ H → SqT K H a xs)
    (hs : ∀ (i : Nat) x σ H T, xs[i]? = some x → Pv i σ H → H T = none → gt (.ref T) σ (upd H T (.tup [.int ((0 : Int) + (i : Nat)), x])) fun σ2 H2 => tb { D with nx := Pv (i + 1), ct := Pv (i + 1), bk := D.nx } σ2 H2) (hd : ∀ σ H, Pv xs.length σ H → D.nx σ H) :
    ∃ W : Nat → Nat → L2.St → Hp → Prop, (∃ m, W 0 m σ H) ∧ ∀ i m σ H, W i m σ H →
      ((IteT K a 0).stop i H ∧ D.nx σ H) ∨ ((IteT K a 0).go i H ∧ ∃ N : L2.St → Hp → Prop, (∀ σ' H', N σ' H' → ∃ m', m' < m ∧ W (i + 1) m' σ' H') ∧ ∀ v H', (IteT K a 0).yld i H v H' → gt v σ H' fun σ2 H2 => tb { D with nx := N, ct := N, bk := D.nx } σ2 H2) := by
  refine ⟨fun i m σ H => m = xs.length - i ∧ i ≤ xs.length ∧ Pv i σ H, ⟨xs.length, by simp, Nat.zero_le _, h0⟩, ?_⟩
  rintro i m σ H ⟨rfl, hi, p⟩
  have q := hl i σ H hi p
  rcases Nat.lt_or_ge i xs.length with hlt | hge
  · refine .inr ⟨⟨xs, xs[i], q, List.getElem?_eq_getElem hlt⟩, Pv (i + 1), fun σ' H' p' => ⟨_, by omega, rfl, by omega, p'⟩, ?_⟩
    rintro v H' ⟨T, x, rfl, hT, rfl, hx⟩
    exact hs i x σ H T (hx xs q) p hT
  · obtain rfl : i = xs.length := by omega
    exact .inl ⟨⟨xs, q, rfl⟩, hd σ H p⟩
theorem ws_forEn {K : PySem.W.Frag} {pin : List Nat} {Γ : List Sl} {P : Ps} {ta : TA} {gt : TG} {tb : TS} (ds : List Dt) (Inv : Nat → List Sl → Prop) (h : WD K ta Γ fun es Γ1 => Hold (es = [.tup ds] ∧ Inv 0 Γ1))
    (turn : ∀ (i : Nat) d G, ds[i]? = some d → Inv i G → WG K pin gt (.tup [.int (i : Int), d]) G fun G2 => WS K pin tb G2 ⟨fun G => Hold (Inv (i + 1) G), P.rt, P.nx, fun G => Hold (Inv (i + 1) G), P.ex⟩) (done : ∀ G, Inv ds.length G → P.nx G) : WS K pin (tFor (iEnumT K ta) gt tb) Γ P := fun σ B H D E n r b c xx => by
  refine h σ B H E _ fun vs B1 H1 es Γ1 g1 k p => ?_
  obtain ⟨rfl, i0⟩ := p.get
  obtain ⟨v, rfl⟩ : ∃ v, vs = [v] := by
    match vs, k.len with
    | [v], _ => exact ⟨v, rfl⟩
  have hv : Is K B1 v (.tup ds) := k.at_ 0 v _ rfl rfl
  obtain ⟨a, xs, rfl, ha, hx⟩ := Is.tupR hv
  refine ⟨a, xs, rfl, sqT_mono g1.env.bh ha, en_turns (xs := xs) (fun i σ' H' => ∃ B' Γ', Same B1 B' ∧ GoS K pin σ B H Γ σ' B' H' Γ' ∧ Hold (Inv i Γ')) ⟨B1, Γ1, Same.refl _, g1.s, .a i0⟩ ?_ ?_ ?_⟩
  · rintro i σ' H' _ ⟨B', Γ', sb, g2, _⟩
    exact sqT_mono (sb.trans g2.env.bh) ha
  · rintro i x σ' H' T hi ⟨B', Γ', sb, g2, inv⟩ hT
    have hlt : i < ds.length := by rw [← hx.len]; exact (List.getElem?_eq_some_iff.mp hi).1
    have gl := Go.laid (o := .tup [.int ((0 : Int) + (i : Nat)), x]) g2.env hT
    have hxi := ((hx.at_ i x _ hi (List.getElem?_eq_getElem hlt)).mono sb).mono gl.mv.bb
    have iT : Is K (upd B' T (.tup [.int ((0 : Int) + (i : Nat)), x])) (.ref T) (.tup [.int (i : Int), ds[i]]) := by
      have e0 : (0 : Int) + ((i : Nat) : Int) = (i : Int) := Int.zero_add _
      have ia : IsA K (upd B' T (.tup [.int ((0 : Int) + (i : Nat)), x])) [.int ((0 : Int) + (i : Nat)), x] [.int (i : Int), ds[i]] := .cons (by rw [e0]; exact .raw _) (.cons hxi .nil)
      exact .tup (.inl (.inl upd_same)) ia.len ia.at_
    have g2' := g2.trans (gl.s (pin := pin))
    refine turn i ds[i] Γ' (List.getElem?_eq_getElem hlt) inv.get σ' _ _ _ g2'.env iT _ fun σ2 Γ2 g3 w => ?_
    have g23 := g2'.trans g3
    have sb2 := sb.trans gl.mv.bb
    refine w σ2 _ _ _ g23.env (fun σ3 B3 H3 Γ3 g4 p => ⟨B3, Γ3, sb2.trans g4.mv.bb, g23.trans g4, p⟩) (fun v σ3 B3 H3 z Γ3 g4 k4 p => r v σ3 B3 H3 z Γ3 (g23.trans g4) (ReOk.earlier k4 g23.mv g23.new) p)
      (fun σ3 B3 H3 Γ3 g4 p => n σ3 B3 H3 Γ3 (g23.trans g4) p) (fun σ3 B3 H3 Γ3 g4 p => ⟨B3, Γ3, sb2.trans g4.mv.bb, g23.trans g4, p⟩) (fun cls d fs σ3 B3 H3 Γ3 g4 hx p => xx cls d fs σ3 B3 H3 Γ3 (g23.trans g4) hx p)
  · rintro σ' H' ⟨B', Γ', sb, g2, inv⟩
    rw [hx.len] at inv
    exact n σ' B' H' Γ' g2 (done Γ' inv.get)
end Ab

namespace Ab
open PySem L2
end Ab
namespace Doc
open PySem L2 Ab
noncomputable def tq_letters (K : PySem.W.Frag) (ap__law_take : AP) : TS :=
    (tSeq (tAsg (tC (.str "abcdefghijklmnopqrstuvwxyz")) (gName 2))
    (tRet (tM1 (rJoin K) (tC (.str "")) (tLc (iRng1 (tCons (tVar 1) tNil)) (gName 3) tYes (tOp (rIx K) (tVar 2) (tCall (toSp K ap__law_take) [] E0 (tCons (tVar 0) (tCons (tC (.int 26)) tNil)))) [3]))))
noncomputable def tq_name (K : PySem.W.Frag) (ap__law_take : AP) (ap__law_letters : AP) : TS :=
    (tSeq (tAsg (tCall (toSp K ap__law_take) [] E0 (tCons (tVar 0) (tCons (tC (.int 5)) tNil))) (gName 2))
    (tSeq (tAsg (tC (.str "")) (gName 3))
    (tSeq (tIfS (tAnd (tTest (tOp rGtI (tVar 2) (tC (.int 0)))) (tTest (tOp rGtI (tCB (rLenV K) (tCons (tVar 1) tNil)) (tC (.int 0))))) (tAsg (tOp (rIx K) (tVar 1) (tCall (toSp K ap__law_take) [] E0 (tCons (tVar 0) (tCons (tCB (rLenV K) (tCons (tVar 1) tNil)) tNil)))) (gName 3)) tNext)
    (tSeq (tIfS (tAnd (tTest (tOp (rEqG K) (tVar 2) (tC (.int 1)))) (tTest (tOp rGtI (tCB (rLenV K) (tCons (tVar 3) tNil)) (tC (.int 0))))) (tSeq (tAsg (tCall (toSp K ap__law_take) [] E0 (tCons (tVar 0) (tCons (tCB (rLenV K) (tCons (tVar 3) tNil)) tNil))) (gName 4))
    (tAsg (tOp (rAddG K) (tOp (rAddG K) (tSl (rSlG K) (tVar 3) tNoPart (tPart (tVar 4))) (tCall (toSp K ap__law_letters) [] E0 (tCons (tVar 0) (tCons (tC (.int 1)) tNil)))) (tSl (rSlG K) (tVar 3) (tPart (tOp (rAddG K) (tVar 4) (tC (.int 1)))) tNoPart)) (gName 3))) tNext)
    (tSeq (tIfS (tAnd (tTest (tOp (rEqG K) (tVar 2) (tC (.int 2)))) (tTest (tChain rLtI rLtI (tC (.int 0)) (tCB (rLenV K) (tCons (tVar 3) tNil)) (tC (.int 8))))) (tAsg (tOp (rAddG K) (tVar 3) (tCall (toSp K ap__law_letters) [] E0 (tCons (tVar 0) (tCons (tC (.int 1)) tNil)))) (gName 3)) tNext)
    (tSeq (tIfS (tTest (tOp (rEqG K) (tVar 3) (tC (.str "")))) (tAsg (tCall (toSp K ap__law_letters) [] E0 (tCons (tVar 0) (tCons (tOp (rAddG K) (tC (.int 1)) (tCall (toSp K ap__law_take) [] E0 (tCons (tVar 0) (tCons (tC (.int 8)) tNil)))) tNil))) (gName 3)) tNext)
    (tSeq (tDrop (tBM K "list" rAppend (tVar 1) (tCons (tVar 3) tNil)))
    (tRet (tVar 3)))))))))
noncomputable def tq_marks (K : PySem.W.Frag) (ap__law_take : AP) (ap__law_name : AP) : TS :=
    (tSeq (tAsg (tLst tNil) (gName 2))
    (tSeq (tFor (iRng1 (tCons (tCall (toSp K ap__law_take) [] E0 (tCons (tVar 0) (tCons (tC (.int 4)) tNil))) tNil)) (gName 3) (tSeq (tAsg (tCall (toSp K ap__law_name) [] E0 (tCons (tVar 0) (tCons (tVar 1) tNil))) (gName 4))
    (tSeq (tAsg (tLc (iList K (tVar 2)) (gName 6) (tTest (tOp (rLtG K) (tVar 6) (tVar 4))) (tVar 6) [6]) (gName 5))
    (tAsg (tOp (rAddG K) (tOp (rAddG K) (tVar 5) (tLst (tCons (tVar 4) tNil))) (tLc (iList K (tVar 2)) (gName 6) (tTest (tOp rGtS (tVar 6) (tVar 4))) (tVar 6) [6])) (gName 2)))))
    (tRet (tCB (rTupleOf K) (tCons (tVar 2) tNil)))))
noncomputable def tq_prose (K : PySem.W.Frag) (ap__law_take : AP) : TS :=
    (tSeq (tAsg (tC (.str " abcdefghijklmnopqrstuvwxyzABCDEFGHIJKLMNOPQRSTUVWXYZ0123456789.,;:!?'()|")) (gName 2))
    (tRet (tM1 (rJoin K) (tC (.str "")) (tLc (iRng1 (tCons (tVar 1) tNil)) (gName 3) tYes (tOp (rIx K) (tVar 2) (tCB rMx2 (tCons (tC (.int 0)) (tCons (tOp rSubI (tCall (toSp K ap__law_take) [] E0 (tCons (tVar 0) (tCons (tC (.int 93)) tNil))) (tC (.int 20))) tNil)))) [3]))))
noncomputable def tq_text (K : PySem.W.Frag) (ap__law_take : AP) (ap__law_prose : AP) : TS :=
    (tSeq (tAsg (tOp (rIx K) (tLst (tCons (tC (.int 4)) (tCons (tC (.int 4)) (tCons (tC (.int 9)) (tCons (tC (.int 60)) tNil))))) (tCall (toSp K ap__law_take) [] E0 (tCons (tVar 0) (tCons (tC (.int 4)) tNil)))) (gName 2))
    (tSeq (tAsg (tOp (rAddG K) (tC (.int 1)) (tCall (toSp K ap__law_take) [] E0 (tCons (tVar 0) (tCons (tCB rMn2 (tCons (tCB rInt1 (tCons (tVar 2) tNil)) (tCons (tOp (rIx K) (tVar 1) (tC (.int 1))) tNil))) tNil)))) (gName 2))
    (tSeq (tAsg (tOp rSubI (tOp (rIx K) (tVar 1) (tC (.int 1))) (tVar 2)) (gSub (tVar 1) (tC (.int 1)) rSetL))
    (tRet (tCall (toSp K ap__law_prose) [] E0 (tCons (tVar 0) (tCons (tVar 2) tNil)))))))
noncomputable def tq_item (K : PySem.W.Frag) (ap__law_take : AP) (ap__law_part : AP) (ap__law_name : AP) (ap__law_text : AP) : TS :=
    (tSeq (tAsg (tCall (toSp K ap__law_take) [] E0 (tCons (tVar 0) (tCons (tC (.int 8)) tNil))) (gName 4))
    (tSeq (tIfS (tAnd (tTest (tOp (rLtG K) (tVar 4) (tC (.int 3)))) (tTest (tOp rLeI (tVar 3) (tOp (rIx K) (tVar 2) (tC (.int 3)))))) (tRet (tCall (toSp K ap__law_part) [] E0 (tCons (tVar 0) (tCons (tVar 1) (tCons (tVar 2) (tCons (tVar 3) tNil)))))) tNext)
    (tSeq (tIfS (tAnd (tTest (tOp (rEqG K) (tVar 4) (tC (.int 3)))) (tTest (tOp rGtI (tOp (rIx K) (tVar 2) (tC (.int 2))) (tC (.int 0))))) (tSeq (tAsg (tOp rSubI (tOp (rIx K) (tVar 2) (tC (.int 2))) (tC (.int 1))) (gSub (tVar 2) (tC (.int 2)) rSetL))
    (tRet (tTup (tCons (tC (.str "@")) (tCons (tCall (toSp K ap__law_name) [] E0 (tCons (tVar 0) (tCons (tVar 1) tNil))) tNil))))) tNext)
    (tSeq (tIfS (tAnd (tTest (tOp rGtI (tVar 4) (tC (.int 4)))) (tTest (tOp rGtI (tOp (rIx K) (tVar 2) (tC (.int 1))) (tC (.int 0))))) (tRet (tCall (toSp K ap__law_text) [] E0 (tCons (tVar 0) (tCons (tVar 2) tNil)))) tNext)
    (tRet (tTup (tCons (tC (.str "#")) (tCons (tCall (toSp K ap__law_name) [] E0 (tCons (tVar 0) (tCons (tVar 1) tNil))) tNil))))))))
noncomputable def tq_part (K : PySem.W.Frag) (ap__law_name : AP) (ap__law_marks : AP) (ap__law_take : AP) (ap__law_item : AP) : TS :=
    (tSeq (tAsg (tCall (toSp K ap__law_name) [] E0 (tCons (tVar 0) (tCons (tVar 1) tNil))) (gName 4))
    (tSeq (tAsg (tCall (toSp K ap__law_marks) [] E0 (tCons (tVar 0) (tCons (tVar 1) tNil))) (gName 5))
    (tSeq (tAsg (tCall (toSp K ap__law_take) [] E0 (tCons (tVar 0) (tCons (tC (.int 5)) tNil))) (gName 6))
    (tSeq (tIfS (tTest (tOp (rEqG K) (tVar 6) (tC (.int 4)))) (tAsg (tCall (toSp K ap__law_take) [] E0 (tCons (tVar 0) (tCons (tOp (rAddG K) (tOp (rIx K) (tVar 2) (tC (.int 4))) (tC (.int 1))) tNil))) (gName 6)) tNext)
    (tSeq (tAsg (tCB rMn2 (tCons (tCB rInt1 (tCons (tVar 6) tNil)) (tCons (tOp (rIx K) (tVar 2) (tC (.int 0))) tNil))) (gName 6))
    (tSeq (tAsg (tOp rSubI (tOp (rIx K) (tVar 2) (tC (.int 0))) (tVar 6)) (gSub (tVar 2) (tC (.int 0)) rSetL))
    (tSeq (tAsg (tLst tNil) (gName 7))
    (tSeq (tFor (iRng1 (tCons (tVar 6) tNil)) (gName 8) (tDrop (tBM K "list" rAppend (tVar 7) (tCons (tCall (toSp K ap__law_item) [] E0 (tCons (tVar 0) (tCons (tVar 1) (tCons (tVar 2) (tCons (tOp (rAddG K) (tVar 3) (tC (.int 1))) tNil))))) tNil))))
    (tSeq (tIfS (tAnd (tTest (tOp rGtI (tVar 6) (tC (.int 1)))) (tAnd (tTest (tOp (rEqG K) (tOp (rIx K) (tVar 0) (tC (.int 2))) (tC (.int 0)))) (tTest (tOp (rEqG K) (tOp rModI (tCB (rLenV K) (tCons (tVar 1) tNil)) (tC (.int 3))) (tC (.int 1)))))) (tIfS (tOr (tTest (tOp (rEqG K) (tOp (rIx K) (tOp (rIx K) (tVar 7) (tC (.int 0))) (tC (.int 0))) (tC (.str "#")))) (tTest (tOp (rEqG K) (tSl (rSlG K) (tOp (rIx K) (tVar 7) (tC (.int 0))) (tPart (tC (.int 2))) tNoPart) (tTup (tCons (tTup tNil) tNil))))) (tAsg (tOp (rIx K) (tVar 7) (tC (.int 0))) (gSub (tVar 7) (tOp rSubI (tVar 6) (tC (.int 1))) rSetL)) tNext) tNext)
    (tRet (tTup (tCons (tVar 4) (tCons (tVar 5) (tCons (tCB (rTupleOf K) (tCons (tVar 7) tNil)) tNil))))))))))))))
end Doc
namespace Doc
open PySem L2 Ab
local macro_rules | `(tactic| walk_at "no") => `(tactic| first
  | with_reducible exact fun h => Bool.noConfusion (show true = false from h)
  | with_reducible exact fun h => Bool.noConfusion (show false = true from h)
  | exact fun h => absurd h (by decide)
  | exact fun h => absurd (of_decide_eq_true h) (by omega)
  | exact fun h => absurd (by omega) (of_decide_eq_false h)
  | exact fun h => absurd (by omega) (nd_t h)
  | exact fun h => absurd (nd_f h) (by omega)
  | fail "no")
local macro_rules | `(tactic| walk_at "kb") => `(tactic| first | exact kb_tt | exact kb_ll | exact kb_ii | exact kb_ib | exact kb_ss | exact kb_sb | exact kb_si | exact kb_tb | exact kb_ti | exact kb_ts | exact kb_tl | exact kb_lb | exact kb_li | exact kb_ls | exact kb_lt | exact kb_is | exact kb_it | exact kb_il | exact kb_st | exact kb_sl | exact kb_bb | exact kb_bi | exact kb_nb | exact kb_ni | exact kb_ns | exact kb_nt | exact kb_nl | exact kb_bs | exact kb_bt | exact kb_bl | fail "kb")
local macro_rules | `(tactic| walk_at "norm") => `(tactic| first
  | ((refine' norm_cons (rfl : _ = _ :: _) ?ea ?et); (case ea => first | with_reducible exact (rfl : Sl.val _ = _) | with_reducible exact (rfl : Sl.cel _ = _) | with_reducible exact (rfl : Sl.un = _) | with_reducible exact norm_v | with_reducible exact norm_n | with_reducible exact norm_o | exact norm_v | exact norm_n | exact norm_o | exact rfl | fail "norm"); (case et => walk_at "norm"))
  | exact (rfl : _ = ([] : List Sl))
  | fail "norm")
local macro_rules | `(tactic| walk_at "nd") => `(tactic| first
  | exact (rfl : _ = ([] : List Dt))
  | ((refine' normD_cons (rfl : _ = _ :: _) ?et); (case et => walk_at "nd"))
  | fail "nd")
local macro_rules | `(tactic| walk_at "yO") => `(tactic| first
  | with_reducible refine we_ixG ?_
  | with_reducible refine we_opI0 ?_
  | with_reducible refine we_addG ?_
  | with_reducible refine we_eqG ?_
  | with_reducible refine we_neG ?_
  | with_reducible refine we_ltG ?_
  | with_reducible refine we_mulG ?_
  | with_reducible refine we_opI ?_
  | with_reducible refine we_inG ?_
  | with_reducible refine we_notInG ?_
  | with_reducible refine we_gtS ?_
  | fail "yO")
local macro_rules | `(tactic| walk_at "yB") => `(tactic| first
  | with_reducible refine we_lenG ?_
  | with_reducible refine we_isiG ?_
  | with_reducible refine we_intG ?_
  | with_reducible refine we_tuple ?_
  | with_reducible refine we_list ?_
  | with_reducible refine we_sumG ?_
  | with_reducible refine we_sum ?_
  | with_reducible refine we_max2 ?_
  | with_reducible refine we_min2 ?_
  | with_reducible refine we_abs ?_
  | with_reducible refine we_isoG ?_
  | with_reducible refine we_join ?_
  | fail "yB")
local macro_rules | `(tactic| walk_at "yV") => `(tactic| first
  | ((with_reducible refine' we_var ?hh ?_); (case hh => exact rfl))
  | ((with_reducible refine' we_own ?hh ?_); (case hh => exact rfl))
  | fail "yV")
local macro_rules | `(tactic| walk_at "yC") => `(tactic| first
  | with_reducible refine we_c ?_
  | fail "yC")
local macro_rules | `(tactic| walk_at "yE") => `(tactic| first
  | ((with_reducible show Ab.WE _ (L2.tVar _) _ _); walk_at "yV")
  | ((with_reducible show Ab.WE _ (L2.tOp _ _ _) _ _); walk_at "yO")
  | ((with_reducible show Ab.WE _ (L2.tC _) _ _); walk_at "yC")
  | ((with_reducible show Ab.WE _ (L2.tCB _ _) _ _); walk_at "yB")
  | with_reducible refine we_callH ?_
  | with_reducible refine we_join ?_
  | with_reducible refine we_fldG ?_
  | with_reducible refine we_tup ?_
  | with_reducible refine we_lst ?_
  | with_reducible refine we_notN ?_
  | with_reducible refine we_isN ?_
  | with_reducible refine we_if ?_
  | with_reducible refine we_methG ?_
  | ((with_reducible refine' we_appendN ?hh ?_); (case hh => exact rfl))
  | with_reducible refine we_slG ?_
  | with_reducible refine we_neg ?_
  | with_reducible refine we_make ?_
  | with_reducible refine we_own2 ?_
  | with_reducible refine we_smeth ?_
  | with_reducible refine we_makeD ?_
  | with_reducible refine we_makeK ?_
  | ((with_reducible refine' we_clearN ?hh ?_); (case hh => exact rfl))
  | with_reducible refine we_chainI ?_
  | with_reducible refine we_andV ?_
  | with_reducible refine we_orV ?_
  | with_reducible refine we_notV ?_
  | ((with_reducible refine' we_reverseN ?hh ?_); (case hh => exact rfl))
  | ((with_reducible refine' we_ktup ?h1 ?_); (case h1 => assumption))
  | fail "yE")
local macro_rules | `(tactic| walk_at "yS") => `(tactic| first
  | with_reducible refine ws_if ?_
  | with_reducible refine ws_expr ?_
  | with_reducible refine ws_asgN rfl rfl ?_
  | with_reducible refine ws_setN ?_
  | with_reducible refine ws_asgG ?_
  | with_reducible refine ws_nil ?_
  | ((with_reducible refine' ws_retA ?hh ?_); (case hh => exact rfl))
  | with_reducible refine ws_ret ?_
  | ((with_reducible refine' ws_augN ?h1 ?h2 ?_); (case h1 => exact rfl); (case h2 => exact rfl))
  | fail "yS")
local macro_rules | `(tactic| walk_at "yT") => `(tactic| first
  | with_reducible refine wt_test ?_
  | with_reducible refine wt_B ?_
  | with_reducible refine wt_not ?_
  | with_reducible refine wt_and ?_
  | with_reducible refine wt_or ?_
  | with_reducible refine wt_yes ?_
  | fail "yT")
local macro_rules | `(tactic| walk_at "yG") => `(tactic| first
  | with_reducible refine wg_nameN rfl rfl ?_
  | ((with_reducible refine' wg_tup ?hh ?_); (case hh => exact rfl))
  | fail "yG")
local macro_rules | `(tactic| walk_at "yD") => `(tactic| first
  | with_reducible refine wd_cons ?_
  | with_reducible refine wd_nil ?_
  | fail "yD")
local macro_rules | `(tactic| walk_at "yW") => `(tactic| first
  | with_reducible refine wa_cons ?_
  | with_reducible refine wa_nil ?_
  | fail "yW")
local macro_rules | `(tactic| walk_at "yR") => `(tactic| first
  | with_reducible refine wo_none ?_
  | with_reducible refine wo_some ?_
  | fail "yR")
local macro_rules | `(tactic| walk_at "yP") => `(tactic| first
  | ((with_reducible refine' fldp ?h1 ?h2 ?h3 ?_); (case h1 => assumption); (case h2 => assumption); (case h3 => walk_at "lk"))
  | ((with_reducible refine' ixp ?h1 ?h2 ?_); (case h1 => exact rfl); (case h2 => assumption))
  | ((with_reducible refine' ixp ?h1 ?h2 ?_); (case h1 => exact rfl); (case h2 => exact rfl))
  | with_reducible refine eqp_st ?_
  | with_reducible refine nep_st ?_
  | ((with_reducible refine' eqp_sf ?h1 ?_); (case h1 => first | assumption | decide +kernel))
  | ((with_reducible refine' nep_sf ?h1 ?_); (case h1 => first | assumption | decide +kernel))
  | with_reducible refine eqp_i ?_
  | with_reducible refine nep_i ?_
  | with_reducible refine addp_i ?_
  | with_reducible refine ltp_i ?_
  | ((with_reducible refine' lenp ?hh ?_); (case hh => exact rfl))
  | ((with_reducible refine' metp ?h3 ?_); (case h3 => walk_at "lk"))
  | ((with_reducible refine' addp_tE ?hz ?h ?_); (case h => walk_at "nd"); (case hz => exact Nat.le_of_ble_eq_true rfl))
  | ((with_reducible refine' slp_tE ?h ?_); (case h => walk_at "nd"))
  | ((with_reducible refine' mulp_r ?h1 ?_); (case h1 => first | decide | omega | fail "m"))
  | ((with_reducible refine' mulp_l ?h1 ?_); (case h1 => first | decide | omega | fail "m"))
  | with_reducible refine intp_i ?_
  | with_reducible refine intp_b ?_
  | ((with_reducible refine' isi_own ?h1 ?h2 ?_); (case h1 => exact rfl); (case h2 => walk_at "kb"))
  | ((with_reducible refine' isi_val ?h1 ?h2 ?_); (case h1 => exact rfl); (case h2 => walk_at "kb"))
  | ((with_reducible refine' isi_new ?h2 ?_); (case h2 => walk_at "kb"))
  | ((with_reducible refine' isop ?h1 ?_); (case h1 => assumption))
  | ((with_reducible refine' lenp_s ?h1 ?_); (case h1 => assumption))
  | ((with_reducible refine' slp_s ?h1 ?_); (case h1 => assumption))
  | ((with_reducible refine' ixp_s ?h1 ?h2 ?_); (case h1 => assumption); (case h2 => assumption))
  | with_reducible refine wgs_cons ?_
  | with_reducible refine wgs_nil ?_
  | fail "yP")
local macro_rules | `(tactic| walk_at "yA") => `(tactic| first
  | (refine ⟨_, rfl, ⟨_, rfl⟩, ?_⟩)
  | (refine ⟨_, rfl, ?_⟩)
  | (refine ⟨_, _, _, rfl, rfl, rfl, ?_⟩)
  | (refine ⟨_, _, rfl, rfl, (Nat.le_of_ble_eq_true rfl : _ ≤ _), ?_⟩)
  | (refine ⟨_, _, rfl, rfl, ?_⟩)
  | (refine ⟨(Nat.le_of_ble_eq_true rfl : _ ≤ _), ?_⟩)
  | (refine ⟨(rfl : _ = true), ?_⟩)
  | ((refine' ⟨fun _ => ?_, fun hY => absurd hY ?k2⟩); (case k2 => walk_at "no"))
  | ((refine' ⟨fun hY => absurd hY ?k2, fun _ => ?_⟩); (case k2 => walk_at "no"))
  | (refine ⟨⟨(by omega), (by omega)⟩, ?_⟩)
  | (refine ⟨⟨(by decide), (by decide), (by decide)⟩, ?_⟩)
  | (refine ⟨(show (_ : Prop) from by first | decide | omega | fail "c"), ?_⟩)
  | fail "yA")
local macro_rules | `(tactic| walk_at "x") => `(tactic| first
  | ((with_reducible refine' norm_intro ?hn ?_); (case hn => walk_at "norm"))
  | ((with_reducible show Ab.WE _ _ _ _); walk_at "yE")
  | ((with_reducible show Ab.WS _ _ _ _ _); walk_at "yS")
  | ((with_reducible show Ab.WD _ _ _ _); walk_at "yD")
  | ((with_reducible show Ab.WT _ _ _ _); walk_at "yT")
  | ((with_reducible show Ab.WG _ _ _ _ _ _); walk_at "yG")
  | ((with_reducible show Ab.WA _ _ _ _); walk_at "yW")
  | ((with_reducible show Ab.WO _ _ _ _); walk_at "yR")
  | ((fail_if_success with_reducible show Ab.Hold _); (first | walk_at "yP" | walk_at "yA" | fail "p"))
  | fail "x")
local macro_rules | `(tactic| walk_at "e") => `(tactic| first | with_reducible refine ws_seq ?_ | walk_at "x" | fail "stop")
local macro_rules | `(tactic| walk_at "xs") => `(tactic| repeat' walk_at "x")
local macro_rules | `(tactic| walk_at "es") => `(tactic| repeat' walk_at "e")
local macro_rules | `(tactic| walk_at "len") => `(tactic| ((intro as Post h); (repeat (first | (obtain ⟨e, _⟩ := h; exact (congrArg List.length e).trans rfl) | (obtain ⟨_, h⟩ := h)))))
local macro_rules | `(tactic| walk_at "tk") => `(tactic| refine .a (tk (by assumption) (by omega) (by omega) (by omega) fun _ _ _ _ _ => ?_))
noncomputable def ap_let : AP := fun as Post => ∃ (ds : List Dt) (c : Int) (n : Nat), as = [.acc ds, .val (.int n)] ∧ PoolIs c ds ∧ 0 ≤ c ∧ c < 1000000 ∧ n ≤ 60 ∧ ∀ ds' (z : Str), PoolIs (c + n) ds' → z.length = n → Az z → Post (.val (.str z)) [.acc ds', .val (.int n)]
noncomputable def Nm (z : Str) : Prop := z.length ≤ 8 ∧ Az z
noncomputable def Nm1 (z : Str) : Prop := Nm z ∧ 0 < z.length
noncomputable def Mk (ms : List Str) : Prop := ms.length ≤ 3 ∧ (∀ z ∈ ms, Nm1 z) ∧ ms.Pairwise (fun a b => a.cps.toList < b.cps.toList)
noncomputable def ap_name : AP := fun as Post => ∃ (ds : List Dt) (c : Int) (zs : List Str), as = [.acc ds, .acc (zs.map Dt.str)] ∧ PoolIs c ds ∧ 0 ≤ c ∧ c < 100000 ∧ zs.length < 900000 ∧ (∀ z ∈ zs, Nm1 z) ∧ ∀ ds' c' (z : Str), PoolIs c' ds' → c < c' → c' ≤ c + 14 → Nm z → 0 < z.length → Post (.val (.str z)) [.acc ds', .acc ((zs ++ [z]).map Dt.str)]
section
variable {K : PySem.W.Frag}
theorem run_let (as : List Sl) (Post : Re → List Sl → Prop) (h : ap_let as Post) : WS K [0] (tq_letters K ap_take) (as ++ List.replicate (4 - as.length) .un) ⟨fun G => Post (.val .non) (exitArgs [0] G as), fun r G => Post r (exitArgs [0] G as), fun _ => False, fun _ => False, .no⟩ := by
  obtain ⟨ds, c, n, rfl, h0, c0, c1, hn, k⟩ := h
  unfold tq_letters
  show WS K [0] _ [.acc ds, .val (.int n), .un, .un] _
  have hz : Str.length "abcdefghijklmnopqrstuvwxyz" = 26 := by decide +kernel
  have hz1 : Str.length "abcdefghijklmnopqrstuvwxyz" ≤ 1000000 := by omega
  have hz3 : Az "abcdefghijklmnopqrstuvwxyz" := by unfold Az; decide +kernel
  generalize ("abcdefghijklmnopqrstuvwxyz" : Str) = abc at hz hz1 hz3 ⊢
  walk_at "es"
  refine lc_range1 n (fun i es G => ∃ (d6 : List Dt) (ys : List Str), PoolIs (c + i) d6 ∧ ys.length = i ∧ (∀ y ∈ ys, y.length = 1 ∧ Az y) ∧ es = ys.map Dt.str ∧ G = [.acc d6, .val (.int n), .val (.str abc), .un]) ?_ ?_ ?_
  · walk_at "es"
    exact .a ⟨rfl, by omega, rfl, rfl, rfl, ds, [], by rw [show c + ((0 : Nat) : Int) = c by omega]; exact h0, rfl, (fun _ h => nomatch h), rfl, rfl⟩
  · rintro i es G hi ⟨d6, ys, h6, hl, hy, rfl, rfl⟩
    show WT K _ [.acc d6, .val (.int n), .val (.str abc), .val (.int i)] _
    walk_at "es"
    refine .a ⟨d6, c + i, 26, rfl, h6, by omega, by omega, by omega, by omega, fun d7 g h7 g0 g1 => ?_⟩
    obtain ⟨ch, hcm, hch⟩ := at_str (z := abc) g0 (by omega)
    walk_at "es"
    refine .a ⟨d7, ys ++ [⟨#[ch]⟩], by rw [show c + ((i + 1 : Nat) : Int) = c + i + 1 by omega]; exact h7, by simp [hl], fun y hy2 => ?_, by simp, rfl⟩
    rcases List.mem_append.mp hy2 with hy2 | hy2
    · exact hy y hy2
    · rw [List.mem_singleton.mp hy2]; exact ⟨rfl, fun d hd => by rw [List.mem_singleton.mp (show d ∈ [ch] from hd)]; exact hz3 ch hcm⟩
  · rintro es G ⟨d6, ys, h6, hl, hy, rfl, rfl⟩
    have h1 := ones_len fun y h => (hy y h).1
    refine .a ⟨ys, rfl, by rw [h1]; show _ + _ * 0 ≤ _; omega, ?_⟩
    walk_at "es"
    exact k d6 _ h6 (by rw [join_len, h1, hl]) (join_all fun y h => (hy y h).2)
end
theorem str_nil {z : Str} (h : z.length = 0) : z = "" := by
  cases z with
  | mk a =>
    have : a = #[] := Array.eq_empty_of_size_eq_zero h
    rw [this]
    rfl
noncomputable def ap_marks : AP := fun as Post => ∃ (ds : List Dt) (c : Int) (zs : List Str), as = [.acc ds, .acc (zs.map Dt.str)] ∧ PoolIs c ds ∧ 0 ≤ c ∧ c < 90000 ∧ zs.length < 800000 ∧ (∀ z ∈ zs, Nm1 z) ∧ ∀ ds' c' (zs' ms : List Str), PoolIs c' ds' → c < c' → c' ≤ c + 43 → (zs.length ≤ zs'.length ∧ zs'.length ≤ zs.length + 3) → (∀ z ∈ zs', Nm1 z) → Mk ms → Post (.val (.tup (ms.map Dt.str))) [.acc ds', .acc (zs'.map Dt.str)]
noncomputable def ap_prose : AP := fun as Post => ∃ (ds : List Dt) (c : Int) (n : Nat), as = [.acc ds, .val (.int n)] ∧ PoolIs c ds ∧ 0 ≤ c ∧ c < 1000000 ∧ n ≤ 60 ∧ ∀ ds' (z : Str), PoolIs (c + n) ds' → z.length = n → Tx z → Post (.val (.str z)) [.acc ds', .val (.int n)]
noncomputable def ap_text : AP := fun as Post => ∃ (ds : List Dt) (c b0 b1 : Int) (rest : List Dt), as = [.acc ds, .acc (.int b0 :: .int b1 :: rest)] ∧ PoolIs c ds ∧ 0 ≤ c ∧ c < 100000 ∧ 1 ≤ b1 ∧ (rest = [] ∨ ∃ x y t, rest = [x, y, t]) ∧ ∀ ds' c' b1' (z : Str), PoolIs c' ds' → c < c' → c' ≤ c + 62 → 0 ≤ b1' → (z.length : Int) + b1' = b1 → z.length ≤ 60 → 0 < z.length → Tx z → Post (.val (.str z)) [.acc ds', .acc (.int b0 :: .int b1' :: rest)]
section
variable {K : PySem.W.Frag}
theorem run_name (as : List Sl) (Post : Re → List Sl → Prop) (h : ap_name as Post) : WS K [0, 1] (tq_name K ap_take ap_let) (as ++ List.replicate (5 - as.length) .un) ⟨fun G => Post (.val .non) (exitArgs [0, 1] G as), fun r G => Post r (exitArgs [0, 1] G as), fun _ => False, fun _ => False, .no⟩ := by
  obtain ⟨ds, c, zs, rfl, h0, c0, c1, hzl, hz8, k⟩ := h
  unfold tq_name
  show WS K [0, 1] _ [.acc ds, .acc (zs.map Dt.str), .un, .un, .un] _
  have hlm : ((zs.map Dt.str).length : Int) = zs.length := by rw [List.length_map]
  walk_at "es"
  refine .a ⟨ds, c, 5, rfl, h0, by omega, by omega, by omega, by omega, fun d1 s h1 s0 s1 => ?_⟩
  walk_at "xs"; walk_at "e"; walk_at "xs"
  refine ws_cut (fun G => ∃ (d : List Dt) (c' : Int) (z : Str), PoolIs c' d ∧ c < c' ∧ c' ≤ c + 2 ∧ Nm z ∧ G = [.acc d, .acc (zs.map Dt.str), .val (.int s), .val (.str z), .un]) ?_ ?_
  · by_cases hs : 0 < s
    · by_cases hl : 0 < (zs.length : Int)
      · walk_at "es"
        refine .a ⟨d1, c + 1, _, rfl, h1, by omega, by omega, by omega, by omega, fun d2 g h2 g0 g1 => ?_⟩
        obtain ⟨z, hz, ez⟩ := at_lit (f := Dt.str) (xs := zs) (k := g) g0 (by omega)
        walk_at "es"
        exact .a ⟨d2, _, z, h2, by omega, by omega, (hz8 z hz).1, rfl⟩
      · walk_at "es"
        exact .a ⟨d1, _, _, h1, by omega, by omega, ⟨Nat.zero_le _, Az.nil⟩, rfl⟩
    · walk_at "es"
      exact .a ⟨d1, _, _, h1, by omega, by omega, ⟨Nat.zero_le _, Az.nil⟩, rfl⟩
  rintro G ⟨d2, c2, z, h2, c20, c21, hz, rfl⟩
  have hzm : z.length ≤ 1000000 := by have := hz.1; omega
  refine ws_cut (fun G => ∃ (d : List Dt) (c' : Int) (z : Str) (s4 : Sl), PoolIs c' d ∧ c < c' ∧ c' ≤ c + 4 ∧ Nm z ∧ G = [.acc d, .acc (zs.map Dt.str), .val (.int s), .val (.str z), s4]) ?_ ?_
  · by_cases hs : s = 1
    · by_cases hl : 0 < (z.length : Int)
      · walk_at "es"
        refine .a ⟨d2, c2, _, rfl, h2, by omega, by omega, by omega, by omega, fun d3 g h3 g0 g1 => ?_⟩
        obtain ⟨m, rfl⟩ : ∃ m : Nat, g = (m : Int) := ⟨g.toNat, by omega⟩
        have l1 : (cutS z none (some (m : Int))).length = m := cutS_take (by omega)
        have l2 : (cutS z (some ((m : Int) + 1)) none).length = z.length - (m + 1) := cutS_drop (m := m + 1) (by omega)
        walk_at "es"
        refine .a ⟨d3, c2 + 1, 1, rfl, h3, by omega, by omega, by omega, fun d4 y h4 hy hyc => ?_⟩
        walk_at "es"
        refine addp_s (by rw [l1, hy]; omega) ?_
        walk_at "es"
        refine addp_s (by rw [PySem.Str.length_append, l1, l2, hy]; omega) ?_
        walk_at "es"
        exact .a ⟨d4, _, _, _, h4, by omega, by omega, ⟨by rw [PySem.Str.length_append, PySem.Str.length_append, l1, l2, hy]; have := hz.1; omega, ((hz.2.cut _ _).app hyc).app (hz.2.cut _ _)⟩, rfl⟩
      · walk_at "es"
        exact .a ⟨d2, _, z, _, h2, by omega, by omega, hz, rfl⟩
    · walk_at "es"
      exact .a ⟨d2, _, z, _, h2, by omega, by omega, hz, rfl⟩
  rintro G ⟨d3, c3, z, s4, h3, c30, c31, hz, rfl⟩
  have hzm : z.length ≤ 1000000 := by have := hz.1; omega
  refine ws_cut (fun G => ∃ (d : List Dt) (c' : Int) (z : Str) (s4 : Sl), PoolIs c' d ∧ c < c' ∧ c' ≤ c + 5 ∧ Nm z ∧ G = [.acc d, .acc (zs.map Dt.str), .val (.int s), .val (.str z), s4]) ?_ ?_
  · by_cases hs : s = 2
    · by_cases hl : 0 < (z.length : Int)
      · by_cases hl2 : (z.length : Int) < 8
        · walk_at "es"
          refine .a ⟨d3, c3, 1, rfl, h3, by omega, by omega, by omega, fun d4 y h4 hy hyc => ?_⟩
          walk_at "es"
          refine addp_s (by rw [hy]; omega) ?_
          walk_at "es"
          exact .a ⟨d4, _, _, _, h4, by omega, by omega, ⟨by rw [PySem.Str.length_append, hy]; omega, hz.2.app hyc⟩, rfl⟩
        · walk_at "es"
          exact .a ⟨d3, _, z, _, h3, by omega, by omega, hz, rfl⟩
      · walk_at "es"
        exact .a ⟨d3, _, z, _, h3, by omega, by omega, hz, rfl⟩
    · walk_at "es"
      exact .a ⟨d3, _, z, _, h3, by omega, by omega, hz, rfl⟩
  rintro G ⟨d4, c4, z, s4, h4, c40, c41, hz, rfl⟩
  refine ws_cut (fun G => ∃ (d : List Dt) (c' : Int) (z : Str) (s4 : Sl), PoolIs c' d ∧ c < c' ∧ c' ≤ c + 14 ∧ Nm z ∧ 0 < z.length ∧ G = [.acc d, .acc (zs.map Dt.str), .val (.int s), .val (.str z), s4]) ?_ ?_
  · walk_at "es"
    refine eqp_s rfl ?_
    walk_at "es"
    refine ⟨fun h => ?_, fun h => ?_⟩
    · walk_at "es"
      refine .a ⟨d4, c4, 8, rfl, h4, by omega, by omega, by omega, by omega, fun d5 g h5 g0 g1 => ?_⟩
      obtain ⟨m, rfl⟩ : ∃ m : Nat, g = (m : Int) := ⟨g.toNat, by omega⟩
      walk_at "es"
      rw [show (1 + (m : Int)) = ((m + 1 : Nat) : Int) by omega]
      refine .a ⟨d5, c4 + 1, m + 1, rfl, h5, by omega, by omega, by omega, fun d6 y h6 hy hyc => ?_⟩
      walk_at "es"
      exact .a ⟨d6, _, y, _, h6, by omega, by omega, ⟨by omega, hyc⟩, by omega, rfl⟩
    · have hne : z ≠ "" := fun e => by rw [e] at h; simp at h
      have hpos : 0 < z.length := Nat.pos_of_ne_zero fun e => hne (str_nil e)
      walk_at "es"
      exact .a ⟨d4, _, z, _, h4, by omega, by omega, hz, hpos, rfl⟩
  rintro G ⟨d5, c5, z, s5, h5, c50, c51, hz, hp, rfl⟩
  have hl2 : (zs.map Dt.str).length < 1000000 := by rw [List.length_map]; omega
  walk_at "es"
  have := k d5 c5 z h5 c50 (by omega) hz hp
  rw [List.map_append] at this
  exact this
theorem run_prose (as : List Sl) (Post : Re → List Sl → Prop) (h : ap_prose as Post) : WS K [0] (tq_prose K ap_take) (as ++ List.replicate (4 - as.length) .un) ⟨fun G => Post (.val .non) (exitArgs [0] G as), fun r G => Post r (exitArgs [0] G as), fun _ => False, fun _ => False, .no⟩ := by
  obtain ⟨ds, c, n, rfl, h0, c0, c1, hn, k⟩ := h
  unfold tq_prose
  show WS K [0] _ [.acc ds, .val (.int n), .un, .un] _
  have hz : Str.length " abcdefghijklmnopqrstuvwxyzABCDEFGHIJKLMNOPQRSTUVWXYZ0123456789.,;:!?'()|" = 73 := by decide +kernel
  have hz1 : Str.length " abcdefghijklmnopqrstuvwxyzABCDEFGHIJKLMNOPQRSTUVWXYZ0123456789.,;:!?'()|" ≤ 1000000 := by omega
  have hz3 : Tx " abcdefghijklmnopqrstuvwxyzABCDEFGHIJKLMNOPQRSTUVWXYZ0123456789.,;:!?'()|" := fun c hc => hc
  generalize (" abcdefghijklmnopqrstuvwxyzABCDEFGHIJKLMNOPQRSTUVWXYZ0123456789.,;:!?'()|" : Str) = abc at hz hz1 hz3 ⊢
  walk_at "es"
  refine lc_range1 n (fun i es G => ∃ (d6 : List Dt) (ys : List Str), PoolIs (c + i) d6 ∧ ys.length = i ∧ (∀ y ∈ ys, y.length = 1 ∧ Tx y) ∧ es = ys.map Dt.str ∧ G = [.acc d6, .val (.int n), .val (.str abc), .un]) ?_ ?_ ?_
  · walk_at "es"
    exact .a ⟨rfl, by omega, rfl, rfl, rfl, ds, [], by rw [show c + ((0 : Nat) : Int) = c by omega]; exact h0, rfl, (fun _ h => nomatch h), rfl, rfl⟩
  · rintro i es G hi ⟨d6, ys, h6, hl, hy, rfl, rfl⟩
    show WT K _ [.acc d6, .val (.int n), .val (.str abc), .val (.int i)] _
    walk_at "es"
    refine .a ⟨d6, c + i, 93, rfl, h6, by omega, by omega, by omega, by omega, fun d7 g h7 g0 g1 => ?_⟩
    obtain ⟨ch, hcm, hch⟩ := at_str (z := abc) (k := if g - 20 > 0 then g - 20 else 0) (by split <;> omega) (by split <;> omega)
    walk_at "es"
    refine .a ⟨d7, ys ++ [⟨#[ch]⟩], by rw [show c + ((i + 1 : Nat) : Int) = c + i + 1 by omega]; exact h7, by simp [hl], fun y hy2 => ?_, by simp, rfl⟩
    rcases List.mem_append.mp hy2 with hy2 | hy2
    · exact hy y hy2
    · rw [List.mem_singleton.mp hy2]; exact ⟨rfl, fun d hd => by rw [List.mem_singleton.mp (show d ∈ [ch] from hd)]; exact hz3 ch hcm⟩
  · rintro es G ⟨d6, ys, h6, hl, hy, rfl, rfl⟩
    have h1 := ones_len fun y h => (hy y h).1
    refine .a ⟨ys, rfl, by rw [h1]; show _ + _ * 0 ≤ _; omega, ?_⟩
    walk_at "es"
    exact k d6 _ h6 (by rw [join_len, h1, hl]) (join_all fun y h => (hy y h).2)
theorem run_text (as : List Sl) (Post : Re → List Sl → Prop) (h : ap_text as Post) : WS K [0, 1] (tq_text K ap_take ap_prose) (as ++ List.replicate (3 - as.length) .un) ⟨fun G => Post (.val .non) (exitArgs [0, 1] G as), fun r G => Post r (exitArgs [0, 1] G as), fun _ => False, fun _ => False, .no⟩ := by
  obtain ⟨ds, c, b0, b1, rest, rfl, h0, c0, c1, hb, hrest, k⟩ := h
  unfold tq_text
  show WS K [0, 1] _ [.acc ds, .acc (.int b0 :: .int b1 :: rest), .un] _
  rcases hrest with rfl | ⟨x, y, t, rfl⟩
  all_goals
    walk_at "es"
    refine .a ⟨ds, c, 4, rfl, h0, by omega, by omega, by omega, by omega, fun d2 g h2 g0 g1 => ?_⟩
    obtain ⟨u, hu, eu⟩ := at_lit (f := Dt.int) (xs := [4, 4, 9, 60]) (k := g) g0 g1
    have eu : atI [Dt.int 4, .int 4, .int 9, .int 60] g = some (.int u) := eu
    have hu2 : 4 ≤ u ∧ u ≤ 60 := by
      have : ∀ x ∈ [(4 : Int), 4, 9, 60], 4 ≤ x ∧ x ≤ 60 := by decide
      exact this u hu
    walk_at "es"
    generalize hbd : (if b1 < u then b1 else u) = bd
    have hbd2 : 1 ≤ bd ∧ bd ≤ 60 ∧ bd ≤ b1 := by rw [← hbd]; split <;> omega
    refine .a ⟨d2, c + 1, bd, rfl, h2, by omega, by omega, by omega, by omega, fun d3 g h3 g0 g1 => ?_⟩
    obtain ⟨m, rfl⟩ : ∃ m : Nat, g = (m : Int) := ⟨g.toNat, by omega⟩
    walk_at "es"
    rw [show (1 + (m : Int)) = ((m + 1 : Nat) : Int) by omega]
    refine .a ⟨d3, c + 1 + 1, m + 1, rfl, h3, by omega, by omega, by omega, fun d4 z h4 hz hc => ?_⟩
    walk_at "es"
    exact k d4 _ _ z h4 (by omega) (by omega) (by omega) (by omega) (by omega) (by omega) hc
end
section
variable {K : PySem.W.Frag}
theorem ltp_s {Γ : List Sl} {Post : Re → List Sl → Prop} {s t : Str} (p : Post (.val (.bl (decide (s.cps.toList < t.cps.toList)))) Γ) : LtP (.val (.str s)) (.val (.str t)) Γ Post := .inr (.inl ⟨s, t, rfl, rfl, p⟩)
theorem str_all {ms : List Str} {i : Nat} {d : Dt} (h : (ms.map Dt.str)[i]? = some d) : ∃ z, ms[i]? = some z ∧ d = .str z := by
  rw [List.getElem?_map] at h
  cases e : ms[i]? with
  | none => rw [e] at h; cases h
  | some z => rw [e] at h; cases h; exact ⟨z, rfl, rfl⟩
theorem nm_snoc {zs : List Str} {z : Str} (h : ∀ z ∈ zs, Nm1 z) (hz : Nm1 z) : ∀ y ∈ zs ++ [z], Nm1 y := fun y hy => by
  rcases List.mem_append.mp hy with h1 | h1
  · exact h y h1
  · rw [List.mem_singleton.mp h1]; exact hz
theorem filt2 {α : Type} {p q : α → Bool} (h : ∀ x, p x = true → q x = false) : ∀ l : List α, (l.filter p).length + (l.filter q).length ≤ l.length
  | [] => by simp
  | x :: r => by
    have ih := filt2 h r
    cases hp : p x with
    | true => rw [List.filter_cons_of_pos hp, List.filter_cons_of_neg (by rw [h x hp]; exact fun z => nomatch z)]; simp only [List.length_cons]; omega
    | false =>
      rw [List.filter_cons_of_neg (by rw [hp]; exact fun z => nomatch z)]
      cases hq : q x with
      | true => rw [List.filter_cons_of_pos hq]; simp only [List.length_cons]; omega
      | false => rw [List.filter_cons_of_neg (by rw [hq]; exact fun z => nomatch z)]; simp only [List.length_cons]; omega
theorem run_marks (as : List Sl) (Post : Re → List Sl → Prop) (h : ap_marks as Post) : WS K [0, 1] (tq_marks K ap_take ap_name) (as ++ List.replicate (7 - as.length) .un) ⟨fun G => Post (.val .non) (exitArgs [0, 1] G as), fun r G => Post r (exitArgs [0, 1] G as), fun _ => False, fun _ => False, .no⟩ := by
  obtain ⟨ds, c, zs, rfl, h0, c0, c1, hzl, hz8, k⟩ := h
  unfold tq_marks
  show WS K [0, 1] _ [.acc ds, .acc (zs.map Dt.str), .un, .un, .un, .un, .un] _
  walk_at "es"
  refine for_range1H ?_
  walk_at "es"
  refine .a ⟨ds, c, 4, rfl, h0, by omega, by omega, by omega, by omega, fun d1 n h1 n0 n1 => ?_⟩
  obtain ⟨N, rfl⟩ : ∃ N : Nat, n = (N : Int) := ⟨n.toNat, by omega⟩
  walk_at "es"
  refine .a ⟨_, rfl, by omega, by omega, fun i G => ∃ (d6 : List Dt) (c6 : Int) (zs' ms : List Str) (s3 s4 s5 : Sl), PoolIs c6 d6 ∧ c < c6 ∧ c6 ≤ c + 1 + 14 * i ∧ (zs.length ≤ zs'.length ∧ zs'.length ≤ zs.length + i) ∧ (∀ z ∈ zs', Nm1 z) ∧ ms.length ≤ i ∧ (∀ z ∈ ms, Nm1 z) ∧ ms.Pairwise (fun a b => a.cps.toList < b.cps.toList) ∧ G = [.acc d6, .acc (zs'.map Dt.str), .acc (ms.map Dt.str), s3, s4, s5, .un], ⟨d1, c + 1, zs, [], .un, .un, .un, h1, by omega, by omega, by omega, hz8, by simp, (fun _ h => nomatch h), .nil, rfl⟩, ?_, ?_⟩
  · rintro i G hi ⟨d6, c6, zs', ms, s3, s4, s5, h6, c60, c61, hzl', hz8', hml, hm8, hpw, rfl⟩
    walk_at "es"
    refine .a ⟨d6, c6, zs', rfl, h6, by omega, by omega, by omega, hz8', fun d7 c7 z h7 c70 c71 hz hzp => ?_⟩
    walk_at "xs"
    have filt : ∀ (te : TE) (f : Str → Bool) (s3 s5 : Sl) (Q : Re → List Sl → Prop),
        (∀ (y : Str) (Q : Re → List Sl → Prop), Q (.val (.bl (f y))) [.acc d7, .acc ((zs' ++ [z]).map Dt.str), .acc (ms.map Dt.str), s3, .val (.str z), s5, .val (.str y)] → WE K te [.acc d7, .acc ((zs' ++ [z]).map Dt.str), .acc (ms.map Dt.str), s3, .val (.str z), s5, .val (.str y)] Q) →
        (Q (.new ((ms.filter f).map Dt.str)) [.acc d7, .acc ((zs' ++ [z]).map Dt.str), .acc (ms.map Dt.str), s3, .val (.str z), s5, .un]) →
        WE K (tLc (iList K (tVar 2)) (gName 6) (tTest te) (tVar 6) [6]) [.acc d7, .acc ((zs' ++ [z]).map Dt.str), .acc (ms.map Dt.str), s3, .val (.str z), s5, .un] Q := by
      intro te f s3 s5 Q ht q
      refine lc_acc (ms.map Dt.str) (fun j es G => es = ((ms.take j).filter f).map Dt.str ∧ G = [.acc d7, .acc ((zs' ++ [z]).map Dt.str), .acc (ms.map Dt.str), s3, .val (.str z), s5, .un]) rfl (by rw [List.length_map]; omega) rfl rfl ⟨by simp, rfl⟩ (fun j es G ⟨_, e⟩ => by rw [e]; rfl) ?_ ?_
      · rintro j d es G hd ⟨rfl, rfl⟩
        obtain ⟨y, hy, rfl⟩ := str_all hd
        have tk : ms.take (j + 1) = ms.take j ++ [y] := by rw [List.take_add_one, hy]; rfl
        show WT K _ [.acc d7, .acc ((zs' ++ [z]).map Dt.str), .acc (ms.map Dt.str), s3, .val (.str z), s5, .val (.str y)] _
        walk_at "x"
        refine ht y _ ?_
        refine ⟨_, rfl, ?_⟩
        refine ⟨fun hf => ?_, fun hf => ?_⟩
        · walk_at "es"
          exact .a ⟨by rw [tk, List.filter_append, List.map_append]; simp [hf], rfl⟩
        · exact .a ⟨by rw [tk, List.filter_append, List.map_append]; simp [hf], rfl⟩
      · rintro es G ⟨rfl, rfl⟩
        rw [List.length_map, List.take_length]
        exact q
    have e1 : zs'.map Dt.str ++ [Dt.str z] = (zs' ++ [z]).map Dt.str := by simp
    have hf2 := filt2 (p := fun y : Str => decide (y.cps.toList < z.cps.toList)) (q := fun y : Str => decide (z.cps.toList < y.cps.toList)) (fun x hx => decide_eq_false (List.lt_asymm (of_decide_eq_true hx))) ms
    have hf3 := List.length_filter_le (fun y : Str => decide (y.cps.toList < z.cps.toList)) ms
    walk_at "e"; walk_at "x"
    refine filt _ (fun y => decide (y.cps.toList < z.cps.toList)) _ _ _ (fun y Q q => ?_) ?_
    · walk_at "es"
      refine ltp_s ?_
      exact q
    walk_at "xs"
    refine addp_l rfl rfl rfl rfl (by rw [List.length_map]; simp only [List.length_cons, List.length_nil]; omega) ?_
    refine filt _ (fun y => decide (z.cps.toList < y.cps.toList)) _ _ _ (fun y Q q => ?_) ?_
    · walk_at "es"
      exact q
    walk_at "es"
    refine addp_l rfl rfl rfl rfl (by rw [List.length_append, List.length_map, List.length_map]; simp only [List.length_cons, List.length_nil]; omega) ?_
    generalize hus : ms.filter (fun y : Str => decide (y.cps.toList < z.cps.toList)) = us at hf2 hf3 ⊢
    generalize hvs : ms.filter (fun y : Str => decide (z.cps.toList < y.cps.toList)) = vs at hf2 ⊢
    have e2 : us.map Dt.str ++ [Dt.str z] ++ vs.map Dt.str = (us ++ [z] ++ vs).map Dt.str := by simp
    have mu : ∀ y ∈ us, y ∈ ms ∧ y.cps.toList < z.cps.toList := fun y hy => by
      rw [← hus] at hy
      have := List.mem_filter.mp hy
      exact ⟨this.1, of_decide_eq_true this.2⟩
    have mv : ∀ y ∈ vs, y ∈ ms ∧ z.cps.toList < y.cps.toList := fun y hy => by
      rw [← hvs] at hy
      have := List.mem_filter.mp hy
      exact ⟨this.1, of_decide_eq_true this.2⟩
    refine .a ⟨d7, c7, zs' ++ [z], us ++ [z] ++ vs, _, _, _, h7, by omega, by omega, by rw [List.length_append, List.length_singleton]; omega, nm_snoc hz8' ⟨hz, hzp⟩, by rw [List.length_append, List.length_append, List.length_singleton]; omega, fun y hy => ?_, ?_, by rw [← e2]; rfl⟩
    · rcases List.mem_append.mp hy with hy | hy
      · rcases List.mem_append.mp hy with hy | hy
        · exact hm8 y (mu y hy).1
        · rw [List.mem_singleton.mp hy]; exact ⟨hz, hzp⟩
      · exact hm8 y (mv y hy).1
    · rw [List.append_assoc, List.pairwise_append]
      refine ⟨by rw [← hus]; exact hpw.filter _, ?_, fun a ha b hb => ?_⟩
      · rw [List.singleton_append, List.pairwise_cons]
        exact ⟨fun y hy => (mv y hy).2, by rw [← hvs]; exact hpw.filter _⟩
      · rcases List.mem_append.mp hb with hb | hb
        · rw [List.mem_singleton.mp hb]; exact (mu a ha).2
        · exact List.lt_trans (mu a ha).2 (mv b hb).2
  · rintro G ⟨d6, c6, zs', ms, s3, s4, s5, h6, c60, c61, hzl', hz8', hml, hm8, hpw, rfl⟩
    walk_at "es"
    exact k d6 c6 zs' ms h6 c60 (by omega) (by omega) hz8' ⟨by omega, hm8, hpw⟩
end
end Doc

namespace Ab
open PySem L2
noncomputable def PyOk (n : Nat) (d : Dt) : Prop := ∃ p, Dt.py d = some p ∧ p.canLay0 = true ∧ p.depth ≤ n
theorem PyOk.mono {n m : Nat} {d : Dt} (h : PyOk n d) (e : n ≤ m) : PyOk m d := by
  obtain ⟨p, h1, h2, h3⟩ := h
  exact ⟨p, h1, h2, Nat.le_trans h3 e⟩
theorem PyOk.all {n : Nat} : ∀ {ds : List Dt}, (∀ d ∈ ds, PyOk n d) → ∃ ps, pyAll ds = some ps ∧ PyData.canLayAll0 ps = true ∧ PyData.depthAll ps ≤ n
  | [], _ => ⟨[], by rw [pyAll], by rw [PyData.canLayAll0], by rw [PyData.depthAll]; omega⟩
  | d :: r, h => by
    obtain ⟨p, h1, h2, h3⟩ := h d List.mem_cons_self
    obtain ⟨ps, i1, i2, i3⟩ := PyOk.all (ds := r) fun x hx => h x (List.mem_cons_of_mem _ hx)
    refine ⟨p :: ps, by rw [pyAll, h1, i1], by rw [PyData.canLayAll0, h2, i2]; rfl, ?_⟩
    rw [PyData.depthAll]
    omega
theorem PyOk.tup {n : Nat} {ds : List Dt} (h : ∀ d ∈ ds, PyOk n d) : PyOk (n + 1) (.tup ds) := by
  obtain ⟨ps, h1, h2, h3⟩ := PyOk.all h
  exact ⟨.tuple ps, by rw [Dt.py, h1]; rfl, by rw [PyData.canLay0]; exact h2, by rw [PyData.depth]; omega⟩
theorem PyOk.str {n : Nat} {z : Str} (h : CS z) : PyOk n (.str z) := ⟨.str z, by rw [Dt.py], by
  rw [PyData.canLay0]
  show z.cps.all (fun c => decide (c < 1114112)) = true
  rw [← Array.all_toList, List.all_eq_true]
  intro c hc
  exact decide_eq_true (h c hc), by rw [PyData.depth]; omega⟩
theorem PyOk.int {n : Nat} {i : Int} : PyOk n (.int i) := ⟨.int i, by rw [Dt.py], by rw [PyData.canLay0], by rw [PyData.depth]; omega⟩
theorem ws_setH {K : PySem.W.Frag} {pin : List Nat} {Γ : List Sl} {P : Ps} {te tj : TE} {i : Nat} (h : WE K te Γ fun z Γ1 => ∃ d, z = .val d ∧ (∃ ds1, Γ1[i]? = some (.acc ds1)) ∧ WE K tj Γ1 fun y Γ2 => Hold (∃ ds k j, y = .val (.int k) ∧ Γ2[i]? = some (.acc ds) ∧ ixN ds.length k = some j ∧ NormP (Γ2.set i (.acc (ds.set j d))) P.nx)) :
    WS K pin (tAsg te (gSub (tVar i) tj rSetL)) Γ P := ws_setN (we_mono h fun z Γ1 ⟨d, e, h1, h2⟩ => ⟨d, e, h1, we_mono h2 fun y Γ2 hp => hp.get⟩)
end Ab
namespace Doc
open PySem L2 Ab
inductive Tr where
  | txt (z : Str)
  | lab (z : Str)
  | ref (z : Str)
  | part (kd : Str) (ms : List Str) (its : List Tr)
mutual
noncomputable def Tr.dt : Tr → Dt
  | .txt z => .str z
  | .lab z => .tup [.str "#", .str z]
  | .ref z => .tup [.str "@", .str z]
  | .part kd ms its => .tup [.str kd, .tup (ms.map Dt.str), .tup (Tr.dts its)]
noncomputable def Tr.dts : List Tr → List Dt
  | [] => []
  | t :: r => t.dt :: Tr.dts r
end
theorem dts_map : ∀ its : List Tr, Tr.dts its = its.map Tr.dt
  | [] => by rw [Tr.dts]; rfl
  | t :: r => by rw [Tr.dts, dts_map r]; rfl
theorem dt_part (kd : Str) (ms : List Str) (its : List Tr) : (Tr.part kd ms its).dt = .tup [.str kd, .tup (ms.map Dt.str), .tup (its.map Tr.dt)] := by rw [Tr.dt, dts_map]
mutual
noncomputable def Tr.sum (w : Tr → Nat) : Tr → Nat
  | .txt z => w (.txt z)
  | .lab z => w (.lab z)
  | .ref z => w (.ref z)
  | .part kd ms its => w (.part kd ms its) + Tr.sums w its
noncomputable def Tr.sums (w : Tr → Nat) : List Tr → Nat
  | [] => 0
  | t :: r => t.sum w + Tr.sums w r
end
mutual
noncomputable def Tr.dep : Tr → Nat
  | .txt _ => 0
  | .lab _ => 0
  | .ref _ => 0
  | .part _ _ its => Tr.deps its + 1
noncomputable def Tr.deps : List Tr → Nat
  | [] => 0
  | t :: r => max t.dep (Tr.deps r)
end
mutual
noncomputable def Tr.All (P : Tr → Prop) : Tr → Prop
  | .txt z => P (.txt z)
  | .lab z => P (.lab z)
  | .ref z => P (.ref z)
  | .part kd ms its => P (.part kd ms its) ∧ Tr.Alls P its
noncomputable def Tr.Alls (P : Tr → Prop) : List Tr → Prop
  | [] => True
  | t :: r => t.All P ∧ Tr.Alls P r
end
mutual
theorem Tr.ind {P : Tr → Prop} (h1 : ∀ z, P (.txt z)) (h2 : ∀ z, P (.lab z)) (h3 : ∀ z, P (.ref z)) (h4 : ∀ kd ms its, (∀ t ∈ its, P t) → P (.part kd ms its)) : ∀ t, P t
  | .txt z => h1 z
  | .lab z => h2 z
  | .ref z => h3 z
  | .part kd ms its => h4 kd ms its (Tr.inds h1 h2 h3 h4 its)
theorem Tr.inds {P : Tr → Prop} (h1 : ∀ z, P (.txt z)) (h2 : ∀ z, P (.lab z)) (h3 : ∀ z, P (.ref z)) (h4 : ∀ kd ms its, (∀ t ∈ its, P t) → P (.part kd ms its)) : ∀ its : List Tr, ∀ t ∈ its, P t
  | [], _, h => nomatch h
  | u :: r, t, h => (List.mem_cons.mp h).elim (fun e => e ▸ Tr.ind h1 h2 h3 h4 u) (fun h' => Tr.inds h1 h2 h3 h4 r t h')
end
theorem sums_map (w : Tr → Nat) : ∀ its : List Tr, Tr.sums w its = (its.map (Tr.sum w)).sum
  | [] => by rw [Tr.sums]; rfl
  | t :: r => by rw [Tr.sums, sums_map w r, List.map_cons, List.sum_cons]
theorem alls_iff {P : Tr → Prop} : ∀ {its : List Tr}, Tr.Alls P its ↔ ∀ t ∈ its, t.All P
  | [] => by rw [Tr.Alls]; exact ⟨(fun _ _ h => nomatch h), fun _ => trivial⟩
  | t :: r => by
    rw [Tr.Alls, alls_iff (its := r)]
    refine ⟨fun h u hu => ?_, fun h => ⟨h t List.mem_cons_self, fun u hu => h u (List.mem_cons_of_mem _ hu)⟩⟩
    rcases List.mem_cons.mp hu with rfl | hu
    · exact h.1
    · exact h.2 u hu
theorem deps_le {n : Nat} : ∀ {its : List Tr}, Tr.deps its ≤ n ↔ ∀ t ∈ its, t.dep ≤ n
  | [] => by rw [Tr.deps]; exact ⟨(fun _ _ h => nomatch h), fun _ => Nat.zero_le _⟩
  | t :: r => by
    rw [Tr.deps, Nat.max_le, deps_le (its := r)]
    refine ⟨fun h u hu => ?_, fun h => ⟨h t List.mem_cons_self, fun u hu => h u (List.mem_cons_of_mem _ hu)⟩⟩
    rcases List.mem_cons.mp hu with rfl | hu
    · exact h.1
    · exact h.2 u hu
noncomputable def w1 : Tr → Nat := fun _ => 1
noncomputable def wc : Tr → Nat
  | .txt z => z.length
  | _ => 0
noncomputable def wr : Tr → Nat
  | .ref _ => 1
  | _ => 0
noncomputable abbrev Tr.sz (t : Tr) : Nat := t.sum w1
noncomputable abbrev Tr.chars (t : Tr) : Nat := t.sum wc
noncomputable abbrev Tr.refs (t : Tr) : Nat := t.sum wr
noncomputable def Nd (wd : Nat) : Tr → Prop
  | .txt z => 0 < z.length ∧ z.length ≤ 60 ∧ Tx z
  | .lab z => Nm1 z
  | .ref z => Nm1 z
  | .part kd ms its => Nm1 kd ∧ Mk ms ∧ its.length ≤ wd
noncomputable def TrOk (wd : Nat) (t : Tr) : Prop := t.All (Nd wd)
theorem sz_pos (t : Tr) : 1 ≤ t.sz := by
  cases t <;> (unfold Tr.sz; rw [Tr.sum]; simp only [w1]; omega)
theorem cs_at : CS "@" := by unfold CS; decide +kernel
theorem cs_hash : CS "#" := by unfold CS; decide +kernel
theorem tr_py {wd : Nat} : ∀ (t : Tr), TrOk wd t → ∀ n, t.dep ≤ n → PyOk (2 * n + 1) t.dt := by
  intro t
  refine Tr.ind (P := fun t => TrOk wd t → ∀ n, t.dep ≤ n → PyOk (2 * n + 1) t.dt) ?_ ?_ ?_ ?_ t
  · intro z h n _
    rw [Tr.dt]
    unfold TrOk at h; rw [Tr.All] at h
    exact PyOk.str h.2.2.cs
  · intro z h n _
    rw [Tr.dt]
    unfold TrOk at h; rw [Tr.All] at h
    refine (PyOk.tup (n := 0) fun d hd => ?_).mono (by omega)
    rcases List.mem_cons.mp hd with rfl | hd
    · exact PyOk.str cs_hash
    · rw [List.mem_singleton.mp hd]; exact PyOk.str h.1.2.cs
  · intro z h n _
    rw [Tr.dt]
    unfold TrOk at h; rw [Tr.All] at h
    refine (PyOk.tup (n := 0) fun d hd => ?_).mono (by omega)
    rcases List.mem_cons.mp hd with rfl | hd
    · exact PyOk.str cs_at
    · rw [List.mem_singleton.mp hd]; exact PyOk.str h.1.2.cs
  · intro kd ms its ih h n hn
    rw [dt_part]
    unfold TrOk at h; rw [Tr.All] at h
    rw [Tr.dep] at hn
    obtain ⟨m, rfl⟩ : ∃ m, n = m + 1 := ⟨n - 1, by omega⟩
    have hd : ∀ t ∈ its, t.dep ≤ m := deps_le.mp (by omega)
    refine (PyOk.tup (n := 2 * m + 2) fun d hd2 => ?_).mono (by omega)
    rcases List.mem_cons.mp hd2 with rfl | hd2
    · exact PyOk.str h.1.1.1.2.cs
    · rcases List.mem_cons.mp hd2 with rfl | hd2
      · refine (PyOk.tup (n := 0) fun d hd3 => ?_).mono (by omega)
        obtain ⟨y, hy, rfl⟩ := List.mem_map.mp hd3
        exact PyOk.str (h.1.2.1.2.1 y hy).1.2.cs
      · rw [List.mem_singleton.mp hd2]
        refine PyOk.tup (n := 2 * m + 1) fun d hd3 => ?_
        obtain ⟨y, hy, rfl⟩ := List.mem_map.mp hd3
        exact ih y hy (alls_iff.mp h.2 y hy) m (hd y hy)
structure BudOk (c : Int) (zl : Nat) (b0 b1 b2 b4 : Int) : Prop where
  c0 : 0 ≤ c
  c1 : c + 200 * b0 < 60001
  z1 : zl + 10 * b0 < 700000
  b00 : 0 ≤ b0
  b01 : b0 ≤ 250
  b1 : 0 ≤ b1
  b2 : 0 ≤ b2
  b40 : 3 ≤ b4 ∨ b0 ≤ b4
  b41 : b4 ≤ 40
structure Got (cc zz c : Int) (zl : Nat) (b0 b1 b2 b4 : Int) (m : Nat) (c' : Int) (zs' : List Str) (b0' b1' b2' : Int) (t : Tr) : Prop where
  c0 : c ≤ c' ∧ zl ≤ zs'.length
  c1 : c' + 200 * b0' ≤ c + 200 * b0 + cc
  z1 : zs'.length + 10 * b0' ≤ zl + 10 * b0 + zz
  nm : ∀ z ∈ zs', Nm1 z
  p0 : 0 ≤ b0'
  p0' : b0' ≤ b0
  p1 : 0 ≤ b1'
  p2 : 0 ≤ b2'
  ok : TrOk b4.toNat t
  dep : t.dep ≤ m
  sz : (t.sz : Int) + b0' ≤ b0 + 1
  ch : (t.chars : Int) + b1' ≤ b1
  rf : (t.refs : Int) + b2' ≤ b2
noncomputable def ap_item (m : Nat) : AP := fun as Post => ∃ (ds : List Dt) (c : Int) (zs : List Str) (b0 b1 b2 b3 b4 dep : Int), as = [.acc ds, .acc (zs.map Dt.str), .acc [.int b0, .int b1, .int b2, .int b3, .int b4], .val (.int dep)] ∧ PoolIs c ds ∧ BudOk c zs.length b0 b1 b2 b4 ∧ (∀ z ∈ zs, Nm1 z) ∧ b3 + 1 ≤ dep + m ∧ c + 200 * b0 < 60000 ∧
  ∀ ds' c' (zs' : List Str) b0' b1' b2' (t : Tr), PoolIs c' ds' → Got 100 10 c zs.length b0 b1 b2 b4 m c' zs' b0' b1' b2' t → Post (.val t.dt) [.acc ds', .acc (zs'.map Dt.str), .acc [.int b0', .int b1', .int b2', .int b3, .int b4], .val (.int dep)]
noncomputable def ap_part (m : Nat) : AP := fun as Post => ∃ (ds : List Dt) (c : Int) (zs : List Str) (b0 b1 b2 b3 b4 dep : Int), as = [.acc ds, .acc (zs.map Dt.str), .acc [.int b0, .int b1, .int b2, .int b3, .int b4], .val (.int dep)] ∧ PoolIs c ds ∧ BudOk c zs.length b0 b1 b2 b4 ∧ (∀ z ∈ zs, Nm1 z) ∧ b3 ≤ dep + m ∧
  ∀ ds' c' (zs' : List Str) b0' b1' b2' (kd : Str) (ms : List Str) (ts : List Tr), PoolIs c' ds' → Got 60 4 c (zs.length + 1) b0 b1 b2 b4 (m + 1) c' zs' b0' b1' b2' (.part kd ms ts) → Post (.val (Tr.part kd ms ts).dt) [.acc ds', .acc (zs'.map Dt.str), .acc [.int b0', .int b1', .int b2', .int b3, .int b4], .val (.int dep)]
end Doc
namespace Doc
open PySem L2 Ab
local macro_rules | `(tactic| walk_at "no") => `(tactic| first
  | with_reducible exact fun h => Bool.noConfusion (show true = false from h)
  | with_reducible exact fun h => Bool.noConfusion (show false = true from h)
  | exact fun h => absurd h (by decide)
  | exact fun h => absurd (of_decide_eq_true h) (by omega)
  | exact fun h => absurd (by omega) (of_decide_eq_false h)
  | exact fun h => absurd (by omega) (nd_t h)
  | exact fun h => absurd (nd_f h) (by omega)
  | fail "no")
local macro_rules | `(tactic| walk_at "kb") => `(tactic| first | exact kb_tt | exact kb_ll | exact kb_ii | exact kb_ib | exact kb_ss | exact kb_sb | exact kb_si | exact kb_tb | exact kb_ti | exact kb_ts | exact kb_tl | exact kb_lb | exact kb_li | exact kb_ls | exact kb_lt | exact kb_is | exact kb_it | exact kb_il | exact kb_st | exact kb_sl | exact kb_bb | exact kb_bi | exact kb_nb | exact kb_ni | exact kb_ns | exact kb_nt | exact kb_nl | exact kb_bs | exact kb_bt | exact kb_bl | fail "kb")
local macro_rules | `(tactic| walk_at "norm") => `(tactic| first
  | ((refine' norm_cons (rfl : _ = _ :: _) ?ea ?et); (case ea => first | with_reducible exact (rfl : Sl.val _ = _) | with_reducible exact (rfl : Sl.cel _ = _) | with_reducible exact (rfl : Sl.un = _) | with_reducible exact norm_v | with_reducible exact norm_n | with_reducible exact norm_o | exact norm_v | exact norm_n | exact norm_o | exact rfl | fail "norm"); (case et => walk_at "norm"))
  | exact (rfl : _ = ([] : List Sl))
  | fail "norm")
local macro_rules | `(tactic| walk_at "nd") => `(tactic| first
  | exact (rfl : _ = ([] : List Dt))
  | ((refine' normD_cons (rfl : _ = _ :: _) ?et); (case et => walk_at "nd"))
  | fail "nd")
local macro_rules | `(tactic| walk_at "yO") => `(tactic| first
  | with_reducible refine we_ixG ?_
  | with_reducible refine we_opI0 ?_
  | with_reducible refine we_addG ?_
  | with_reducible refine we_eqG ?_
  | with_reducible refine we_neG ?_
  | with_reducible refine we_ltG ?_
  | with_reducible refine we_mulG ?_
  | with_reducible refine we_opI ?_
  | with_reducible refine we_inG ?_
  | with_reducible refine we_notInG ?_
  | with_reducible refine we_gtS ?_
  | fail "yO")
local macro_rules | `(tactic| walk_at "yB") => `(tactic| first
  | with_reducible refine we_lenG ?_
  | with_reducible refine we_isiG ?_
  | with_reducible refine we_intG ?_
  | with_reducible refine we_tuple ?_
  | with_reducible refine we_list ?_
  | with_reducible refine we_sumG ?_
  | with_reducible refine we_sum ?_
  | with_reducible refine we_max2 ?_
  | with_reducible refine we_min2 ?_
  | with_reducible refine we_abs ?_
  | with_reducible refine we_isoG ?_
  | with_reducible refine we_join ?_
  | fail "yB")
local macro_rules | `(tactic| walk_at "yV") => `(tactic| first
  | ((with_reducible refine' we_var ?hh ?_); (case hh => exact rfl))
  | ((with_reducible refine' we_own ?hh ?_); (case hh => exact rfl))
  | fail "yV")
local macro_rules | `(tactic| walk_at "yC") => `(tactic| first
  | with_reducible refine we_c ?_
  | fail "yC")
local macro_rules | `(tactic| walk_at "yE") => `(tactic| first
  | ((with_reducible show Ab.WE _ (L2.tVar _) _ _); walk_at "yV")
  | ((with_reducible show Ab.WE _ (L2.tOp _ _ _) _ _); walk_at "yO")
  | ((with_reducible show Ab.WE _ (L2.tC _) _ _); walk_at "yC")
  | ((with_reducible show Ab.WE _ (L2.tCB _ _) _ _); walk_at "yB")
  | with_reducible refine we_callH ?_
  | with_reducible refine we_join ?_
  | with_reducible refine we_fldG ?_
  | with_reducible refine we_tup ?_
  | with_reducible refine we_lst ?_
  | with_reducible refine we_notN ?_
  | with_reducible refine we_isN ?_
  | with_reducible refine we_if ?_
  | with_reducible refine we_methG ?_
  | ((with_reducible refine' we_appendN ?hh ?_); (case hh => exact rfl))
  | with_reducible refine we_slG ?_
  | with_reducible refine we_neg ?_
  | with_reducible refine we_make ?_
  | with_reducible refine we_own2 ?_
  | with_reducible refine we_smeth ?_
  | with_reducible refine we_makeD ?_
  | with_reducible refine we_makeK ?_
  | ((with_reducible refine' we_clearN ?hh ?_); (case hh => exact rfl))
  | with_reducible refine we_chainI ?_
  | with_reducible refine we_andV ?_
  | with_reducible refine we_orV ?_
  | with_reducible refine we_notV ?_
  | ((with_reducible refine' we_reverseN ?hh ?_); (case hh => exact rfl))
  | ((with_reducible refine' we_ktup ?h1 ?_); (case h1 => assumption))
  | fail "yE")
local macro_rules | `(tactic| walk_at "yS") => `(tactic| first
  | with_reducible refine ws_if ?_
  | with_reducible refine ws_expr ?_
  | with_reducible refine ws_asgN rfl rfl ?_
  | with_reducible refine ws_setN ?_
  | with_reducible refine ws_asgG ?_
  | with_reducible refine ws_nil ?_
  | ((with_reducible refine' ws_retA ?hh ?_); (case hh => exact rfl))
  | with_reducible refine ws_ret ?_
  | ((with_reducible refine' ws_augN ?h1 ?h2 ?_); (case h1 => exact rfl); (case h2 => exact rfl))
  | fail "yS")
local macro_rules | `(tactic| walk_at "yT") => `(tactic| first
  | with_reducible refine wt_test ?_
  | with_reducible refine wt_B ?_
  | with_reducible refine wt_not ?_
  | with_reducible refine wt_and ?_
  | with_reducible refine wt_or ?_
  | with_reducible refine wt_yes ?_
  | fail "yT")
local macro_rules | `(tactic| walk_at "yG") => `(tactic| first
  | with_reducible refine wg_nameN rfl rfl ?_
  | ((with_reducible refine' wg_tup ?hh ?_); (case hh => exact rfl))
  | fail "yG")
local macro_rules | `(tactic| walk_at "yD") => `(tactic| first
  | with_reducible refine wd_cons ?_
  | with_reducible refine wd_nil ?_
  | fail "yD")
local macro_rules | `(tactic| walk_at "yW") => `(tactic| first
  | with_reducible refine wa_cons ?_
  | with_reducible refine wa_nil ?_
  | fail "yW")
local macro_rules | `(tactic| walk_at "yR") => `(tactic| first
  | with_reducible refine wo_none ?_
  | with_reducible refine wo_some ?_
  | fail "yR")
local macro_rules | `(tactic| walk_at "yP") => `(tactic| first
  | ((with_reducible refine' fldp ?h1 ?h2 ?h3 ?_); (case h1 => assumption); (case h2 => assumption); (case h3 => walk_at "lk"))
  | ((with_reducible refine' ixp ?h1 ?h2 ?_); (case h1 => exact rfl); (case h2 => assumption))
  | ((with_reducible refine' ixp ?h1 ?h2 ?_); (case h1 => exact rfl); (case h2 => exact rfl))
  | with_reducible refine eqp_st ?_
  | with_reducible refine nep_st ?_
  | ((with_reducible refine' eqp_sf ?h1 ?_); (case h1 => first | assumption | decide +kernel))
  | ((with_reducible refine' nep_sf ?h1 ?_); (case h1 => first | assumption | decide +kernel))
  | with_reducible refine eqp_i ?_
  | with_reducible refine nep_i ?_
  | with_reducible refine addp_i ?_
  | with_reducible refine ltp_i ?_
  | ((with_reducible refine' lenp ?hh ?_); (case hh => exact rfl))
  | ((with_reducible refine' metp ?h3 ?_); (case h3 => walk_at "lk"))
  | ((with_reducible refine' addp_tE ?hz ?h ?_); (case h => walk_at "nd"); (case hz => exact Nat.le_of_ble_eq_true rfl))
  | ((with_reducible refine' slp_tE ?h ?_); (case h => walk_at "nd"))
  | ((with_reducible refine' mulp_r ?h1 ?_); (case h1 => first | decide | omega | fail "m"))
  | ((with_reducible refine' mulp_l ?h1 ?_); (case h1 => first | decide | omega | fail "m"))
  | with_reducible refine intp_i ?_
  | with_reducible refine intp_b ?_
  | ((with_reducible refine' isi_own ?h1 ?h2 ?_); (case h1 => exact rfl); (case h2 => walk_at "kb"))
  | ((with_reducible refine' isi_val ?h1 ?h2 ?_); (case h1 => exact rfl); (case h2 => walk_at "kb"))
  | ((with_reducible refine' isi_new ?h2 ?_); (case h2 => walk_at "kb"))
  | ((with_reducible refine' isop ?h1 ?_); (case h1 => assumption))
  | ((with_reducible refine' lenp_s ?h1 ?_); (case h1 => assumption))
  | ((with_reducible refine' slp_s ?h1 ?_); (case h1 => assumption))
  | ((with_reducible refine' ixp_s ?h1 ?h2 ?_); (case h1 => assumption); (case h2 => assumption))
  | with_reducible refine wgs_cons ?_
  | with_reducible refine wgs_nil ?_
  | fail "yP")
local macro_rules | `(tactic| walk_at "yA") => `(tactic| first
  | (refine ⟨_, rfl, ⟨_, rfl⟩, ?_⟩)
  | (refine ⟨_, rfl, ?_⟩)
  | (refine ⟨_, _, _, rfl, rfl, rfl, ?_⟩)
  | (refine ⟨_, _, rfl, rfl, (Nat.le_of_ble_eq_true rfl : _ ≤ _), ?_⟩)
  | (refine ⟨_, _, rfl, rfl, ?_⟩)
  | (refine ⟨(Nat.le_of_ble_eq_true rfl : _ ≤ _), ?_⟩)
  | (refine ⟨(rfl : _ = true), ?_⟩)
  | ((refine' ⟨fun _ => ?_, fun hY => absurd hY ?k2⟩); (case k2 => walk_at "no"))
  | ((refine' ⟨fun hY => absurd hY ?k2, fun _ => ?_⟩); (case k2 => walk_at "no"))
  | (refine ⟨⟨(by omega), (by omega)⟩, ?_⟩)
  | (refine ⟨⟨(by decide), (by decide), (by decide)⟩, ?_⟩)
  | (refine ⟨(show (_ : Prop) from by first | decide | omega | fail "c"), ?_⟩)
  | fail "yA")
local macro_rules | `(tactic| walk_at "x") => `(tactic| first
  | ((with_reducible refine' norm_intro ?hn ?_); (case hn => walk_at "norm"))
  | ((with_reducible show Ab.WE _ _ _ _); walk_at "yE")
  | ((with_reducible show Ab.WS _ _ _ _ _); walk_at "yS")
  | ((with_reducible show Ab.WD _ _ _ _); walk_at "yD")
  | ((with_reducible show Ab.WT _ _ _ _); walk_at "yT")
  | ((with_reducible show Ab.WG _ _ _ _ _ _); walk_at "yG")
  | ((with_reducible show Ab.WA _ _ _ _); walk_at "yW")
  | ((with_reducible show Ab.WO _ _ _ _); walk_at "yR")
  | ((fail_if_success with_reducible show Ab.Hold _); (first | walk_at "yP" | walk_at "yA" | fail "p"))
  | fail "x")
local macro_rules | `(tactic| walk_at "e") => `(tactic| first | with_reducible refine ws_seq ?_ | walk_at "x" | fail "stop")
local macro_rules | `(tactic| walk_at "xs") => `(tactic| repeat' walk_at "x")
local macro_rules | `(tactic| walk_at "es") => `(tactic| repeat' walk_at "e")
local macro_rules | `(tactic| walk_at "len") => `(tactic| ((intro as Post h); (repeat (first | (obtain ⟨e, _⟩ := h; exact (congrArg List.length e).trans rfl) | (obtain ⟨_, h⟩ := h)))))
local macro_rules | `(tactic| walk_at "tk") => `(tactic| refine .a (tk (by assumption) (by omega) (by omega) (by omega) fun _ _ _ _ _ => ?_))
section
variable {K : PySem.W.Frag}
theorem got_lab {c c' : Int} {zs : List Str} {b0 b1 b2 b4 : Int} {m : Nat} {z : Str} (hb : BudOk c zs.length b0 b1 b2 b4) (h8 : ∀ z ∈ zs, Nm1 z) (hz : Nm z) (hp : 0 < z.length) (c0 : c ≤ c') (c1 : c' ≤ c + 100) : Got 100 10 c zs.length b0 b1 b2 b4 m c' (zs ++ [z]) b0 b1 b2 (.lab z) :=
  ⟨⟨c0, by rw [List.length_append]; omega⟩, by omega, by rw [List.length_append, List.length_singleton]; omega, nm_snoc h8 ⟨hz, hp⟩, hb.b00, Int.le_refl _, hb.b1, hb.b2, by unfold TrOk; rw [Tr.All]; exact ⟨hz, hp⟩, by rw [Tr.dep]; omega, by unfold Tr.sz; rw [Tr.sum]; simp only [w1]; omega, by unfold Tr.chars; rw [Tr.sum]; simp only [wc]; omega, by unfold Tr.refs; rw [Tr.sum]; simp only [wr]; omega⟩
theorem got_ref {c c' : Int} {zs : List Str} {b0 b1 b2 b4 : Int} {m : Nat} {z : Str} (hb : BudOk c zs.length b0 b1 b2 b4) (h2 : 0 < b2) (h8 : ∀ z ∈ zs, Nm1 z) (hz : Nm z) (hp : 0 < z.length) (c0 : c ≤ c') (c1 : c' ≤ c + 100) : Got 100 10 c zs.length b0 b1 b2 b4 m c' (zs ++ [z]) b0 b1 (b2 - 1) (.ref z) :=
  ⟨⟨c0, by rw [List.length_append]; omega⟩, by omega, by rw [List.length_append, List.length_singleton]; omega, nm_snoc h8 ⟨hz, hp⟩, hb.b00, Int.le_refl _, hb.b1, by omega, by unfold TrOk; rw [Tr.All]; exact ⟨hz, hp⟩, by rw [Tr.dep]; omega, by unfold Tr.sz; rw [Tr.sum]; simp only [w1]; omega, by unfold Tr.chars; rw [Tr.sum]; simp only [wc]; omega, by unfold Tr.refs; rw [Tr.sum]; simp only [wr]; omega⟩
theorem run_item {m : Nat} {app : AP} (hp : ∀ as Post, (∃ (ds : List Dt) (c : Int) (zs : List Str) (b0 b1 b2 b3 b4 dep : Int), as = [.acc ds, .acc (zs.map Dt.str), .acc [.int b0, .int b1, .int b2, .int b3, .int b4], .val (.int dep)] ∧ PoolIs c ds ∧ BudOk c zs.length b0 b1 b2 b4 ∧ (∀ z ∈ zs, Nm1 z) ∧ dep ≤ b3 ∧ b3 + 1 ≤ dep + m ∧
      ∀ ds' c' (zs' : List Str) b0' b1' b2' (t : Tr), PoolIs c' ds' → Got 60 4 c (zs.length + 1) b0 b1 b2 b4 m c' zs' b0' b1' b2' t → Post (.val t.dt) [.acc ds', .acc (zs'.map Dt.str), .acc [.int b0', .int b1', .int b2', .int b3, .int b4], .val (.int dep)]) → app as Post)
    (as : List Sl) (Post : Re → List Sl → Prop) (h : ap_item m as Post) : WS K [0, 1, 2] (tq_item K ap_take app ap_name ap_text) (as ++ List.replicate (5 - as.length) .un) ⟨fun G => Post (.val .non) (exitArgs [0, 1, 2] G as), fun r G => Post r (exitArgs [0, 1, 2] G as), fun _ => False, fun _ => False, .no⟩ := by
  obtain ⟨ds, c, zs, b0, b1, b2, b3, b4, dep, rfl, h0, hb, hz8, hm, hc6, k⟩ := h
  have hb' := hb
  obtain ⟨c0, c1, z1, b00, b01, b10, b20, b40, b41⟩ := hb'
  unfold tq_item
  show WS K [0, 1, 2] _ [.acc ds, .acc (zs.map Dt.str), .acc [.int b0, .int b1, .int b2, .int b3, .int b4], .val (.int dep), .un] _
  walk_at "es"
  refine .a ⟨ds, c, 8, rfl, h0, by omega, by omega, by omega, by omega, fun d1 s h1 s0 s1 => ?_⟩
  have lab : ∀ (d2 : List Dt) (c2 : Int) (z : Str), PoolIs c2 d2 → c + 1 < c2 → c2 ≤ c + 1 + 14 → Nm z → 0 < z.length → Post (.val (.tup [.str "#", .str z])) [.acc d2, .acc ((zs ++ [z]).map Dt.str), .acc [.int b0, .int b1, .int b2, .int b3, .int b4], .val (.int dep)] := fun d2 c2 z h2 c20 c21 hz hzp => by
    have := k d2 c2 (zs ++ [z]) b0 b1 b2 (.lab z) h2 (got_lab hb hz8 hz hzp (by omega) (by omega))
    rwa [Tr.dt] at this
  by_cases a1 : s < 3
  · by_cases a2 : dep ≤ b3
    · walk_at "es"
      refine .a (hp _ _ ⟨d1, c + 1, zs, b0, b1, b2, b3, b4, dep, rfl, h1, ⟨by omega, by omega, z1, b00, b01, b10, b20, b40, b41⟩, hz8, a2, hm, fun d2 c2 zs' b0' b1' b2' t h2 g => ?_⟩)
      obtain ⟨g1, g2, g3, g4, g5, g6, g7, g8, g9, g10, g11, g12, g13⟩ := g
      walk_at "es"
      exact k d2 c2 zs' b0' b1' b2' t h2 ⟨by omega, by omega, by omega, g4, g5, g6, g7, g8, g9, g10, g11, g12, g13⟩
    · walk_at "es"
      refine .a ⟨d1, c + 1, zs, rfl, h1, by omega, by omega, by omega, hz8, fun d2 c2 z h2 c20 c21 hz hzp => ?_⟩
      walk_at "es"
      exact lab d2 c2 z h2 c20 c21 hz hzp
  · by_cases a3 : s = 3
    · by_cases a4 : 0 < b2
      · walk_at "es"
        refine .a ⟨d1, c + 1, zs, rfl, h1, by omega, by omega, by omega, hz8, fun d2 c2 z h2 c20 c21 hz hzp => ?_⟩
        walk_at "es"
        have := k d2 c2 (zs ++ [z]) b0 b1 (b2 - 1) (.ref z) h2 (got_ref hb a4 hz8 hz hzp (by omega) (by omega))
        rw [Tr.dt] at this
        exact this
      · walk_at "es"
        refine .a ⟨d1, c + 1, zs, rfl, h1, by omega, by omega, by omega, hz8, fun d2 c2 z h2 c20 c21 hz hzp => ?_⟩
        walk_at "es"
        exact lab d2 c2 z h2 c20 c21 hz hzp
    · by_cases a5 : 4 < s
      · by_cases a6 : 0 < b1
        · walk_at "es"
          refine .a ⟨d1, c + 1, b0, b1, [.int b2, .int b3, .int b4], rfl, h1, by omega, by omega, by omega, .inr ⟨_, _, _, rfl⟩, fun d2 c2 b1' z h2 c20 c21 q0 q1 hz hzp hzc => ?_⟩
          walk_at "es"
          have := k d2 c2 zs b0 b1' b2 (.txt z) h2 ⟨by omega, by omega, by omega, hz8, b00, Int.le_refl _, q0, b20, by unfold TrOk; rw [Tr.All]; exact ⟨hzp, hz, hzc⟩, by rw [Tr.dep]; omega, by unfold Tr.sz; rw [Tr.sum]; simp only [w1]; omega, by unfold Tr.chars; rw [Tr.sum]; simp only [wc]; omega, by unfold Tr.refs; rw [Tr.sum]; simp only [wr]; omega⟩
          rw [Tr.dt] at this
          exact this
        · walk_at "es"
          refine .a ⟨d1, c + 1, zs, rfl, h1, by omega, by omega, by omega, hz8, fun d2 c2 z h2 c20 c21 hz hzp => ?_⟩
          walk_at "es"
          exact lab d2 c2 z h2 c20 c21 hz hzp
      · walk_at "es"
        refine .a ⟨d1, c + 1, zs, rfl, h1, by omega, by omega, by omega, hz8, fun d2 c2 z h2 c20 c21 hz hzp => ?_⟩
        walk_at "es"
        exact lab d2 c2 z h2 c20 c21 hz hzp
end
end Doc

namespace Ab
open PySem L2
end Ab
namespace Doc
open PySem L2 Ab
local macro_rules | `(tactic| walk_at "no") => `(tactic| first
  | with_reducible exact fun h => Bool.noConfusion (show true = false from h)
  | with_reducible exact fun h => Bool.noConfusion (show false = true from h)
  | exact fun h => absurd h (by decide)
  | exact fun h => absurd (of_decide_eq_true h) (by omega)
  | exact fun h => absurd (by omega) (of_decide_eq_false h)
  | exact fun h => absurd (by omega) (nd_t h)
  | exact fun h => absurd (nd_f h) (by omega)
  | fail "no")
local macro_rules | `(tactic| walk_at "kb") => `(tactic| first | exact kb_tt | exact kb_ll | exact kb_ii | exact kb_ib | exact kb_ss | exact kb_sb | exact kb_si | exact kb_tb | exact kb_ti | exact kb_ts | exact kb_tl | exact kb_lb | exact kb_li | exact kb_ls | exact kb_lt | exact kb_is | exact kb_it | exact kb_il | exact kb_st | exact kb_sl | exact kb_bb | exact kb_bi | exact kb_nb | exact kb_ni | exact kb_ns | exact kb_nt | exact kb_nl | exact kb_bs | exact kb_bt | exact kb_bl | fail "kb")
local macro_rules | `(tactic| walk_at "norm") => `(tactic| first
  | ((refine' norm_cons (rfl : _ = _ :: _) ?ea ?et); (case ea => first | with_reducible exact (rfl : Sl.val _ = _) | with_reducible exact (rfl : Sl.cel _ = _) | with_reducible exact (rfl : Sl.un = _) | with_reducible exact norm_v | with_reducible exact norm_n | with_reducible exact norm_o | exact norm_v | exact norm_n | exact norm_o | exact rfl | fail "norm"); (case et => walk_at "norm"))
  | exact (rfl : _ = ([] : List Sl))
  | fail "norm")
local macro_rules | `(tactic| walk_at "x") => `(tactic| first
  | ((with_reducible refine' norm_intro ?hn ?_); (case hn => walk_at "norm"))
  | ((with_reducible refine' we_var ?hh ?_); (case hh => exact rfl))
  | ((with_reducible refine' we_own ?hh ?_); (case hh => exact rfl))
  | with_reducible refine we_c ?_
  | with_reducible refine we_addG ?_
  | with_reducible refine addp_i ?_
  | with_reducible refine we_opI0 ?_
  | with_reducible refine we_opI ?_
  | with_reducible refine we_mulG ?_
  | ((with_reducible refine' mulp_r ?h1 ?_); (case h1 => first | decide | omega | fail "m"))
  | ((with_reducible refine' mulp_l ?h1 ?_); (case h1 => first | decide | omega | fail "m"))
  | with_reducible refine we_neg ?_
  | with_reducible refine we_ltG ?_
  | with_reducible refine ltp_i ?_
  | with_reducible refine we_eqG ?_
  | with_reducible refine we_neG ?_
  | with_reducible refine eqp_i ?_
  | with_reducible refine nep_i ?_
  | with_reducible refine we_ixG ?_
  | ((with_reducible refine' ixp ?h1 ?h2 ?_); (case h1 => exact rfl); (case h2 => exact rfl))
  | with_reducible refine we_lenG ?_
  | ((with_reducible refine' lenp ?hh ?_); (case hh => exact rfl))
  | with_reducible refine we_intG ?_
  | with_reducible refine intp_i ?_
  | with_reducible refine intp_b ?_
  | with_reducible refine we_abs ?_
  | with_reducible refine we_tup ?_
  | with_reducible refine we_lst ?_
  | with_reducible refine we_tuple ?_
  | with_reducible refine we_list ?_
  | with_reducible refine we_sum ?_
  | with_reducible refine we_max2 ?_
  | with_reducible refine we_min2 ?_
  | with_reducible refine wd_cons ?_
  | with_reducible refine wd_nil ?_
  | with_reducible refine wa_cons ?_
  | with_reducible refine wa_nil ?_
  | with_reducible refine we_callH ?_
  | with_reducible refine we_isiG ?_
  | ((with_reducible refine' isi_own ?h1 ?h2 ?_); (case h1 => exact rfl); (case h2 => walk_at "kb"))
  | ((with_reducible refine' isi_val ?h1 ?h2 ?_); (case h1 => exact rfl); (case h2 => walk_at "kb"))
  | ((with_reducible refine' isi_new ?h2 ?_); (case h2 => walk_at "kb"))
  | with_reducible refine we_chainI ?_
  | with_reducible refine we_andV ?_
  | with_reducible refine we_orV ?_
  | with_reducible refine we_notV ?_
  | with_reducible refine wt_test ?_
  | with_reducible refine wt_B ?_
  | with_reducible refine wt_yes ?_
  | with_reducible refine wt_and ?_
  | with_reducible refine wt_or ?_
  | with_reducible refine wt_not ?_
  | ((with_reducible refine' ws_retA ?hh ?_); (case hh => exact rfl))
  | with_reducible refine ws_ret ?_
  | with_reducible refine ws_if ?_
  | with_reducible refine ws_nil ?_
  | with_reducible refine ws_expr ?_
  | with_reducible refine ws_asgN rfl rfl ?_
  | with_reducible refine ws_setN ?_
  | with_reducible refine ws_asgG ?_
  | ((with_reducible refine' wg_tup ?hh ?_); (case hh => exact rfl))
  | with_reducible refine wgs_cons ?_
  | with_reducible refine wgs_nil ?_
  | with_reducible refine wg_nameN rfl rfl ?_
  | ((with_reducible refine' we_appendN ?hh ?_); (case hh => exact rfl))
  | ((with_reducible refine' we_reverseN ?hh ?_); (case hh => exact rfl))
  | ((with_reducible refine' ws_augN ?h1 ?h2 ?_); (case h1 => exact rfl); (case h2 => exact rfl))
  | (refine ⟨_, rfl, ⟨_, rfl⟩, ?_⟩)
  | (refine ⟨_, rfl, ?_⟩)
  | (refine ⟨_, _, _, rfl, rfl, rfl, ?_⟩)
  | (refine ⟨_, _, rfl, rfl, (Nat.le_of_ble_eq_true rfl : _ ≤ _), ?_⟩)
  | (refine ⟨_, _, rfl, rfl, ?_⟩)
  | (refine ⟨(Nat.le_of_ble_eq_true rfl : _ ≤ _), ?_⟩)
  | (refine ⟨(rfl : _ = true), ?_⟩)
  | ((refine' ⟨fun _ => ?_, fun hY => absurd hY ?k2⟩); (case k2 => walk_at "no"))
  | ((refine' ⟨fun hY => absurd hY ?k2, fun _ => ?_⟩); (case k2 => walk_at "no"))
  | (refine ⟨⟨(by omega), (by omega)⟩, ?_⟩)
  | (refine ⟨⟨(by decide), (by decide), (by decide)⟩, ?_⟩)
  | (refine ⟨(show (_ : Prop) from by first | decide | omega | fail "c"), ?_⟩)
  | fail "stop")
local macro_rules | `(tactic| walk_at "e") => `(tactic| first | with_reducible refine ws_seq ?_ | walk_at "x" | fail "stop")
local macro_rules | `(tactic| walk_at "xs") => `(tactic| repeat' walk_at "x")
local macro_rules | `(tactic| walk_at "es") => `(tactic| repeat' walk_at "e")
local macro_rules | `(tactic| walk_at "len") => `(tactic| ((intro as Post h); (repeat (first | (obtain ⟨e, _⟩ := h; exact (congrArg List.length e).trans rfl) | (obtain ⟨_, h⟩ := h)))))
local macro_rules | `(tactic| walk_at "x") => `(tactic| first
  | with_reducible refine we_isN ?_
  | with_reducible refine we_notN ?_
  | with_reducible refine we_slG ?_
  | with_reducible refine wo_none ?_
  | with_reducible refine wo_some ?_
  | ((with_reducible refine' ixp ?h1 ?h2 ?_); (case h1 => exact rfl); (case h2 => assumption))
  | ((with_reducible refine' ixp_s ?h1 ?h2 ?_); (case h1 => assumption); (case h2 => assumption))
  | ((with_reducible refine' lenp_s ?h1 ?_); (case h1 => assumption))
  | ((with_reducible refine' slp_s ?h1 ?_); (case h1 => assumption))
  | with_reducible refine we_join ?_
  | with_reducible refine we_gtS ?_
  | ((with_reducible refine' we_ktup ?h1 ?_); (case h1 => assumption))
  | fail "x3")
section
variable {K : PySem.W.Frag}
theorem ix_last {n : Nat} {M : Nat} (h : n = M) (h1 : 1 < M) : ixN n ((M : Int) - 1) = some (M - 1) := by
  subst h
  unfold ixN
  rw [if_pos (by omega), if_pos (by omega)]
  congr 1
  omega
theorem sum_set_le {α : Type} {f : α → Nat} {x : α} : ∀ {l : List α} {i : Nat}, (∀ y, l[i]? = some y → f x ≤ f y) → ((l.set i x).map f).sum ≤ (l.map f).sum
  | [], _, _ => by simp
  | y :: r, 0, h => by
    have := h y rfl
    rw [List.set_cons_zero, List.map_cons, List.map_cons, List.sum_cons, List.sum_cons]
    omega
  | y :: r, i + 1, h => by
    have ih := sum_set_le (l := r) (i := i) (x := x) (f := f) fun y hy => h y (by simpa using hy)
    rw [List.set_cons_succ, List.map_cons, List.map_cons, List.sum_cons, List.sum_cons]
    omega
theorem dup_small {wd : Nat} {t : Tr} (h : TrOk wd t) (h2 : (∃ z, t = .lab z) ∨ ∃ kd ms, t = .part kd ms []) : t.sz = 1 ∧ t.chars = 0 ∧ t.refs = 0 := by
  rcases h2 with ⟨z, rfl⟩ | ⟨kd, ms, rfl⟩
  · unfold Tr.sz Tr.chars Tr.refs
    rw [Tr.sum, Tr.sum, Tr.sum]
    exact ⟨rfl, rfl, rfl⟩
  · unfold Tr.sz Tr.chars Tr.refs
    rw [Tr.sum, Tr.sum, Tr.sum, Tr.sums, Tr.sums, Tr.sums]
    exact ⟨rfl, rfl, rfl⟩
theorem str0_hash {y : Str} {ch : Nat} (hc : ch ∈ y.cps.toList) (ht : Tx y) : (V.str ⟨#[ch]⟩ = V.str "#") = False := by
  refine eq_false fun e => ?_
  have e2 : (⟨#[ch]⟩ : Str) = "#" := by cases e; rfl
  have e3 : [ch] = [35] := by
    have : (⟨#[ch]⟩ : Str).cps.toList = ("#" : Str).cps.toList := by rw [e2]
    rw [show ("#" : Str).cps.toList = [35] by decide +kernel] at this
    exact this
  have e4 : ch = 35 := by injection e3
  have := ht ch hc
  rw [e4] at this
  exact absurd this (by decide +kernel)
structure SumOk (b0 b1 b2 : Int) (i : Int) (b06 b16 b26 : Int) (ts : List Tr) : Prop where
  sz : ((ts.map Tr.sz).sum : Int) + b06 ≤ b0 + i
  ch : ((ts.map Tr.chars).sum : Int) + b16 ≤ b1
  rf : ((ts.map Tr.refs).sum : Int) + b26 ≤ b2
theorem run_part {m : Nat} (hm20 : m ≤ 20) (as : List Sl) (Post : Re → List Sl → Prop) (h : ap_part m as Post) : WS K [0, 1, 2] (tq_part K ap_name ap_marks ap_take (ap_item m)) (as ++ List.replicate (9 - as.length) .un) ⟨fun G => Post (.val .non) (exitArgs [0, 1, 2] G as), fun r G => Post r (exitArgs [0, 1, 2] G as), fun _ => False, fun _ => False, .no⟩ := by
  obtain ⟨ds, c, zs, b0, b1, b2, b3, b4, dep, rfl, h0, hb, hz8, hm, k⟩ := h
  obtain ⟨c0, c1, z1, b00, b01, b10, b20, b40, b41⟩ := hb
  unfold tq_part
  show WS K [0, 1, 2] _ [.acc ds, .acc (zs.map Dt.str), .acc [.int b0, .int b1, .int b2, .int b3, .int b4], .val (.int dep), .un, .un, .un, .un, .un] _
  walk_at "es"
  refine .a ⟨ds, c, zs, rfl, h0, by omega, by omega, by omega, hz8, fun d1 c1' z h1 c10 c11 hz hzp => ?_⟩
  have hn1 := nm_snoc hz8 ⟨hz, hzp⟩
  have hl1 : (zs ++ [z]).length = zs.length + 1 := by rw [List.length_append, List.length_singleton]
  walk_at "es"
  refine .a ⟨d1, c1', zs ++ [z], rfl, h1, by omega, by omega, by omega, hn1, fun d2 c2 zs2 ms h2 c20 c21 hl2 hn2 hmk => ?_⟩
  walk_at "es"
  refine .a ⟨d2, c2, 5, rfl, h2, by omega, by omega, by omega, by omega, fun d3 g h3 g0 g1 => ?_⟩
  walk_at "xs"
  refine ws_cut (fun G => ∃ (d : List Dt) (c' g : Int), PoolIs c' d ∧ c2 < c' ∧ c' ≤ c2 + 2 ∧ 0 ≤ g ∧ (g ≤ b4 ∨ b0 ≤ b4) ∧ G = [.acc d, .acc (zs2.map Dt.str), .acc [.int b0, .int b1, .int b2, .int b3, .int b4], .val (.int dep), .val (.str z), .val (.tup (ms.map Dt.str)), .val (.int g), .un, .un]) ?_ ?_
  · by_cases hg : g = 4
    · walk_at "es"
      refine .a ⟨d3, c2 + 1, b4 + 1, rfl, h3, by omega, by omega, by omega, by omega, fun d4 g' h4 g0' g1' => ?_⟩
      walk_at "es"
      exact .a ⟨d4, _, g', h4, by omega, by omega, g0', by omega, rfl⟩
    · walk_at "es"
      exact .a ⟨d3, _, g, h3, by omega, by omega, g0, by omega, rfl⟩
  rintro G ⟨d4, c4, g, h4, c40, c41, g0, g1, rfl⟩
  obtain ⟨M, hM, hM2, hM3⟩ : ∃ M : Nat, (if b0 < g then b0 else g) = (M : Int) ∧ (M : Int) ≤ b0 ∧ (M : Int) ≤ b4 := by
    by_cases hlt : b0 < g
    · exact ⟨b0.toNat, by rw [if_pos hlt]; omega, by omega, by omega⟩
    · exact ⟨g.toNat, by rw [if_neg hlt]; omega, by omega, by omega⟩
  walk_at "es"
  rw [hM]
  refine for_range1 (M : Int) (fun i G => ∃ (d6 : List Dt) (c6 : Int) (zs6 : List Str) (b06 b16 b26 : Int) (ts : List Tr) (s8 : Sl), PoolIs c6 d6 ∧ c ≤ c6 ∧ c6 + 200 * b06 ≤ c + 59 + 200 * (b0 - M) + 100 * i ∧ (zs.length + 1 ≤ zs6.length ∧ zs6.length + 10 * b06 ≤ zs.length + 4 + 10 * (b0 - M) + 10 * i) ∧ (∀ z ∈ zs6, Nm1 z) ∧ 0 ≤ b06 ∧ b06 ≤ b0 - M ∧ 0 ≤ b16 ∧ 0 ≤ b26 ∧ ts.length = i ∧ (∀ t ∈ ts, TrOk b4.toNat t ∧ t.dep ≤ m) ∧ SumOk (b0 - M) b1 b2 i b06 b16 b26 ts ∧
    G = [.acc d6, .acc (zs6.map Dt.str), .acc [.int b06, .int b16, .int b26, .int b3, .int b4], .val (.int dep), .val (.str z), .val (.tup (ms.map Dt.str)), .val (.int M), .acc (ts.map Tr.dt), s8]) ?_ ?_ ?_
  · walk_at "es"
    exact .a ⟨rfl, by omega, by omega, d4, c4, zs2, b0 - M, b1, b2, [], .un, h4, by omega, by omega, by omega, hn2, by omega, by omega, b10, b20, rfl, (fun _ h => nomatch h), ⟨by simp, by simp, by simp⟩, rfl⟩
  · rintro i G hi ⟨d6, c6, zs6, b06, b16, b26, ts, s8, h6, c60, c61, hz6, hn6, p0, p1, p2, p3, hil, hit, hsm, rfl⟩
    have hil2 : (ts.map Tr.dt).length < 1000000 := by rw [List.length_map]; omega
    walk_at "es"
    refine .a ⟨d6, c6, zs6, b06, b16, b26, b3, b4, dep + 1, rfl, h6, ⟨by omega, by omega, by omega, p0, by omega, p2, p3, by omega, b41⟩, hn6, by omega, by omega, fun d7 c7 zs7 b07 b17 b27 t h7 gt => ?_⟩
    obtain ⟨q1, q2, q3, q4, q5, q6, q7, q8, q9, q10, q11, q12, q13⟩ := gt
    obtain ⟨m1, m2, m3⟩ := hsm
    walk_at "es"
    refine .a ⟨d7, c7, zs7, b07, b17, b27, ts ++ [t], _, h7, by omega, by omega, by omega, q4, q5, by omega, q7, q8, by rw [List.length_append, hil]; rfl, fun x hx => ?_, ⟨?_, ?_, ?_⟩, by rw [List.map_append]; rfl⟩
    · rcases List.mem_append.mp hx with hx | hx
      · exact hit x hx
      · rw [List.mem_singleton.mp hx]; exact ⟨q9, q10⟩
    · rw [List.map_append, List.sum_append]; simp only [List.map_cons, List.map_nil, List.sum_cons, List.sum_nil]; omega
    · rw [List.map_append, List.sum_append]; simp only [List.map_cons, List.map_nil, List.sum_cons, List.sum_nil]; omega
    · rw [List.map_append, List.sum_append]; simp only [List.map_cons, List.map_nil, List.sum_cons, List.sum_nil]; omega
  rintro G ⟨d6, c6, zs6, b06, b16, b26, ts, s8, h6, c60, c61, hz6, hn6, p0, p1, p2, p3, hil, hit, hsm, rfl⟩
  refine ws_cut (fun G => ∃ (ts : List Tr), ts.length = M ∧ (∀ t ∈ ts, TrOk b4.toNat t ∧ t.dep ≤ m) ∧ SumOk (b0 - M) b1 b2 M b06 b16 b26 ts ∧ G = [.acc d6, .acc (zs6.map Dt.str), .acc [.int b06, .int b16, .int b26, .int b3, .int b4], .val (.int dep), .val (.str z), .val (.tup (ms.map Dt.str)), .val (.int M), .acc (ts.map Tr.dt), s8]) ?_ ?_
  · have hlen : ts.length = M := by omega
    have hsm : SumOk (b0 - M) b1 b2 M b06 b16 b26 ts := by
      have e : (((M : Int).toNat : Nat) : Int) = (M : Int) := by omega
      rwa [e] at hsm
    obtain ⟨cell, flag, seed, e6, _⟩ := id h6
    have hflag : atI d6 2 = some (.int flag) := by rw [e6]; rfl
    have fin0 : Hold (∃ (ts' : List Tr), ts'.length = M ∧ (∀ t ∈ ts', TrOk b4.toNat t ∧ t.dep ≤ m) ∧ SumOk (b0 - M) b1 b2 M b06 b16 b26 ts' ∧ [Sl.acc d6, .acc (zs6.map Dt.str), .acc [.int b06, .int b16, .int b26, .int b3, .int b4], .val (.int dep), .val (.str z), .val (.tup (ms.map Dt.str)), .val (.int M), .acc (ts.map Tr.dt), s8] = [.acc d6, .acc (zs6.map Dt.str), .acc [.int b06, .int b16, .int b26, .int b3, .int b4], .val (.int dep), .val (.str z), .val (.tup (ms.map Dt.str)), .val (.int M), .acc (ts'.map Tr.dt), s8]) := .a ⟨ts, hlen, hit, hsm, rfl⟩
    by_cases a1 : 1 < (M : Int)
    · by_cases a2 : flag = 0
      · by_cases a3 : ((zs6.map Dt.str).length : Int) % 3 = 1
        · obtain ⟨t0, ht0⟩ : ∃ t0, ts[0]? = some t0 := ⟨_, List.getElem?_eq_getElem (by omega)⟩
          have hat0 : atI (ts.map Tr.dt) 0 = some t0.dt := atI_of (j := 0) rfl (by rw [List.getElem?_map, ht0]; rfl)
          have it0 := hit t0 (List.mem_of_getElem? ht0)
          have setit : ∀ Pq : Ps, ((∃ z, t0 = .lab z) ∨ ∃ kd ms, t0 = .part kd ms []) → (∀ X, Hold (∃ (ts' : List Tr), ts'.length = M ∧ (∀ t ∈ ts', TrOk b4.toNat t ∧ t.dep ≤ m) ∧ SumOk (b0 - M) b1 b2 M b06 b16 b26 ts' ∧ X = [.acc d6, .acc (zs6.map Dt.str), .acc [.int b06, .int b16, .int b26, .int b3, .int b4], .val (.int dep), .val (.str z), .val (.tup (ms.map Dt.str)), .val (.int M), .acc (ts'.map Tr.dt), s8]) → Pq.nx X) →
              WS K [0, 1, 2] (tAsg (tOp (rIx K) (tVar 7) (tC (.int 0))) (gSub (tVar 7) (tOp rSubI (tVar 6) (tC (.int 1))) rSetL)) [.acc d6, .acc (zs6.map Dt.str), .acc [.int b06, .int b16, .int b26, .int b3, .int b4], .val (.int dep), .val (.str z), .val (.tup (ms.map Dt.str)), .val (.int M), .acc (ts.map Tr.dt), s8] Pq := fun Pq hsmall hq => by
            obtain ⟨s1, s2, s3⟩ := dup_small it0.1 hsmall
            refine ws_setH ?_
            walk_at "es"
            refine .a ⟨ts.map Tr.dt, _, M - 1, rfl, rfl, ix_last (by rw [List.length_map]; exact hlen) (by omega), hq _ (.a ⟨ts.set (M - 1) t0, by rw [List.length_set]; exact hlen, fun d hd => ?_, ⟨?_, ?_, ?_⟩, ?_⟩)⟩
            · rcases List.mem_or_eq_of_mem_set hd with h | rfl
              · exact hit d h
              · exact it0
            · have := sum_set_le (f := Tr.sz) (l := ts) (i := M - 1) (x := t0) fun y _ => by rw [s1]; exact sz_pos y
              have := hsm.sz; omega
            · have := sum_set_le (f := Tr.chars) (l := ts) (i := M - 1) (x := t0) fun y _ => by rw [s2]; exact Nat.zero_le _
              have := hsm.ch; omega
            · have := sum_set_le (f := Tr.refs) (l := ts) (i := M - 1) (x := t0) fun y _ => by rw [s3]; exact Nat.zero_le _
              have := hsm.rf; omega
            · rw [List.map_set]; rfl
          cases t0 with
          | txt y =>
            have hy : 0 < y.length ∧ y.length ≤ 60 ∧ Tx y := by have := it0.1; unfold TrOk at this; rw [Tr.All] at this; exact this
            rw [Tr.dt] at hat0
            have hym : y.length ≤ 1000000 := by omega
            obtain ⟨ch, hcm, hch⟩ := at_str (z := y) (k := 0) (by omega) (by omega)
            walk_at "es"
            refine eqp_s rfl ?_
            rw [show (false ^^ decide (V.str ⟨#[ch]⟩ = V.str "#")) = false by rw [decide_eq_false (by rw [str0_hash hcm hy.2.2]; exact id)]; rfl]
            walk_at "es"
            refine eqp_d (p := .str (cutS y (some 2) none)) (q := .tuple [.tuple []]) (by show Dt.py _ = _; rw [Dt.py]) (by show Dt.py _ = _; simp [Dt.py, pyAll]) ?_ (by simp [SeqAt.shaped, PyData.canLay0, PyData.canLayAll0, PyData.depth, PyData.depthAll]) ?_
            · obtain ⟨p, p1, p2, p3⟩ := PyOk.str (n := 0) (hy.2.2.cs.cut (some 2) none)
              rw [Dt.py] at p1; cases p1
              unfold SeqAt.shaped; rw [p2, decide_eq_true (by omega)]; rfl
            rw [PyData.eqv]
            walk_at "es"
            exact fin0
          | lab y =>
            rw [Tr.dt] at hat0
            walk_at "es"
            refine eqp_s rfl ?_
            rw [show (false ^^ decide (V.str "#" = V.str "#")) = true by rw [decide_eq_true rfl]; rfl]
            refine ⟨_, rfl, ⟨(fun h => nomatch h), fun _ => ⟨fun _ => ?_, (fun h => nomatch h)⟩⟩⟩
            refine setit _ (.inl ⟨y, rfl⟩) ?_
            intro X h; exact h
          | ref y =>
            rw [Tr.dt] at hat0
            walk_at "es"
            refine eqp_s rfl ?_
            rw [show (false ^^ decide (V.str "@" = V.str "#")) = false by rw [decide_eq_false (fun e => by cases e)]; rfl]
            walk_at "es"
            refine slp_t ?_
            walk_at "es"
            refine eqp_d (p := .tuple []) (q := .tuple [.tuple []]) (by show Dt.py (.tup []) = _; simp [Dt.py, pyAll]) (by show Dt.py _ = _; simp [Dt.py, pyAll]) (by simp [SeqAt.shaped, PyData.canLay0, PyData.canLayAll0, PyData.depth, PyData.depthAll]) (by simp [SeqAt.shaped, PyData.canLay0, PyData.canLayAll0, PyData.depth, PyData.depthAll]) ?_
            rw [PyData.eqv, PyData.eqvAll]
            walk_at "es"
            exact fin0
          | part kd mk its0 =>
            rw [dt_part] at hat0
            obtain ⟨p, p1, p2, p3⟩ := tr_py _ it0.1 m it0.2
            have hkd : CS kd := by have := it0.1; unfold TrOk at this; rw [Tr.All] at this; exact this.1.1.1.2.cs
            have hks : kd ≠ "#" := by
              have h1 := it0.1
              unfold TrOk at h1; rw [Tr.All] at h1
              intro e
              have := h1.1.1.1.2 35 (by rw [e]; decide +kernel)
              omega
            walk_at "es"
            refine eqp_s rfl ?_
            rw [show (false ^^ decide (V.str kd = V.str "#")) = false by rw [decide_eq_false (fun e => hks (by cases e; rfl))]; rfl]
            walk_at "es"
            refine slp_t ?_
            walk_at "es"
            obtain ⟨ps, q1, q2, q3⟩ : ∃ ps, pyAll (its0.map Tr.dt) = some ps ∧ PyData.canLayAll0 ps = true ∧ PyData.depthAll ps ≤ 2 * m + 1 := PyOk.all fun d hd => by
              obtain ⟨y, hy, rfl⟩ := List.mem_map.mp hd
              have h1 := it0.1
              unfold TrOk at h1; rw [Tr.All] at h1
              have h2 := it0.2
              rw [Tr.dep] at h2
              exact tr_py y (alls_iff.mp h1.2 y hy) m (deps_le.mp (show Tr.deps its0 ≤ m by omega) y hy)
            refine eqp_d (p := .tuple [.tuple ps]) (q := .tuple [.tuple []]) (by show Dt.py (.tup [.tup (its0.map Tr.dt)]) = _; simp [Dt.py, pyAll, q1]) (by show Dt.py _ = _; simp [Dt.py, pyAll]) ?_ (by simp [SeqAt.shaped, PyData.canLay0, PyData.canLayAll0, PyData.depth, PyData.depthAll]) ?_
            · simp only [SeqAt.shaped, PyData.canLay0, PyData.canLayAll0, PyData.depth, PyData.depthAll, q2, Bool.and_true, Bool.true_and]
              exact decide_eq_true (by omega)
            cases ps with
            | nil =>
              have e0 : its0 = [] := by
                cases its0 with
                | nil => rfl
                | cons t r =>
                  rw [List.map_cons, pyAll] at q1
                  split at q1 <;> cases q1
              subst e0
              rw [PyData.eqv, PyData.eqvAll, PyData.eqvAll, PyData.eqv, PyData.eqvAll]
              refine ⟨_, rfl, ⟨fun _ => ?_, (fun h => nomatch h)⟩⟩
              refine setit _ (.inr ⟨_, _, rfl⟩) ?_
              intro X h; exact h
            | cons p r =>
              rw [PyData.eqv, PyData.eqvAll, PyData.eqv, PyData.eqvAll]
              walk_at "es"
              refine ⟨fun h => ?_, fun _ => ?_⟩
              · exfalso; simp [PyData.eqvAll] at h
              · walk_at "es"
                exact fin0
        · walk_at "es"
          exact fin0
      · walk_at "es"
        exact fin0
    · walk_at "es"
      exact fin0
  rintro G ⟨ts, hil, hit, hsm, rfl⟩
  walk_at "es"
  have := k d6 c6 zs6 b06 b16 b26 z ms ts h6 ⟨⟨c60, by omega⟩, by omega, by omega, hn6, p0, by omega, p2, p3, ?_, ?_, ?_, ?_, ?_⟩
  · rw [dt_part] at this
    exact this
  · unfold TrOk
    rw [Tr.All]
    exact ⟨⟨⟨hz, hzp⟩, hmk, by omega⟩, alls_iff.mpr fun t ht => (hit t ht).1⟩
  · rw [Tr.dep]
    have := deps_le.mpr fun t ht => (hit t ht).2
    omega
  · unfold Tr.sz; rw [Tr.sum, sums_map]; simp only [w1]
    have := hsm.sz
    have e : ts.map Tr.sz = ts.map (Tr.sum w1) := rfl
    rw [e] at this
    omega
  · unfold Tr.chars; rw [Tr.sum, sums_map]; simp only [wc]
    have := hsm.ch
    have e : ts.map Tr.chars = ts.map (Tr.sum wc) := rfl
    rw [e] at this
    omega
  · unfold Tr.refs; rw [Tr.sum, sums_map]; simp only [wr]
    have := hsm.rf
    have e : ts.map Tr.refs = ts.map (Tr.sum wr) := rfl
    rw [e] at this
    omega
end
section
variable {K : PySem.W.Frag}
end
end Doc

set_option maxHeartbeats 2000000
namespace Ab
open PySem L2
theorem ws_move {K : PySem.W.Frag} {pin : List Nat} {Γ : List Sl} {P : Ps} {i j : Nat} {c : Cn} (h0 : Γ[i]? = some (.cel c)) (hj : decide (j < Γ.length) = true) (hp : pin.contains j = false) (hij : (j == i) = false) (p : P.nx ((Γ.set i .un).set j (.cel c))) : WS K pin (tAsg (tVar i) (gName j)) Γ P := fun σ B H D E n r b c' xx => by
  obtain ⟨l, o, e1, e2, e3, e4⟩ := E.cel i c h0
  have hj := of_decide_eq_true hj
  have ij : j ≠ i := fun z => by rw [z] at hij; simp at hij
  have hL : ((Γ.set i .un).set j (.cel c)).length = Γ.length := by rw [List.length_set, List.length_set]
  have hjs : j < σ.length := by rw [E.len]; exact hj
  have at_j : ((Γ.set i .un).set j (.cel c))[j]? = some (.cel c) := List.getElem?_set_self (by rw [List.length_set]; exact hj)
  have off : ∀ {k : Nat} {s : Sl}, k ≠ j → ((Γ.set i .un).set j (.cel c))[k]? = some s → s ≠ .un → Γ[k]? = some s ∧ k ≠ i := fun {k s} hk h hs => by
    rw [List.getElem?_set_ne (Ne.symm hk)] at h
    by_cases z : i = k
    · subst z
      rw [List.getElem?_set_self (by exact (List.getElem?_eq_some_iff.mp h0).1)] at h
      cases h; exact (hs rfl).elim
    · rw [List.getElem?_set_ne z] at h
      exact ⟨h, Ne.symm z⟩
  have sg : ∀ {k : Nat}, k ≠ j → (σ.set j (some (.ref l)))[k]? = σ[k]? := fun {k} hk => List.getElem?_set_ne (Ne.symm hk)
  have sj : (σ.set j (some (.ref l)))[j]? = some (some (.ref l)) := List.getElem?_set_self hjs
  have new : ∀ a, Own (σ.set j (some (.ref l))) ((Γ.set i .un).set j (.cel c)) a → Own σ Γ a ∨ H a = none := fun a z => by
    obtain ⟨k, c2, h1, h2⟩ := z
    refine .inl ?_
    by_cases hk : k = j
    · rw [hk, sj] at h2; cases h2
      exact ⟨i, c, h0, e1⟩
    · rw [sg hk] at h2
      exact ⟨k, c2, (off hk h1 fun z => nomatch z).1, h2⟩
  have env : Env K B H (σ.set j (some (.ref l))) ((Γ.set i .un).set j (.cel c)) := by
    refine ⟨?_, E.bh, fun k d h => ?_, fun k c2 h => ?_, fun k m c2 d l2 h1 h2 h3 h4 => ?_⟩
    · rw [List.length_set, hL]; exact E.len
    · have hk : k ≠ j := fun z => by rw [z, at_j] at h; cases h
      obtain ⟨v, q1, q2⟩ := E.val k d (off hk h fun z => nomatch z).1
      exact ⟨v, by rw [sg hk]; exact q1, q2⟩
    · by_cases hk : k = j
      · rw [hk, at_j] at h; cases h
        exact ⟨l, o, by rw [hk]; exact sj, e2, e3, e4⟩
      · obtain ⟨l2, o2, q⟩ := E.cel k c2 (off hk h fun z => nomatch z).1
        exact ⟨l2, o2, by rw [sg hk]; exact q.1, q.2⟩
    · by_cases hk : k = j
      · by_cases hm : m = j
        · rw [hk, hm]
        · exfalso
          obtain ⟨g1, g2⟩ := off hm h2 fun z => nomatch z
          rw [hk, sj] at h3; cases h3
          rw [sg hm] at h4
          exact g2 (E.sep m i d c l g1 h0 h4 e1)
      · obtain ⟨f1, f2⟩ := off hk h1 fun z => nomatch z
        rw [sg hk] at h3
        by_cases hm : m = j
        · exfalso
          rw [hm, sj] at h4; cases h4
          exact f2 (E.sep k i c2 c l f1 h0 h3 e1)
        · obtain ⟨g1, g2⟩ := off hm h2 fun z => nomatch z
          rw [sg hm] at h4
          exact E.sep k m c2 d l2 f1 g1 h3 h4
  refine ⟨.ref l, e1, n _ B H _ ⟨Mv.refl _ _ _, new, env, fun k hk => sg fun z => ?_⟩ p⟩
  rw [z] at hk
  have : pin.contains j = true := List.contains_iff_mem.mpr hk
  rw [this] at hp; cases hp
end Ab

namespace PySem.W
open Lean Elab Tactic Meta PySem PySem.Calls PyProof.Rows PyProof.V PySem.Spec
section
variable {M : Model} {A : Around} {E : Value → Shared → Prop} {s : Shared} {K : Frag} {x C f : Addr} {ox : Obj} {od : Option Obj} {v : Value}
end
end PySem.W
namespace L2
open PySem PySem.Spec PyProof.Rows
structure FnIt (P : Program) (w : World) (K : PySem.W.Frag) (mg : Str → Option Value) (base : Heap) (k : Nat) (f C : Addr) (fld : Str) : Prop where
  run : ∀ (A : Around) (outer : List PySem.Env) (s : Shared) (H : Hp) (a dx l : Addr) (fs : List (Str × V)) (zs : List V), Room k A → Env0 P w K mg base A outer s H → H a = some (.ins C dx fs) → fs.lookup fld = some (.ref l) → SqL K H l zs →
    codeAny (model P w) A (.call (.ref f) ⟨[.ref a], []⟩) (CR CX0 outer P w H s (fun v H' => ∃ it, v = .ref it ∧ s.heap.objs.size ≤ it ∧ H it = none ∧ H' = upd H it (ItO l it 0)) E0) s
section
variable {P : Program} {w : World} {K : PySem.W.Frag} {mg : Str → Option Value} {base : Heap} {C f : Addr} {x qual : Str} {st : Stmt} {fd : FuncData} {k : Nat} {fld : Str}
end

section
variable {X : Cx} {C fi fl : Addr} {fld : Str} {k kl : Nat} {fdl : FuncData} {psl : List Str}
structure BoxC (K : PySem.W.Frag) (C fi fl : Addr) : Prop where
  it : PySem.W.findIn K (.ref C) "__iter__" = some (some (.ref fi))
  itF : PySem.W.isFn K (.ref fi) = true
  ln : PySem.W.findIn K (.ref C) "__len__" = some (some (.ref fl))
  lnF : PySem.W.isFn K (.ref fl) = true
section
variable {pins : List (Addr × Obj)} {σ : L2.St} {H : Hp} {s : Shared} {a dx l : Addr} {fs : List (Str × V)} {zs : List V} {A1 : Around}
end
end
end L2

namespace Ab
open PySem L2
structure PermO (o : List Nat) (n : Nat) : Prop where
  nd : o.Nodup
  mem : ∀ i, i ∈ o ↔ i < n
theorem pick_at {α : Type} {xs : List α} : ∀ {o : List Nat}, (∀ i ∈ o, i < xs.length) → ∀ j : Nat, (pick o xs)[j]? = o[j]?.bind fun i => xs[i]?
  | [], _, j => by simp [pick_nil]
  | i :: o, h, j => by
    have hi := h i List.mem_cons_self
    rw [pick_cons (List.getElem?_eq_getElem hi)]
    cases j with
    | zero => simp [List.getElem?_eq_getElem hi]
    | succ j =>
      rw [List.getElem?_cons_succ, List.getElem?_cons_succ]
      exact pick_at (fun k hk => h k (List.mem_cons_of_mem _ hk)) j
section
variable {K : PySem.W.Frag} {B H : Hp} {vs : List V} {as : List Sl} {o : List Nat} {n : Nat}
end
section
variable {K : PySem.W.Frag} {Γ : List Sl} {C : Addr}
end
end Ab

namespace Doc
open PySem L2 Ab
namespace Lk10
open PySem L2 Ab
noncomputable def topS (i : Nat) : Stmt := PySem.Challenge.pw_stylepages_k10_whole_written_form_there.main.body.getD i (.Pass ⟨0, 0, 0, 0⟩)
noncomputable abbrev s_is_name : Stmt := topS 14
theorem sc_is_name : FnScope ["word", "char"] ["word"] (defScope s_is_name) := ⟨rfl, rfl, rfl, by decide +kernel, rfl, by decide +kernel, by decide +kernel⟩
noncomputable abbrev s_is_text : Stmt := topS 15
theorem sc_is_text : FnScope ["word", "char"] ["word"] (defScope s_is_text) := ⟨rfl, rfl, rfl, by decide +kernel, rfl, by decide +kernel, by decide +kernel⟩
noncomputable abbrev s_are_marks : Stmt := topS 16
theorem sc_are_marks : FnScope ["words", "at", "word"] ["words"] (defScope s_are_marks) := ⟨rfl, rfl, rfl, by decide +kernel, rfl, by decide +kernel, by decide +kernel⟩
noncomputable abbrev s_is_part : Stmt := topS 17
theorem sc_is_part : FnScope ["item"] ["item"] (defScope s_is_part) := ⟨rfl, rfl, rfl, by decide +kernel, rfl, by decide +kernel, by decide +kernel⟩
noncomputable abbrev s_walk : Stmt := topS 18
theorem sc_walk : GScope ["root", "waiting", "path", "item", "at"] ["root"] (defScope s_walk) := ⟨rfl, rfl, rfl, by decide +kernel, rfl, by decide +kernel, by decide +kernel⟩
noncomputable abbrev s_within_bounds : Stmt := topS 19
theorem sc_within_bounds : FnScope ["root", "items", "characters", "references", "path", "item"] ["root"] (defScope s_within_bounds) := ⟨rfl, rfl, rfl, by decide +kernel, rfl, by decide +kernel, by decide +kernel⟩
noncomputable abbrev s_write_leaf : Stmt := topS 21
theorem sc_write_leaf : FnScope ["item"] ["item"] (defScope s_write_leaf) := ⟨rfl, rfl, rfl, by decide +kernel, rfl, by decide +kernel, by decide +kernel⟩
noncomputable abbrev s_write_document : Stmt := topS 22
theorem sc_write_document : FnScope ["root", "words", "depth", "path", "item"] ["root"] (defScope s_write_document) := ⟨rfl, rfl, rfl, by decide +kernel, rfl, by decide +kernel, by decide +kernel⟩
noncomputable abbrev s_write_item : Stmt := topS 23
theorem sc_write_item : FnScope ["item"] ["item"] (defScope s_write_item) := ⟨rfl, rfl, rfl, by decide +kernel, rfl, by decide +kernel, by decide +kernel⟩
noncomputable abbrev s_word_end : Stmt := topS 24
theorem sc_word_end : FnScope ["text", "at"] ["text", "at"] (defScope s_word_end) := ⟨rfl, rfl, rfl, by decide +kernel, rfl, by decide +kernel, by decide +kernel⟩
noncomputable abbrev s_read_part : Stmt := topS 25
theorem sc_read_part : FnScope ["text", "at", "depth", "end", "kind", "marks", "row", "item"] ["text", "at", "depth"] (defScope s_read_part) := ⟨rfl, rfl, rfl, by decide +kernel, rfl, by decide +kernel, by decide +kernel⟩
noncomputable abbrev s_read_item : Stmt := topS 26
theorem sc_read_item : FnScope ["text", "at", "depth", "sign", "end"] ["text", "at", "depth"] (defScope s_read_item) := ⟨rfl, rfl, rfl, by decide +kernel, rfl, by decide +kernel, by decide +kernel⟩
noncomputable abbrev s_is_sound : Stmt := topS 27
theorem sc_is_sound : FnScope ["item", "path", "inner", "sound"] ["item"] (defScope s_is_sound) := ⟨rfl, rfl, rfl, by decide +kernel, rfl, by decide +kernel, by decide +kernel⟩
noncomputable abbrev s_read_alone : Stmt := topS 28
theorem sc_read_alone : FnScope ["text", "item", "end"] ["text"] (defScope s_read_alone) := ⟨rfl, rfl, rfl, by decide +kernel, rfl, by decide +kernel, by decide +kernel⟩
noncomputable abbrev s_read_document : Stmt := topS 29
theorem sc_read_document : FnScope ["text", "root"] ["text"] (defScope s_read_document) := ⟨rfl, rfl, rfl, by decide +kernel, rfl, by decide +kernel, by decide +kernel⟩
noncomputable abbrev s__law_pool : Stmt := topS 31
theorem sc__law_pool : FnScope ["_law_script", "_law_at", "_law_cell"] ["_law_script", "_law_at"] (defScope s__law_pool) := ⟨rfl, rfl, rfl, by decide +kernel, rfl, by decide +kernel, by decide +kernel⟩
noncomputable abbrev s__law_take : Stmt := topS 32
theorem sc__law_take : FnScope ["_law_pool_here", "_law_many", "_law_got", "_law_one", "_law_two"] ["_law_pool_here", "_law_many"] (defScope s__law_take) := ⟨rfl, rfl, rfl, by decide +kernel, rfl, by decide +kernel, by decide +kernel⟩
noncomputable abbrev s__law_same : Stmt := topS 33
theorem sc__law_same : FnScope ["_law_one", "_law_two", "_law_both", "_law_k"] ["_law_one", "_law_two"] (defScope s__law_same) := ⟨rfl, rfl, rfl, by decide +kernel, rfl, by decide +kernel, by decide +kernel⟩
noncomputable abbrev s__law_letters : Stmt := topS 34
theorem sc__law_letters : FnScope ["_law_pool_here", "_law_many", "_law_abc", "_law_k"] ["_law_pool_here", "_law_many"] (defScope s__law_letters) := ⟨rfl, rfl, rfl, by decide +kernel, rfl, by decide +kernel, by decide +kernel⟩
noncomputable abbrev s__law_name : Stmt := topS 35
theorem sc__law_name : FnScope ["_law_pool_here", "_law_names", "_law_sort", "_law_name_here", "_law_at"] ["_law_pool_here", "_law_names"] (defScope s__law_name) := ⟨rfl, rfl, rfl, by decide +kernel, rfl, by decide +kernel, by decide +kernel⟩
noncomputable abbrev s__law_marks : Stmt := topS 36
theorem sc__law_marks : FnScope ["_law_pool_here", "_law_names", "_law_marks_here", "_law_k", "_law_name_here", "_law_less", "_law_mark"] ["_law_pool_here", "_law_names"] (defScope s__law_marks) := ⟨rfl, rfl, rfl, by decide +kernel, rfl, by decide +kernel, by decide +kernel⟩
noncomputable abbrev s__law_prose : Stmt := topS 37
theorem sc__law_prose : FnScope ["_law_pool_here", "_law_many", "_law_signs", "_law_k"] ["_law_pool_here", "_law_many"] (defScope s__law_prose) := ⟨rfl, rfl, rfl, by decide +kernel, rfl, by decide +kernel, by decide +kernel⟩
noncomputable abbrev s__law_text : Stmt := topS 38
theorem sc__law_text : FnScope ["_law_pool_here", "_law_budget", "_law_many"] ["_law_pool_here", "_law_budget"] (defScope s__law_text) := ⟨rfl, rfl, rfl, by decide +kernel, rfl, by decide +kernel, by decide +kernel⟩
noncomputable abbrev s__law_item : Stmt := topS 39
theorem sc__law_item : FnScope ["_law_pool_here", "_law_names", "_law_budget", "_law_depth", "_law_sort"] ["_law_pool_here", "_law_names", "_law_budget", "_law_depth"] (defScope s__law_item) := ⟨rfl, rfl, rfl, by decide +kernel, rfl, by decide +kernel, by decide +kernel⟩
noncomputable abbrev s__law_part : Stmt := topS 40
theorem sc__law_part : FnScope ["_law_pool_here", "_law_names", "_law_budget", "_law_depth", "_law_kind", "_law_marks_here", "_law_many", "_law_items", "_law_k"] ["_law_pool_here", "_law_names", "_law_budget", "_law_depth"] (defScope s__law_part) := ⟨rfl, rfl, rfl, by decide +kernel, rfl, by decide +kernel, by decide +kernel⟩
noncomputable abbrev s__law_wrapped : Stmt := topS 41
theorem sc__law_wrapped : FnScope ["_law_pool_here", "_law_names", "_law_item_here", "_law_many", "_law_turn"] ["_law_pool_here", "_law_names", "_law_item_here", "_law_many"] (defScope s__law_wrapped) := ⟨rfl, rfl, rfl, by decide +kernel, rfl, by decide +kernel, by decide +kernel⟩
noncomputable abbrev s__law_leaf : Stmt := topS 42
theorem sc__law_leaf : FnScope ["_law_pool_here", "_law_names"] ["_law_pool_here", "_law_names"] (defScope s__law_leaf) := ⟨rfl, rfl, rfl, by decide +kernel, rfl, by decide +kernel, by decide +kernel⟩
noncomputable abbrev s__law_full_row : Stmt := topS 43
theorem sc__law_full_row : FnScope ["_law_pool_here", "_law_names", "_law_shift", "_law_row", "_law_part_here", "_law_k"] ["_law_pool_here", "_law_names", "_law_shift"] (defScope s__law_full_row) := ⟨rfl, rfl, rfl, by decide +kernel, rfl, by decide +kernel, by decide +kernel⟩
noncomputable abbrev s__law_full_count : Stmt := topS 44
theorem sc__law_full_count : FnScope ["_law_pool_here", "_law_names", "_law_shift", "_law_odd", "_law_rows", "_law_k", "_law_many", "_law_row", "_law_j"] ["_law_pool_here", "_law_names", "_law_shift"] (defScope s__law_full_count) := ⟨rfl, rfl, rfl, by decide +kernel, rfl, by decide +kernel, by decide +kernel⟩
noncomputable abbrev s__law_full_prose : Stmt := topS 45
theorem sc__law_full_prose : FnScope ["_law_pool_here", "_law_names", "_law_shift", "_law_odd", "_law_rows", "_law_k", "_law_text_here"] ["_law_pool_here", "_law_names", "_law_shift"] (defScope s__law_full_prose) := ⟨rfl, rfl, rfl, by decide +kernel, rfl, by decide +kernel, by decide +kernel⟩
noncomputable abbrev s__law_full_depth : Stmt := topS 46
theorem sc__law_full_depth : FnScope ["_law_pool_here", "_law_names", "_law_shift", "_law_item_here", "_law_turn", "_law_row"] ["_law_pool_here", "_law_names", "_law_shift"] (defScope s__law_full_depth) := ⟨rfl, rfl, rfl, by decide +kernel, rfl, by decide +kernel, by decide +kernel⟩
noncomputable abbrev s__law_full_refs : Stmt := topS 47
theorem sc__law_full_refs : FnScope ["_law_pool_here", "_law_names", "_law_shift", "_law_rows", "_law_k", "_law_name_here"] ["_law_pool_here", "_law_names", "_law_shift"] (defScope s__law_full_refs) := ⟨rfl, rfl, rfl, by decide +kernel, rfl, by decide +kernel, by decide +kernel⟩
noncomputable abbrev s__law_edge : Stmt := topS 48
theorem sc__law_edge : FnScope ["_law_pool_here", "_law_names", "_law_shift", "_law_sort"] ["_law_pool_here", "_law_names", "_law_shift"] (defScope s__law_edge) := ⟨rfl, rfl, rfl, by decide +kernel, rfl, by decide +kernel, by decide +kernel⟩
noncomputable abbrev s__law_paths : Stmt := topS 49
theorem sc__law_paths : FnScope ["_law_item_here", "_law_path", "_law_rows", "_law_k"] ["_law_item_here", "_law_path"] (defScope s__law_paths) := ⟨rfl, rfl, rfl, by decide +kernel, rfl, by decide +kernel, by decide +kernel⟩
noncomputable abbrev s__law_sizes : Stmt := topS 50
theorem sc__law_sizes : FnScope ["_law_item_here", "_law_depth", "_law_sizes_here", "_law_one", "_law_more", "_law_total", "_law_k"] ["_law_item_here", "_law_depth"] (defScope s__law_sizes) := ⟨rfl, rfl, rfl, by decide +kernel, rfl, by decide +kernel, by decide +kernel⟩
noncomputable abbrev s__law_let : Stmt := topS 51
theorem sc__law_let : FnScope ["_law_root", "_law_sizes_here", "_law_bounds", "_law_k"] ["_law_root"] (defScope s__law_let) := ⟨rfl, rfl, rfl, by decide +kernel, rfl, by decide +kernel, by decide +kernel⟩
noncomputable abbrev s__law_written : Stmt := topS 52
theorem sc__law_written : FnScope ["_law_item_here", "_law_rest", "_law_one"] ["_law_item_here"] (defScope s__law_written) := ⟨rfl, rfl, rfl, by decide +kernel, rfl, by decide +kernel, by decide +kernel⟩
noncomputable abbrev s__law_read : Stmt := topS 53
theorem sc__law_read : FnScope ["_law_text_here", "_law_told"] ["_law_text_here"] (defScope s__law_read) := ⟨rfl, rfl, rfl, by decide +kernel, rfl, by decide +kernel, by decide +kernel⟩
noncomputable abbrev s_law : Stmt := topS 54
theorem sc_law : FnScope ["_law_script", "_law_names", "_law_pool_here", "_law_way", "_law_root", "_law_row", "_law_text_here"] ["_law_script"] (defScope s_law) := ⟨rfl, rfl, rfl, by decide +kernel, rfl, by decide +kernel, by decide +kernel⟩
set_option genInjectivity false
set_option genSizeOf false
set_option genSizeOfSpec false
structure Txt (K : PySem.W.Frag) (mg : Str → Option Value) where
  m_abs : mg "abs" = none
  m_all : mg "all" = none
  m_bool : mg "bool" = none
  m_enumerate : mg "enumerate" = none
  m_int : mg "int" = none
  m_isinstance : mg "isinstance" = none
  m_len : mg "len" = none
  m_list : mg "list" = none
  m_max : mg "max" = none
  m_min : mg "min" = none
  m_range : mg "range" = none
  m_str : mg "str" = none
  m_tuple : mg "tuple" = none
  c_BadDocument : Addr
  g_BadDocument : mg "BadDocument" = some (.ref c_BadDocument)
  bs_BadDocument : PySem.W.subIn K (.ref c_BadDocument) (.type "BaseException") = some true
  tx_BadDocument : PySem.W.typeIn K (.ref c_BadDocument) = some (.type "type")
  hd_BadDocument : PySem.W.hasDictIn K c_BadDocument = true
  x_BadDocument : PySem.W.excIn K c_BadDocument [.type "ValueError", .type "Exception", .type "BaseException", .type "object"] "ValueError.__new__" = true
  kx_BadDocument : PySem.W.keepIn K (.ref c_BadDocument) = true
  xc_BadDocument : ExcC K c_BadDocument
  sv_BadDocument : PySem.W.subIn K (.ref c_BadDocument) (.type "ValueError") = some true
  sb_BadDocument_BadDocument : PySem.W.subIn K (.ref c_BadDocument) (.ref c_BadDocument) = some true
  ts_NAME_LETTERS : Tok
  gs_NAME_LETTERS : mg "NAME_LETTERS" = some (.str "abcdefghijklmnopqrstuvwxyz" ts_NAME_LETTERS)
  ts_TEXT_CHARACTERS : Tok
  gs_TEXT_CHARACTERS : mg "TEXT_CHARACTERS" = some (.str " abcdefghijklmnopqrstuvwxyzABCDEFGHIJKLMNOPQRSTUVWXYZ0123456789.,;:!?'()|" ts_TEXT_CHARACTERS)
  ti_MOST_NAME_LETTERS : Tok
  gi_MOST_NAME_LETTERS : mg "MOST_NAME_LETTERS" = some (.int 8 ti_MOST_NAME_LETTERS)
  ti_MOST_TEXT_CHARACTERS : Tok
  gi_MOST_TEXT_CHARACTERS : mg "MOST_TEXT_CHARACTERS" = some (.int 60 ti_MOST_TEXT_CHARACTERS)
  ti_MOST_MARKS : Tok
  gi_MOST_MARKS : mg "MOST_MARKS" = some (.int 3 ti_MOST_MARKS)
  ti_MOST_ITEMS_OF_A_PART : Tok
  gi_MOST_ITEMS_OF_A_PART : mg "MOST_ITEMS_OF_A_PART" = some (.int 12 ti_MOST_ITEMS_OF_A_PART)
  ti_MOST_DEPTH : Tok
  gi_MOST_DEPTH : mg "MOST_DEPTH" = some (.int 6 ti_MOST_DEPTH)
  ti_MOST_ITEMS : Tok
  gi_MOST_ITEMS : mg "MOST_ITEMS" = some (.int 60 ti_MOST_ITEMS)
  ti_MOST_CHARACTERS : Tok
  gi_MOST_CHARACTERS : mg "MOST_CHARACTERS" = some (.int 400 ti_MOST_CHARACTERS)
  ti_MOST_REFERENCES : Tok
  gi_MOST_REFERENCES : mg "MOST_REFERENCES" = some (.int 3 ti_MOST_REFERENCES)
  f_is_name : Addr
  fd_is_name : FuncData
  F_is_name : Fun K "is_name" "is_name" s_is_name f_is_name fd_is_name
  g_is_name : mg "is_name" = some (.ref f_is_name)
  b_is_name : Binds K fd_is_name ["word"] []
  f_is_text : Addr
  fd_is_text : FuncData
  F_is_text : Fun K "is_text" "is_text" s_is_text f_is_text fd_is_text
  g_is_text : mg "is_text" = some (.ref f_is_text)
  b_is_text : Binds K fd_is_text ["word"] []
  f_are_marks : Addr
  fd_are_marks : FuncData
  F_are_marks : Fun K "are_marks" "are_marks" s_are_marks f_are_marks fd_are_marks
  g_are_marks : mg "are_marks" = some (.ref f_are_marks)
  b_are_marks : Binds K fd_are_marks ["words"] []
  f_is_part : Addr
  fd_is_part : FuncData
  F_is_part : Fun K "is_part" "is_part" s_is_part f_is_part fd_is_part
  g_is_part : mg "is_part" = some (.ref f_is_part)
  b_is_part : Binds K fd_is_part ["item"] []
  f_walk : Addr
  fd_walk : FuncData
  F_walk : Fun K "walk" "walk" s_walk f_walk fd_walk
  g_walk : mg "walk" = some (.ref f_walk)
  b_walk : Binds K fd_walk ["root"] []
  f_within_bounds : Addr
  fd_within_bounds : FuncData
  F_within_bounds : Fun K "within_bounds" "within_bounds" s_within_bounds f_within_bounds fd_within_bounds
  g_within_bounds : mg "within_bounds" = some (.ref f_within_bounds)
  b_within_bounds : Binds K fd_within_bounds ["root"] []
  f_write_leaf : Addr
  fd_write_leaf : FuncData
  F_write_leaf : Fun K "write_leaf" "write_leaf" s_write_leaf f_write_leaf fd_write_leaf
  g_write_leaf : mg "write_leaf" = some (.ref f_write_leaf)
  b_write_leaf : Binds K fd_write_leaf ["item"] []
  f_write_document : Addr
  fd_write_document : FuncData
  F_write_document : Fun K "write_document" "write_document" s_write_document f_write_document fd_write_document
  g_write_document : mg "write_document" = some (.ref f_write_document)
  b_write_document : Binds K fd_write_document ["root"] []
  f_write_item : Addr
  fd_write_item : FuncData
  F_write_item : Fun K "write_item" "write_item" s_write_item f_write_item fd_write_item
  g_write_item : mg "write_item" = some (.ref f_write_item)
  b_write_item : Binds K fd_write_item ["item"] []
  f_word_end : Addr
  fd_word_end : FuncData
  F_word_end : Fun K "word_end" "word_end" s_word_end f_word_end fd_word_end
  g_word_end : mg "word_end" = some (.ref f_word_end)
  b_word_end : Binds K fd_word_end ["text", "at"] []
  f_read_part : Addr
  fd_read_part : FuncData
  F_read_part : Fun K "read_part" "read_part" s_read_part f_read_part fd_read_part
  g_read_part : mg "read_part" = some (.ref f_read_part)
  b_read_part : Binds K fd_read_part ["text", "at", "depth"] []
  f_read_item : Addr
  fd_read_item : FuncData
  F_read_item : Fun K "read_item" "read_item" s_read_item f_read_item fd_read_item
  g_read_item : mg "read_item" = some (.ref f_read_item)
  b_read_item : Binds K fd_read_item ["text", "at", "depth"] []
  f_is_sound : Addr
  fd_is_sound : FuncData
  F_is_sound : Fun K "is_sound" "is_sound" s_is_sound f_is_sound fd_is_sound
  g_is_sound : mg "is_sound" = some (.ref f_is_sound)
  b_is_sound : Binds K fd_is_sound ["item"] []
  f_read_alone : Addr
  fd_read_alone : FuncData
  F_read_alone : Fun K "read_alone" "read_alone" s_read_alone f_read_alone fd_read_alone
  g_read_alone : mg "read_alone" = some (.ref f_read_alone)
  b_read_alone : Binds K fd_read_alone ["text"] []
  f_read_document : Addr
  fd_read_document : FuncData
  F_read_document : Fun K "read_document" "read_document" s_read_document f_read_document fd_read_document
  g_read_document : mg "read_document" = some (.ref f_read_document)
  b_read_document : Binds K fd_read_document ["text"] []
  f__law_pool : Addr
  fd__law_pool : FuncData
  F__law_pool : Fun K "_law_pool" "_law_pool" s__law_pool f__law_pool fd__law_pool
  g__law_pool : mg "_law_pool" = some (.ref f__law_pool)
  b__law_pool : Binds K fd__law_pool ["_law_script", "_law_at"] []
  f__law_take : Addr
  fd__law_take : FuncData
  F__law_take : Fun K "_law_take" "_law_take" s__law_take f__law_take fd__law_take
  g__law_take : mg "_law_take" = some (.ref f__law_take)
  b__law_take : Binds K fd__law_take ["_law_pool_here", "_law_many"] []
  f__law_same : Addr
  fd__law_same : FuncData
  F__law_same : Fun K "_law_same" "_law_same" s__law_same f__law_same fd__law_same
  g__law_same : mg "_law_same" = some (.ref f__law_same)
  b__law_same : Binds K fd__law_same ["_law_one", "_law_two"] []
  f__law_letters : Addr
  fd__law_letters : FuncData
  F__law_letters : Fun K "_law_letters" "_law_letters" s__law_letters f__law_letters fd__law_letters
  g__law_letters : mg "_law_letters" = some (.ref f__law_letters)
  b__law_letters : Binds K fd__law_letters ["_law_pool_here", "_law_many"] []
  f__law_name : Addr
  fd__law_name : FuncData
  F__law_name : Fun K "_law_name" "_law_name" s__law_name f__law_name fd__law_name
  g__law_name : mg "_law_name" = some (.ref f__law_name)
  b__law_name : Binds K fd__law_name ["_law_pool_here", "_law_names"] []
  f__law_marks : Addr
  fd__law_marks : FuncData
  F__law_marks : Fun K "_law_marks" "_law_marks" s__law_marks f__law_marks fd__law_marks
  g__law_marks : mg "_law_marks" = some (.ref f__law_marks)
  b__law_marks : Binds K fd__law_marks ["_law_pool_here", "_law_names"] []
  f__law_prose : Addr
  fd__law_prose : FuncData
  F__law_prose : Fun K "_law_prose" "_law_prose" s__law_prose f__law_prose fd__law_prose
  g__law_prose : mg "_law_prose" = some (.ref f__law_prose)
  b__law_prose : Binds K fd__law_prose ["_law_pool_here", "_law_many"] []
  f__law_text : Addr
  fd__law_text : FuncData
  F__law_text : Fun K "_law_text" "_law_text" s__law_text f__law_text fd__law_text
  g__law_text : mg "_law_text" = some (.ref f__law_text)
  b__law_text : Binds K fd__law_text ["_law_pool_here", "_law_budget"] []
  f__law_item : Addr
  fd__law_item : FuncData
  F__law_item : Fun K "_law_item" "_law_item" s__law_item f__law_item fd__law_item
  g__law_item : mg "_law_item" = some (.ref f__law_item)
  b__law_item : Binds K fd__law_item ["_law_pool_here", "_law_names", "_law_budget", "_law_depth"] []
  f__law_part : Addr
  fd__law_part : FuncData
  F__law_part : Fun K "_law_part" "_law_part" s__law_part f__law_part fd__law_part
  g__law_part : mg "_law_part" = some (.ref f__law_part)
  b__law_part : Binds K fd__law_part ["_law_pool_here", "_law_names", "_law_budget", "_law_depth"] []
  f__law_wrapped : Addr
  fd__law_wrapped : FuncData
  F__law_wrapped : Fun K "_law_wrapped" "_law_wrapped" s__law_wrapped f__law_wrapped fd__law_wrapped
  g__law_wrapped : mg "_law_wrapped" = some (.ref f__law_wrapped)
  b__law_wrapped : Binds K fd__law_wrapped ["_law_pool_here", "_law_names", "_law_item_here", "_law_many"] []
  f__law_leaf : Addr
  fd__law_leaf : FuncData
  F__law_leaf : Fun K "_law_leaf" "_law_leaf" s__law_leaf f__law_leaf fd__law_leaf
  g__law_leaf : mg "_law_leaf" = some (.ref f__law_leaf)
  b__law_leaf : Binds K fd__law_leaf ["_law_pool_here", "_law_names"] []
  f__law_full_row : Addr
  fd__law_full_row : FuncData
  F__law_full_row : Fun K "_law_full_row" "_law_full_row" s__law_full_row f__law_full_row fd__law_full_row
  g__law_full_row : mg "_law_full_row" = some (.ref f__law_full_row)
  b__law_full_row : Binds K fd__law_full_row ["_law_pool_here", "_law_names", "_law_shift"] []
  f__law_full_count : Addr
  fd__law_full_count : FuncData
  F__law_full_count : Fun K "_law_full_count" "_law_full_count" s__law_full_count f__law_full_count fd__law_full_count
  g__law_full_count : mg "_law_full_count" = some (.ref f__law_full_count)
  b__law_full_count : Binds K fd__law_full_count ["_law_pool_here", "_law_names", "_law_shift"] []
  f__law_full_prose : Addr
  fd__law_full_prose : FuncData
  F__law_full_prose : Fun K "_law_full_prose" "_law_full_prose" s__law_full_prose f__law_full_prose fd__law_full_prose
  g__law_full_prose : mg "_law_full_prose" = some (.ref f__law_full_prose)
  b__law_full_prose : Binds K fd__law_full_prose ["_law_pool_here", "_law_names", "_law_shift"] []
  f__law_full_depth : Addr
  fd__law_full_depth : FuncData
  F__law_full_depth : Fun K "_law_full_depth" "_law_full_depth" s__law_full_depth f__law_full_depth fd__law_full_depth
  g__law_full_depth : mg "_law_full_depth" = some (.ref f__law_full_depth)
  b__law_full_depth : Binds K fd__law_full_depth ["_law_pool_here", "_law_names", "_law_shift"] []
  f__law_full_refs : Addr
  fd__law_full_refs : FuncData
  F__law_full_refs : Fun K "_law_full_refs" "_law_full_refs" s__law_full_refs f__law_full_refs fd__law_full_refs
  g__law_full_refs : mg "_law_full_refs" = some (.ref f__law_full_refs)
  b__law_full_refs : Binds K fd__law_full_refs ["_law_pool_here", "_law_names", "_law_shift"] []
  f__law_edge : Addr
  fd__law_edge : FuncData
  F__law_edge : Fun K "_law_edge" "_law_edge" s__law_edge f__law_edge fd__law_edge
  g__law_edge : mg "_law_edge" = some (.ref f__law_edge)
  b__law_edge : Binds K fd__law_edge ["_law_pool_here", "_law_names", "_law_shift"] []
  f__law_paths : Addr
  fd__law_paths : FuncData
  F__law_paths : Fun K "_law_paths" "_law_paths" s__law_paths f__law_paths fd__law_paths
  g__law_paths : mg "_law_paths" = some (.ref f__law_paths)
  b__law_paths : Binds K fd__law_paths ["_law_item_here", "_law_path"] []
  f__law_sizes : Addr
  fd__law_sizes : FuncData
  F__law_sizes : Fun K "_law_sizes" "_law_sizes" s__law_sizes f__law_sizes fd__law_sizes
  g__law_sizes : mg "_law_sizes" = some (.ref f__law_sizes)
  b__law_sizes : Binds K fd__law_sizes ["_law_item_here", "_law_depth"] []
  f__law_let : Addr
  fd__law_let : FuncData
  F__law_let : Fun K "_law_let" "_law_let" s__law_let f__law_let fd__law_let
  g__law_let : mg "_law_let" = some (.ref f__law_let)
  b__law_let : Binds K fd__law_let ["_law_root"] []
  f__law_written : Addr
  fd__law_written : FuncData
  F__law_written : Fun K "_law_written" "_law_written" s__law_written f__law_written fd__law_written
  g__law_written : mg "_law_written" = some (.ref f__law_written)
  b__law_written : Binds K fd__law_written ["_law_item_here"] []
  f__law_read : Addr
  fd__law_read : FuncData
  F__law_read : Fun K "_law_read" "_law_read" s__law_read f__law_read fd__law_read
  g__law_read : mg "_law_read" = some (.ref f__law_read)
  b__law_read : Binds K fd__law_read ["_law_text_here"] []
  f_law : Addr
  fd_law : FuncData
  F_law : Fun K "law" "law" s_law f_law fd_law
  g_law : mg "law" = some (.ref f_law)
  b_law : Binds K fd_law ["_law_script"] []
set_option genInjectivity true
set_option genSizeOf true
set_option genSizeOfSpec true
noncomputable def t_is_name (K : PySem.W.Frag) : TS :=
    (tSeq (tIfS (tNot (tTest (tChain rLeI rLeI (tC (.int 1)) (tCB (rLenV K) (tCons (tVar 0) tNil)) (tC (.int 8))))) (tRet (tC (.bl false))) tNext)
    (tRet (tCB (rAll K) (tCons (tLc (iStr (tVar 0)) (gName 1) tYes (tOp (rInG K) (tVar 1) (tC (.str "abcdefghijklmnopqrstuvwxyz"))) [1]) tNil))))
noncomputable def t_is_text (K : PySem.W.Frag) : TS :=
    (tSeq (tIfS (tNot (tTest (tChain rLeI rLeI (tC (.int 1)) (tCB (rLenV K) (tCons (tVar 0) tNil)) (tC (.int 60))))) (tRet (tC (.bl false))) tNext)
    (tRet (tCB (rAll K) (tCons (tLc (iStr (tVar 0)) (gName 1) tYes (tOp (rInG K) (tVar 1) (tC (.str " abcdefghijklmnopqrstuvwxyzABCDEFGHIJKLMNOPQRSTUVWXYZ0123456789.,;:!?'()|"))) [1]) tNil))))
noncomputable def t_are_marks (K : PySem.W.Frag) (ap_is_name : AP) : TS :=
    (tSeq (tIfS (tTest (tOp rGtI (tCB (rLenV K) (tCons (tVar 0) tNil)) (tC (.int 3)))) (tRet (tC (.bl false))) tNext)
    (tSeq (tFor (iEnumT K (tCons (tVar 0) tNil)) (gTup K 2 (gCons (gName 1) (gCons (gName 2) gNil))) (tSeq (tIfS (tNot (tB (tCall (toSp K ap_is_name) [] E0 (tCons (tVar 2) tNil)))) (tRet (tC (.bl false))) tNext)
    (tIfS (tAnd (tTest (tOp rGtI (tVar 1) (tC (.int 0)))) (tTest (tOp rGeS (tOp (rIx K) (tVar 0) (tOp rSubI (tVar 1) (tC (.int 1)))) (tVar 2)))) (tRet (tC (.bl false))) tNext)))
    (tRet (tC (.bl true)))))
noncomputable def t_is_part (K : PySem.W.Frag) : TS :=
    (tRet (tAndV (tCB (rIsi K) (tCons (tVar 0) (tCons (tC (.ty "tuple")) tNil))) (tOp (rEqG K) (tCB (rLenV K) (tCons (tVar 0) tNil)) (tC (.int 3)))))
noncomputable def t_walk (K : PySem.W.Frag) (ap_is_part : AP) : Ga.TY :=
    (Ga.yThen (Ga.yPlain (tAsg (tLst (tCons (tTup (tCons (tTup tNil) (tCons (tVar 0) tNil))) tNil)) (gName 1)))
    (Ga.yThen (Ga.yWhile (tTru K (tVar 1)) (Ga.yThen (Ga.yPlain (tAsg (tBM0 K "list" rPop (tVar 1)) (gTup K 2 (gCons (gName 2) (gCons (gName 3) gNil)))))
    (Ga.yThen (Ga.yYield (tTup (tCons (tVar 2) (tCons (tVar 3) tNil))))
    (Ga.yThen (Ga.yPlain (tIfS (tB (tCall (toSp K ap_is_part) [] E0 (tCons (tVar 3) tNil))) (tFor (iRng3 (tCons (tOp rSubI (tCB (rLenV K) (tCons (tOp (rIx K) (tVar 3) (tC (.int 2))) tNil)) (tC (.int 1))) (tCons (tUn rNegI (tC (.int 1))) (tCons (tUn rNegI (tC (.int 1))) tNil)))) (gName 4) (tDrop (tBM K "list" rAppend (tVar 1) (tCons (tTup (tCons (tOp (rAddG K) (tVar 2) (tTup (tCons (tVar 4) tNil))) (tCons (tOp (rIx K) (tOp (rIx K) (tVar 3) (tC (.int 2))) (tVar 4)) tNil))) tNil)))) tNext))
    Ga.yNil))))
    Ga.yNil))
noncomputable def t_within_bounds (K : PySem.W.Frag) (ap_is_part : AP) : TS :=
    (tSeq (tAsg (tC (.int 0)) (gName 1))
    (tSeq (tAsg (tC (.int 0)) (gName 2))
    (tSeq (tAsg (tC (.int 0)) (gName 3))
    (tSeq (Ga.tForY (Ga.yArgs 1 [] (tCons (tVar 0) tNil)) ["root", "waiting", "path", "item", "at"] (t_walk K ap_is_part) (gTup K 2 (gCons (gName 4) (gCons (gName 5) gNil))) (tSeq (tAug 1 (tC (.int 1)) (ipI fun i j => i + j))
    (tIfS (tB (tCB (rIsi K) (tCons (tVar 5) (tCons (tC (.ty "str")) tNil)))) (tAug 2 (tCB (rLenV K) (tCons (tVar 5) tNil)) (ipI fun i j => i + j)) (tIfS (tB (tCall (toSp K ap_is_part) [] E0 (tCons (tVar 5) tNil))) (tIfS (tOr (tTest (tOp rGtI (tCB (rLenV K) (tCons (tOp (rIx K) (tVar 5) (tC (.int 2))) tNil)) (tC (.int 12)))) (tTest (tOp rGeI (tCB (rLenV K) (tCons (tVar 4) tNil)) (tC (.int 6))))) (tRet (tC (.bl false))) tNext) (tIfS (tTest (tOp (rEqG K) (tOp (rIx K) (tVar 5) (tC (.int 0))) (tC (.str "@")))) (tAug 3 (tC (.int 1)) (ipI fun i j => i + j)) tNext)))))
    (tRet (tAndV (tOp rLeI (tVar 1) (tC (.int 60))) (tAndV (tOp rLeI (tVar 2) (tC (.int 400))) (tOp rLeI (tVar 3) (tC (.int 3))))))))))
noncomputable def t_write_leaf (K : PySem.W.Frag) : TS :=
    (tSeq (tIfS (tB (tCB (rIsi K) (tCons (tVar 0) (tCons (tC (.ty "str")) tNil)))) (tRet (tOp (rAddG K) (tOp (rAddG K) (tC (.str "\"")) (tVar 0)) (tC (.str "\"")))) tNext)
    (tRet (tOp (rAddG K) (tOp (rIx K) (tVar 0) (tC (.int 0))) (tOp (rIx K) (tVar 0) (tC (.int 1))))))
noncomputable def t_write_document (K : PySem.W.Frag) (ap_is_part : AP) (ap_write_leaf : AP) : TS :=
    (tSeq (tAsg (tLst tNil) (gName 1))
    (tSeq (tAsg (tC (.int 0)) (gName 2))
    (tSeq (Ga.tForY (Ga.yArgs 1 [] (tCons (tVar 0) tNil)) ["root", "waiting", "path", "item", "at"] (t_walk K ap_is_part) (gTup K 2 (gCons (gName 3) (gCons (gName 4) gNil))) (tSeq (tDrop (tBM K "list" rAppend (tVar 1) (tCons (tOp rRepS (tC (.str ")")) (tOp rSubI (tVar 2) (tCB (rLenV K) (tCons (tVar 3) tNil)))) tNil)))
    (tSeq (tAsg (tCB (rLenV K) (tCons (tVar 3) tNil)) (gName 2))
    (tSeq (tIfS (tTest (tOp rGtI (tVar 2) (tC (.int 0)))) (tDrop (tBM K "list" rAppend (tVar 1) (tCons (tC (.str " ")) tNil))) tNext)
    (tIfS (tB (tCall (toSp K ap_is_part) [] E0 (tCons (tVar 4) tNil))) (tSeq (tDrop (tBM K "list" rAppend (tVar 1) (tCons (tOp (rAddG K) (tC (.str "(")) (tM1 (rJoin K) (tC (.str ".")) (tOp (rAddG K) (tTup (tCons (tOp (rIx K) (tVar 4) (tC (.int 0))) tNil)) (tOp (rIx K) (tVar 4) (tC (.int 1)))))) tNil)))
    (tAug 2 (tC (.int 1)) (ipI fun i j => i + j))) (tDrop (tBM K "list" rAppend (tVar 1) (tCons (tCall (toSp K ap_write_leaf) [] E0 (tCons (tVar 4) tNil)) tNil))))))))
    (tRet (tOp (rAddG K) (tM1 (rJoin K) (tC (.str "")) (tVar 1)) (tOp rRepS (tC (.str ")")) (tVar 2)))))))
noncomputable def t_write_item (K : PySem.W.Frag) (ap_is_part : AP) (ap_write_document : AP) (ap_write_leaf : AP) : TS :=
    (tSeq (tIfS (tB (tCall (toSp K ap_is_part) [] E0 (tCons (tVar 0) tNil))) (tRet (tCall (toSp K ap_write_document) [] E0 (tCons (tVar 0) tNil))) tNext)
    (tRet (tCall (toSp K ap_write_leaf) [] E0 (tCons (tVar 0) tNil))))
noncomputable def t_word_end (K : PySem.W.Frag) : TS :=
    (tSeq (tWhile (tAnd (tTest (tOp (rLtG K) (tVar 1) (tCB (rLenV K) (tCons (tVar 0) tNil)))) (tTest (tOp rNotInC (tOp (rIx K) (tVar 0) (tVar 1)) (tC (.str " \"()"))))) (tAug 1 (tC (.int 1)) (ipI fun i j => i + j)))
    (tRet (tVar 1)))
noncomputable def t_read_part (K : PySem.W.Frag) (c_BadDocument : Addr) (ap_word_end : AP) (ap_read_item : APX) (W : WX) : TS :=
    (tSeq (tIfS (tTest (tOp rGtI (tVar 2) (tC (.int 6)))) (tRaise W (.ref c_BadDocument)) tNext)
    (tSeq (tAsg (tCall (toSp K ap_word_end) [] E0 (tCons (tVar 0) (tCons (tOp (rAddG K) (tVar 1) (tC (.int 1))) tNil))) (gName 3))
    (tSeq (tAsg (tM1 rSplitS (tSl (rSlG K) (tVar 0) (tPart (tOp (rAddG K) (tVar 1) (tC (.int 1)))) (tPart (tVar 3))) (tC (.str "."))) (gStar K (gCons (gName 4) (gCons (gName 5) gNil))))
    (tSeq (tAsg (tLst tNil) (gName 6))
    (tSeq (tWhile (tTest (tOp (rEqG K) (tSl (rSlG K) (tVar 0) (tPart (tVar 3)) (tPart (tOp (rAddG K) (tVar 3) (tC (.int 1))))) (tC (.str " ")))) (tSeq (tAsg (tCallX K ap_read_item W (tCons (tVar 0) (tCons (tOp (rAddG K) (tVar 3) (tC (.int 1))) (tCons (tOp (rAddG K) (tVar 2) (tC (.int 1))) tNil)))) (gTup K 2 (gCons (gName 7) (gCons (gName 3) gNil))))
    (tDrop (tBM K "list" rAppend (tVar 6) (tCons (tVar 7) tNil)))))
    (tSeq (tIfS (tTest (tOp (rNeG K) (tSl (rSlG K) (tVar 0) (tPart (tVar 3)) (tPart (tOp (rAddG K) (tVar 3) (tC (.int 1))))) (tC (.str ")")))) (tRaise W (.ref c_BadDocument)) tNext)
    (tRet (tTup (tCons (tTup (tCons (tVar 4) (tCons (tCB (rTupleOf K) (tCons (tVar 5) tNil)) (tCons (tCB (rTupleOf K) (tCons (tVar 6) tNil)) tNil)))) (tCons (tOp (rAddG K) (tVar 3) (tC (.int 1))) tNil))))))))))
noncomputable def t_read_item (K : PySem.W.Frag) (c_BadDocument : Addr) (ap_read_part : APX) (ap_word_end : AP) (W : WX) : TS :=
    (tSeq (tAsg (tSl (rSlG K) (tVar 0) (tPart (tVar 1)) (tPart (tOp (rAddG K) (tVar 1) (tC (.int 1))))) (gName 3))
    (tSeq (tIfS (tTest (tOp (rEqG K) (tVar 3) (tC (.str "(")))) (tRet (tCallX K ap_read_part W (tCons (tVar 0) (tCons (tVar 1) (tCons (tVar 2) tNil))))) tNext)
    (tSeq (tIfS (tTest (tOp (rEqG K) (tVar 3) (tC (.str "\"")))) (tSeq (tAsg (tMG tyS rFind3 (tVar 0) (tCons (tC (.str "\"")) (tCons (tOp (rAddG K) (tVar 1) (tC (.int 1))) tNil))) (gName 4))
    (tSeq (tIfS (tTest (tOp (rLtG K) (tVar 4) (tC (.int 0)))) (tRaise W (.ref c_BadDocument)) tNext)
    (tRet (tTup (tCons (tSl (rSlG K) (tVar 0) (tPart (tOp (rAddG K) (tVar 1) (tC (.int 1)))) (tPart (tVar 4))) (tCons (tOp (rAddG K) (tVar 4) (tC (.int 1))) tNil)))))) tNext)
    (tSeq (tIfS (tTest (tOp (rIn K true) (tVar 3) (tTup (tCons (tC (.str "#")) (tCons (tC (.str "@")) tNil))))) (tRaise W (.ref c_BadDocument)) tNext)
    (tSeq (tAsg (tCall (toSp K ap_word_end) [] E0 (tCons (tVar 0) (tCons (tOp (rAddG K) (tVar 1) (tC (.int 1))) tNil))) (gName 4))
    (tRet (tTup (tCons (tTup (tCons (tVar 3) (tCons (tSl (rSlG K) (tVar 0) (tPart (tOp (rAddG K) (tVar 1) (tC (.int 1)))) (tPart (tVar 4))) tNil))) (tCons (tVar 4) tNil)))))))))
noncomputable def t_is_sound (K : PySem.W.Frag) (ap_is_part : AP) (ap_is_text : AP) (ap_is_name : AP) (ap_are_marks : AP) (ap_within_bounds : AP) : TS :=
    (tSeq (Ga.tForY (Ga.yArgs 1 [] (tCons (tVar 0) tNil)) ["root", "waiting", "path", "item", "at"] (t_walk K ap_is_part) (gTup K 2 (gCons (gName 1) (gCons (gName 2) gNil))) (tSeq (tIfS (tB (tCB (rIsi K) (tCons (tVar 2) (tCons (tC (.ty "str")) tNil)))) (tAsg (tCall (toSp K ap_is_text) [] E0 (tCons (tVar 2) tNil)) (gName 3)) (tIfS (tB (tCall (toSp K ap_is_part) [] E0 (tCons (tVar 2) tNil))) (tAsg (tAndV (tCall (toSp K ap_is_name) [] E0 (tCons (tOp (rIx K) (tVar 2) (tC (.int 0))) tNil)) (tCall (toSp K ap_are_marks) [] E0 (tCons (tOp (rIx K) (tVar 2) (tC (.int 1))) tNil))) (gName 3)) (tAsg (tCall (toSp K ap_is_name) [] E0 (tCons (tOp (rIx K) (tVar 2) (tC (.int 1))) tNil)) (gName 3))))
    (tIfS (tNot (tB (tVar 3))) (tRet (tC (.bl false))) tNext)))
    (tRet (tCall (toSp K ap_within_bounds) [] E0 (tCons (tVar 0) tNil))))
noncomputable def t_read_alone (K : PySem.W.Frag) (c_BadDocument : Addr) (ap_read_item : APX) (ap_is_sound : AP) (ap_write_item : AP) (W : WX) : TS :=
    (tSeq (tAsg (tCallX K ap_read_item W (tCons (tVar 0) (tCons (tC (.int 0)) (tCons (tC (.int 1)) tNil)))) (gTup K 2 (gCons (gName 1) (gCons (gName 2) gNil))))
    (tSeq (tIfS (tOr (tTest (tOp (rNeG K) (tVar 2) (tCB (rLenV K) (tCons (tVar 0) tNil)))) (tOr (tNot (tB (tCall (toSp K ap_is_sound) [] E0 (tCons (tVar 1) tNil)))) (tTest (tOp (rNeG K) (tCall (toSp K ap_write_item) [] E0 (tCons (tVar 1) tNil)) (tVar 0))))) (tRaise W (.ref c_BadDocument)) tNext)
    (tRet (tVar 1))))
noncomputable def t_read_document (K : PySem.W.Frag) (c_BadDocument : Addr) (ap_read_alone : APX) (ap_is_part : AP) (W : WX) : TS :=
    (tSeq (tAsg (tCallX K ap_read_alone W (tCons (tVar 0) tNil)) (gName 1))
    (tSeq (tIfS (tNot (tB (tCall (toSp K ap_is_part) [] E0 (tCons (tVar 1) tNil)))) (tRaise W (.ref c_BadDocument)) tNext)
    (tRet (tVar 1))))
noncomputable def t__law_pool (K : PySem.W.Frag) : TS :=
    (tSeq (tAsg (tC (.int 0)) (gName 2))
    (tSeq (tIfS (tTest (tOp (rLtG K) (tVar 1) (tCB (rLenV K) (tCons (tVar 0) tNil)))) (tAsg (tCB rAbs (tCons (tCB rInt1 (tCons (tOp (rIx K) (tVar 0) (tVar 1)) tNil)) tNil)) (gName 2)) tNext)
    (tRet (tLst (tCons (tVar 2) (tCons (tC (.int 0)) (tCons (tCB rInt1 (tCons (tOp rGeI (tVar 2) (tOp rPowI (tC (.int 10)) (tC (.int 18)))) tNil)) (tCons (tOp rModI (tCB rInt1 (tCons (tOp (rAddG K) (tVar 2) (tOp (rMulG K) (tVar 1) (tC (.int 7919)))) tNil)) (tC (.int 2147483647))) (tCons (tC (.int 3)) tNil)))))))))
noncomputable def t__law_take (K : PySem.W.Frag) : TS :=
    (tSeq (tAsg (tOp (rAddG K) (tOp (rIx K) (tVar 0) (tC (.int 1))) (tC (.int 1))) (gSub (tVar 0) (tC (.int 1)) rSetL))
    (tSeq (tIfS (tTest (tOp (rEqG K) (tOp (rIx K) (tVar 0) (tC (.int 2))) (tC (.int 1)))) (tSeq (tAsg (tOp rModI (tCB rInt1 (tCons (tOp (rIx K) (tVar 0) (tC (.int 0))) tNil)) (tVar 1)) (gName 2))
    (tSeq (tAsg (tOp rDivI (tOp (rIx K) (tVar 0) (tC (.int 0))) (tVar 1)) (gSub (tVar 0) (tC (.int 0)) rSetL))
    (tRet (tVar 2)))) tNext)
    (tSeq (tAsg (tOp rModI (tCB rInt1 (tCons (tOp (rAddG K) (tOp (rAddG K) (tOp (rMulG K) (tOp (rIx K) (tVar 0) (tC (.int 3))) (tC (.int 48271))) (tOp (rMulG K) (tOp (rIx K) (tVar 0) (tC (.int 1))) (tC (.int 69621)))) (tC (.int 11))) tNil)) (tC (.int 2147483647))) (gName 3))
    (tSeq (tAsg (tOp rModI (tCB rInt1 (tCons (tOp (rAddG K) (tOp (rAddG K) (tOp (rMulG K) (tVar 3) (tC (.int 16807))) (tOp rDivI (tVar 3) (tC (.int 65536)))) (tOp (rMulG K) (tOp (rMulG K) (tOp (rIx K) (tVar 0) (tC (.int 1))) (tOp (rIx K) (tVar 0) (tC (.int 1)))) (tC (.int 40692)))) tNil)) (tC (.int 2147483399))) (gName 4))
    (tRet (tOp rModI (tCB rInt1 (tCons (tOp rDivI (tVar 4) (tOp (rAddG K) (tOp (rIx K) (tVar 0) (tC (.int 1))) (tC (.int 6)))) tNil)) (tVar 1)))))))
noncomputable def t__law_same (K : PySem.W.Frag) (ap__law_same : AP) : TS :=
    (tSeq (tIfS (tOr (tB (tCB (rIsi K) (tCons (tVar 0) (tCons (tC (.ty "bool")) tNil)))) (tB (tCB (rIsi K) (tCons (tVar 1) (tCons (tC (.ty "bool")) tNil))))) (tRet (tAndV (tCB (rIsi K) (tCons (tVar 0) (tCons (tC (.ty "bool")) tNil))) (tAndV (tCB (rIsi K) (tCons (tVar 1) (tCons (tC (.ty "bool")) tNil))) (tOp (rEqG K) (tVar 0) (tVar 1))))) tNext)
    (tSeq (tIfS (tAnd (tB (tCB (rIsi K) (tCons (tVar 0) (tCons (tC (.ty "int")) tNil)))) (tB (tCB (rIsi K) (tCons (tVar 1) (tCons (tC (.ty "int")) tNil))))) (tRet (tOp (rEqG K) (tVar 0) (tVar 1))) tNext)
    (tSeq (tIfS (tAnd (tB (tCB (rIsi K) (tCons (tVar 0) (tCons (tC (.ty "str")) tNil)))) (tB (tCB (rIsi K) (tCons (tVar 1) (tCons (tC (.ty "str")) tNil))))) (tRet (tOp (rEqG K) (tVar 0) (tVar 1))) tNext)
    (tSeq (tAsg (tAndV (tCB (rIsi K) (tCons (tVar 0) (tCons (tC (.ty "tuple")) tNil))) (tCB (rIsi K) (tCons (tVar 1) (tCons (tC (.ty "tuple")) tNil)))) (gName 2))
    (tSeq (tIfS (tOr (tB (tVar 2)) (tAnd (tB (tCB (rIsi K) (tCons (tVar 0) (tCons (tC (.ty "list")) tNil)))) (tB (tCB (rIsi K) (tCons (tVar 1) (tCons (tC (.ty "list")) tNil)))))) (tSeq (tIfS (tTest (tOp (rNeG K) (tCB (rLenV K) (tCons (tVar 0) tNil)) (tCB (rLenV K) (tCons (tVar 1) tNil)))) (tRet (tC (.bl false))) tNext)
    (tSeq (tFor (iRng1 (tCons (tCB (rLenV K) (tCons (tVar 0) tNil)) tNil)) (gName 3) (tIfS (tNot (tB (tCall (toSp K ap__law_same) [] E0 (tCons (tOp (rIx K) (tVar 0) (tVar 3)) (tCons (tOp (rIx K) (tVar 1) (tVar 3)) tNil))))) (tRet (tC (.bl false))) tNext))
    (tRet (tC (.bl true))))) tNext)
    (tRet (tAndV (tIsN (tVar 0)) (tIsN (tVar 1)))))))))
noncomputable def t__law_letters (K : PySem.W.Frag) (ap__law_take : AP) : TS :=
    (tSeq (tAsg (tC (.str "abcdefghijklmnopqrstuvwxyz")) (gName 2))
    (tRet (tM1 (rJoin K) (tC (.str "")) (tLc (iRng1 (tCons (tVar 1) tNil)) (gName 3) tYes (tOp (rIx K) (tVar 2) (tCall (toSp K ap__law_take) [] E0 (tCons (tVar 0) (tCons (tC (.int 26)) tNil)))) [3]))))
noncomputable def t__law_name (K : PySem.W.Frag) (ap__law_take : AP) (ap__law_letters : AP) : TS :=
    (tSeq (tAsg (tCall (toSp K ap__law_take) [] E0 (tCons (tVar 0) (tCons (tC (.int 5)) tNil))) (gName 2))
    (tSeq (tAsg (tC (.str "")) (gName 3))
    (tSeq (tIfS (tAnd (tTest (tOp rGtI (tVar 2) (tC (.int 0)))) (tTest (tOp rGtI (tCB (rLenV K) (tCons (tVar 1) tNil)) (tC (.int 0))))) (tAsg (tOp (rIx K) (tVar 1) (tCall (toSp K ap__law_take) [] E0 (tCons (tVar 0) (tCons (tCB (rLenV K) (tCons (tVar 1) tNil)) tNil)))) (gName 3)) tNext)
    (tSeq (tIfS (tAnd (tTest (tOp (rEqG K) (tVar 2) (tC (.int 1)))) (tTest (tOp rGtI (tCB (rLenV K) (tCons (tVar 3) tNil)) (tC (.int 0))))) (tSeq (tAsg (tCall (toSp K ap__law_take) [] E0 (tCons (tVar 0) (tCons (tCB (rLenV K) (tCons (tVar 3) tNil)) tNil))) (gName 4))
    (tAsg (tOp (rAddG K) (tOp (rAddG K) (tSl (rSlG K) (tVar 3) tNoPart (tPart (tVar 4))) (tCall (toSp K ap__law_letters) [] E0 (tCons (tVar 0) (tCons (tC (.int 1)) tNil)))) (tSl (rSlG K) (tVar 3) (tPart (tOp (rAddG K) (tVar 4) (tC (.int 1)))) tNoPart)) (gName 3))) tNext)
    (tSeq (tIfS (tAnd (tTest (tOp (rEqG K) (tVar 2) (tC (.int 2)))) (tTest (tChain rLtI rLtI (tC (.int 0)) (tCB (rLenV K) (tCons (tVar 3) tNil)) (tC (.int 8))))) (tAsg (tOp (rAddG K) (tVar 3) (tCall (toSp K ap__law_letters) [] E0 (tCons (tVar 0) (tCons (tC (.int 1)) tNil)))) (gName 3)) tNext)
    (tSeq (tIfS (tTest (tOp (rEqG K) (tVar 3) (tC (.str "")))) (tAsg (tCall (toSp K ap__law_letters) [] E0 (tCons (tVar 0) (tCons (tOp (rAddG K) (tC (.int 1)) (tCall (toSp K ap__law_take) [] E0 (tCons (tVar 0) (tCons (tC (.int 8)) tNil)))) tNil))) (gName 3)) tNext)
    (tSeq (tDrop (tBM K "list" rAppend (tVar 1) (tCons (tVar 3) tNil)))
    (tRet (tVar 3)))))))))
noncomputable def t__law_marks (K : PySem.W.Frag) (ap__law_take : AP) (ap__law_name : AP) : TS :=
    (tSeq (tAsg (tLst tNil) (gName 2))
    (tSeq (tFor (iRng1 (tCons (tCall (toSp K ap__law_take) [] E0 (tCons (tVar 0) (tCons (tC (.int 4)) tNil))) tNil)) (gName 3) (tSeq (tAsg (tCall (toSp K ap__law_name) [] E0 (tCons (tVar 0) (tCons (tVar 1) tNil))) (gName 4))
    (tSeq (tAsg (tLc (iList K (tVar 2)) (gName 6) (tTest (tOp (rLtG K) (tVar 6) (tVar 4))) (tVar 6) [6]) (gName 5))
    (tAsg (tOp (rAddG K) (tOp (rAddG K) (tVar 5) (tLst (tCons (tVar 4) tNil))) (tLc (iList K (tVar 2)) (gName 6) (tTest (tOp rGtS (tVar 6) (tVar 4))) (tVar 6) [6])) (gName 2)))))
    (tRet (tCB (rTupleOf K) (tCons (tVar 2) tNil)))))
noncomputable def t__law_prose (K : PySem.W.Frag) (ap__law_take : AP) : TS :=
    (tSeq (tAsg (tC (.str " abcdefghijklmnopqrstuvwxyzABCDEFGHIJKLMNOPQRSTUVWXYZ0123456789.,;:!?'()|")) (gName 2))
    (tRet (tM1 (rJoin K) (tC (.str "")) (tLc (iRng1 (tCons (tVar 1) tNil)) (gName 3) tYes (tOp (rIx K) (tVar 2) (tCB rMx2 (tCons (tC (.int 0)) (tCons (tOp rSubI (tCall (toSp K ap__law_take) [] E0 (tCons (tVar 0) (tCons (tC (.int 93)) tNil))) (tC (.int 20))) tNil)))) [3]))))
noncomputable def t__law_text (K : PySem.W.Frag) (ap__law_take : AP) (ap__law_prose : AP) : TS :=
    (tSeq (tAsg (tOp (rIx K) (tLst (tCons (tC (.int 4)) (tCons (tC (.int 4)) (tCons (tC (.int 9)) (tCons (tC (.int 60)) tNil))))) (tCall (toSp K ap__law_take) [] E0 (tCons (tVar 0) (tCons (tC (.int 4)) tNil)))) (gName 2))
    (tSeq (tAsg (tOp (rAddG K) (tC (.int 1)) (tCall (toSp K ap__law_take) [] E0 (tCons (tVar 0) (tCons (tCB rMn2 (tCons (tCB rInt1 (tCons (tVar 2) tNil)) (tCons (tOp (rIx K) (tVar 1) (tC (.int 1))) tNil))) tNil)))) (gName 2))
    (tSeq (tAsg (tOp rSubI (tOp (rIx K) (tVar 1) (tC (.int 1))) (tVar 2)) (gSub (tVar 1) (tC (.int 1)) rSetL))
    (tRet (tCall (toSp K ap__law_prose) [] E0 (tCons (tVar 0) (tCons (tVar 2) tNil)))))))
noncomputable def t__law_item (K : PySem.W.Frag) (ap__law_take : AP) (ap__law_part : AP) (ap__law_name : AP) (ap__law_text : AP) : TS :=
    (tSeq (tAsg (tCall (toSp K ap__law_take) [] E0 (tCons (tVar 0) (tCons (tC (.int 8)) tNil))) (gName 4))
    (tSeq (tIfS (tAnd (tTest (tOp (rLtG K) (tVar 4) (tC (.int 3)))) (tTest (tOp rLeI (tVar 3) (tOp (rIx K) (tVar 2) (tC (.int 3)))))) (tRet (tCall (toSp K ap__law_part) [] E0 (tCons (tVar 0) (tCons (tVar 1) (tCons (tVar 2) (tCons (tVar 3) tNil)))))) tNext)
    (tSeq (tIfS (tAnd (tTest (tOp (rEqG K) (tVar 4) (tC (.int 3)))) (tTest (tOp rGtI (tOp (rIx K) (tVar 2) (tC (.int 2))) (tC (.int 0))))) (tSeq (tAsg (tOp rSubI (tOp (rIx K) (tVar 2) (tC (.int 2))) (tC (.int 1))) (gSub (tVar 2) (tC (.int 2)) rSetL))
    (tRet (tTup (tCons (tC (.str "@")) (tCons (tCall (toSp K ap__law_name) [] E0 (tCons (tVar 0) (tCons (tVar 1) tNil))) tNil))))) tNext)
    (tSeq (tIfS (tAnd (tTest (tOp rGtI (tVar 4) (tC (.int 4)))) (tTest (tOp rGtI (tOp (rIx K) (tVar 2) (tC (.int 1))) (tC (.int 0))))) (tRet (tCall (toSp K ap__law_text) [] E0 (tCons (tVar 0) (tCons (tVar 2) tNil)))) tNext)
    (tRet (tTup (tCons (tC (.str "#")) (tCons (tCall (toSp K ap__law_name) [] E0 (tCons (tVar 0) (tCons (tVar 1) tNil))) tNil))))))))
noncomputable def t__law_part (K : PySem.W.Frag) (ap__law_name : AP) (ap__law_marks : AP) (ap__law_take : AP) (ap__law_item : AP) : TS :=
    (tSeq (tAsg (tCall (toSp K ap__law_name) [] E0 (tCons (tVar 0) (tCons (tVar 1) tNil))) (gName 4))
    (tSeq (tAsg (tCall (toSp K ap__law_marks) [] E0 (tCons (tVar 0) (tCons (tVar 1) tNil))) (gName 5))
    (tSeq (tAsg (tCall (toSp K ap__law_take) [] E0 (tCons (tVar 0) (tCons (tC (.int 5)) tNil))) (gName 6))
    (tSeq (tIfS (tTest (tOp (rEqG K) (tVar 6) (tC (.int 4)))) (tAsg (tCall (toSp K ap__law_take) [] E0 (tCons (tVar 0) (tCons (tOp (rAddG K) (tOp (rIx K) (tVar 2) (tC (.int 4))) (tC (.int 1))) tNil))) (gName 6)) tNext)
    (tSeq (tAsg (tCB rMn2 (tCons (tCB rInt1 (tCons (tVar 6) tNil)) (tCons (tOp (rIx K) (tVar 2) (tC (.int 0))) tNil))) (gName 6))
    (tSeq (tAsg (tOp rSubI (tOp (rIx K) (tVar 2) (tC (.int 0))) (tVar 6)) (gSub (tVar 2) (tC (.int 0)) rSetL))
    (tSeq (tAsg (tLst tNil) (gName 7))
    (tSeq (tFor (iRng1 (tCons (tVar 6) tNil)) (gName 8) (tDrop (tBM K "list" rAppend (tVar 7) (tCons (tCall (toSp K ap__law_item) [] E0 (tCons (tVar 0) (tCons (tVar 1) (tCons (tVar 2) (tCons (tOp (rAddG K) (tVar 3) (tC (.int 1))) tNil))))) tNil))))
    (tSeq (tIfS (tAnd (tTest (tOp rGtI (tVar 6) (tC (.int 1)))) (tAnd (tTest (tOp (rEqG K) (tOp (rIx K) (tVar 0) (tC (.int 2))) (tC (.int 0)))) (tTest (tOp (rEqG K) (tOp rModI (tCB (rLenV K) (tCons (tVar 1) tNil)) (tC (.int 3))) (tC (.int 1)))))) (tIfS (tOr (tTest (tOp (rEqG K) (tOp (rIx K) (tOp (rIx K) (tVar 7) (tC (.int 0))) (tC (.int 0))) (tC (.str "#")))) (tTest (tOp (rEqG K) (tSl (rSlG K) (tOp (rIx K) (tVar 7) (tC (.int 0))) (tPart (tC (.int 2))) tNoPart) (tTup (tCons (tTup tNil) tNil))))) (tAsg (tOp (rIx K) (tVar 7) (tC (.int 0))) (gSub (tVar 7) (tOp rSubI (tVar 6) (tC (.int 1))) rSetL)) tNext) tNext)
    (tRet (tTup (tCons (tVar 4) (tCons (tVar 5) (tCons (tCB (rTupleOf K) (tCons (tVar 7) tNil)) tNil))))))))))))))
noncomputable def t__law_wrapped (K : PySem.W.Frag) (ap__law_name : AP) : TS :=
    (tSeq (tFor (iRng1 (tCons (tVar 3) tNil)) (gName 4) (tAsg (tTup (tCons (tCall (toSp K ap__law_name) [] E0 (tCons (tVar 0) (tCons (tVar 1) tNil))) (tCons (tTup tNil) (tCons (tTup (tCons (tVar 2) tNil)) tNil)))) (gName 2)))
    (tRet (tVar 2)))
noncomputable def t__law_leaf (K : PySem.W.Frag) (ap__law_take : AP) (ap__law_name : AP) (ap__law_prose : AP) : TS :=
    (tSeq (tIfS (tTest (tOp (rEqG K) (tCall (toSp K ap__law_take) [] E0 (tCons (tVar 0) (tCons (tC (.int 3)) tNil))) (tC (.int 0)))) (tRet (tTup (tCons (tC (.str "#")) (tCons (tCall (toSp K ap__law_name) [] E0 (tCons (tVar 0) (tCons (tVar 1) tNil))) tNil)))) tNext)
    (tRet (tCall (toSp K ap__law_prose) [] E0 (tCons (tVar 0) (tCons (tC (.int 1)) tNil)))))
noncomputable def t__law_full_row (K : PySem.W.Frag) (ap__law_leaf : AP) (ap__law_marks : AP) (ap__law_name : AP) (ap__law_wrapped : AP) (ap__law_take : AP) : TS :=
    (tSeq (tAsg (tCB (rTupleOf K) (tCons (tLc (iRng1 (tCons (tOp (rAddG K) (tC (.int 12)) (tVar 2)) tNil)) (gName 5) tYes (tCall (toSp K ap__law_leaf) [] E0 (tCons (tVar 0) (tCons (tVar 1) tNil))) [5]) tNil)) (gName 3))
    (tSeq (tAsg (tTup (tCons (tCall (toSp K ap__law_name) [] E0 (tCons (tVar 0) (tCons (tVar 1) tNil))) (tCons (tCall (toSp K ap__law_marks) [] E0 (tCons (tVar 0) (tCons (tVar 1) tNil))) (tCons (tVar 3) tNil)))) (gName 4))
    (tRet (tCall (toSp K ap__law_wrapped) [] E0 (tCons (tVar 0) (tCons (tVar 1) (tCons (tVar 4) (tCons (tCall (toSp K ap__law_take) [] E0 (tCons (tVar 0) (tCons (tC (.int 5)) tNil))) tNil))))))))
noncomputable def t__law_full_count (K : PySem.W.Frag) (ap__law_take : AP) (ap__law_leaf : AP) (ap__law_name : AP) : TS :=
    (tSeq (tAsg (tCall (toSp K ap__law_take) [] E0 (tCons (tVar 0) (tCons (tC (.int 5)) tNil))) (gName 3))
    (tSeq (tAsg (tLst tNil) (gName 4))
    (tSeq (tFor (iRng1 (tCons (tC (.int 5)) tNil)) (gName 5) (tSeq (tAsg (tOp rSubI (tC (.int 12)) (tOp (rMulG K) (tOp rSubI (tC (.int 6)) (tVar 2)) (tCB rInt1 (tCons (tOp (rEqG K) (tVar 5) (tVar 3)) tNil)))) (gName 6))
    (tSeq (tAsg (tCB (rTupleOf K) (tCons (tLc (iRng1 (tCons (tVar 6) tNil)) (gName 8) tYes (tCall (toSp K ap__law_leaf) [] E0 (tCons (tVar 0) (tCons (tVar 1) tNil))) [8]) tNil)) (gName 7))
    (tDrop (tBM K "list" rAppend (tVar 4) (tCons (tTup (tCons (tCall (toSp K ap__law_name) [] E0 (tCons (tVar 0) (tCons (tVar 1) tNil))) (tCons (tTup tNil) (tCons (tVar 7) tNil)))) tNil))))))
    (tRet (tTup (tCons (tCall (toSp K ap__law_name) [] E0 (tCons (tVar 0) (tCons (tVar 1) tNil))) (tCons (tTup tNil) (tCons (tCB (rTupleOf K) (tCons (tVar 4) tNil)) tNil))))))))
noncomputable def t__law_full_prose (K : PySem.W.Frag) (ap__law_take : AP) (ap__law_prose : AP) (ap__law_wrapped : AP) (ap__law_name : AP) : TS :=
    (tSeq (tAsg (tCall (toSp K ap__law_take) [] E0 (tCons (tVar 0) (tCons (tC (.int 7)) tNil))) (gName 3))
    (tSeq (tAsg (tLst tNil) (gName 4))
    (tSeq (tFor (iRng1 (tCons (tC (.int 7)) tNil)) (gName 5) (tSeq (tAsg (tCall (toSp K ap__law_prose) [] E0 (tCons (tVar 0) (tCons (tOp rSubI (tC (.int 60)) (tOp (rMulG K) (tOp rSubI (tC (.int 20)) (tVar 2)) (tCB rInt1 (tCons (tOp (rEqG K) (tVar 5) (tVar 3)) tNil)))) tNil))) (gName 6))
    (tDrop (tBM K "list" rAppend (tVar 4) (tCons (tCall (toSp K ap__law_wrapped) [] E0 (tCons (tVar 0) (tCons (tVar 1) (tCons (tVar 6) (tCons (tCall (toSp K ap__law_take) [] E0 (tCons (tVar 0) (tCons (tC (.int 3)) tNil))) tNil))))) tNil)))))
    (tRet (tTup (tCons (tCall (toSp K ap__law_name) [] E0 (tCons (tVar 0) (tCons (tVar 1) tNil))) (tCons (tTup tNil) (tCons (tCB (rTupleOf K) (tCons (tVar 4) tNil)) tNil))))))))
noncomputable def t__law_full_depth (K : PySem.W.Frag) (ap__law_marks : AP) (ap__law_name : AP) (ap__law_take : AP) (ap__law_leaf : AP) : TS :=
    (tSeq (tAsg (tTup (tCons (tCall (toSp K ap__law_name) [] E0 (tCons (tVar 0) (tCons (tVar 1) tNil))) (tCons (tCall (toSp K ap__law_marks) [] E0 (tCons (tVar 0) (tCons (tVar 1) tNil))) (tCons (tTup tNil) tNil)))) (gName 3))
    (tSeq (tIfS (tTest (tOp (rEqG K) (tCall (toSp K ap__law_take) [] E0 (tCons (tVar 0) (tCons (tC (.int 2)) tNil))) (tC (.int 0)))) (tAsg (tTup (tCons (tOp (rIx K) (tVar 3) (tC (.int 0))) (tCons (tOp (rIx K) (tVar 3) (tC (.int 1))) (tCons (tTup (tCons (tCall (toSp K ap__law_leaf) [] E0 (tCons (tVar 0) (tCons (tVar 1) tNil))) tNil)) tNil)))) (gName 3)) tNext)
    (tSeq (tFor (iRng1 (tCons (tOp (rAddG K) (tC (.int 5)) (tVar 2)) tNil)) (gName 4) (tSeq (tAsg (tTup (tCons (tVar 3) tNil)) (gName 5))
    (tSeq (tIfS (tTest (tOp (rEqG K) (tCall (toSp K ap__law_take) [] E0 (tCons (tVar 0) (tCons (tC (.int 2)) tNil))) (tC (.int 0)))) (tAsg (tTup (tCons (tCall (toSp K ap__law_leaf) [] E0 (tCons (tVar 0) (tCons (tVar 1) tNil))) (tCons (tVar 3) tNil))) (gName 5)) tNext)
    (tAsg (tTup (tCons (tCall (toSp K ap__law_name) [] E0 (tCons (tVar 0) (tCons (tVar 1) tNil))) (tCons (tTup tNil) (tCons (tVar 5) tNil)))) (gName 3)))))
    (tRet (tVar 3)))))
noncomputable def t__law_full_refs (K : PySem.W.Frag) (ap__law_name : AP) (ap__law_wrapped : AP) (ap__law_take : AP) (ap__law_leaf : AP) : TS :=
    (tSeq (tAsg (tLst tNil) (gName 3))
    (tSeq (tFor (iRng1 (tCons (tOp (rAddG K) (tC (.int 3)) (tVar 2)) tNil)) (gName 4) (tSeq (tAsg (tCall (toSp K ap__law_name) [] E0 (tCons (tVar 0) (tCons (tVar 1) tNil))) (gName 5))
    (tSeq (tDrop (tBM K "list" rAppend (tVar 3) (tCons (tCall (toSp K ap__law_wrapped) [] E0 (tCons (tVar 0) (tCons (tVar 1) (tCons (tTup (tCons (tC (.str "@")) (tCons (tVar 5) tNil))) (tCons (tCall (toSp K ap__law_take) [] E0 (tCons (tVar 0) (tCons (tC (.int 3)) tNil))) tNil))))) tNil)))
    (tDrop (tBM K "list" rAppend (tVar 3) (tCons (tCall (toSp K ap__law_leaf) [] E0 (tCons (tVar 0) (tCons (tVar 1) tNil))) tNil))))))
    (tRet (tTup (tCons (tCall (toSp K ap__law_name) [] E0 (tCons (tVar 0) (tCons (tVar 1) tNil))) (tCons (tTup tNil) (tCons (tCB (rTupleOf K) (tCons (tVar 3) tNil)) tNil)))))))
noncomputable def t__law_edge (K : PySem.W.Frag) (ap__law_take : AP) (ap__law_full_row : AP) (ap__law_full_count : AP) (ap__law_full_prose : AP) (ap__law_full_depth : AP) (ap__law_full_refs : AP) : TS :=
    (tSeq (tAsg (tCall (toSp K ap__law_take) [] E0 (tCons (tVar 0) (tCons (tC (.int 5)) tNil))) (gName 3))
    (tSeq (tIfS (tTest (tOp (rEqG K) (tVar 3) (tC (.int 0)))) (tRet (tCall (toSp K ap__law_full_row) [] E0 (tCons (tVar 0) (tCons (tVar 1) (tCons (tVar 2) tNil))))) tNext)
    (tSeq (tIfS (tTest (tOp (rEqG K) (tVar 3) (tC (.int 1)))) (tRet (tCall (toSp K ap__law_full_count) [] E0 (tCons (tVar 0) (tCons (tVar 1) (tCons (tVar 2) tNil))))) tNext)
    (tSeq (tIfS (tTest (tOp (rEqG K) (tVar 3) (tC (.int 2)))) (tRet (tCall (toSp K ap__law_full_prose) [] E0 (tCons (tVar 0) (tCons (tVar 1) (tCons (tVar 2) tNil))))) tNext)
    (tSeq (tIfS (tTest (tOp (rEqG K) (tVar 3) (tC (.int 3)))) (tRet (tCall (toSp K ap__law_full_depth) [] E0 (tCons (tVar 0) (tCons (tVar 1) (tCons (tVar 2) tNil))))) tNext)
    (tRet (tCall (toSp K ap__law_full_refs) [] E0 (tCons (tVar 0) (tCons (tVar 1) (tCons (tVar 2) tNil))))))))))
noncomputable def t__law_paths (K : PySem.W.Frag) (ap__law_paths : AP) : TS :=
    (tSeq (tAsg (tLst (tCons (tTup (tCons (tVar 1) (tCons (tVar 0) tNil))) tNil)) (gName 2))
    (tSeq (tIfS (tAnd (tB (tCB (rIsi K) (tCons (tVar 0) (tCons (tC (.ty "tuple")) tNil)))) (tTest (tOp (rEqG K) (tCB (rLenV K) (tCons (tVar 0) tNil)) (tC (.int 3))))) (tFor (iRng1 (tCons (tCB (rLenV K) (tCons (tOp (rIx K) (tVar 0) (tC (.int 2))) tNil)) tNil)) (gName 3) (tDrop (tBM K "list" rExtend (tVar 2) (tCons (tCall (toSp K ap__law_paths) [] E0 (tCons (tOp (rIx K) (tOp (rIx K) (tVar 0) (tC (.int 2))) (tVar 3)) (tCons (tOp (rAddG K) (tVar 1) (tTup (tCons (tVar 3) tNil))) tNil))) tNil)))) tNext)
    (tRet (tVar 2))))
noncomputable def t__law_sizes (K : PySem.W.Frag) (ap__law_sizes : AP) : TS :=
    (tSeq (tIfS (tB (tCB (rIsi K) (tCons (tVar 0) (tCons (tC (.ty "str")) tNil)))) (tRet (tLst (tCons (tC (.int 1)) (tCons (tCB (rLenV K) (tCons (tVar 0) tNil)) (tCons (tOp rSubI (tVar 1) (tC (.int 1))) (tCons (tC (.int 0)) (tCons (tC (.int 0)) tNil))))))) tNext)
    (tSeq (tIfS (tTest (tOp (rEqG K) (tCB (rLenV K) (tCons (tVar 0) tNil)) (tC (.int 2)))) (tRet (tLst (tCons (tC (.int 1)) (tCons (tC (.int 0)) (tCons (tOp rSubI (tVar 1) (tC (.int 1))) (tCons (tCB rInt1 (tCons (tOp (rEqG K) (tOp (rIx K) (tVar 0) (tC (.int 0))) (tC (.str "@"))) tNil)) (tCons (tC (.int 0)) tNil))))))) tNext)
    (tSeq (tAsg (tLst (tCons (tC (.int 1)) (tCons (tC (.int 0)) (tCons (tVar 1) (tCons (tC (.int 0)) (tCons (tCB (rLenV K) (tCons (tOp (rIx K) (tVar 0) (tC (.int 2))) tNil)) tNil)))))) (gName 2))
    (tSeq (tFor (iTup K (tOp (rIx K) (tVar 0) (tC (.int 2)))) (gName 3) (tSeq (tAsg (tCall (toSp K ap__law_sizes) [] E0 (tCons (tVar 3) (tCons (tOp (rAddG K) (tVar 1) (tC (.int 1))) tNil))) (gName 4))
    (tSeq (tAsg (tLc (iRng1 (tCons (tC (.int 5)) tNil)) (gName 6) tYes (tOp (rAddG K) (tOp (rIx K) (tVar 2) (tVar 6)) (tOp (rIx K) (tVar 4) (tVar 6))) [6]) (gName 5))
    (tSeq (tAsg (tCB rMx2 (tCons (tCB rInt1 (tCons (tOp (rIx K) (tVar 2) (tC (.int 2))) tNil)) (tCons (tOp (rIx K) (tVar 4) (tC (.int 2))) tNil))) (gSub (tVar 5) (tC (.int 2)) rSetL))
    (tSeq (tAsg (tCB rMx2 (tCons (tCB rInt1 (tCons (tOp (rIx K) (tVar 2) (tC (.int 4))) tNil)) (tCons (tOp (rIx K) (tVar 4) (tC (.int 4))) tNil))) (gSub (tVar 5) (tC (.int 4)) rSetL))
    (tAsg (tVar 5) (gName 2)))))))
    (tRet (tVar 2))))))
noncomputable def t__law_let (K : PySem.W.Frag) (ap__law_sizes : AP) : TS :=
    (tSeq (tAsg (tCall (toSp K ap__law_sizes) [] E0 (tCons (tVar 0) (tCons (tC (.int 1)) tNil))) (gName 1))
    (tSeq (tAsg (tLst (tCons (tC (.int 60)) (tCons (tC (.int 400)) (tCons (tC (.int 6)) (tCons (tC (.int 3)) (tCons (tC (.int 12)) tNil)))))) (gName 2))
    (tRet (tOp (rEqG K) (tCB (rLenV K) (tCons (tLc (iRng1 (tCons (tC (.int 5)) tNil)) (gName 3) (tTest (tOp rGtI (tOp (rIx K) (tVar 1) (tVar 3)) (tOp (rIx K) (tVar 2) (tVar 3)))) (tVar 3) [3]) tNil)) (tC (.int 0))))))
noncomputable def t__law_written (K : PySem.W.Frag) (ap__law_written : AP) : TS :=
    (tSeq (tIfS (tB (tCB (rIsi K) (tCons (tVar 0) (tCons (tC (.ty "str")) tNil)))) (tRet (tOp (rAddG K) (tOp (rAddG K) (tC (.str "\"")) (tVar 0)) (tC (.str "\"")))) tNext)
    (tSeq (tIfS (tTest (tOp (rEqG K) (tCB (rLenV K) (tCons (tVar 0) tNil)) (tC (.int 2)))) (tRet (tOp (rAddG K) (tOp (rIx K) (tVar 0) (tC (.int 0))) (tOp (rIx K) (tVar 0) (tC (.int 1))))) tNext)
    (tSeq (tAsg (tM1 (rJoin K) (tC (.str "")) (tLc (iTup K (tOp (rIx K) (tVar 0) (tC (.int 2)))) (gName 2) tYes (tOp (rAddG K) (tC (.str " ")) (tCall (toSp K ap__law_written) [] E0 (tCons (tVar 2) tNil))) [2])) (gName 1))
    (tRet (tOp (rAddG K) (tOp (rAddG K) (tOp (rAddG K) (tC (.str "(")) (tM1 (rJoin K) (tC (.str ".")) (tOp (rAddG K) (tLst (tCons (tOp (rIx K) (tVar 0) (tC (.int 0))) tNil)) (tCB (rListOf K) (tCons (tOp (rIx K) (tVar 0) (tC (.int 1))) tNil))))) (tVar 1)) (tC (.str ")")))))))
noncomputable def t__law_read (K : PySem.W.Frag) (c_BadDocument : Addr) (ap_read_document : APX) : TS :=
    (tSeq (tAsg (tC .non) (gName 1))
    (tSeq (tTryO K (.ref c_BadDocument) (fun W1 => (tAsg (tLst (tCons (tCallX K ap_read_document W1 (tCons (tVar 0) tNil)) tNil)) (gName 1))) (tAsg (tC .non) (gName 1)) (fun _ _ _ _ => False))
    (tRet (tVar 1))))
noncomputable def t_law (K : PySem.W.Frag) (ap__law_pool : AP) (ap__law_take : AP) (ap__law_part : AP) (ap__law_edge : AP) (ap__law_paths : AP) (ap__law_same : AP) (ap__law_written : AP) (ap_write_document : AP) (ap__law_let : AP) (ap__law_read : AP) : TS :=
    (tSeq (tAsg (tLst tNil) (gName 1))
    (tSeq (tAsg (tCall (toSp K ap__law_pool) [] E0 (tCons (tVar 0) (tCons (tC (.int 0)) tNil))) (gName 2))
    (tSeq (tAsg (tCall (toSp K ap__law_take) [] E0 (tCons (tVar 2) (tCons (tC (.int 8)) tNil))) (gName 3))
    (tSeq (tIfS (tTest (tOp (rEqG K) (tVar 3) (tC (.int 3)))) (tAsg (tCall (toSp K ap__law_part) [] E0 (tCons (tVar 2) (tCons (tVar 1) (tCons (tLst (tCons (tC (.int 250)) (tCons (tC (.int 2000)) (tCons (tC (.int 40)) (tCons (tC (.int 20)) (tCons (tC (.int 40)) tNil)))))) (tCons (tC (.int 1)) tNil))))) (gName 4)) (tIfS (tOr (tTest (tOp (rEqG K) (tVar 3) (tC (.int 0)))) (tTest (tOp (rEqG K) (tVar 3) (tC (.int 2))))) (tAsg (tCall (toSp K ap__law_edge) [] E0 (tCons (tVar 2) (tCons (tVar 1) (tCons (tOp rSubI (tCall (toSp K ap__law_take) [] E0 (tCons (tVar 2) (tCons (tC (.int 4)) tNil))) (tC (.int 1))) tNil)))) (gName 4)) (tAsg (tCall (toSp K ap__law_part) [] E0 (tCons (tVar 2) (tCons (tVar 1) (tCons (tLst (tCons (tC (.int 59)) (tCons (tC (.int 400)) (tCons (tC (.int 3)) (tCons (tC (.int 6)) (tCons (tC (.int 12)) tNil)))))) (tCons (tC (.int 1)) tNil))))) (gName 4))))
    (tSeq (tFor (iList K (tCall (toSp K ap__law_paths) [] E0 (tCons (tVar 4) (tCons (tTup tNil) tNil)))) (gName 5) (tIfS (tAnd (tB (tCB (rIsi K) (tCons (tOp (rIx K) (tVar 5) (tC (.int 1))) (tCons (tC (.ty "tuple")) tNil)))) (tTest (tOp (rEqG K) (tCB (rLenV K) (tCons (tOp (rIx K) (tVar 5) (tC (.int 1))) tNil)) (tC (.int 3))))) (tIfS (tNot (tB (tCall (toSp K ap__law_same) [] E0 (tCons (tCall (toSp K ap_write_document) [] E0 (tCons (tOp (rIx K) (tVar 5) (tC (.int 1))) tNil)) (tCons (tCall (toSp K ap__law_written) [] E0 (tCons (tOp (rIx K) (tVar 5) (tC (.int 1))) tNil)) tNil))))) (tRet (tC (.bl false))) tNext) tNext))
    (tSeq (tAsg (tCall (toSp K ap__law_written) [] E0 (tCons (tVar 4) tNil)) (gName 6))
    (tSeq (tIfS (tB (tCall (toSp K ap__law_let) [] E0 (tCons (tVar 4) tNil))) (tRet (tAndV (tCall (toSp K ap__law_same) [] E0 (tCons (tCall (toSp K ap__law_read) [] E0 (tCons (tVar 6) tNil)) (tCons (tLst (tCons (tVar 4) tNil)) tNil))) (tCall (toSp K ap__law_same) [] E0 (tCons (tCall (toSp K ap__law_read) [] E0 (tCons (tVar 6) tNil)) (tCons (tLst (tCons (tVar 4) tNil)) tNil))))) tNext)
    (tRet (tOrV (tOp rGtI (tCB (rLenV K) (tCons (tVar 6) tNil)) (tC (.int 4000))) (tIsN (tCall (toSp K ap__law_read) [] E0 (tCons (tVar 6) tNil))))))))))))
section
variable {P : Program} {w : World} {K : PySem.W.Frag} {mg : Str → Option Value} {base : Heap}
theorem tm_is_name (T : Txt K mg) (cdv : Value) (A : Around) (outer : List PySem.Env) (s : Shared) (H : Hp) (E : XK) (hr : Room 0 (A.deeper (PyProof.Rows.envOfC "is_name" (defScope s_is_name) s.heap.objs.size T.f_is_name cdv))) :
    PSs (cxOf CX0 P w K mg base ["word", "char"] "is_name" (defScope s_is_name) T.f_is_name cdv A outer s H E).nox (defBody s_is_name) (t_is_name K) := 
      (pss_cons (ps_if (pt_not (pt_chain op_le op_le pe_int (pe_callB call_len (by rfl) T.m_len bi_len (pa_cons (pv 0) pa_nil)) (pe_glob (v := .int 8) (by rfl) T.gi_MOST_NAME_LETTERS ⟨_, rfl⟩))) (pss_one (ps_ret pe_bl)) pss_nil)
      (pss_one (ps_ret (pe_callB (cr_all rfl) (by rfl) T.m_all bi_all (pa_cons (pe_lc (own := [("char", 1)]) (g := (gName 1)) (tt := tYes) (by rfl) sc_is_name.nd (pi_str (pv 0)) (blkOk_by (own := [("char", 1)]) (N := ["word", "char"]) (sc := defScope s_is_name) (by decide +kernel)) (fun _ _ _ _ _ => (pg_name (i := 1) sc_is_name.nd rfl (Or.inl rfl))) (fun _ _ _ _ _ => pts_nil) (fun _ _ _ _ _ => (pe_cmpR op_inG (pv 1) (pe_glob (v := .str "abcdefghijklmnopqrstuvwxyz") (by rfl) T.gs_NAME_LETTERS ⟨_, rfl⟩) (by rfl)))) pa_nil)))))
theorem tm_is_text (T : Txt K mg) (cdv : Value) (A : Around) (outer : List PySem.Env) (s : Shared) (H : Hp) (E : XK) (hr : Room 0 (A.deeper (PyProof.Rows.envOfC "is_text" (defScope s_is_text) s.heap.objs.size T.f_is_text cdv))) :
    PSs (cxOf CX0 P w K mg base ["word", "char"] "is_text" (defScope s_is_text) T.f_is_text cdv A outer s H E).nox (defBody s_is_text) (t_is_text K) := 
      (pss_cons (ps_if (pt_not (pt_chain op_le op_le pe_int (pe_callB call_len (by rfl) T.m_len bi_len (pa_cons (pv 0) pa_nil)) (pe_glob (v := .int 60) (by rfl) T.gi_MOST_TEXT_CHARACTERS ⟨_, rfl⟩))) (pss_one (ps_ret pe_bl)) pss_nil)
      (pss_one (ps_ret (pe_callB (cr_all rfl) (by rfl) T.m_all bi_all (pa_cons (pe_lc (own := [("char", 1)]) (g := (gName 1)) (tt := tYes) (by rfl) sc_is_text.nd (pi_str (pv 0)) (blkOk_by (own := [("char", 1)]) (N := ["word", "char"]) (sc := defScope s_is_text) (by decide +kernel)) (fun _ _ _ _ _ => (pg_name (i := 1) sc_is_text.nd rfl (Or.inl rfl))) (fun _ _ _ _ _ => pts_nil) (fun _ _ _ _ _ => (pe_cmpR op_inG (pv 1) (pe_glob (v := .str " abcdefghijklmnopqrstuvwxyzABCDEFGHIJKLMNOPQRSTUVWXYZ0123456789.,;:!?'()|") (by rfl) T.gs_TEXT_CHARACTERS ⟨_, rfl⟩) (by rfl)))) pa_nil)))))
theorem tm_are_marks {ap_is_name : AP} (T : Txt K mg) (G_is_name : FnOk P w K mg base CX0 1 T.f_is_name T.fd_is_name ["word"] (toSp K ap_is_name)) (cdv : Value) (A : Around) (outer : List PySem.Env) (s : Shared) (H : Hp) (E : XK) (hr : Room 1 (A.deeper (PyProof.Rows.envOfC "are_marks" (defScope s_are_marks) s.heap.objs.size T.f_are_marks cdv))) :
    PSs (cxOf CX0 P w K mg base ["words", "at", "word"] "are_marks" (defScope s_are_marks) T.f_are_marks cdv A outer s H E).nox (defBody s_are_marks) (t_are_marks K ap_is_name) := 
      (pss_cons (ps_if (pt_cmpR op_gt (pe_callB call_len (by rfl) T.m_len bi_len (pa_cons (pv 0) pa_nil)) (pe_glob (v := .int 3) (by rfl) T.gi_MOST_MARKS ⟨_, rfl⟩) (nomark _)) (pss_one (ps_ret pe_bl)) pss_nil)
      (pss_cons (ps_for PassesOwn.never rfl (pi_enumT (by rfl) T.m_enumerate (pa_cons (pv 0) pa_nil)) (pg_tup (by rfl) (pgs_cons (pg_name (i := 1) sc_are_marks.nd rfl (Or.inl rfl)) (pgs_cons (pg_name (i := 2) sc_are_marks.nd rfl (Or.inl rfl)) pgs_nil))) (pss_cons (ps_if (pt_not (pt_val (pe_call G_is_name (hr.mono (by decide)) (by rfl) T.g_is_name T.F_is_name.kp T.b_is_name .nil pass0 (pa_cons (pv 2) pa_nil)))) (pss_one (ps_ret pe_bl)) pss_nil)
      (pss_one (ps_if (PW.pt (pw_and (pt_cmpR op_gt (pv 1) pe_int (nomark _)) (pw_and1 (pt_cmpR op_geS (pe_ix ix_seq (pv 0) (pe_op op_sub (pv 1) pe_int) (fun _ _ => rfl)) (pv 2) (nomark _))))) (pss_one (ps_ret pe_bl)) pss_nil))))
      (pss_one (ps_ret pe_bl))))
theorem tm_is_part (T : Txt K mg) (cdv : Value) (A : Around) (outer : List PySem.Env) (s : Shared) (H : Hp) (E : XK) (hr : Room 0 (A.deeper (PyProof.Rows.envOfC "is_part" (defScope s_is_part) s.heap.objs.size T.f_is_part cdv))) :
    PSs (cxOf CX0 P w K mg base ["item"] "is_part" (defScope s_is_part) T.f_is_part cdv A outer s H E).nox (defBody s_is_part) (t_is_part K) := 
      (pss_one (ps_ret (pe_and (pe_callB call_isi (by rfl) T.m_isinstance bi_isinstance (pa_cons (pv 0) (pa_cons (pe_bltn (v := .ty "tuple") (by rfl) T.m_tuple bi_tuple rfl) pa_nil))) (pe_one (pe_cmpR (op_eqG hr.units) (pe_callB call_len (by rfl) T.m_len bi_len (pa_cons (pv 0) pa_nil)) pe_int (nomark _))))))
theorem tm_walk {ap_is_part : AP} (T : Txt K mg) (G_is_part : FnOk P w K mg base CX0 1 T.f_is_part T.fd_is_part ["item"] (toSp K ap_is_part)) (cd : Value) (A0 : Around) (outer : List PySem.Env) (sz : Nat) (hr : Room 2 A0) :
    Ga.GSs (Ga.Gx.mk P w K mg base ["root", "waiting", "path", "item", "at"] "walk" (defScope s_walk) T.f_walk cd A0 outer sz) (defBody s_walk) (t_walk K ap_is_part) := (Ga.gss_cons (Ga.gs_plain (fun _ _ => (ps_set (i := 1) sc_walk.nd rfl (Or.inl rfl) (pe_lst (pa_cons (pe_tup (pa_cons (pe_tup pa_nil) (pa_cons (pv 0) pa_nil))) pa_nil)))))
      (Ga.gss_cons (Ga.gs_while (fun _ _ => (pt_tru (pv 1) (fun _ => rfl))) (Ga.gss_cons (Ga.gs_plain (fun _ _ => (ps_asg (pe_bm0 PySem.F.plainAttrs_list PySem.F.slot_list_pop PySem.F.type_list_pop mt_pop (pv 1)) (pg_tup (by rfl) (pgs_cons (pg_name (i := 2) sc_walk.nd rfl (Or.inl rfl)) (pgs_cons (pg_name (i := 3) sc_walk.nd rfl (Or.inl rfl)) pgs_nil))))))
      (Ga.gss_cons (Ga.gs_yield (fun _ _ => (pe_tup (pa_cons (pv 2) (pa_cons (pv 3) pa_nil)))) sc_walk.co)
      (Ga.gss_cons (Ga.gs_plain (fun _ _ => (ps_if (pt_val (pe_call G_is_part ((hr.deeper _).mono (by decide)) (by rfl) T.g_is_part T.F_is_part.kp T.b_is_part .nil pass0 (pa_cons (pv 3) pa_nil))) (pss_one (ps_for PassesOwn.never rfl (pi_range3 (by rfl) T.m_range (pa_cons (pe_op op_sub (pe_callB call_len (by rfl) T.m_len bi_len (pa_cons (pe_ix ix_seq (pv 3) pe_int (fun _ _ => rfl)) pa_nil)) pe_int) (pa_cons (pe_un un_neg pe_int) (pa_cons (pe_un un_neg pe_int) pa_nil)))) (pg_name (i := 4) sc_walk.nd rfl (Or.inl rfl)) (pss_one (ps_expr (pe_bm PySem.F.plainAttrs_list PySem.F.slot_list_append PySem.F.type_list_append mt_append (pv 1) (pa_cons (pe_tup (pa_cons (pe_op op_addG (pv 2) (pe_tup (pa_cons (pv 4) pa_nil))) (pa_cons (pe_ix ix_seq (pe_ix ix_seq (pv 3) pe_int (fun _ _ => rfl)) (pv 4) (fun _ _ => rfl)) pa_nil))) pa_nil)))))) pss_nil)))
      Ga.gss_nil))))
      Ga.gss_nil))
theorem tm_within_bounds {ap_is_part : AP} (T : Txt K mg) (G_is_part : FnOk P w K mg base CX0 1 T.f_is_part T.fd_is_part ["item"] (toSp K ap_is_part)) (cdv : Value) (A : Around) (outer : List PySem.Env) (s : Shared) (H : Hp) (E : XK) (hr : Room 3 (A.deeper (PyProof.Rows.envOfC "within_bounds" (defScope s_within_bounds) s.heap.objs.size T.f_within_bounds cdv))) :
    PSs (cxOf CX0 P w K mg base ["root", "items", "characters", "references", "path", "item"] "within_bounds" (defScope s_within_bounds) T.f_within_bounds cdv A outer s H E).nox (defBody s_within_bounds) (t_within_bounds K ap_is_part) := 
      (pss_cons (ps_set (i := 1) sc_within_bounds.nd rfl (Or.inl rfl) pe_int)
      (pss_cons (ps_set (i := 2) sc_within_bounds.nd rfl (Or.inl rfl) pe_int)
      (pss_cons (ps_set (i := 3) sc_within_bounds.nd rfl (Or.inl rfl) pe_int)
      (pss_cons (Ga.ps_forY PassesOwn.never rfl hr.depth sc_walk.kind (by decide +kernel) (by decide +kernel) (Ga.py_call (k := 0) T.F_walk sc_walk (by decide +kernel) (hr.mono (by decide)) (by rfl) T.g_walk T.F_walk.kp T.b_walk .nil (pa_cons (pv 0) pa_nil)) (fun cd sz => tm_walk T G_is_part cd _ _ sz (Room.in1 (hr.mono (by decide)))) (fun _ _ => (pg_tup (by rfl) (pgs_cons (pg_name (i := 4) sc_within_bounds.nd rfl (Or.inl rfl)) (pgs_cons (pg_name (i := 5) sc_within_bounds.nd rfl (Or.inl rfl)) pgs_nil)))) (fun _ _ => (pss_cons (ps_aug (i := 1) sc_within_bounds.nd rfl (Or.inl rfl) pe_int ip_add)
      (pss_one (ps_if (pt_val (pe_callB call_isi (by rfl) T.m_isinstance bi_isinstance (pa_cons (pv 5) (pa_cons (pe_bltn (v := .ty "str") (by rfl) T.m_str bi_str rfl) pa_nil)))) (pss_one (ps_aug (i := 2) sc_within_bounds.nd rfl (Or.inl rfl) (pe_callB call_len (by rfl) T.m_len bi_len (pa_cons (pv 5) pa_nil)) ip_add)) (pss_one (ps_if (pt_val (pe_call G_is_part (hr.mono (by decide)) (by rfl) T.g_is_part T.F_is_part.kp T.b_is_part .nil pass0 (pa_cons (pv 5) pa_nil))) (pss_one (ps_if (PW.pt (pw_or (pt_cmpR op_gt (pe_callB call_len (by rfl) T.m_len bi_len (pa_cons (pe_ix ix_seq (pv 5) pe_int (fun _ _ => rfl)) pa_nil)) (pe_glob (v := .int 12) (by rfl) T.gi_MOST_ITEMS_OF_A_PART ⟨_, rfl⟩) (nomark _)) (pw_or1 (pt_cmpR op_ge (pe_callB call_len (by rfl) T.m_len bi_len (pa_cons (pv 4) pa_nil)) (pe_glob (v := .int 6) (by rfl) T.gi_MOST_DEPTH ⟨_, rfl⟩) (nomark _))))) (pss_one (ps_ret pe_bl)) pss_nil)) (pss_one (ps_if (pt_cmpR (op_eqG hr.units) (pe_ix ix_seq (pv 5) pe_int (fun _ _ => rfl)) pe_str (nomark _)) (pss_one (ps_aug (i := 3) sc_within_bounds.nd rfl (Or.inl rfl) pe_int ip_add)) pss_nil)))))))))
      (pss_one (ps_ret (pe_and (pe_cmpR op_le (pv 1) (pe_glob (v := .int 60) (by rfl) T.gi_MOST_ITEMS ⟨_, rfl⟩) (nomark _)) (pe_and (pe_cmpR op_le (pv 2) (pe_glob (v := .int 400) (by rfl) T.gi_MOST_CHARACTERS ⟨_, rfl⟩) (nomark _)) (pe_one (pe_cmpR op_le (pv 3) (pe_glob (v := .int 3) (by rfl) T.gi_MOST_REFERENCES ⟨_, rfl⟩) (nomark _)))))))))))
theorem tm_write_leaf (T : Txt K mg) (cdv : Value) (A : Around) (outer : List PySem.Env) (s : Shared) (H : Hp) (E : XK) (hr : Room 0 (A.deeper (PyProof.Rows.envOfC "write_leaf" (defScope s_write_leaf) s.heap.objs.size T.f_write_leaf cdv))) :
    PSs (cxOf CX0 P w K mg base ["item"] "write_leaf" (defScope s_write_leaf) T.f_write_leaf cdv A outer s H E).nox (defBody s_write_leaf) (t_write_leaf K) := 
      (pss_cons (ps_if (pt_val (pe_callB call_isi (by rfl) T.m_isinstance bi_isinstance (pa_cons (pv 0) (pa_cons (pe_bltn (v := .ty "str") (by rfl) T.m_str bi_str rfl) pa_nil)))) (pss_one (ps_ret (pe_op op_addG (pe_op op_addG pe_str (pv 0)) pe_str))) pss_nil)
      (pss_one (ps_ret (pe_op op_addG (pe_ix ix_seq (pv 0) pe_int (fun _ _ => rfl)) (pe_ix ix_seq (pv 0) pe_int (fun _ _ => rfl))))))
theorem tm_write_document {ap_is_part : AP} {ap_write_leaf : AP} (T : Txt K mg) (G_is_part : FnOk P w K mg base CX0 1 T.f_is_part T.fd_is_part ["item"] (toSp K ap_is_part)) (G_write_leaf : FnOk P w K mg base CX0 1 T.f_write_leaf T.fd_write_leaf ["item"] (toSp K ap_write_leaf)) (cdv : Value) (A : Around) (outer : List PySem.Env) (s : Shared) (H : Hp) (E : XK) (hr : Room 3 (A.deeper (PyProof.Rows.envOfC "write_document" (defScope s_write_document) s.heap.objs.size T.f_write_document cdv))) :
    PSs (cxOf CX0 P w K mg base ["root", "words", "depth", "path", "item"] "write_document" (defScope s_write_document) T.f_write_document cdv A outer s H E).nox (defBody s_write_document) (t_write_document K ap_is_part ap_write_leaf) := 
      (pss_cons (ps_set (i := 1) sc_write_document.nd rfl (Or.inl rfl) (pe_lst pa_nil))
      (pss_cons (ps_set (i := 2) sc_write_document.nd rfl (Or.inl rfl) pe_int)
      (pss_cons (Ga.ps_forY PassesOwn.never rfl hr.depth sc_walk.kind (by decide +kernel) (by decide +kernel) (Ga.py_call (k := 0) T.F_walk sc_walk (by decide +kernel) (hr.mono (by decide)) (by rfl) T.g_walk T.F_walk.kp T.b_walk .nil (pa_cons (pv 0) pa_nil)) (fun cd sz => tm_walk T G_is_part cd _ _ sz (Room.in1 (hr.mono (by decide)))) (fun _ _ => (pg_tup (by rfl) (pgs_cons (pg_name (i := 3) sc_write_document.nd rfl (Or.inl rfl)) (pgs_cons (pg_name (i := 4) sc_write_document.nd rfl (Or.inl rfl)) pgs_nil)))) (fun _ _ => (pss_cons (ps_expr (pe_bm PySem.F.plainAttrs_list PySem.F.slot_list_append PySem.F.type_list_append mt_append (pv 1) (pa_cons (pe_op op_repS pe_str (pe_op op_sub (pv 2) (pe_callB call_len (by rfl) T.m_len bi_len (pa_cons (pv 3) pa_nil)))) pa_nil)))
      (pss_cons (ps_set (i := 2) sc_write_document.nd rfl (Or.inl rfl) (pe_callB call_len (by rfl) T.m_len bi_len (pa_cons (pv 3) pa_nil)))
      (pss_cons (ps_if (pt_cmpR op_gt (pv 2) pe_int (nomark _)) (pss_one (ps_expr (pe_bm PySem.F.plainAttrs_list PySem.F.slot_list_append PySem.F.type_list_append mt_append (pv 1) (pa_cons pe_str pa_nil)))) pss_nil)
      (pss_one (ps_if (pt_val (pe_call G_is_part (hr.mono (by decide)) (by rfl) T.g_is_part T.F_is_part.kp T.b_is_part .nil pass0 (pa_cons (pv 4) pa_nil))) (pss_cons (ps_expr (pe_bm PySem.F.plainAttrs_list PySem.F.slot_list_append PySem.F.type_list_append mt_append (pv 1) (pa_cons (pe_op op_addG pe_str (pe_joinR pe_str (pe_op op_addG (pe_tup (pa_cons (pe_ix ix_seq (pv 4) pe_int (fun _ _ => rfl)) pa_nil)) (pe_ix ix_seq (pv 4) pe_int (fun _ _ => rfl))))) pa_nil)))
      (pss_one (ps_aug (i := 2) sc_write_document.nd rfl (Or.inl rfl) pe_int ip_add))) (pss_one (ps_expr (pe_bm PySem.F.plainAttrs_list PySem.F.slot_list_append PySem.F.type_list_append mt_append (pv 1) (pa_cons (pe_call G_write_leaf (hr.mono (by decide)) (by rfl) T.g_write_leaf T.F_write_leaf.kp T.b_write_leaf .nil pass0 (pa_cons (pv 4) pa_nil)) pa_nil)))))))))))
      (pss_one (ps_ret (pe_op op_addG (pe_joinR pe_str (pv 1)) (pe_op op_repS pe_str (pv 2))))))))
theorem tm_write_item {ap_is_part : AP} {ap_write_document : AP} {ap_write_leaf : AP} (T : Txt K mg) (G_is_part : FnOk P w K mg base CX0 1 T.f_is_part T.fd_is_part ["item"] (toSp K ap_is_part)) (G_write_document : FnOk P w K mg base CX0 4 T.f_write_document T.fd_write_document ["root"] (toSp K ap_write_document)) (G_write_leaf : FnOk P w K mg base CX0 1 T.f_write_leaf T.fd_write_leaf ["item"] (toSp K ap_write_leaf)) (cdv : Value) (A : Around) (outer : List PySem.Env) (s : Shared) (H : Hp) (E : XK) (hr : Room 4 (A.deeper (PyProof.Rows.envOfC "write_item" (defScope s_write_item) s.heap.objs.size T.f_write_item cdv))) :
    PSs (cxOf CX0 P w K mg base ["item"] "write_item" (defScope s_write_item) T.f_write_item cdv A outer s H E).nox (defBody s_write_item) (t_write_item K ap_is_part ap_write_document ap_write_leaf) := 
      (pss_cons (ps_if (pt_val (pe_call G_is_part (hr.mono (by decide)) (by rfl) T.g_is_part T.F_is_part.kp T.b_is_part .nil pass0 (pa_cons (pv 0) pa_nil))) (pss_one (ps_ret (pe_call G_write_document (hr.mono (by decide)) (by rfl) T.g_write_document T.F_write_document.kp T.b_write_document .nil pass0 (pa_cons (pv 0) pa_nil)))) pss_nil)
      (pss_one (ps_ret (pe_call G_write_leaf (hr.mono (by decide)) (by rfl) T.g_write_leaf T.F_write_leaf.kp T.b_write_leaf .nil pass0 (pa_cons (pv 0) pa_nil)))))
theorem tm_word_end (T : Txt K mg) (cdv : Value) (A : Around) (outer : List PySem.Env) (s : Shared) (H : Hp) (E : XK) (hr : Room 0 (A.deeper (PyProof.Rows.envOfC "word_end" (defScope s_word_end) s.heap.objs.size T.f_word_end cdv))) :
    PSs (cxOf CX0 P w K mg base ["text", "at"] "word_end" (defScope s_word_end) T.f_word_end cdv A outer s H E).nox (defBody s_word_end) (t_word_end K) := 
      (pss_cons (ps_while PassesOwn.never (PW.pt (pw_and (pt_cmpR (op_ltG hr.units0) (pv 1) (pe_callB call_len (by rfl) T.m_len bi_len (pa_cons (pv 0) pa_nil)) (nomark _)) (pw_and1 (pt_cmpR op_notInC (pe_ix ix_seq (pv 0) (pv 1) (fun _ _ => rfl)) pe_str (by rfl))))) (pss_one (ps_aug (i := 1) sc_word_end.nd rfl (Or.inl rfl) pe_int ip_add)))
      (pss_one (ps_ret (pv 1))))
theorem tm_read_part {ap_word_end : AP} {ap_read_item : APX} (T : Txt K mg) {k : Nat} (hk : 1 ≤ k) (G_word_end : FnOk P w K mg base CX0 1 T.f_word_end T.fd_word_end ["text", "at"] (toSp K ap_word_end)) (G_read_item : FnOk P w K mg base (L2.CX P w) k T.f_read_item T.fd_read_item ["text", "at", "depth"] (toSpX K ap_read_item)) (cdv : Value) (A : Around) (outer : List PySem.Env) (s : Shared) (H : Hp) (E : XK) (hr : Room k (A.deeper (PyProof.Rows.envOfC "read_part" (defScope s_read_part) s.heap.objs.size T.f_read_part cdv))) :
    PSs (cxOf (L2.CX P w) P w K mg base ["text", "at", "depth", "end", "kind", "marks", "row", "item"] "read_part" (defScope s_read_part) T.f_read_part cdv A outer s H E) (defBody s_read_part) (t_read_part K T.c_BadDocument ap_word_end ap_read_item (fun cls d _ H' => E cls d H')) := 
      (pss_cons (ps_if (pt_cmpR op_gt (pv 2) (pe_glob (v := .int 6) (by rfl) T.gi_MOST_DEPTH ⟨_, rfl⟩) (nomark _)) (pss_one (ps_raise rfl (takes_of rfl rfl rfl rfl) (pmk_own PySem.F.excBase_ValueError T.x_BadDocument T.g_BadDocument T.kx_BadDocument (raises_own T.bs_BadDocument T.tx_BadDocument) (by rfl)))) pss_nil)
      (pss_cons (ps_set (i := 3) sc_read_part.nd rfl (Or.inl rfl) (pe_call G_word_end (hr.mono (Nat.le_trans (by decide) hk)) (by rfl) T.g_word_end T.F_word_end.kp T.b_word_end .nil pass0 (pa_cons (pv 0) (pa_cons (pe_op op_addG (pv 1) pe_int) pa_nil))))
      (pss_cons (ps_asg (pe_m1 PySem.F.slot_str_split PySem.F.type_str_split mt_splitS (pe_slice sl_G (pv 0) (po_some (pe_op op_addG (pv 1) pe_int)) (po_some (pv 3))) pe_str) (pg_star rfl (pgs_cons (pg_name (i := 4) sc_read_part.nd rfl (Or.inl rfl)) (pgs_cons (pg_name (i := 5) sc_read_part.nd rfl (Or.inl rfl)) pgs_nil))))
      (pss_cons (ps_set (i := 6) sc_read_part.nd rfl (Or.inl rfl) (pe_lst pa_nil))
      (pss_cons (ps_while (passes_of rfl) (pt_cmpR (op_eqG hr.units) (pe_slice sl_G (pv 0) (po_some (pv 3)) (po_some (pe_op op_addG (pv 3) pe_int))) pe_str (nomark _)) (pss_cons (ps_asg (pe_callS G_read_item hr (by rfl) T.g_read_item T.F_read_item.kp T.b_read_item (fun σ => passAt (takes_of rfl rfl rfl rfl) σ) (pa_cons (pv 0) (pa_cons (pe_op op_addG (pv 3) pe_int) (pa_cons (pe_op op_addG (pv 2) pe_int) pa_nil)))) (pg_tup (by rfl) (pgs_cons (pg_name (i := 7) sc_read_part.nd rfl (Or.inl rfl)) (pgs_cons (pg_name (i := 3) sc_read_part.nd rfl (Or.inl rfl)) pgs_nil))))
      (pss_one (ps_expr (pe_bm PySem.F.plainAttrs_list PySem.F.slot_list_append PySem.F.type_list_append mt_append (pv 6) (pa_cons (pv 7) pa_nil))))))
      (pss_cons (ps_if (pt_cmpR (op_neG hr.units) (pe_slice sl_G (pv 0) (po_some (pv 3)) (po_some (pe_op op_addG (pv 3) pe_int))) pe_str (nomark _)) (pss_one (ps_raise rfl (takes_of rfl rfl rfl rfl) (pmk_own PySem.F.excBase_ValueError T.x_BadDocument T.g_BadDocument T.kx_BadDocument (raises_own T.bs_BadDocument T.tx_BadDocument) (by rfl)))) pss_nil)
      (pss_one (ps_ret (pe_tup (pa_cons (pe_tup (pa_cons (pv 4) (pa_cons (pe_callTy call_tuple_of (by rfl) T.m_tuple bi_tuple (pa_cons (pv 5) pa_nil)) (pa_cons (pe_callTy call_tuple_of (by rfl) T.m_tuple bi_tuple (pa_cons (pv 6) pa_nil)) pa_nil)))) (pa_cons (pe_op op_addG (pv 3) pe_int) pa_nil)))))))))))
theorem tm_read_item {ap_read_part : APX} {ap_word_end : AP} (T : Txt K mg) {k : Nat} (hk : 1 ≤ k) (G_read_part : FnOk P w K mg base (L2.CX P w) k T.f_read_part T.fd_read_part ["text", "at", "depth"] (toSpX K ap_read_part)) (G_word_end : FnOk P w K mg base CX0 1 T.f_word_end T.fd_word_end ["text", "at"] (toSp K ap_word_end)) (cdv : Value) (A : Around) (outer : List PySem.Env) (s : Shared) (H : Hp) (E : XK) (hr : Room k (A.deeper (PyProof.Rows.envOfC "read_item" (defScope s_read_item) s.heap.objs.size T.f_read_item cdv))) :
    PSs (cxOf (L2.CX P w) P w K mg base ["text", "at", "depth", "sign", "end"] "read_item" (defScope s_read_item) T.f_read_item cdv A outer s H E) (defBody s_read_item) (t_read_item K T.c_BadDocument ap_read_part ap_word_end (fun cls d _ H' => E cls d H')) := 
      (pss_cons (ps_set (i := 3) sc_read_item.nd rfl (Or.inl rfl) (pe_slice sl_G (pv 0) (po_some (pv 1)) (po_some (pe_op op_addG (pv 1) pe_int))))
      (pss_cons (ps_if (pt_cmpR (op_eqG hr.units) (pv 3) pe_str (nomark _)) (pss_one (ps_ret (pe_callS G_read_part hr (by rfl) T.g_read_part T.F_read_part.kp T.b_read_part (fun σ => passAt (takes_of rfl rfl rfl rfl) σ) (pa_cons (pv 0) (pa_cons (pv 1) (pa_cons (pv 2) pa_nil)))))) pss_nil)
      (pss_cons (ps_if (pt_cmpR (op_eqG hr.units) (pv 3) pe_str (nomark _)) (pss_cons (ps_set (i := 4) sc_read_item.nd rfl (Or.inl rfl) (pe_mG ty_S PySem.F.plainAttrs_str PySem.F.slot_str_find PySem.F.type_str_find mt_find3S (pv 0) (pa_cons pe_str (pa_cons (pe_op op_addG (pv 1) pe_int) pa_nil))))
      (pss_cons (ps_if (pt_cmpR (op_ltG hr.units0) (pv 4) pe_int (nomark _)) (pss_one (ps_raise rfl (takes_of rfl rfl rfl rfl) (pmk_own PySem.F.excBase_ValueError T.x_BadDocument T.g_BadDocument T.kx_BadDocument (raises_own T.bs_BadDocument T.tx_BadDocument) (by rfl)))) pss_nil)
      (pss_one (ps_ret (pe_tup (pa_cons (pe_slice sl_G (pv 0) (po_some (pe_op op_addG (pv 1) pe_int)) (po_some (pv 4))) (pa_cons (pe_op op_addG (pv 4) pe_int) pa_nil))))))) pss_nil)
      (pss_cons (ps_if (pt_cmpR op_notIn_seq (pv 3) (pe_tup (pa_cons pe_str (pa_cons pe_str pa_nil))) (by rfl)) (pss_one (ps_raise rfl (takes_of rfl rfl rfl rfl) (pmk_own PySem.F.excBase_ValueError T.x_BadDocument T.g_BadDocument T.kx_BadDocument (raises_own T.bs_BadDocument T.tx_BadDocument) (by rfl)))) pss_nil)
      (pss_cons (ps_set (i := 4) sc_read_item.nd rfl (Or.inl rfl) (pe_call G_word_end (hr.mono (Nat.le_trans (by decide) hk)) (by rfl) T.g_word_end T.F_word_end.kp T.b_word_end .nil pass0 (pa_cons (pv 0) (pa_cons (pe_op op_addG (pv 1) pe_int) pa_nil))))
      (pss_one (ps_ret (pe_tup (pa_cons (pe_tup (pa_cons (pv 3) (pa_cons (pe_slice sl_G (pv 0) (po_some (pe_op op_addG (pv 1) pe_int)) (po_some (pv 4))) pa_nil))) (pa_cons (pv 4) pa_nil))))))))))
theorem tm_is_sound {ap_is_part : AP} {ap_is_text : AP} {ap_is_name : AP} {ap_are_marks : AP} {ap_within_bounds : AP} (T : Txt K mg) (G_is_part : FnOk P w K mg base CX0 1 T.f_is_part T.fd_is_part ["item"] (toSp K ap_is_part)) (G_is_text : FnOk P w K mg base CX0 1 T.f_is_text T.fd_is_text ["word"] (toSp K ap_is_text)) (G_is_name : FnOk P w K mg base CX0 1 T.f_is_name T.fd_is_name ["word"] (toSp K ap_is_name)) (G_are_marks : FnOk P w K mg base CX0 2 T.f_are_marks T.fd_are_marks ["words"] (toSp K ap_are_marks)) (G_within_bounds : FnOk P w K mg base CX0 4 T.f_within_bounds T.fd_within_bounds ["root"] (toSp K ap_within_bounds)) (cdv : Value) (A : Around) (outer : List PySem.Env) (s : Shared) (H : Hp) (E : XK) (hr : Room 4 (A.deeper (PyProof.Rows.envOfC "is_sound" (defScope s_is_sound) s.heap.objs.size T.f_is_sound cdv))) :
    PSs (cxOf CX0 P w K mg base ["item", "path", "inner", "sound"] "is_sound" (defScope s_is_sound) T.f_is_sound cdv A outer s H E).nox (defBody s_is_sound) (t_is_sound K ap_is_part ap_is_text ap_is_name ap_are_marks ap_within_bounds) := 
      (pss_cons (Ga.ps_forY PassesOwn.never rfl hr.depth sc_walk.kind (by decide +kernel) (by decide +kernel) (Ga.py_call (k := 0) T.F_walk sc_walk (by decide +kernel) (hr.mono (by decide)) (by rfl) T.g_walk T.F_walk.kp T.b_walk .nil (pa_cons (pv 0) pa_nil)) (fun cd sz => tm_walk T G_is_part cd _ _ sz (Room.in1 (hr.mono (by decide)))) (fun _ _ => (pg_tup (by rfl) (pgs_cons (pg_name (i := 1) sc_is_sound.nd rfl (Or.inl rfl)) (pgs_cons (pg_name (i := 2) sc_is_sound.nd rfl (Or.inl rfl)) pgs_nil)))) (fun _ _ => (pss_cons (ps_if (pt_val (pe_callB call_isi (by rfl) T.m_isinstance bi_isinstance (pa_cons (pv 2) (pa_cons (pe_bltn (v := .ty "str") (by rfl) T.m_str bi_str rfl) pa_nil)))) (pss_one (ps_set (i := 3) sc_is_sound.nd rfl (Or.inl rfl) (pe_call G_is_text (hr.mono (by decide)) (by rfl) T.g_is_text T.F_is_text.kp T.b_is_text .nil pass0 (pa_cons (pv 2) pa_nil)))) (pss_one (ps_if (pt_val (pe_call G_is_part (hr.mono (by decide)) (by rfl) T.g_is_part T.F_is_part.kp T.b_is_part .nil pass0 (pa_cons (pv 2) pa_nil))) (pss_one (ps_set (i := 3) sc_is_sound.nd rfl (Or.inl rfl) (pe_and (pe_call G_is_name (hr.mono (by decide)) (by rfl) T.g_is_name T.F_is_name.kp T.b_is_name .nil pass0 (pa_cons (pe_ix ix_seq (pv 2) pe_int (fun _ _ => rfl)) pa_nil)) (pe_one (pe_call G_are_marks (hr.mono (by decide)) (by rfl) T.g_are_marks T.F_are_marks.kp T.b_are_marks .nil pass0 (pa_cons (pe_ix ix_seq (pv 2) pe_int (fun _ _ => rfl)) pa_nil)))))) (pss_one (ps_set (i := 3) sc_is_sound.nd rfl (Or.inl rfl) (pe_call G_is_name (hr.mono (by decide)) (by rfl) T.g_is_name T.F_is_name.kp T.b_is_name .nil pass0 (pa_cons (pe_ix ix_seq (pv 2) pe_int (fun _ _ => rfl)) pa_nil)))))))
      (pss_one (ps_if (pt_not (pt_val (pv 3))) (pss_one (ps_ret pe_bl)) pss_nil)))))
      (pss_one (ps_ret (pe_call G_within_bounds (hr.mono (by decide)) (by rfl) T.g_within_bounds T.F_within_bounds.kp T.b_within_bounds .nil pass0 (pa_cons (pv 0) pa_nil)))))
theorem tm_read_alone {ap_read_item : APX} {ap_is_sound : AP} {ap_write_item : AP} (T : Txt K mg) (G_read_item : FnOk P w K mg base (L2.CX P w) 16 T.f_read_item T.fd_read_item ["text", "at", "depth"] (toSpX K ap_read_item)) (G_is_sound : FnOk P w K mg base CX0 5 T.f_is_sound T.fd_is_sound ["item"] (toSp K ap_is_sound)) (G_write_item : FnOk P w K mg base CX0 5 T.f_write_item T.fd_write_item ["item"] (toSp K ap_write_item)) (cdv : Value) (A : Around) (outer : List PySem.Env) (s : Shared) (H : Hp) (E : XK) (hr : Room 16 (A.deeper (PyProof.Rows.envOfC "read_alone" (defScope s_read_alone) s.heap.objs.size T.f_read_alone cdv))) :
    PSs (cxOf (L2.CX P w) P w K mg base ["text", "item", "end"] "read_alone" (defScope s_read_alone) T.f_read_alone cdv A outer s H E) (defBody s_read_alone) (t_read_alone K T.c_BadDocument ap_read_item ap_is_sound ap_write_item (fun cls d _ H' => E cls d H')) := 
      (pss_cons (ps_asg (pe_callS G_read_item (hr.mono (by decide)) (by rfl) T.g_read_item T.F_read_item.kp T.b_read_item (fun σ => passAt (takes_of rfl rfl rfl rfl) σ) (pa_cons (pv 0) (pa_cons pe_int (pa_cons pe_int pa_nil)))) (pg_tup (by rfl) (pgs_cons (pg_name (i := 1) sc_read_alone.nd rfl (Or.inl rfl)) (pgs_cons (pg_name (i := 2) sc_read_alone.nd rfl (Or.inl rfl)) pgs_nil))))
      (pss_cons (ps_if (PW.pt (pw_or (pt_cmpR (op_neG hr.units) (pv 2) (pe_callB call_len (by rfl) T.m_len bi_len (pa_cons (pv 0) pa_nil)) (nomark _)) (pw_or (pt_not (pt_val (pe_call G_is_sound (hr.mono (by decide)) (by rfl) T.g_is_sound T.F_is_sound.kp T.b_is_sound .nil pass0 (pa_cons (pv 1) pa_nil)))) (pw_or1 (pt_cmpR (op_neG hr.units) (pe_call G_write_item (hr.mono (by decide)) (by rfl) T.g_write_item T.F_write_item.kp T.b_write_item .nil pass0 (pa_cons (pv 1) pa_nil)) (pv 0) (nomark _)))))) (pss_one (ps_raise rfl (takes_of rfl rfl rfl rfl) (pmk_own PySem.F.excBase_ValueError T.x_BadDocument T.g_BadDocument T.kx_BadDocument (raises_own T.bs_BadDocument T.tx_BadDocument) (by rfl)))) pss_nil)
      (pss_one (ps_ret (pv 1)))))
theorem tm_read_document {ap_read_alone : APX} {ap_is_part : AP} (T : Txt K mg) (G_read_alone : FnOk P w K mg base (L2.CX P w) 17 T.f_read_alone T.fd_read_alone ["text"] (toSpX K ap_read_alone)) (G_is_part : FnOk P w K mg base CX0 1 T.f_is_part T.fd_is_part ["item"] (toSp K ap_is_part)) (cdv : Value) (A : Around) (outer : List PySem.Env) (s : Shared) (H : Hp) (E : XK) (hr : Room 17 (A.deeper (PyProof.Rows.envOfC "read_document" (defScope s_read_document) s.heap.objs.size T.f_read_document cdv))) :
    PSs (cxOf (L2.CX P w) P w K mg base ["text", "root"] "read_document" (defScope s_read_document) T.f_read_document cdv A outer s H E) (defBody s_read_document) (t_read_document K T.c_BadDocument ap_read_alone ap_is_part (fun cls d _ H' => E cls d H')) := 
      (pss_cons (ps_set (i := 1) sc_read_document.nd rfl (Or.inl rfl) (pe_callS G_read_alone (hr.mono (by decide)) (by rfl) T.g_read_alone T.F_read_alone.kp T.b_read_alone (fun σ => passAt (takes_of rfl rfl rfl rfl) σ) (pa_cons (pv 0) pa_nil)))
      (pss_cons (ps_if (pt_not (pt_val (pe_call G_is_part (hr.mono (by decide)) (by rfl) T.g_is_part T.F_is_part.kp T.b_is_part .nil pass0 (pa_cons (pv 1) pa_nil)))) (pss_one (ps_raise rfl (takes_of rfl rfl rfl rfl) (pmk_own PySem.F.excBase_ValueError T.x_BadDocument T.g_BadDocument T.kx_BadDocument (raises_own T.bs_BadDocument T.tx_BadDocument) (by rfl)))) pss_nil)
      (pss_one (ps_ret (pv 1)))))
theorem tm__law_pool (T : Txt K mg) (cdv : Value) (A : Around) (outer : List PySem.Env) (s : Shared) (H : Hp) (E : XK) (hr : Room 0 (A.deeper (PyProof.Rows.envOfC "_law_pool" (defScope s__law_pool) s.heap.objs.size T.f__law_pool cdv))) :
    PSs (cxOf CX0 P w K mg base ["_law_script", "_law_at", "_law_cell"] "_law_pool" (defScope s__law_pool) T.f__law_pool cdv A outer s H E).nox (defBody s__law_pool) (t__law_pool K) := 
      (pss_cons (ps_set (i := 2) sc__law_pool.nd rfl (Or.inl rfl) pe_int)
      (pss_cons (ps_if (pt_cmpR (op_ltG hr.units0) (pv 1) (pe_callB call_len (by rfl) T.m_len bi_len (pa_cons (pv 0) pa_nil)) (nomark _)) (pss_one (ps_set (i := 2) sc__law_pool.nd rfl (Or.inl rfl) (pe_callB call_abs (by rfl) T.m_abs bi_abs (pa_cons (pe_callTy call_int1 (by rfl) T.m_int bi_int (pa_cons (pe_ix ix_seq (pv 0) (pv 1) (fun _ _ => rfl)) pa_nil)) pa_nil)))) pss_nil)
      (pss_one (ps_ret (pe_lst (pa_cons (pv 2) (pa_cons pe_int (pa_cons (pe_callTy call_int1 (by rfl) T.m_int bi_int (pa_cons (pe_cmpR op_ge (pv 2) (pe_op op_pow pe_int pe_int) (nomark _)) pa_nil)) (pa_cons (pe_op op_mod (pe_callTy call_int1 (by rfl) T.m_int bi_int (pa_cons (pe_op op_addG (pv 2) (pe_op op_mulG (pv 1) pe_int)) pa_nil)) pe_int) (pa_cons pe_int pa_nil))))))))))
theorem tm__law_take (T : Txt K mg) (cdv : Value) (A : Around) (outer : List PySem.Env) (s : Shared) (H : Hp) (E : XK) (hr : Room 0 (A.deeper (PyProof.Rows.envOfC "_law_take" (defScope s__law_take) s.heap.objs.size T.f__law_take cdv))) :
    PSs (cxOf CX0 P w K mg base ["_law_pool_here", "_law_many", "_law_got", "_law_one", "_law_two"] "_law_take" (defScope s__law_take) T.f__law_take cdv A outer s H E).nox (defBody s__law_take) (t__law_take K) := 
      (pss_cons (ps_asg (pe_op op_addG (pe_ix ix_seq (pv 0) pe_int (fun _ _ => rfl)) pe_int) (pg_sub (pv 0) pe_int set_list))
      (pss_cons (ps_if (pt_cmpR (op_eqG hr.units) (pe_ix ix_seq (pv 0) pe_int (fun _ _ => rfl)) pe_int (nomark _)) (pss_cons (ps_set (i := 2) sc__law_take.nd rfl (Or.inl rfl) (pe_op op_mod (pe_callTy call_int1 (by rfl) T.m_int bi_int (pa_cons (pe_ix ix_seq (pv 0) pe_int (fun _ _ => rfl)) pa_nil)) (pv 1)))
      (pss_cons (ps_asg (pe_op op_fdivW (pe_ix ix_seq (pv 0) pe_int (fun _ _ => rfl)) (pv 1)) (pg_sub (pv 0) pe_int set_list))
      (pss_one (ps_ret (pv 2))))) pss_nil)
      (pss_cons (ps_set (i := 3) sc__law_take.nd rfl (Or.inl rfl) (pe_op op_mod (pe_callTy call_int1 (by rfl) T.m_int bi_int (pa_cons (pe_op op_addG (pe_op op_addG (pe_op op_mulG (pe_ix ix_seq (pv 0) pe_int (fun _ _ => rfl)) pe_int) (pe_op op_mulG (pe_ix ix_seq (pv 0) pe_int (fun _ _ => rfl)) pe_int)) pe_int) pa_nil)) pe_int))
      (pss_cons (ps_set (i := 4) sc__law_take.nd rfl (Or.inl rfl) (pe_op op_mod (pe_callTy call_int1 (by rfl) T.m_int bi_int (pa_cons (pe_op op_addG (pe_op op_addG (pe_op op_mulG (pv 3) pe_int) (pe_op op_fdivW (pv 3) pe_int)) (pe_op op_mulG (pe_op op_mulG (pe_ix ix_seq (pv 0) pe_int (fun _ _ => rfl)) (pe_ix ix_seq (pv 0) pe_int (fun _ _ => rfl))) pe_int)) pa_nil)) pe_int))
      (pss_one (ps_ret (pe_op op_mod (pe_callTy call_int1 (by rfl) T.m_int bi_int (pa_cons (pe_op op_fdivW (pv 4) (pe_op op_addG (pe_ix ix_seq (pv 0) pe_int (fun _ _ => rfl)) pe_int)) pa_nil)) (pv 1))))))))
theorem tm__law_same {ap__law_same : AP} (T : Txt K mg) {k : Nat} (G__law_same : FnOk P w K mg base CX0 k T.f__law_same T.fd__law_same ["_law_one", "_law_two"] (toSp K ap__law_same)) (cdv : Value) (A : Around) (outer : List PySem.Env) (s : Shared) (H : Hp) (E : XK) (hr : Room k (A.deeper (PyProof.Rows.envOfC "_law_same" (defScope s__law_same) s.heap.objs.size T.f__law_same cdv))) :
    PSs (cxOf CX0 P w K mg base ["_law_one", "_law_two", "_law_both", "_law_k"] "_law_same" (defScope s__law_same) T.f__law_same cdv A outer s H E).nox (defBody s__law_same) (t__law_same K ap__law_same) := 
      (pss_cons (ps_if (PW.pt (pw_or (pt_val (pe_callB call_isi (by rfl) T.m_isinstance bi_isinstance (pa_cons (pv 0) (pa_cons (pe_bltn (v := .ty "bool") (by rfl) T.m_bool bi_bool rfl) pa_nil)))) (pw_or1 (pt_val (pe_callB call_isi (by rfl) T.m_isinstance bi_isinstance (pa_cons (pv 1) (pa_cons (pe_bltn (v := .ty "bool") (by rfl) T.m_bool bi_bool rfl) pa_nil))))))) (pss_one (ps_ret (pe_and (pe_callB call_isi (by rfl) T.m_isinstance bi_isinstance (pa_cons (pv 0) (pa_cons (pe_bltn (v := .ty "bool") (by rfl) T.m_bool bi_bool rfl) pa_nil))) (pe_and (pe_callB call_isi (by rfl) T.m_isinstance bi_isinstance (pa_cons (pv 1) (pa_cons (pe_bltn (v := .ty "bool") (by rfl) T.m_bool bi_bool rfl) pa_nil))) (pe_one (pe_cmpR (op_eqG hr.units) (pv 0) (pv 1) (nomark _))))))) pss_nil)
      (pss_cons (ps_if (PW.pt (pw_and (pt_val (pe_callB call_isi (by rfl) T.m_isinstance bi_isinstance (pa_cons (pv 0) (pa_cons (pe_bltn (v := .ty "int") (by rfl) T.m_int bi_int rfl) pa_nil)))) (pw_and1 (pt_val (pe_callB call_isi (by rfl) T.m_isinstance bi_isinstance (pa_cons (pv 1) (pa_cons (pe_bltn (v := .ty "int") (by rfl) T.m_int bi_int rfl) pa_nil))))))) (pss_one (ps_ret (pe_cmpR (op_eqG hr.units) (pv 0) (pv 1) (nomark _)))) pss_nil)
      (pss_cons (ps_if (PW.pt (pw_and (pt_val (pe_callB call_isi (by rfl) T.m_isinstance bi_isinstance (pa_cons (pv 0) (pa_cons (pe_bltn (v := .ty "str") (by rfl) T.m_str bi_str rfl) pa_nil)))) (pw_and1 (pt_val (pe_callB call_isi (by rfl) T.m_isinstance bi_isinstance (pa_cons (pv 1) (pa_cons (pe_bltn (v := .ty "str") (by rfl) T.m_str bi_str rfl) pa_nil))))))) (pss_one (ps_ret (pe_cmpR (op_eqG hr.units) (pv 0) (pv 1) (nomark _)))) pss_nil)
      (pss_cons (ps_set (i := 2) sc__law_same.nd rfl (Or.inl rfl) (pe_and (pe_callB call_isi (by rfl) T.m_isinstance bi_isinstance (pa_cons (pv 0) (pa_cons (pe_bltn (v := .ty "tuple") (by rfl) T.m_tuple bi_tuple rfl) pa_nil))) (pe_one (pe_callB call_isi (by rfl) T.m_isinstance bi_isinstance (pa_cons (pv 1) (pa_cons (pe_bltn (v := .ty "tuple") (by rfl) T.m_tuple bi_tuple rfl) pa_nil))))))
      (pss_cons (ps_if (PW.pt (pw_or (pt_val (pv 2)) (pw_or1 (PW.pt (pw_and (pt_val (pe_callB call_isi (by rfl) T.m_isinstance bi_isinstance (pa_cons (pv 0) (pa_cons (pe_bltn (v := .ty "list") (by rfl) T.m_list bi_list rfl) pa_nil)))) (pw_and1 (pt_val (pe_callB call_isi (by rfl) T.m_isinstance bi_isinstance (pa_cons (pv 1) (pa_cons (pe_bltn (v := .ty "list") (by rfl) T.m_list bi_list rfl) pa_nil)))))))))) (pss_cons (ps_if (pt_cmpR (op_neG hr.units) (pe_callB call_len (by rfl) T.m_len bi_len (pa_cons (pv 0) pa_nil)) (pe_callB call_len (by rfl) T.m_len bi_len (pa_cons (pv 1) pa_nil)) (nomark _)) (pss_one (ps_ret pe_bl)) pss_nil)
      (pss_cons (ps_for PassesOwn.never rfl (pi_range1 (by rfl) T.m_range (pa_cons (pe_callB call_len (by rfl) T.m_len bi_len (pa_cons (pv 0) pa_nil)) pa_nil)) (pg_name (i := 3) sc__law_same.nd rfl (Or.inl rfl)) (pss_one (ps_if (pt_not (pt_val (pe_call G__law_same hr (by rfl) T.g__law_same T.F__law_same.kp T.b__law_same .nil pass0 (pa_cons (pe_ix ix_seq (pv 0) (pv 3) (fun _ _ => rfl)) (pa_cons (pe_ix ix_seq (pv 1) (pv 3) (fun _ _ => rfl)) pa_nil))))) (pss_one (ps_ret pe_bl)) pss_nil)))
      (pss_one (ps_ret pe_bl)))) pss_nil)
      (pss_one (ps_ret (pe_and (pe_cmp (pc_isN (pv 0))) (pe_one (pe_cmp (pc_isN (pv 1))))))))))))
theorem tm__law_letters {ap__law_take : AP} (T : Txt K mg) (G__law_take : FnOk P w K mg base CX0 1 T.f__law_take T.fd__law_take ["_law_pool_here", "_law_many"] (toSp K ap__law_take)) (cdv : Value) (A : Around) (outer : List PySem.Env) (s : Shared) (H : Hp) (E : XK) (hr : Room 1 (A.deeper (PyProof.Rows.envOfC "_law_letters" (defScope s__law_letters) s.heap.objs.size T.f__law_letters cdv))) :
    PSs (cxOf CX0 P w K mg base ["_law_pool_here", "_law_many", "_law_abc", "_law_k"] "_law_letters" (defScope s__law_letters) T.f__law_letters cdv A outer s H E).nox (defBody s__law_letters) (t__law_letters K ap__law_take) := 
      (pss_cons (ps_set (i := 2) sc__law_letters.nd rfl (Or.inr rfl) pe_str)
      (pss_one (ps_ret (pe_joinR pe_str (pe_lc (own := [("_law_k", 3)]) (g := (gName 3)) (tt := tYes) (by rfl) sc__law_letters.nd (pi_range1 (by rfl) T.m_range (pa_cons (pv 1) pa_nil)) (blkOk_by (own := [("_law_k", 3)]) (N := ["_law_pool_here", "_law_many", "_law_abc", "_law_k"]) (sc := defScope s__law_letters) (by decide +kernel)) (fun _ _ _ _ _ => (pg_name (i := 3) sc__law_letters.nd rfl (Or.inl rfl))) (fun _ _ _ _ _ => pts_nil) (fun _ _ _ _ _ => (pe_ix ix_seq (pv 2) (pe_call G__law_take (hr.mono (by decide)) (by rfl) T.g__law_take T.F__law_take.kp T.b__law_take .nil pass0 (pa_cons (pv 0) (pa_cons pe_int pa_nil))) (fun _ _ => rfl))))))))
theorem tm__law_name {ap__law_take : AP} {ap__law_letters : AP} (T : Txt K mg) (G__law_take : FnOk P w K mg base CX0 1 T.f__law_take T.fd__law_take ["_law_pool_here", "_law_many"] (toSp K ap__law_take)) (G__law_letters : FnOk P w K mg base CX0 2 T.f__law_letters T.fd__law_letters ["_law_pool_here", "_law_many"] (toSp K ap__law_letters)) (cdv : Value) (A : Around) (outer : List PySem.Env) (s : Shared) (H : Hp) (E : XK) (hr : Room 2 (A.deeper (PyProof.Rows.envOfC "_law_name" (defScope s__law_name) s.heap.objs.size T.f__law_name cdv))) :
    PSs (cxOf CX0 P w K mg base ["_law_pool_here", "_law_names", "_law_sort", "_law_name_here", "_law_at"] "_law_name" (defScope s__law_name) T.f__law_name cdv A outer s H E).nox (defBody s__law_name) (t__law_name K ap__law_take ap__law_letters) := 
      (pss_cons (ps_set (i := 2) sc__law_name.nd rfl (Or.inl rfl) (pe_call G__law_take (hr.mono (by decide)) (by rfl) T.g__law_take T.F__law_take.kp T.b__law_take .nil pass0 (pa_cons (pv 0) (pa_cons pe_int pa_nil))))
      (pss_cons (ps_set (i := 3) sc__law_name.nd rfl (Or.inl rfl) pe_str)
      (pss_cons (ps_if (PW.pt (pw_and (pt_cmpR op_gt (pv 2) pe_int (nomark _)) (pw_and1 (pt_cmpR op_gt (pe_callB call_len (by rfl) T.m_len bi_len (pa_cons (pv 1) pa_nil)) pe_int (nomark _))))) (pss_one (ps_set (i := 3) sc__law_name.nd rfl (Or.inl rfl) (pe_ix ix_seq (pv 1) (pe_call G__law_take (hr.mono (by decide)) (by rfl) T.g__law_take T.F__law_take.kp T.b__law_take .nil pass0 (pa_cons (pv 0) (pa_cons (pe_callB call_len (by rfl) T.m_len bi_len (pa_cons (pv 1) pa_nil)) pa_nil))) (fun _ _ => rfl)))) pss_nil)
      (pss_cons (ps_if (PW.pt (pw_and (pt_cmpR (op_eqG hr.units) (pv 2) pe_int (nomark _)) (pw_and1 (pt_cmpR op_gt (pe_callB call_len (by rfl) T.m_len bi_len (pa_cons (pv 3) pa_nil)) pe_int (nomark _))))) (pss_cons (ps_set (i := 4) sc__law_name.nd rfl (Or.inl rfl) (pe_call G__law_take (hr.mono (by decide)) (by rfl) T.g__law_take T.F__law_take.kp T.b__law_take .nil pass0 (pa_cons (pv 0) (pa_cons (pe_callB call_len (by rfl) T.m_len bi_len (pa_cons (pv 3) pa_nil)) pa_nil))))
      (pss_one (ps_set (i := 3) sc__law_name.nd rfl (Or.inl rfl) (pe_op op_addG (pe_op op_addG (pe_slice sl_G (pv 3) po_none (po_some (pv 4))) (pe_call G__law_letters (hr.mono (by decide)) (by rfl) T.g__law_letters T.F__law_letters.kp T.b__law_letters .nil pass0 (pa_cons (pv 0) (pa_cons pe_int pa_nil)))) (pe_slice sl_G (pv 3) (po_some (pe_op op_addG (pv 4) pe_int)) po_none))))) pss_nil)
      (pss_cons (ps_if (PW.pt (pw_and (pt_cmpR (op_eqG hr.units) (pv 2) pe_int (nomark _)) (pw_and1 (pt_chain op_lt op_lt pe_int (pe_callB call_len (by rfl) T.m_len bi_len (pa_cons (pv 3) pa_nil)) pe_int)))) (pss_one (ps_set (i := 3) sc__law_name.nd rfl (Or.inl rfl) (pe_op op_addG (pv 3) (pe_call G__law_letters (hr.mono (by decide)) (by rfl) T.g__law_letters T.F__law_letters.kp T.b__law_letters .nil pass0 (pa_cons (pv 0) (pa_cons pe_int pa_nil)))))) pss_nil)
      (pss_cons (ps_if (pt_cmpR (op_eqG hr.units) (pv 3) pe_str (nomark _)) (pss_one (ps_set (i := 3) sc__law_name.nd rfl (Or.inl rfl) (pe_call G__law_letters (hr.mono (by decide)) (by rfl) T.g__law_letters T.F__law_letters.kp T.b__law_letters .nil pass0 (pa_cons (pv 0) (pa_cons (pe_op op_addG pe_int (pe_call G__law_take (hr.mono (by decide)) (by rfl) T.g__law_take T.F__law_take.kp T.b__law_take .nil pass0 (pa_cons (pv 0) (pa_cons pe_int pa_nil)))) pa_nil))))) pss_nil)
      (pss_cons (ps_expr (pe_bm PySem.F.plainAttrs_list PySem.F.slot_list_append PySem.F.type_list_append mt_append (pv 1) (pa_cons (pv 3) pa_nil)))
      (pss_one (ps_ret (pv 3))))))))))
theorem tm__law_marks {ap__law_take : AP} {ap__law_name : AP} (T : Txt K mg) (G__law_take : FnOk P w K mg base CX0 1 T.f__law_take T.fd__law_take ["_law_pool_here", "_law_many"] (toSp K ap__law_take)) (G__law_name : FnOk P w K mg base CX0 3 T.f__law_name T.fd__law_name ["_law_pool_here", "_law_names"] (toSp K ap__law_name)) (cdv : Value) (A : Around) (outer : List PySem.Env) (s : Shared) (H : Hp) (E : XK) (hr : Room 3 (A.deeper (PyProof.Rows.envOfC "_law_marks" (defScope s__law_marks) s.heap.objs.size T.f__law_marks cdv))) :
    PSs (cxOf CX0 P w K mg base ["_law_pool_here", "_law_names", "_law_marks_here", "_law_k", "_law_name_here", "_law_less", "_law_mark"] "_law_marks" (defScope s__law_marks) T.f__law_marks cdv A outer s H E).nox (defBody s__law_marks) (t__law_marks K ap__law_take ap__law_name) := 
      (pss_cons (ps_set (i := 2) sc__law_marks.nd rfl (Or.inl rfl) (pe_lst pa_nil))
      (pss_cons (ps_for PassesOwn.never rfl (pi_range1 (by rfl) T.m_range (pa_cons (pe_call G__law_take (hr.mono (by decide)) (by rfl) T.g__law_take T.F__law_take.kp T.b__law_take .nil pass0 (pa_cons (pv 0) (pa_cons pe_int pa_nil))) pa_nil)) (pg_name (i := 3) sc__law_marks.nd rfl (Or.inl rfl)) (pss_cons (ps_set (i := 4) sc__law_marks.nd rfl (Or.inr rfl) (pe_call G__law_name (hr.mono (by decide)) (by rfl) T.g__law_name T.F__law_name.kp T.b__law_name .nil pass0 (pa_cons (pv 0) (pa_cons (pv 1) pa_nil))))
      (pss_cons (ps_setLc (i := 5) (own := [("_law_mark", 6)]) (g := (gName 6)) (tt := (tTest (tOp (rLtG K) (tVar 6) (tVar 4)))) (by rfl) sc__law_marks.nd rfl rfl (sw_true rfl rfl rfl (by decide +kernel)) (pi_list (pv 2)) (blkOk_by (own := [("_law_mark", 6)]) (N := ["_law_pool_here", "_law_names", "_law_marks_here", "_law_k", "_law_name_here", "_law_less", "_law_mark"]) (sc := defScope s__law_marks) (by decide +kernel)) (fun _ _ _ _ _ => (pg_name (i := 6) sc__law_marks.nd rfl (Or.inl rfl))) (fun _ _ _ _ _ => (pts_one (pt_cmpR (op_ltG hr.units0) (pv 6) (pv 4) (nomark _)))) (fun _ _ _ _ _ => (pv 6)))
      (pss_one (ps_set (i := 2) sc__law_marks.nd rfl (Or.inl rfl) (pe_op op_addG (pe_op op_addG (pv 5) (pe_lst (pa_cons (pv 4) pa_nil))) (pe_lc (own := [("_law_mark", 6)]) (g := (gName 6)) (tt := (tTest (tOp rGtS (tVar 6) (tVar 4)))) (by rfl) sc__law_marks.nd (pi_list (pv 2)) (blkOk_by (own := [("_law_mark", 6)]) (N := ["_law_pool_here", "_law_names", "_law_marks_here", "_law_k", "_law_name_here", "_law_less", "_law_mark"]) (sc := defScope s__law_marks) (by decide +kernel)) (fun _ _ _ _ _ => (pg_name (i := 6) sc__law_marks.nd rfl (Or.inl rfl))) (fun _ _ _ _ _ => (pts_one (pt_cmpR op_gtS (pv 6) (pv 4) (nomark _)))) (fun _ _ _ _ _ => (pv 6)))))))))
      (pss_one (ps_ret (pe_callTy call_tuple_of (by rfl) T.m_tuple bi_tuple (pa_cons (pv 2) pa_nil))))))
theorem tm__law_prose {ap__law_take : AP} (T : Txt K mg) (G__law_take : FnOk P w K mg base CX0 1 T.f__law_take T.fd__law_take ["_law_pool_here", "_law_many"] (toSp K ap__law_take)) (cdv : Value) (A : Around) (outer : List PySem.Env) (s : Shared) (H : Hp) (E : XK) (hr : Room 1 (A.deeper (PyProof.Rows.envOfC "_law_prose" (defScope s__law_prose) s.heap.objs.size T.f__law_prose cdv))) :
    PSs (cxOf CX0 P w K mg base ["_law_pool_here", "_law_many", "_law_signs", "_law_k"] "_law_prose" (defScope s__law_prose) T.f__law_prose cdv A outer s H E).nox (defBody s__law_prose) (t__law_prose K ap__law_take) := 
      (pss_cons (ps_set (i := 2) sc__law_prose.nd rfl (Or.inr rfl) pe_str)
      (pss_one (ps_ret (pe_joinR pe_str (pe_lc (own := [("_law_k", 3)]) (g := (gName 3)) (tt := tYes) (by rfl) sc__law_prose.nd (pi_range1 (by rfl) T.m_range (pa_cons (pv 1) pa_nil)) (blkOk_by (own := [("_law_k", 3)]) (N := ["_law_pool_here", "_law_many", "_law_signs", "_law_k"]) (sc := defScope s__law_prose) (by decide +kernel)) (fun _ _ _ _ _ => (pg_name (i := 3) sc__law_prose.nd rfl (Or.inl rfl))) (fun _ _ _ _ _ => pts_nil) (fun _ _ _ _ _ => (pe_ix ix_seq (pv 2) (pe_callB (call_max2 rfl) (by rfl) T.m_max bi_max (pa_cons pe_int (pa_cons (pe_op op_sub (pe_call G__law_take (hr.mono (by decide)) (by rfl) T.g__law_take T.F__law_take.kp T.b__law_take .nil pass0 (pa_cons (pv 0) (pa_cons pe_int pa_nil))) pe_int) pa_nil))) (fun _ _ => rfl))))))))
theorem tm__law_text {ap__law_take : AP} {ap__law_prose : AP} (T : Txt K mg) (G__law_take : FnOk P w K mg base CX0 1 T.f__law_take T.fd__law_take ["_law_pool_here", "_law_many"] (toSp K ap__law_take)) (G__law_prose : FnOk P w K mg base CX0 2 T.f__law_prose T.fd__law_prose ["_law_pool_here", "_law_many"] (toSp K ap__law_prose)) (cdv : Value) (A : Around) (outer : List PySem.Env) (s : Shared) (H : Hp) (E : XK) (hr : Room 2 (A.deeper (PyProof.Rows.envOfC "_law_text" (defScope s__law_text) s.heap.objs.size T.f__law_text cdv))) :
    PSs (cxOf CX0 P w K mg base ["_law_pool_here", "_law_budget", "_law_many"] "_law_text" (defScope s__law_text) T.f__law_text cdv A outer s H E).nox (defBody s__law_text) (t__law_text K ap__law_take ap__law_prose) := 
      (pss_cons (ps_set (i := 2) sc__law_text.nd rfl (Or.inl rfl) (pe_ix ix_seq (pe_lst (pa_cons pe_int (pa_cons pe_int (pa_cons pe_int (pa_cons pe_int pa_nil))))) (pe_call G__law_take (hr.mono (by decide)) (by rfl) T.g__law_take T.F__law_take.kp T.b__law_take .nil pass0 (pa_cons (pv 0) (pa_cons pe_int pa_nil))) (fun _ _ => rfl)))
      (pss_cons (ps_set (i := 2) sc__law_text.nd rfl (Or.inl rfl) (pe_op op_addG pe_int (pe_call G__law_take (hr.mono (by decide)) (by rfl) T.g__law_take T.F__law_take.kp T.b__law_take .nil pass0 (pa_cons (pv 0) (pa_cons (pe_callB (call_min2 rfl) (by rfl) T.m_min bi_min (pa_cons (pe_callTy call_int1 (by rfl) T.m_int bi_int (pa_cons (pv 2) pa_nil)) (pa_cons (pe_ix ix_seq (pv 1) pe_int (fun _ _ => rfl)) pa_nil))) pa_nil)))))
      (pss_cons (ps_asg (pe_op op_sub (pe_ix ix_seq (pv 1) pe_int (fun _ _ => rfl)) (pv 2)) (pg_sub (pv 1) pe_int set_list))
      (pss_one (ps_ret (pe_call G__law_prose (hr.mono (by decide)) (by rfl) T.g__law_prose T.F__law_prose.kp T.b__law_prose .nil pass0 (pa_cons (pv 0) (pa_cons (pv 2) pa_nil))))))))
theorem tm__law_item {ap__law_take : AP} {ap__law_part : AP} {ap__law_name : AP} {ap__law_text : AP} (T : Txt K mg) {k : Nat} (hk : 3 ≤ k) (G__law_take : FnOk P w K mg base CX0 1 T.f__law_take T.fd__law_take ["_law_pool_here", "_law_many"] (toSp K ap__law_take)) (G__law_part : FnOk P w K mg base CX0 k T.f__law_part T.fd__law_part ["_law_pool_here", "_law_names", "_law_budget", "_law_depth"] (toSp K ap__law_part)) (G__law_name : FnOk P w K mg base CX0 3 T.f__law_name T.fd__law_name ["_law_pool_here", "_law_names"] (toSp K ap__law_name)) (G__law_text : FnOk P w K mg base CX0 3 T.f__law_text T.fd__law_text ["_law_pool_here", "_law_budget"] (toSp K ap__law_text)) (cdv : Value) (A : Around) (outer : List PySem.Env) (s : Shared) (H : Hp) (E : XK) (hr : Room k (A.deeper (PyProof.Rows.envOfC "_law_item" (defScope s__law_item) s.heap.objs.size T.f__law_item cdv))) :
    PSs (cxOf CX0 P w K mg base ["_law_pool_here", "_law_names", "_law_budget", "_law_depth", "_law_sort"] "_law_item" (defScope s__law_item) T.f__law_item cdv A outer s H E).nox (defBody s__law_item) (t__law_item K ap__law_take ap__law_part ap__law_name ap__law_text) := 
      (pss_cons (ps_set (i := 4) sc__law_item.nd rfl (Or.inl rfl) (pe_call G__law_take (hr.mono (Nat.le_trans (by decide) hk)) (by rfl) T.g__law_take T.F__law_take.kp T.b__law_take .nil pass0 (pa_cons (pv 0) (pa_cons pe_int pa_nil))))
      (pss_cons (ps_if (PW.pt (pw_and (pt_cmpR (op_ltG hr.units0) (pv 4) pe_int (nomark _)) (pw_and1 (pt_cmpR op_le (pv 3) (pe_ix ix_seq (pv 2) pe_int (fun _ _ => rfl)) (nomark _))))) (pss_one (ps_ret (pe_call G__law_part hr (by rfl) T.g__law_part T.F__law_part.kp T.b__law_part .nil pass0 (pa_cons (pv 0) (pa_cons (pv 1) (pa_cons (pv 2) (pa_cons (pv 3) pa_nil))))))) pss_nil)
      (pss_cons (ps_if (PW.pt (pw_and (pt_cmpR (op_eqG hr.units) (pv 4) pe_int (nomark _)) (pw_and1 (pt_cmpR op_gt (pe_ix ix_seq (pv 2) pe_int (fun _ _ => rfl)) pe_int (nomark _))))) (pss_cons (ps_asg (pe_op op_sub (pe_ix ix_seq (pv 2) pe_int (fun _ _ => rfl)) pe_int) (pg_sub (pv 2) pe_int set_list))
      (pss_one (ps_ret (pe_tup (pa_cons pe_str (pa_cons (pe_call G__law_name (hr.mono (Nat.le_trans (by decide) hk)) (by rfl) T.g__law_name T.F__law_name.kp T.b__law_name .nil pass0 (pa_cons (pv 0) (pa_cons (pv 1) pa_nil))) pa_nil)))))) pss_nil)
      (pss_cons (ps_if (PW.pt (pw_and (pt_cmpR op_gt (pv 4) pe_int (nomark _)) (pw_and1 (pt_cmpR op_gt (pe_ix ix_seq (pv 2) pe_int (fun _ _ => rfl)) pe_int (nomark _))))) (pss_one (ps_ret (pe_call G__law_text (hr.mono (Nat.le_trans (by decide) hk)) (by rfl) T.g__law_text T.F__law_text.kp T.b__law_text .nil pass0 (pa_cons (pv 0) (pa_cons (pv 2) pa_nil))))) pss_nil)
      (pss_one (ps_ret (pe_tup (pa_cons pe_str (pa_cons (pe_call G__law_name (hr.mono (Nat.le_trans (by decide) hk)) (by rfl) T.g__law_name T.F__law_name.kp T.b__law_name .nil pass0 (pa_cons (pv 0) (pa_cons (pv 1) pa_nil))) pa_nil)))))))))
theorem tm__law_part {ap__law_name : AP} {ap__law_marks : AP} {ap__law_take : AP} {ap__law_item : AP} (T : Txt K mg) {k : Nat} (hk : 4 ≤ k) (G__law_name : FnOk P w K mg base CX0 3 T.f__law_name T.fd__law_name ["_law_pool_here", "_law_names"] (toSp K ap__law_name)) (G__law_marks : FnOk P w K mg base CX0 4 T.f__law_marks T.fd__law_marks ["_law_pool_here", "_law_names"] (toSp K ap__law_marks)) (G__law_take : FnOk P w K mg base CX0 1 T.f__law_take T.fd__law_take ["_law_pool_here", "_law_many"] (toSp K ap__law_take)) (G__law_item : FnOk P w K mg base CX0 k T.f__law_item T.fd__law_item ["_law_pool_here", "_law_names", "_law_budget", "_law_depth"] (toSp K ap__law_item)) (cdv : Value) (A : Around) (outer : List PySem.Env) (s : Shared) (H : Hp) (E : XK) (hr : Room k (A.deeper (PyProof.Rows.envOfC "_law_part" (defScope s__law_part) s.heap.objs.size T.f__law_part cdv))) :
    PSs (cxOf CX0 P w K mg base ["_law_pool_here", "_law_names", "_law_budget", "_law_depth", "_law_kind", "_law_marks_here", "_law_many", "_law_items", "_law_k"] "_law_part" (defScope s__law_part) T.f__law_part cdv A outer s H E).nox (defBody s__law_part) (t__law_part K ap__law_name ap__law_marks ap__law_take ap__law_item) := 
      (pss_cons (ps_set (i := 4) sc__law_part.nd rfl (Or.inl rfl) (pe_call G__law_name (hr.mono (Nat.le_trans (by decide) hk)) (by rfl) T.g__law_name T.F__law_name.kp T.b__law_name .nil pass0 (pa_cons (pv 0) (pa_cons (pv 1) pa_nil))))
      (pss_cons (ps_set (i := 5) sc__law_part.nd rfl (Or.inl rfl) (pe_call G__law_marks (hr.mono (Nat.le_trans (by decide) hk)) (by rfl) T.g__law_marks T.F__law_marks.kp T.b__law_marks .nil pass0 (pa_cons (pv 0) (pa_cons (pv 1) pa_nil))))
      (pss_cons (ps_set (i := 6) sc__law_part.nd rfl (Or.inl rfl) (pe_call G__law_take (hr.mono (Nat.le_trans (by decide) hk)) (by rfl) T.g__law_take T.F__law_take.kp T.b__law_take .nil pass0 (pa_cons (pv 0) (pa_cons pe_int pa_nil))))
      (pss_cons (ps_if (pt_cmpR (op_eqG hr.units) (pv 6) pe_int (nomark _)) (pss_one (ps_set (i := 6) sc__law_part.nd rfl (Or.inl rfl) (pe_call G__law_take (hr.mono (Nat.le_trans (by decide) hk)) (by rfl) T.g__law_take T.F__law_take.kp T.b__law_take .nil pass0 (pa_cons (pv 0) (pa_cons (pe_op op_addG (pe_ix ix_seq (pv 2) pe_int (fun _ _ => rfl)) pe_int) pa_nil))))) pss_nil)
      (pss_cons (ps_set (i := 6) sc__law_part.nd rfl (Or.inl rfl) (pe_callB (call_min2 rfl) (by rfl) T.m_min bi_min (pa_cons (pe_callTy call_int1 (by rfl) T.m_int bi_int (pa_cons (pv 6) pa_nil)) (pa_cons (pe_ix ix_seq (pv 2) pe_int (fun _ _ => rfl)) pa_nil))))
      (pss_cons (ps_asg (pe_op op_sub (pe_ix ix_seq (pv 2) pe_int (fun _ _ => rfl)) (pv 6)) (pg_sub (pv 2) pe_int set_list))
      (pss_cons (ps_set (i := 7) sc__law_part.nd rfl (Or.inl rfl) (pe_lst pa_nil))
      (pss_cons (ps_for PassesOwn.never rfl (pi_range1 (by rfl) T.m_range (pa_cons (pv 6) pa_nil)) (pg_name (i := 8) sc__law_part.nd rfl (Or.inl rfl)) (pss_one (ps_expr (pe_bm PySem.F.plainAttrs_list PySem.F.slot_list_append PySem.F.type_list_append mt_append (pv 7) (pa_cons (pe_call G__law_item hr (by rfl) T.g__law_item T.F__law_item.kp T.b__law_item .nil pass0 (pa_cons (pv 0) (pa_cons (pv 1) (pa_cons (pv 2) (pa_cons (pe_op op_addG (pv 3) pe_int) pa_nil))))) pa_nil)))))
      (pss_cons (ps_if (PW.pt (pw_and (pt_cmpR op_gt (pv 6) pe_int (nomark _)) (pw_and (pt_cmpR (op_eqG hr.units) (pe_ix ix_seq (pv 0) pe_int (fun _ _ => rfl)) pe_int (nomark _)) (pw_and1 (pt_cmpR (op_eqG hr.units) (pe_op op_mod (pe_callB call_len (by rfl) T.m_len bi_len (pa_cons (pv 1) pa_nil)) pe_int) pe_int (nomark _)))))) (pss_one (ps_if (PW.pt (pw_or (pt_cmpR (op_eqG hr.units) (pe_ix ix_seq (pe_ix ix_seq (pv 7) pe_int (fun _ _ => rfl)) pe_int (fun _ _ => rfl)) pe_str (nomark _)) (pw_or1 (pt_cmpR (op_eqG hr.units) (pe_slice sl_G (pe_ix ix_seq (pv 7) pe_int (fun _ _ => rfl)) (po_some pe_int) po_none) (pe_tup (pa_cons (pe_tup pa_nil) pa_nil)) (nomark _))))) (pss_one (ps_asg (pe_ix ix_seq (pv 7) pe_int (fun _ _ => rfl)) (pg_sub (pv 7) (pe_op op_sub (pv 6) pe_int) set_list))) pss_nil)) pss_nil)
      (pss_one (ps_ret (pe_tup (pa_cons (pv 4) (pa_cons (pv 5) (pa_cons (pe_callTy call_tuple_of (by rfl) T.m_tuple bi_tuple (pa_cons (pv 7) pa_nil)) pa_nil)))))))))))))))
theorem tm__law_wrapped {ap__law_name : AP} (T : Txt K mg) (G__law_name : FnOk P w K mg base CX0 3 T.f__law_name T.fd__law_name ["_law_pool_here", "_law_names"] (toSp K ap__law_name)) (cdv : Value) (A : Around) (outer : List PySem.Env) (s : Shared) (H : Hp) (E : XK) (hr : Room 3 (A.deeper (PyProof.Rows.envOfC "_law_wrapped" (defScope s__law_wrapped) s.heap.objs.size T.f__law_wrapped cdv))) :
    PSs (cxOf CX0 P w K mg base ["_law_pool_here", "_law_names", "_law_item_here", "_law_many", "_law_turn"] "_law_wrapped" (defScope s__law_wrapped) T.f__law_wrapped cdv A outer s H E).nox (defBody s__law_wrapped) (t__law_wrapped K ap__law_name) := 
      (pss_cons (ps_for PassesOwn.never rfl (pi_range1 (by rfl) T.m_range (pa_cons (pv 3) pa_nil)) (pg_name (i := 4) sc__law_wrapped.nd rfl (Or.inl rfl)) (pss_one (ps_set (i := 2) sc__law_wrapped.nd rfl (Or.inl rfl) (pe_tup (pa_cons (pe_call G__law_name (hr.mono (by decide)) (by rfl) T.g__law_name T.F__law_name.kp T.b__law_name .nil pass0 (pa_cons (pv 0) (pa_cons (pv 1) pa_nil))) (pa_cons (pe_tup pa_nil) (pa_cons (pe_tup (pa_cons (pv 2) pa_nil)) pa_nil)))))))
      (pss_one (ps_ret (pv 2))))
theorem tm__law_leaf {ap__law_take : AP} {ap__law_name : AP} {ap__law_prose : AP} (T : Txt K mg) (G__law_take : FnOk P w K mg base CX0 1 T.f__law_take T.fd__law_take ["_law_pool_here", "_law_many"] (toSp K ap__law_take)) (G__law_name : FnOk P w K mg base CX0 3 T.f__law_name T.fd__law_name ["_law_pool_here", "_law_names"] (toSp K ap__law_name)) (G__law_prose : FnOk P w K mg base CX0 2 T.f__law_prose T.fd__law_prose ["_law_pool_here", "_law_many"] (toSp K ap__law_prose)) (cdv : Value) (A : Around) (outer : List PySem.Env) (s : Shared) (H : Hp) (E : XK) (hr : Room 3 (A.deeper (PyProof.Rows.envOfC "_law_leaf" (defScope s__law_leaf) s.heap.objs.size T.f__law_leaf cdv))) :
    PSs (cxOf CX0 P w K mg base ["_law_pool_here", "_law_names"] "_law_leaf" (defScope s__law_leaf) T.f__law_leaf cdv A outer s H E).nox (defBody s__law_leaf) (t__law_leaf K ap__law_take ap__law_name ap__law_prose) := 
      (pss_cons (ps_if (pt_cmpR (op_eqG hr.units) (pe_call G__law_take (hr.mono (by decide)) (by rfl) T.g__law_take T.F__law_take.kp T.b__law_take .nil pass0 (pa_cons (pv 0) (pa_cons pe_int pa_nil))) pe_int (nomark _)) (pss_one (ps_ret (pe_tup (pa_cons pe_str (pa_cons (pe_call G__law_name (hr.mono (by decide)) (by rfl) T.g__law_name T.F__law_name.kp T.b__law_name .nil pass0 (pa_cons (pv 0) (pa_cons (pv 1) pa_nil))) pa_nil))))) pss_nil)
      (pss_one (ps_ret (pe_call G__law_prose (hr.mono (by decide)) (by rfl) T.g__law_prose T.F__law_prose.kp T.b__law_prose .nil pass0 (pa_cons (pv 0) (pa_cons pe_int pa_nil))))))
theorem tm__law_full_row {ap__law_leaf : AP} {ap__law_marks : AP} {ap__law_name : AP} {ap__law_wrapped : AP} {ap__law_take : AP} (T : Txt K mg) (G__law_leaf : FnOk P w K mg base CX0 4 T.f__law_leaf T.fd__law_leaf ["_law_pool_here", "_law_names"] (toSp K ap__law_leaf)) (G__law_marks : FnOk P w K mg base CX0 4 T.f__law_marks T.fd__law_marks ["_law_pool_here", "_law_names"] (toSp K ap__law_marks)) (G__law_name : FnOk P w K mg base CX0 3 T.f__law_name T.fd__law_name ["_law_pool_here", "_law_names"] (toSp K ap__law_name)) (G__law_wrapped : FnOk P w K mg base CX0 4 T.f__law_wrapped T.fd__law_wrapped ["_law_pool_here", "_law_names", "_law_item_here", "_law_many"] (toSp K ap__law_wrapped)) (G__law_take : FnOk P w K mg base CX0 1 T.f__law_take T.fd__law_take ["_law_pool_here", "_law_many"] (toSp K ap__law_take)) (cdv : Value) (A : Around) (outer : List PySem.Env) (s : Shared) (H : Hp) (E : XK) (hr : Room 4 (A.deeper (PyProof.Rows.envOfC "_law_full_row" (defScope s__law_full_row) s.heap.objs.size T.f__law_full_row cdv))) :
    PSs (cxOf CX0 P w K mg base ["_law_pool_here", "_law_names", "_law_shift", "_law_row", "_law_part_here", "_law_k"] "_law_full_row" (defScope s__law_full_row) T.f__law_full_row cdv A outer s H E).nox (defBody s__law_full_row) (t__law_full_row K ap__law_leaf ap__law_marks ap__law_name ap__law_wrapped ap__law_take) := 
      (pss_cons (ps_set (i := 3) sc__law_full_row.nd rfl (Or.inl rfl) (pe_callTy call_tuple_of (by rfl) T.m_tuple bi_tuple (pa_cons (pe_lc (own := [("_law_k", 5)]) (g := (gName 5)) (tt := tYes) (by rfl) sc__law_full_row.nd (pi_range1 (by rfl) T.m_range (pa_cons (pe_op op_addG pe_int (pv 2)) pa_nil)) (blkOk_by (own := [("_law_k", 5)]) (N := ["_law_pool_here", "_law_names", "_law_shift", "_law_row", "_law_part_here", "_law_k"]) (sc := defScope s__law_full_row) (by decide +kernel)) (fun _ _ _ _ _ => (pg_name (i := 5) sc__law_full_row.nd rfl (Or.inl rfl))) (fun _ _ _ _ _ => pts_nil) (fun _ _ _ _ _ => (pe_call G__law_leaf (hr.mono (by decide)) (by rfl) T.g__law_leaf T.F__law_leaf.kp T.b__law_leaf .nil pass0 (pa_cons (pv 0) (pa_cons (pv 1) pa_nil))))) pa_nil)))
      (pss_cons (ps_set (i := 4) sc__law_full_row.nd rfl (Or.inl rfl) (pe_tup (pa_cons (pe_call G__law_name (hr.mono (by decide)) (by rfl) T.g__law_name T.F__law_name.kp T.b__law_name .nil pass0 (pa_cons (pv 0) (pa_cons (pv 1) pa_nil))) (pa_cons (pe_call G__law_marks (hr.mono (by decide)) (by rfl) T.g__law_marks T.F__law_marks.kp T.b__law_marks .nil pass0 (pa_cons (pv 0) (pa_cons (pv 1) pa_nil))) (pa_cons (pv 3) pa_nil)))))
      (pss_one (ps_ret (pe_call G__law_wrapped (hr.mono (by decide)) (by rfl) T.g__law_wrapped T.F__law_wrapped.kp T.b__law_wrapped .nil pass0 (pa_cons (pv 0) (pa_cons (pv 1) (pa_cons (pv 4) (pa_cons (pe_call G__law_take (hr.mono (by decide)) (by rfl) T.g__law_take T.F__law_take.kp T.b__law_take .nil pass0 (pa_cons (pv 0) (pa_cons pe_int pa_nil))) pa_nil)))))))))
theorem tm__law_full_count {ap__law_take : AP} {ap__law_leaf : AP} {ap__law_name : AP} (T : Txt K mg) (G__law_take : FnOk P w K mg base CX0 1 T.f__law_take T.fd__law_take ["_law_pool_here", "_law_many"] (toSp K ap__law_take)) (G__law_leaf : FnOk P w K mg base CX0 4 T.f__law_leaf T.fd__law_leaf ["_law_pool_here", "_law_names"] (toSp K ap__law_leaf)) (G__law_name : FnOk P w K mg base CX0 3 T.f__law_name T.fd__law_name ["_law_pool_here", "_law_names"] (toSp K ap__law_name)) (cdv : Value) (A : Around) (outer : List PySem.Env) (s : Shared) (H : Hp) (E : XK) (hr : Room 4 (A.deeper (PyProof.Rows.envOfC "_law_full_count" (defScope s__law_full_count) s.heap.objs.size T.f__law_full_count cdv))) :
    PSs (cxOf CX0 P w K mg base ["_law_pool_here", "_law_names", "_law_shift", "_law_odd", "_law_rows", "_law_k", "_law_many", "_law_row", "_law_j"] "_law_full_count" (defScope s__law_full_count) T.f__law_full_count cdv A outer s H E).nox (defBody s__law_full_count) (t__law_full_count K ap__law_take ap__law_leaf ap__law_name) := 
      (pss_cons (ps_set (i := 3) sc__law_full_count.nd rfl (Or.inl rfl) (pe_call G__law_take (hr.mono (by decide)) (by rfl) T.g__law_take T.F__law_take.kp T.b__law_take .nil pass0 (pa_cons (pv 0) (pa_cons pe_int pa_nil))))
      (pss_cons (ps_set (i := 4) sc__law_full_count.nd rfl (Or.inl rfl) (pe_lst pa_nil))
      (pss_cons (ps_for PassesOwn.never rfl (pi_range1 (by rfl) T.m_range (pa_cons pe_int pa_nil)) (pg_name (i := 5) sc__law_full_count.nd rfl (Or.inl rfl)) (pss_cons (ps_set (i := 6) sc__law_full_count.nd rfl (Or.inl rfl) (pe_op op_sub pe_int (pe_op op_mulG (pe_op op_sub pe_int (pv 2)) (pe_callTy call_int1 (by rfl) T.m_int bi_int (pa_cons (pe_cmpR (op_eqG hr.units) (pv 5) (pv 3) (nomark _)) pa_nil)))))
      (pss_cons (ps_set (i := 7) sc__law_full_count.nd rfl (Or.inl rfl) (pe_callTy call_tuple_of (by rfl) T.m_tuple bi_tuple (pa_cons (pe_lc (own := [("_law_j", 8)]) (g := (gName 8)) (tt := tYes) (by rfl) sc__law_full_count.nd (pi_range1 (by rfl) T.m_range (pa_cons (pv 6) pa_nil)) (blkOk_by (own := [("_law_j", 8)]) (N := ["_law_pool_here", "_law_names", "_law_shift", "_law_odd", "_law_rows", "_law_k", "_law_many", "_law_row", "_law_j"]) (sc := defScope s__law_full_count) (by decide +kernel)) (fun _ _ _ _ _ => (pg_name (i := 8) sc__law_full_count.nd rfl (Or.inl rfl))) (fun _ _ _ _ _ => pts_nil) (fun _ _ _ _ _ => (pe_call G__law_leaf (hr.mono (by decide)) (by rfl) T.g__law_leaf T.F__law_leaf.kp T.b__law_leaf .nil pass0 (pa_cons (pv 0) (pa_cons (pv 1) pa_nil))))) pa_nil)))
      (pss_one (ps_expr (pe_bm PySem.F.plainAttrs_list PySem.F.slot_list_append PySem.F.type_list_append mt_append (pv 4) (pa_cons (pe_tup (pa_cons (pe_call G__law_name (hr.mono (by decide)) (by rfl) T.g__law_name T.F__law_name.kp T.b__law_name .nil pass0 (pa_cons (pv 0) (pa_cons (pv 1) pa_nil))) (pa_cons (pe_tup pa_nil) (pa_cons (pv 7) pa_nil)))) pa_nil)))))))
      (pss_one (ps_ret (pe_tup (pa_cons (pe_call G__law_name (hr.mono (by decide)) (by rfl) T.g__law_name T.F__law_name.kp T.b__law_name .nil pass0 (pa_cons (pv 0) (pa_cons (pv 1) pa_nil))) (pa_cons (pe_tup pa_nil) (pa_cons (pe_callTy call_tuple_of (by rfl) T.m_tuple bi_tuple (pa_cons (pv 4) pa_nil)) pa_nil)))))))))
theorem tm__law_full_prose {ap__law_take : AP} {ap__law_prose : AP} {ap__law_wrapped : AP} {ap__law_name : AP} (T : Txt K mg) (G__law_take : FnOk P w K mg base CX0 1 T.f__law_take T.fd__law_take ["_law_pool_here", "_law_many"] (toSp K ap__law_take)) (G__law_prose : FnOk P w K mg base CX0 2 T.f__law_prose T.fd__law_prose ["_law_pool_here", "_law_many"] (toSp K ap__law_prose)) (G__law_wrapped : FnOk P w K mg base CX0 4 T.f__law_wrapped T.fd__law_wrapped ["_law_pool_here", "_law_names", "_law_item_here", "_law_many"] (toSp K ap__law_wrapped)) (G__law_name : FnOk P w K mg base CX0 3 T.f__law_name T.fd__law_name ["_law_pool_here", "_law_names"] (toSp K ap__law_name)) (cdv : Value) (A : Around) (outer : List PySem.Env) (s : Shared) (H : Hp) (E : XK) (hr : Room 4 (A.deeper (PyProof.Rows.envOfC "_law_full_prose" (defScope s__law_full_prose) s.heap.objs.size T.f__law_full_prose cdv))) :
    PSs (cxOf CX0 P w K mg base ["_law_pool_here", "_law_names", "_law_shift", "_law_odd", "_law_rows", "_law_k", "_law_text_here"] "_law_full_prose" (defScope s__law_full_prose) T.f__law_full_prose cdv A outer s H E).nox (defBody s__law_full_prose) (t__law_full_prose K ap__law_take ap__law_prose ap__law_wrapped ap__law_name) := 
      (pss_cons (ps_set (i := 3) sc__law_full_prose.nd rfl (Or.inl rfl) (pe_call G__law_take (hr.mono (by decide)) (by rfl) T.g__law_take T.F__law_take.kp T.b__law_take .nil pass0 (pa_cons (pv 0) (pa_cons pe_int pa_nil))))
      (pss_cons (ps_set (i := 4) sc__law_full_prose.nd rfl (Or.inl rfl) (pe_lst pa_nil))
      (pss_cons (ps_for PassesOwn.never rfl (pi_range1 (by rfl) T.m_range (pa_cons pe_int pa_nil)) (pg_name (i := 5) sc__law_full_prose.nd rfl (Or.inl rfl)) (pss_cons (ps_set (i := 6) sc__law_full_prose.nd rfl (Or.inl rfl) (pe_call G__law_prose (hr.mono (by decide)) (by rfl) T.g__law_prose T.F__law_prose.kp T.b__law_prose .nil pass0 (pa_cons (pv 0) (pa_cons (pe_op op_sub pe_int (pe_op op_mulG (pe_op op_sub pe_int (pv 2)) (pe_callTy call_int1 (by rfl) T.m_int bi_int (pa_cons (pe_cmpR (op_eqG hr.units) (pv 5) (pv 3) (nomark _)) pa_nil)))) pa_nil))))
      (pss_one (ps_expr (pe_bm PySem.F.plainAttrs_list PySem.F.slot_list_append PySem.F.type_list_append mt_append (pv 4) (pa_cons (pe_call G__law_wrapped (hr.mono (by decide)) (by rfl) T.g__law_wrapped T.F__law_wrapped.kp T.b__law_wrapped .nil pass0 (pa_cons (pv 0) (pa_cons (pv 1) (pa_cons (pv 6) (pa_cons (pe_call G__law_take (hr.mono (by decide)) (by rfl) T.g__law_take T.F__law_take.kp T.b__law_take .nil pass0 (pa_cons (pv 0) (pa_cons pe_int pa_nil))) pa_nil))))) pa_nil))))))
      (pss_one (ps_ret (pe_tup (pa_cons (pe_call G__law_name (hr.mono (by decide)) (by rfl) T.g__law_name T.F__law_name.kp T.b__law_name .nil pass0 (pa_cons (pv 0) (pa_cons (pv 1) pa_nil))) (pa_cons (pe_tup pa_nil) (pa_cons (pe_callTy call_tuple_of (by rfl) T.m_tuple bi_tuple (pa_cons (pv 4) pa_nil)) pa_nil)))))))))
theorem tm__law_full_depth {ap__law_marks : AP} {ap__law_name : AP} {ap__law_take : AP} {ap__law_leaf : AP} (T : Txt K mg) (G__law_marks : FnOk P w K mg base CX0 4 T.f__law_marks T.fd__law_marks ["_law_pool_here", "_law_names"] (toSp K ap__law_marks)) (G__law_name : FnOk P w K mg base CX0 3 T.f__law_name T.fd__law_name ["_law_pool_here", "_law_names"] (toSp K ap__law_name)) (G__law_take : FnOk P w K mg base CX0 1 T.f__law_take T.fd__law_take ["_law_pool_here", "_law_many"] (toSp K ap__law_take)) (G__law_leaf : FnOk P w K mg base CX0 4 T.f__law_leaf T.fd__law_leaf ["_law_pool_here", "_law_names"] (toSp K ap__law_leaf)) (cdv : Value) (A : Around) (outer : List PySem.Env) (s : Shared) (H : Hp) (E : XK) (hr : Room 4 (A.deeper (PyProof.Rows.envOfC "_law_full_depth" (defScope s__law_full_depth) s.heap.objs.size T.f__law_full_depth cdv))) :
    PSs (cxOf CX0 P w K mg base ["_law_pool_here", "_law_names", "_law_shift", "_law_item_here", "_law_turn", "_law_row"] "_law_full_depth" (defScope s__law_full_depth) T.f__law_full_depth cdv A outer s H E).nox (defBody s__law_full_depth) (t__law_full_depth K ap__law_marks ap__law_name ap__law_take ap__law_leaf) := 
      (pss_cons (ps_set (i := 3) sc__law_full_depth.nd rfl (Or.inl rfl) (pe_tup (pa_cons (pe_call G__law_name (hr.mono (by decide)) (by rfl) T.g__law_name T.F__law_name.kp T.b__law_name .nil pass0 (pa_cons (pv 0) (pa_cons (pv 1) pa_nil))) (pa_cons (pe_call G__law_marks (hr.mono (by decide)) (by rfl) T.g__law_marks T.F__law_marks.kp T.b__law_marks .nil pass0 (pa_cons (pv 0) (pa_cons (pv 1) pa_nil))) (pa_cons (pe_tup pa_nil) pa_nil)))))
      (pss_cons (ps_if (pt_cmpR (op_eqG hr.units) (pe_call G__law_take (hr.mono (by decide)) (by rfl) T.g__law_take T.F__law_take.kp T.b__law_take .nil pass0 (pa_cons (pv 0) (pa_cons pe_int pa_nil))) pe_int (nomark _)) (pss_one (ps_set (i := 3) sc__law_full_depth.nd rfl (Or.inl rfl) (pe_tup (pa_cons (pe_ix ix_seq (pv 3) pe_int (fun _ _ => rfl)) (pa_cons (pe_ix ix_seq (pv 3) pe_int (fun _ _ => rfl)) (pa_cons (pe_tup (pa_cons (pe_call G__law_leaf (hr.mono (by decide)) (by rfl) T.g__law_leaf T.F__law_leaf.kp T.b__law_leaf .nil pass0 (pa_cons (pv 0) (pa_cons (pv 1) pa_nil))) pa_nil)) pa_nil)))))) pss_nil)
      (pss_cons (ps_for PassesOwn.never rfl (pi_range1 (by rfl) T.m_range (pa_cons (pe_op op_addG pe_int (pv 2)) pa_nil)) (pg_name (i := 4) sc__law_full_depth.nd rfl (Or.inl rfl)) (pss_cons (ps_set (i := 5) sc__law_full_depth.nd rfl (Or.inl rfl) (pe_tup (pa_cons (pv 3) pa_nil)))
      (pss_cons (ps_if (pt_cmpR (op_eqG hr.units) (pe_call G__law_take (hr.mono (by decide)) (by rfl) T.g__law_take T.F__law_take.kp T.b__law_take .nil pass0 (pa_cons (pv 0) (pa_cons pe_int pa_nil))) pe_int (nomark _)) (pss_one (ps_set (i := 5) sc__law_full_depth.nd rfl (Or.inl rfl) (pe_tup (pa_cons (pe_call G__law_leaf (hr.mono (by decide)) (by rfl) T.g__law_leaf T.F__law_leaf.kp T.b__law_leaf .nil pass0 (pa_cons (pv 0) (pa_cons (pv 1) pa_nil))) (pa_cons (pv 3) pa_nil))))) pss_nil)
      (pss_one (ps_set (i := 3) sc__law_full_depth.nd rfl (Or.inl rfl) (pe_tup (pa_cons (pe_call G__law_name (hr.mono (by decide)) (by rfl) T.g__law_name T.F__law_name.kp T.b__law_name .nil pass0 (pa_cons (pv 0) (pa_cons (pv 1) pa_nil))) (pa_cons (pe_tup pa_nil) (pa_cons (pv 5) pa_nil)))))))))
      (pss_one (ps_ret (pv 3))))))
theorem tm__law_full_refs {ap__law_name : AP} {ap__law_wrapped : AP} {ap__law_take : AP} {ap__law_leaf : AP} (T : Txt K mg) (G__law_name : FnOk P w K mg base CX0 3 T.f__law_name T.fd__law_name ["_law_pool_here", "_law_names"] (toSp K ap__law_name)) (G__law_wrapped : FnOk P w K mg base CX0 4 T.f__law_wrapped T.fd__law_wrapped ["_law_pool_here", "_law_names", "_law_item_here", "_law_many"] (toSp K ap__law_wrapped)) (G__law_take : FnOk P w K mg base CX0 1 T.f__law_take T.fd__law_take ["_law_pool_here", "_law_many"] (toSp K ap__law_take)) (G__law_leaf : FnOk P w K mg base CX0 4 T.f__law_leaf T.fd__law_leaf ["_law_pool_here", "_law_names"] (toSp K ap__law_leaf)) (cdv : Value) (A : Around) (outer : List PySem.Env) (s : Shared) (H : Hp) (E : XK) (hr : Room 4 (A.deeper (PyProof.Rows.envOfC "_law_full_refs" (defScope s__law_full_refs) s.heap.objs.size T.f__law_full_refs cdv))) :
    PSs (cxOf CX0 P w K mg base ["_law_pool_here", "_law_names", "_law_shift", "_law_rows", "_law_k", "_law_name_here"] "_law_full_refs" (defScope s__law_full_refs) T.f__law_full_refs cdv A outer s H E).nox (defBody s__law_full_refs) (t__law_full_refs K ap__law_name ap__law_wrapped ap__law_take ap__law_leaf) := 
      (pss_cons (ps_set (i := 3) sc__law_full_refs.nd rfl (Or.inl rfl) (pe_lst pa_nil))
      (pss_cons (ps_for PassesOwn.never rfl (pi_range1 (by rfl) T.m_range (pa_cons (pe_op op_addG pe_int (pv 2)) pa_nil)) (pg_name (i := 4) sc__law_full_refs.nd rfl (Or.inl rfl)) (pss_cons (ps_set (i := 5) sc__law_full_refs.nd rfl (Or.inl rfl) (pe_call G__law_name (hr.mono (by decide)) (by rfl) T.g__law_name T.F__law_name.kp T.b__law_name .nil pass0 (pa_cons (pv 0) (pa_cons (pv 1) pa_nil))))
      (pss_cons (ps_expr (pe_bm PySem.F.plainAttrs_list PySem.F.slot_list_append PySem.F.type_list_append mt_append (pv 3) (pa_cons (pe_call G__law_wrapped (hr.mono (by decide)) (by rfl) T.g__law_wrapped T.F__law_wrapped.kp T.b__law_wrapped .nil pass0 (pa_cons (pv 0) (pa_cons (pv 1) (pa_cons (pe_tup (pa_cons pe_str (pa_cons (pv 5) pa_nil))) (pa_cons (pe_call G__law_take (hr.mono (by decide)) (by rfl) T.g__law_take T.F__law_take.kp T.b__law_take .nil pass0 (pa_cons (pv 0) (pa_cons pe_int pa_nil))) pa_nil))))) pa_nil)))
      (pss_one (ps_expr (pe_bm PySem.F.plainAttrs_list PySem.F.slot_list_append PySem.F.type_list_append mt_append (pv 3) (pa_cons (pe_call G__law_leaf (hr.mono (by decide)) (by rfl) T.g__law_leaf T.F__law_leaf.kp T.b__law_leaf .nil pass0 (pa_cons (pv 0) (pa_cons (pv 1) pa_nil))) pa_nil)))))))
      (pss_one (ps_ret (pe_tup (pa_cons (pe_call G__law_name (hr.mono (by decide)) (by rfl) T.g__law_name T.F__law_name.kp T.b__law_name .nil pass0 (pa_cons (pv 0) (pa_cons (pv 1) pa_nil))) (pa_cons (pe_tup pa_nil) (pa_cons (pe_callTy call_tuple_of (by rfl) T.m_tuple bi_tuple (pa_cons (pv 3) pa_nil)) pa_nil))))))))
theorem tm__law_edge {ap__law_take : AP} {ap__law_full_row : AP} {ap__law_full_count : AP} {ap__law_full_prose : AP} {ap__law_full_depth : AP} {ap__law_full_refs : AP} (T : Txt K mg) (G__law_take : FnOk P w K mg base CX0 1 T.f__law_take T.fd__law_take ["_law_pool_here", "_law_many"] (toSp K ap__law_take)) (G__law_full_row : FnOk P w K mg base CX0 5 T.f__law_full_row T.fd__law_full_row ["_law_pool_here", "_law_names", "_law_shift"] (toSp K ap__law_full_row)) (G__law_full_count : FnOk P w K mg base CX0 5 T.f__law_full_count T.fd__law_full_count ["_law_pool_here", "_law_names", "_law_shift"] (toSp K ap__law_full_count)) (G__law_full_prose : FnOk P w K mg base CX0 5 T.f__law_full_prose T.fd__law_full_prose ["_law_pool_here", "_law_names", "_law_shift"] (toSp K ap__law_full_prose)) (G__law_full_depth : FnOk P w K mg base CX0 5 T.f__law_full_depth T.fd__law_full_depth ["_law_pool_here", "_law_names", "_law_shift"] (toSp K ap__law_full_depth)) (G__law_full_refs : FnOk P w K mg base CX0 5 T.f__law_full_refs T.fd__law_full_refs ["_law_pool_here", "_law_names", "_law_shift"] (toSp K ap__law_full_refs)) (cdv : Value) (A : Around) (outer : List PySem.Env) (s : Shared) (H : Hp) (E : XK) (hr : Room 5 (A.deeper (PyProof.Rows.envOfC "_law_edge" (defScope s__law_edge) s.heap.objs.size T.f__law_edge cdv))) :
    PSs (cxOf CX0 P w K mg base ["_law_pool_here", "_law_names", "_law_shift", "_law_sort"] "_law_edge" (defScope s__law_edge) T.f__law_edge cdv A outer s H E).nox (defBody s__law_edge) (t__law_edge K ap__law_take ap__law_full_row ap__law_full_count ap__law_full_prose ap__law_full_depth ap__law_full_refs) := 
      (pss_cons (ps_set (i := 3) sc__law_edge.nd rfl (Or.inl rfl) (pe_call G__law_take (hr.mono (by decide)) (by rfl) T.g__law_take T.F__law_take.kp T.b__law_take .nil pass0 (pa_cons (pv 0) (pa_cons pe_int pa_nil))))
      (pss_cons (ps_if (pt_cmpR (op_eqG hr.units) (pv 3) pe_int (nomark _)) (pss_one (ps_ret (pe_call G__law_full_row (hr.mono (by decide)) (by rfl) T.g__law_full_row T.F__law_full_row.kp T.b__law_full_row .nil pass0 (pa_cons (pv 0) (pa_cons (pv 1) (pa_cons (pv 2) pa_nil)))))) pss_nil)
      (pss_cons (ps_if (pt_cmpR (op_eqG hr.units) (pv 3) pe_int (nomark _)) (pss_one (ps_ret (pe_call G__law_full_count (hr.mono (by decide)) (by rfl) T.g__law_full_count T.F__law_full_count.kp T.b__law_full_count .nil pass0 (pa_cons (pv 0) (pa_cons (pv 1) (pa_cons (pv 2) pa_nil)))))) pss_nil)
      (pss_cons (ps_if (pt_cmpR (op_eqG hr.units) (pv 3) pe_int (nomark _)) (pss_one (ps_ret (pe_call G__law_full_prose (hr.mono (by decide)) (by rfl) T.g__law_full_prose T.F__law_full_prose.kp T.b__law_full_prose .nil pass0 (pa_cons (pv 0) (pa_cons (pv 1) (pa_cons (pv 2) pa_nil)))))) pss_nil)
      (pss_cons (ps_if (pt_cmpR (op_eqG hr.units) (pv 3) pe_int (nomark _)) (pss_one (ps_ret (pe_call G__law_full_depth (hr.mono (by decide)) (by rfl) T.g__law_full_depth T.F__law_full_depth.kp T.b__law_full_depth .nil pass0 (pa_cons (pv 0) (pa_cons (pv 1) (pa_cons (pv 2) pa_nil)))))) pss_nil)
      (pss_one (ps_ret (pe_call G__law_full_refs (hr.mono (by decide)) (by rfl) T.g__law_full_refs T.F__law_full_refs.kp T.b__law_full_refs .nil pass0 (pa_cons (pv 0) (pa_cons (pv 1) (pa_cons (pv 2) pa_nil)))))))))))
theorem tm__law_paths {ap__law_paths : AP} (T : Txt K mg) {k : Nat} (G__law_paths : FnOk P w K mg base CX0 k T.f__law_paths T.fd__law_paths ["_law_item_here", "_law_path"] (toSp K ap__law_paths)) (cdv : Value) (A : Around) (outer : List PySem.Env) (s : Shared) (H : Hp) (E : XK) (hr : Room k (A.deeper (PyProof.Rows.envOfC "_law_paths" (defScope s__law_paths) s.heap.objs.size T.f__law_paths cdv))) :
    PSs (cxOf CX0 P w K mg base ["_law_item_here", "_law_path", "_law_rows", "_law_k"] "_law_paths" (defScope s__law_paths) T.f__law_paths cdv A outer s H E).nox (defBody s__law_paths) (t__law_paths K ap__law_paths) := 
      (pss_cons (ps_set (i := 2) sc__law_paths.nd rfl (Or.inl rfl) (pe_lst (pa_cons (pe_tup (pa_cons (pv 1) (pa_cons (pv 0) pa_nil))) pa_nil)))
      (pss_cons (ps_if (PW.pt (pw_and (pt_val (pe_callB call_isi (by rfl) T.m_isinstance bi_isinstance (pa_cons (pv 0) (pa_cons (pe_bltn (v := .ty "tuple") (by rfl) T.m_tuple bi_tuple rfl) pa_nil)))) (pw_and1 (pt_cmpR (op_eqG hr.units) (pe_callB call_len (by rfl) T.m_len bi_len (pa_cons (pv 0) pa_nil)) pe_int (nomark _))))) (pss_one (ps_for PassesOwn.never rfl (pi_range1 (by rfl) T.m_range (pa_cons (pe_callB call_len (by rfl) T.m_len bi_len (pa_cons (pe_ix ix_seq (pv 0) pe_int (fun _ _ => rfl)) pa_nil)) pa_nil)) (pg_name (i := 3) sc__law_paths.nd rfl (Or.inl rfl)) (pss_one (ps_expr (pe_bm PySem.F.plainAttrs_list PySem.F.slot_list_extend PySem.F.type_list_extend mt_extend (pv 2) (pa_cons (pe_call G__law_paths hr (by rfl) T.g__law_paths T.F__law_paths.kp T.b__law_paths .nil pass0 (pa_cons (pe_ix ix_seq (pe_ix ix_seq (pv 0) pe_int (fun _ _ => rfl)) (pv 3) (fun _ _ => rfl)) (pa_cons (pe_op op_addG (pv 1) (pe_tup (pa_cons (pv 3) pa_nil))) pa_nil))) pa_nil)))))) pss_nil)
      (pss_one (ps_ret (pv 2)))))
theorem tm__law_sizes {ap__law_sizes : AP} (T : Txt K mg) {k : Nat} (G__law_sizes : FnOk P w K mg base CX0 k T.f__law_sizes T.fd__law_sizes ["_law_item_here", "_law_depth"] (toSp K ap__law_sizes)) (cdv : Value) (A : Around) (outer : List PySem.Env) (s : Shared) (H : Hp) (E : XK) (hr : Room k (A.deeper (PyProof.Rows.envOfC "_law_sizes" (defScope s__law_sizes) s.heap.objs.size T.f__law_sizes cdv))) :
    PSs (cxOf CX0 P w K mg base ["_law_item_here", "_law_depth", "_law_sizes_here", "_law_one", "_law_more", "_law_total", "_law_k"] "_law_sizes" (defScope s__law_sizes) T.f__law_sizes cdv A outer s H E).nox (defBody s__law_sizes) (t__law_sizes K ap__law_sizes) := 
      (pss_cons (ps_if (pt_val (pe_callB call_isi (by rfl) T.m_isinstance bi_isinstance (pa_cons (pv 0) (pa_cons (pe_bltn (v := .ty "str") (by rfl) T.m_str bi_str rfl) pa_nil)))) (pss_one (ps_ret (pe_lst (pa_cons pe_int (pa_cons (pe_callB call_len (by rfl) T.m_len bi_len (pa_cons (pv 0) pa_nil)) (pa_cons (pe_op op_sub (pv 1) pe_int) (pa_cons pe_int (pa_cons pe_int pa_nil)))))))) pss_nil)
      (pss_cons (ps_if (pt_cmpR (op_eqG hr.units) (pe_callB call_len (by rfl) T.m_len bi_len (pa_cons (pv 0) pa_nil)) pe_int (nomark _)) (pss_one (ps_ret (pe_lst (pa_cons pe_int (pa_cons pe_int (pa_cons (pe_op op_sub (pv 1) pe_int) (pa_cons (pe_callTy call_int1 (by rfl) T.m_int bi_int (pa_cons (pe_cmpR (op_eqG hr.units) (pe_ix ix_seq (pv 0) pe_int (fun _ _ => rfl)) pe_str (nomark _)) pa_nil)) (pa_cons pe_int pa_nil)))))))) pss_nil)
      (pss_cons (ps_set (i := 2) sc__law_sizes.nd rfl (Or.inr rfl) (pe_lst (pa_cons pe_int (pa_cons pe_int (pa_cons (pv 1) (pa_cons pe_int (pa_cons (pe_callB call_len (by rfl) T.m_len bi_len (pa_cons (pe_ix ix_seq (pv 0) pe_int (fun _ _ => rfl)) pa_nil)) pa_nil)))))))
      (pss_cons (ps_for PassesOwn.never rfl (pi_tup (pe_ix ix_seq (pv 0) pe_int (fun _ _ => rfl))) (pg_name (i := 3) sc__law_sizes.nd rfl (Or.inl rfl)) (pss_cons (ps_set (i := 4) sc__law_sizes.nd rfl (Or.inr rfl) (pe_call G__law_sizes hr (by rfl) T.g__law_sizes T.F__law_sizes.kp T.b__law_sizes .nil pass0 (pa_cons (pv 3) (pa_cons (pe_op op_addG (pv 1) pe_int) pa_nil))))
      (pss_cons (ps_setLc (i := 5) (own := [("_law_k", 6)]) (g := (gName 6)) (tt := tYes) (by rfl) sc__law_sizes.nd rfl rfl (sw_true rfl rfl rfl (by decide +kernel)) (pi_range1 (by rfl) T.m_range (pa_cons pe_int pa_nil)) (blkOk_by (own := [("_law_k", 6)]) (N := ["_law_item_here", "_law_depth", "_law_sizes_here", "_law_one", "_law_more", "_law_total", "_law_k"]) (sc := defScope s__law_sizes) (by decide +kernel)) (fun _ _ _ _ _ => (pg_name (i := 6) sc__law_sizes.nd rfl (Or.inl rfl))) (fun _ _ _ _ _ => pts_nil) (fun _ _ _ _ _ => (pe_op op_addG (pe_ix ix_seq (pv 2) (pv 6) (fun _ _ => rfl)) (pe_ix ix_seq (pv 4) (pv 6) (fun _ _ => rfl)))))
      (pss_cons (ps_asg (pe_callB (call_max2 rfl) (by rfl) T.m_max bi_max (pa_cons (pe_callTy call_int1 (by rfl) T.m_int bi_int (pa_cons (pe_ix ix_seq (pv 2) pe_int (fun _ _ => rfl)) pa_nil)) (pa_cons (pe_ix ix_seq (pv 4) pe_int (fun _ _ => rfl)) pa_nil))) (pg_sub (pv 5) pe_int set_list))
      (pss_cons (ps_asg (pe_callB (call_max2 rfl) (by rfl) T.m_max bi_max (pa_cons (pe_callTy call_int1 (by rfl) T.m_int bi_int (pa_cons (pe_ix ix_seq (pv 2) pe_int (fun _ _ => rfl)) pa_nil)) (pa_cons (pe_ix ix_seq (pv 4) pe_int (fun _ _ => rfl)) pa_nil))) (pg_sub (pv 5) pe_int set_list))
      (pss_one (ps_set (i := 2) sc__law_sizes.nd rfl (Or.inr rfl) (pv 5))))))))
      (pss_one (ps_ret (pv 2)))))))
theorem tm__law_let {ap__law_sizes : AP} (T : Txt K mg) (G__law_sizes : FnOk P w K mg base CX0 30 T.f__law_sizes T.fd__law_sizes ["_law_item_here", "_law_depth"] (toSp K ap__law_sizes)) (cdv : Value) (A : Around) (outer : List PySem.Env) (s : Shared) (H : Hp) (E : XK) (hr : Room 30 (A.deeper (PyProof.Rows.envOfC "_law_let" (defScope s__law_let) s.heap.objs.size T.f__law_let cdv))) :
    PSs (cxOf CX0 P w K mg base ["_law_root", "_law_sizes_here", "_law_bounds", "_law_k"] "_law_let" (defScope s__law_let) T.f__law_let cdv A outer s H E).nox (defBody s__law_let) (t__law_let K ap__law_sizes) := 
      (pss_cons (ps_set (i := 1) sc__law_let.nd rfl (Or.inr rfl) (pe_call G__law_sizes (hr.mono (by decide)) (by rfl) T.g__law_sizes T.F__law_sizes.kp T.b__law_sizes .nil pass0 (pa_cons (pv 0) (pa_cons pe_int pa_nil))))
      (pss_cons (ps_set (i := 2) sc__law_let.nd rfl (Or.inr rfl) (pe_lst (pa_cons pe_int (pa_cons pe_int (pa_cons pe_int (pa_cons pe_int (pa_cons pe_int pa_nil)))))))
      (pss_one (ps_ret (pe_cmpR (op_eqG hr.units) (pe_callB call_len (by rfl) T.m_len bi_len (pa_cons (pe_lc (own := [("_law_k", 3)]) (g := (gName 3)) (tt := (tTest (tOp rGtI (tOp (rIx K) (tVar 1) (tVar 3)) (tOp (rIx K) (tVar 2) (tVar 3))))) (by rfl) sc__law_let.nd (pi_range1 (by rfl) T.m_range (pa_cons pe_int pa_nil)) (blkOk_by (own := [("_law_k", 3)]) (N := ["_law_root", "_law_sizes_here", "_law_bounds", "_law_k"]) (sc := defScope s__law_let) (by decide +kernel)) (fun _ _ _ _ _ => (pg_name (i := 3) sc__law_let.nd rfl (Or.inl rfl))) (fun _ _ _ _ _ => (pts_one (pt_cmpR op_gt (pe_ix ix_seq (pv 1) (pv 3) (fun _ _ => rfl)) (pe_ix ix_seq (pv 2) (pv 3) (fun _ _ => rfl)) (nomark _)))) (fun _ _ _ _ _ => (pv 3))) pa_nil)) pe_int (nomark _))))))
theorem tm__law_written {ap__law_written : AP} (T : Txt K mg) {k : Nat} (G__law_written : FnOk P w K mg base CX0 k T.f__law_written T.fd__law_written ["_law_item_here"] (toSp K ap__law_written)) (cdv : Value) (A : Around) (outer : List PySem.Env) (s : Shared) (H : Hp) (E : XK) (hr : Room k (A.deeper (PyProof.Rows.envOfC "_law_written" (defScope s__law_written) s.heap.objs.size T.f__law_written cdv))) :
    PSs (cxOf CX0 P w K mg base ["_law_item_here", "_law_rest", "_law_one"] "_law_written" (defScope s__law_written) T.f__law_written cdv A outer s H E).nox (defBody s__law_written) (t__law_written K ap__law_written) := 
      (pss_cons (ps_if (pt_val (pe_callB call_isi (by rfl) T.m_isinstance bi_isinstance (pa_cons (pv 0) (pa_cons (pe_bltn (v := .ty "str") (by rfl) T.m_str bi_str rfl) pa_nil)))) (pss_one (ps_ret (pe_op op_addG (pe_op op_addG pe_str (pv 0)) pe_str))) pss_nil)
      (pss_cons (ps_if (pt_cmpR (op_eqG hr.units) (pe_callB call_len (by rfl) T.m_len bi_len (pa_cons (pv 0) pa_nil)) pe_int (nomark _)) (pss_one (ps_ret (pe_op op_addG (pe_ix ix_seq (pv 0) pe_int (fun _ _ => rfl)) (pe_ix ix_seq (pv 0) pe_int (fun _ _ => rfl))))) pss_nil)
      (pss_cons (ps_set (i := 1) sc__law_written.nd rfl (Or.inl rfl) (pe_joinR pe_str (pe_lc (own := [("_law_one", 2)]) (g := (gName 2)) (tt := tYes) (by rfl) sc__law_written.nd (pi_tup (pe_ix ix_seq (pv 0) pe_int (fun _ _ => rfl))) (blkOk_by (own := [("_law_one", 2)]) (N := ["_law_item_here", "_law_rest", "_law_one"]) (sc := defScope s__law_written) (by decide +kernel)) (fun _ _ _ _ _ => (pg_name (i := 2) sc__law_written.nd rfl (Or.inl rfl))) (fun _ _ _ _ _ => pts_nil) (fun _ _ _ _ _ => (pe_op op_addG pe_str (pe_call G__law_written hr (by rfl) T.g__law_written T.F__law_written.kp T.b__law_written .nil pass0 (pa_cons (pv 2) pa_nil)))))))
      (pss_one (ps_ret (pe_op op_addG (pe_op op_addG (pe_op op_addG pe_str (pe_joinR pe_str (pe_op op_addG (pe_lst (pa_cons (pe_ix ix_seq (pv 0) pe_int (fun _ _ => rfl)) pa_nil)) (pe_callTy call_list_of (by rfl) T.m_list bi_list (pa_cons (pe_ix ix_seq (pv 0) pe_int (fun _ _ => rfl)) pa_nil))))) (pv 1)) pe_str))))))
theorem tm__law_read {ap_read_document : APX} (T : Txt K mg) (G_read_document : FnOk P w K mg base (L2.CX P w) 18 T.f_read_document T.fd_read_document ["text"] (toSpX K ap_read_document)) (cdv : Value) (A : Around) (outer : List PySem.Env) (s : Shared) (H : Hp) (E : XK) (hr : Room 18 (A.deeper (PyProof.Rows.envOfC "_law_read" (defScope s__law_read) s.heap.objs.size T.f__law_read cdv))) :
    PSs (cxOf CX0 P w K mg base ["_law_text_here", "_law_told"] "_law_read" (defScope s__law_read) T.f__law_read cdv A outer s H E).nox (defBody s__law_read) (t__law_read K T.c_BadDocument ap_read_document) := 
      (pss_cons (ps_set (i := 1) sc__law_read.nd rfl (Or.inl rfl) pe_non)
      (pss_cons (ps_try_only rfl rfl ⟨by rfl, by decide, .inl T.g_BadDocument⟩ takes00 (fun W1 pn xe tk po => (pss_one (ps_set (i := 1) sc__law_read.nd rfl (Or.inl rfl) (pe_lst (pa_cons (pe_callS G_read_document (hr.mono (by decide)) (by rfl) T.g_read_document T.F_read_document.kp T.b_read_document (fun σ => passAt tk σ) (pa_cons (pv 0) pa_nil)) pa_nil))))) (fun a oe cls d pn _ _ => (pss_one (ps_set (i := 1) sc__law_read.nd rfl (Or.inl rfl) pe_non))))
      (pss_one (ps_ret (pv 1)))))
theorem tm_law {ap__law_pool : AP} {ap__law_take : AP} {ap__law_part : AP} {ap__law_edge : AP} {ap__law_paths : AP} {ap__law_same : AP} {ap__law_written : AP} {ap_write_document : AP} {ap__law_let : AP} {ap__law_read : AP} (T : Txt K mg) (G__law_pool : FnOk P w K mg base CX0 1 T.f__law_pool T.fd__law_pool ["_law_script", "_law_at"] (toSp K ap__law_pool)) (G__law_take : FnOk P w K mg base CX0 1 T.f__law_take T.fd__law_take ["_law_pool_here", "_law_many"] (toSp K ap__law_take)) (G__law_part : FnOk P w K mg base CX0 44 T.f__law_part T.fd__law_part ["_law_pool_here", "_law_names", "_law_budget", "_law_depth"] (toSp K ap__law_part)) (G__law_edge : FnOk P w K mg base CX0 6 T.f__law_edge T.fd__law_edge ["_law_pool_here", "_law_names", "_law_shift"] (toSp K ap__law_edge)) (G__law_paths : FnOk P w K mg base CX0 30 T.f__law_paths T.fd__law_paths ["_law_item_here", "_law_path"] (toSp K ap__law_paths)) (G__law_same : FnOk P w K mg base CX0 60 T.f__law_same T.fd__law_same ["_law_one", "_law_two"] (toSp K ap__law_same)) (G__law_written : FnOk P w K mg base CX0 30 T.f__law_written T.fd__law_written ["_law_item_here"] (toSp K ap__law_written)) (G_write_document : FnOk P w K mg base CX0 4 T.f_write_document T.fd_write_document ["root"] (toSp K ap_write_document)) (G__law_let : FnOk P w K mg base CX0 31 T.f__law_let T.fd__law_let ["_law_root"] (toSp K ap__law_let)) (G__law_read : FnOk P w K mg base CX0 19 T.f__law_read T.fd__law_read ["_law_text_here"] (toSp K ap__law_read)) (cdv : Value) (A : Around) (outer : List PySem.Env) (s : Shared) (H : Hp) (E : XK) (hr : Room 60 (A.deeper (PyProof.Rows.envOfC "law" (defScope s_law) s.heap.objs.size T.f_law cdv))) :
    PSs (cxOf CX0 P w K mg base ["_law_script", "_law_names", "_law_pool_here", "_law_way", "_law_root", "_law_row", "_law_text_here"] "law" (defScope s_law) T.f_law cdv A outer s H E).nox (defBody s_law) (t_law K ap__law_pool ap__law_take ap__law_part ap__law_edge ap__law_paths ap__law_same ap__law_written ap_write_document ap__law_let ap__law_read) := 
      (pss_cons (ps_set (i := 1) sc_law.nd rfl (Or.inl rfl) (pe_lst pa_nil))
      (pss_cons (ps_set (i := 2) sc_law.nd rfl (Or.inl rfl) (pe_call G__law_pool (hr.mono (by decide)) (by rfl) T.g__law_pool T.F__law_pool.kp T.b__law_pool .nil pass0 (pa_cons (pv 0) (pa_cons pe_int pa_nil))))
      (pss_cons (ps_set (i := 3) sc_law.nd rfl (Or.inl rfl) (pe_call G__law_take (hr.mono (by decide)) (by rfl) T.g__law_take T.F__law_take.kp T.b__law_take .nil pass0 (pa_cons (pv 2) (pa_cons pe_int pa_nil))))
      (pss_cons (ps_if (pt_cmpR (op_eqG hr.units) (pv 3) pe_int (nomark _)) (pss_one (ps_set (i := 4) sc_law.nd rfl (Or.inl rfl) (pe_call G__law_part (hr.mono (by decide)) (by rfl) T.g__law_part T.F__law_part.kp T.b__law_part .nil pass0 (pa_cons (pv 2) (pa_cons (pv 1) (pa_cons (pe_lst (pa_cons pe_int (pa_cons pe_int (pa_cons pe_int (pa_cons pe_int (pa_cons pe_int pa_nil)))))) (pa_cons pe_int pa_nil))))))) (pss_one (ps_if (PW.pt (pw_or (pt_cmpR (op_eqG hr.units) (pv 3) pe_int (nomark _)) (pw_or1 (pt_cmpR (op_eqG hr.units) (pv 3) pe_int (nomark _))))) (pss_one (ps_set (i := 4) sc_law.nd rfl (Or.inl rfl) (pe_call G__law_edge (hr.mono (by decide)) (by rfl) T.g__law_edge T.F__law_edge.kp T.b__law_edge .nil pass0 (pa_cons (pv 2) (pa_cons (pv 1) (pa_cons (pe_op op_sub (pe_call G__law_take (hr.mono (by decide)) (by rfl) T.g__law_take T.F__law_take.kp T.b__law_take .nil pass0 (pa_cons (pv 2) (pa_cons pe_int pa_nil))) pe_int) pa_nil)))))) (pss_one (ps_set (i := 4) sc_law.nd rfl (Or.inl rfl) (pe_call G__law_part (hr.mono (by decide)) (by rfl) T.g__law_part T.F__law_part.kp T.b__law_part .nil pass0 (pa_cons (pv 2) (pa_cons (pv 1) (pa_cons (pe_lst (pa_cons pe_int (pa_cons pe_int (pa_cons pe_int (pa_cons pe_int (pa_cons pe_int pa_nil)))))) (pa_cons pe_int pa_nil))))))))))
      (pss_cons (ps_for PassesOwn.never rfl (pi_list (pe_call G__law_paths (hr.mono (by decide)) (by rfl) T.g__law_paths T.F__law_paths.kp T.b__law_paths .nil pass0 (pa_cons (pv 4) (pa_cons (pe_tup pa_nil) pa_nil)))) (pg_name (i := 5) sc_law.nd rfl (Or.inl rfl)) (pss_one (ps_if (PW.pt (pw_and (pt_val (pe_callB call_isi (by rfl) T.m_isinstance bi_isinstance (pa_cons (pe_ix ix_seq (pv 5) pe_int (fun _ _ => rfl)) (pa_cons (pe_bltn (v := .ty "tuple") (by rfl) T.m_tuple bi_tuple rfl) pa_nil)))) (pw_and1 (pt_cmpR (op_eqG hr.units) (pe_callB call_len (by rfl) T.m_len bi_len (pa_cons (pe_ix ix_seq (pv 5) pe_int (fun _ _ => rfl)) pa_nil)) pe_int (nomark _))))) (pss_one (ps_if (pt_not (pt_val (pe_call G__law_same (hr.mono (by decide)) (by rfl) T.g__law_same T.F__law_same.kp T.b__law_same .nil pass0 (pa_cons (pe_call G_write_document (hr.mono (by decide)) (by rfl) T.g_write_document T.F_write_document.kp T.b_write_document .nil pass0 (pa_cons (pe_ix ix_seq (pv 5) pe_int (fun _ _ => rfl)) pa_nil)) (pa_cons (pe_call G__law_written (hr.mono (by decide)) (by rfl) T.g__law_written T.F__law_written.kp T.b__law_written .nil pass0 (pa_cons (pe_ix ix_seq (pv 5) pe_int (fun _ _ => rfl)) pa_nil)) pa_nil))))) (pss_one (ps_ret pe_bl)) pss_nil)) pss_nil)))
      (pss_cons (ps_set (i := 6) sc_law.nd rfl (Or.inl rfl) (pe_call G__law_written (hr.mono (by decide)) (by rfl) T.g__law_written T.F__law_written.kp T.b__law_written .nil pass0 (pa_cons (pv 4) pa_nil)))
      (pss_cons (ps_if (pt_val (pe_call G__law_let (hr.mono (by decide)) (by rfl) T.g__law_let T.F__law_let.kp T.b__law_let .nil pass0 (pa_cons (pv 4) pa_nil))) (pss_one (ps_ret (pe_and (pe_call G__law_same (hr.mono (by decide)) (by rfl) T.g__law_same T.F__law_same.kp T.b__law_same .nil pass0 (pa_cons (pe_call G__law_read (hr.mono (by decide)) (by rfl) T.g__law_read T.F__law_read.kp T.b__law_read .nil pass0 (pa_cons (pv 6) pa_nil)) (pa_cons (pe_lst (pa_cons (pv 4) pa_nil)) pa_nil))) (pe_one (pe_call G__law_same (hr.mono (by decide)) (by rfl) T.g__law_same T.F__law_same.kp T.b__law_same .nil pass0 (pa_cons (pe_call G__law_read (hr.mono (by decide)) (by rfl) T.g__law_read T.F__law_read.kp T.b__law_read .nil pass0 (pa_cons (pv 6) pa_nil)) (pa_cons (pe_lst (pa_cons (pv 4) pa_nil)) pa_nil))))))) pss_nil)
      (pss_one (ps_ret (pe_or (pe_cmpR op_gt (pe_callB call_len (by rfl) T.m_len bi_len (pa_cons (pv 6) pa_nil)) pe_int (nomark _)) (pe_one (pe_cmp (pc_isN (pe_call G__law_read (hr.mono (by decide)) (by rfl) T.g__law_read T.F__law_read.kp T.b__law_read .nil pass0 (pa_cons (pv 6) pa_nil)))))))))))))))
end
theorem txt_mk {K : PySem.W.Frag} {h : Heap} {mg : Str → Option Value} (X : K.In h) (G : h.Ns mainGlobals mg)
    {f0 : Addr} {od0 an0 : Option Addr} {sl0 : Array (Option Value)} {oc0 kV0 dc0 pm0 cd0 ct0 : Value}
    (a0 : PySem.W.nsIn K mainGlobals "is_name" = some (some (.ref f0))) (l0 : K.lookup f0 = some ⟨oc0, od0, .func (PySem.W.fnOf "is_name" "is_name" (defArgs s_is_name) (defBody s_is_name) (defScope s_is_name) .none kV0 dc0 pm0 an0 cd0 ct0), sl0⟩) (c0 : PySem.W.codeIn K cd0 "is_name" = true) (k0 : PySem.W.keepIn K (.ref f0) = true)
    {f1 : Addr} {od1 an1 : Option Addr} {sl1 : Array (Option Value)} {oc1 kV1 dc1 pm1 cd1 ct1 : Value}
    (a1 : PySem.W.nsIn K mainGlobals "is_text" = some (some (.ref f1))) (l1 : K.lookup f1 = some ⟨oc1, od1, .func (PySem.W.fnOf "is_text" "is_text" (defArgs s_is_text) (defBody s_is_text) (defScope s_is_text) .none kV1 dc1 pm1 an1 cd1 ct1), sl1⟩) (c1 : PySem.W.codeIn K cd1 "is_text" = true) (k1 : PySem.W.keepIn K (.ref f1) = true)
    {f2 : Addr} {od2 an2 : Option Addr} {sl2 : Array (Option Value)} {oc2 kV2 dc2 pm2 cd2 ct2 : Value}
    (a2 : PySem.W.nsIn K mainGlobals "are_marks" = some (some (.ref f2))) (l2 : K.lookup f2 = some ⟨oc2, od2, .func (PySem.W.fnOf "are_marks" "are_marks" (defArgs s_are_marks) (defBody s_are_marks) (defScope s_are_marks) .none kV2 dc2 pm2 an2 cd2 ct2), sl2⟩) (c2 : PySem.W.codeIn K cd2 "are_marks" = true) (k2 : PySem.W.keepIn K (.ref f2) = true)
    {f3 : Addr} {od3 an3 : Option Addr} {sl3 : Array (Option Value)} {oc3 kV3 dc3 pm3 cd3 ct3 : Value}
    (a3 : PySem.W.nsIn K mainGlobals "is_part" = some (some (.ref f3))) (l3 : K.lookup f3 = some ⟨oc3, od3, .func (PySem.W.fnOf "is_part" "is_part" (defArgs s_is_part) (defBody s_is_part) (defScope s_is_part) .none kV3 dc3 pm3 an3 cd3 ct3), sl3⟩) (c3 : PySem.W.codeIn K cd3 "is_part" = true) (k3 : PySem.W.keepIn K (.ref f3) = true)
    {f4 : Addr} {od4 an4 : Option Addr} {sl4 : Array (Option Value)} {oc4 kV4 dc4 pm4 cd4 ct4 : Value}
    (a4 : PySem.W.nsIn K mainGlobals "walk" = some (some (.ref f4))) (l4 : K.lookup f4 = some ⟨oc4, od4, .func (PySem.W.fnOf "walk" "walk" (defArgs s_walk) (defBody s_walk) (defScope s_walk) .none kV4 dc4 pm4 an4 cd4 ct4), sl4⟩) (c4 : PySem.W.codeIn K cd4 "walk" = true) (k4 : PySem.W.keepIn K (.ref f4) = true)
    {f5 : Addr} {od5 an5 : Option Addr} {sl5 : Array (Option Value)} {oc5 kV5 dc5 pm5 cd5 ct5 : Value}
    (a5 : PySem.W.nsIn K mainGlobals "within_bounds" = some (some (.ref f5))) (l5 : K.lookup f5 = some ⟨oc5, od5, .func (PySem.W.fnOf "within_bounds" "within_bounds" (defArgs s_within_bounds) (defBody s_within_bounds) (defScope s_within_bounds) .none kV5 dc5 pm5 an5 cd5 ct5), sl5⟩) (c5 : PySem.W.codeIn K cd5 "within_bounds" = true) (k5 : PySem.W.keepIn K (.ref f5) = true)
    {f6 : Addr} {od6 an6 : Option Addr} {sl6 : Array (Option Value)} {oc6 kV6 dc6 pm6 cd6 ct6 : Value}
    (a6 : PySem.W.nsIn K mainGlobals "write_leaf" = some (some (.ref f6))) (l6 : K.lookup f6 = some ⟨oc6, od6, .func (PySem.W.fnOf "write_leaf" "write_leaf" (defArgs s_write_leaf) (defBody s_write_leaf) (defScope s_write_leaf) .none kV6 dc6 pm6 an6 cd6 ct6), sl6⟩) (c6 : PySem.W.codeIn K cd6 "write_leaf" = true) (k6 : PySem.W.keepIn K (.ref f6) = true)
    {f7 : Addr} {od7 an7 : Option Addr} {sl7 : Array (Option Value)} {oc7 kV7 dc7 pm7 cd7 ct7 : Value}
    (a7 : PySem.W.nsIn K mainGlobals "write_document" = some (some (.ref f7))) (l7 : K.lookup f7 = some ⟨oc7, od7, .func (PySem.W.fnOf "write_document" "write_document" (defArgs s_write_document) (defBody s_write_document) (defScope s_write_document) .none kV7 dc7 pm7 an7 cd7 ct7), sl7⟩) (c7 : PySem.W.codeIn K cd7 "write_document" = true) (k7 : PySem.W.keepIn K (.ref f7) = true)
    {f8 : Addr} {od8 an8 : Option Addr} {sl8 : Array (Option Value)} {oc8 kV8 dc8 pm8 cd8 ct8 : Value}
    (a8 : PySem.W.nsIn K mainGlobals "write_item" = some (some (.ref f8))) (l8 : K.lookup f8 = some ⟨oc8, od8, .func (PySem.W.fnOf "write_item" "write_item" (defArgs s_write_item) (defBody s_write_item) (defScope s_write_item) .none kV8 dc8 pm8 an8 cd8 ct8), sl8⟩) (c8 : PySem.W.codeIn K cd8 "write_item" = true) (k8 : PySem.W.keepIn K (.ref f8) = true)
    {f9 : Addr} {od9 an9 : Option Addr} {sl9 : Array (Option Value)} {oc9 kV9 dc9 pm9 cd9 ct9 : Value}
    (a9 : PySem.W.nsIn K mainGlobals "word_end" = some (some (.ref f9))) (l9 : K.lookup f9 = some ⟨oc9, od9, .func (PySem.W.fnOf "word_end" "word_end" (defArgs s_word_end) (defBody s_word_end) (defScope s_word_end) .none kV9 dc9 pm9 an9 cd9 ct9), sl9⟩) (c9 : PySem.W.codeIn K cd9 "word_end" = true) (k9 : PySem.W.keepIn K (.ref f9) = true)
    {f10 : Addr} {od10 an10 : Option Addr} {sl10 : Array (Option Value)} {oc10 kV10 dc10 pm10 cd10 ct10 : Value}
    (a10 : PySem.W.nsIn K mainGlobals "read_part" = some (some (.ref f10))) (l10 : K.lookup f10 = some ⟨oc10, od10, .func (PySem.W.fnOf "read_part" "read_part" (defArgs s_read_part) (defBody s_read_part) (defScope s_read_part) .none kV10 dc10 pm10 an10 cd10 ct10), sl10⟩) (c10 : PySem.W.codeIn K cd10 "read_part" = true) (k10 : PySem.W.keepIn K (.ref f10) = true)
    {f11 : Addr} {od11 an11 : Option Addr} {sl11 : Array (Option Value)} {oc11 kV11 dc11 pm11 cd11 ct11 : Value}
    (a11 : PySem.W.nsIn K mainGlobals "read_item" = some (some (.ref f11))) (l11 : K.lookup f11 = some ⟨oc11, od11, .func (PySem.W.fnOf "read_item" "read_item" (defArgs s_read_item) (defBody s_read_item) (defScope s_read_item) .none kV11 dc11 pm11 an11 cd11 ct11), sl11⟩) (c11 : PySem.W.codeIn K cd11 "read_item" = true) (k11 : PySem.W.keepIn K (.ref f11) = true)
    {f12 : Addr} {od12 an12 : Option Addr} {sl12 : Array (Option Value)} {oc12 kV12 dc12 pm12 cd12 ct12 : Value}
    (a12 : PySem.W.nsIn K mainGlobals "is_sound" = some (some (.ref f12))) (l12 : K.lookup f12 = some ⟨oc12, od12, .func (PySem.W.fnOf "is_sound" "is_sound" (defArgs s_is_sound) (defBody s_is_sound) (defScope s_is_sound) .none kV12 dc12 pm12 an12 cd12 ct12), sl12⟩) (c12 : PySem.W.codeIn K cd12 "is_sound" = true) (k12 : PySem.W.keepIn K (.ref f12) = true)
    {f13 : Addr} {od13 an13 : Option Addr} {sl13 : Array (Option Value)} {oc13 kV13 dc13 pm13 cd13 ct13 : Value}
    (a13 : PySem.W.nsIn K mainGlobals "read_alone" = some (some (.ref f13))) (l13 : K.lookup f13 = some ⟨oc13, od13, .func (PySem.W.fnOf "read_alone" "read_alone" (defArgs s_read_alone) (defBody s_read_alone) (defScope s_read_alone) .none kV13 dc13 pm13 an13 cd13 ct13), sl13⟩) (c13 : PySem.W.codeIn K cd13 "read_alone" = true) (k13 : PySem.W.keepIn K (.ref f13) = true)
    {f14 : Addr} {od14 an14 : Option Addr} {sl14 : Array (Option Value)} {oc14 kV14 dc14 pm14 cd14 ct14 : Value}
    (a14 : PySem.W.nsIn K mainGlobals "read_document" = some (some (.ref f14))) (l14 : K.lookup f14 = some ⟨oc14, od14, .func (PySem.W.fnOf "read_document" "read_document" (defArgs s_read_document) (defBody s_read_document) (defScope s_read_document) .none kV14 dc14 pm14 an14 cd14 ct14), sl14⟩) (c14 : PySem.W.codeIn K cd14 "read_document" = true) (k14 : PySem.W.keepIn K (.ref f14) = true)
    {f15 : Addr} {od15 an15 : Option Addr} {sl15 : Array (Option Value)} {oc15 kV15 dc15 pm15 cd15 ct15 : Value}
    (a15 : PySem.W.nsIn K mainGlobals "_law_pool" = some (some (.ref f15))) (l15 : K.lookup f15 = some ⟨oc15, od15, .func (PySem.W.fnOf "_law_pool" "_law_pool" (defArgs s__law_pool) (defBody s__law_pool) (defScope s__law_pool) .none kV15 dc15 pm15 an15 cd15 ct15), sl15⟩) (c15 : PySem.W.codeIn K cd15 "_law_pool" = true) (k15 : PySem.W.keepIn K (.ref f15) = true)
    {f16 : Addr} {od16 an16 : Option Addr} {sl16 : Array (Option Value)} {oc16 kV16 dc16 pm16 cd16 ct16 : Value}
    (a16 : PySem.W.nsIn K mainGlobals "_law_take" = some (some (.ref f16))) (l16 : K.lookup f16 = some ⟨oc16, od16, .func (PySem.W.fnOf "_law_take" "_law_take" (defArgs s__law_take) (defBody s__law_take) (defScope s__law_take) .none kV16 dc16 pm16 an16 cd16 ct16), sl16⟩) (c16 : PySem.W.codeIn K cd16 "_law_take" = true) (k16 : PySem.W.keepIn K (.ref f16) = true)
    {f17 : Addr} {od17 an17 : Option Addr} {sl17 : Array (Option Value)} {oc17 kV17 dc17 pm17 cd17 ct17 : Value}
    (a17 : PySem.W.nsIn K mainGlobals "_law_same" = some (some (.ref f17))) (l17 : K.lookup f17 = some ⟨oc17, od17, .func (PySem.W.fnOf "_law_same" "_law_same" (defArgs s__law_same) (defBody s__law_same) (defScope s__law_same) .none kV17 dc17 pm17 an17 cd17 ct17), sl17⟩) (c17 : PySem.W.codeIn K cd17 "_law_same" = true) (k17 : PySem.W.keepIn K (.ref f17) = true)
    {f18 : Addr} {od18 an18 : Option Addr} {sl18 : Array (Option Value)} {oc18 kV18 dc18 pm18 cd18 ct18 : Value}
    (a18 : PySem.W.nsIn K mainGlobals "_law_letters" = some (some (.ref f18))) (l18 : K.lookup f18 = some ⟨oc18, od18, .func (PySem.W.fnOf "_law_letters" "_law_letters" (defArgs s__law_letters) (defBody s__law_letters) (defScope s__law_letters) .none kV18 dc18 pm18 an18 cd18 ct18), sl18⟩) (c18 : PySem.W.codeIn K cd18 "_law_letters" = true) (k18 : PySem.W.keepIn K (.ref f18) = true)
    {f19 : Addr} {od19 an19 : Option Addr} {sl19 : Array (Option Value)} {oc19 kV19 dc19 pm19 cd19 ct19 : Value}
    (a19 : PySem.W.nsIn K mainGlobals "_law_name" = some (some (.ref f19))) (l19 : K.lookup f19 = some ⟨oc19, od19, .func (PySem.W.fnOf "_law_name" "_law_name" (defArgs s__law_name) (defBody s__law_name) (defScope s__law_name) .none kV19 dc19 pm19 an19 cd19 ct19), sl19⟩) (c19 : PySem.W.codeIn K cd19 "_law_name" = true) (k19 : PySem.W.keepIn K (.ref f19) = true)
    {f20 : Addr} {od20 an20 : Option Addr} {sl20 : Array (Option Value)} {oc20 kV20 dc20 pm20 cd20 ct20 : Value}
    (a20 : PySem.W.nsIn K mainGlobals "_law_marks" = some (some (.ref f20))) (l20 : K.lookup f20 = some ⟨oc20, od20, .func (PySem.W.fnOf "_law_marks" "_law_marks" (defArgs s__law_marks) (defBody s__law_marks) (defScope s__law_marks) .none kV20 dc20 pm20 an20 cd20 ct20), sl20⟩) (c20 : PySem.W.codeIn K cd20 "_law_marks" = true) (k20 : PySem.W.keepIn K (.ref f20) = true)
    {f21 : Addr} {od21 an21 : Option Addr} {sl21 : Array (Option Value)} {oc21 kV21 dc21 pm21 cd21 ct21 : Value}
    (a21 : PySem.W.nsIn K mainGlobals "_law_prose" = some (some (.ref f21))) (l21 : K.lookup f21 = some ⟨oc21, od21, .func (PySem.W.fnOf "_law_prose" "_law_prose" (defArgs s__law_prose) (defBody s__law_prose) (defScope s__law_prose) .none kV21 dc21 pm21 an21 cd21 ct21), sl21⟩) (c21 : PySem.W.codeIn K cd21 "_law_prose" = true) (k21 : PySem.W.keepIn K (.ref f21) = true)
    {f22 : Addr} {od22 an22 : Option Addr} {sl22 : Array (Option Value)} {oc22 kV22 dc22 pm22 cd22 ct22 : Value}
    (a22 : PySem.W.nsIn K mainGlobals "_law_text" = some (some (.ref f22))) (l22 : K.lookup f22 = some ⟨oc22, od22, .func (PySem.W.fnOf "_law_text" "_law_text" (defArgs s__law_text) (defBody s__law_text) (defScope s__law_text) .none kV22 dc22 pm22 an22 cd22 ct22), sl22⟩) (c22 : PySem.W.codeIn K cd22 "_law_text" = true) (k22 : PySem.W.keepIn K (.ref f22) = true)
    {f23 : Addr} {od23 an23 : Option Addr} {sl23 : Array (Option Value)} {oc23 kV23 dc23 pm23 cd23 ct23 : Value}
    (a23 : PySem.W.nsIn K mainGlobals "_law_item" = some (some (.ref f23))) (l23 : K.lookup f23 = some ⟨oc23, od23, .func (PySem.W.fnOf "_law_item" "_law_item" (defArgs s__law_item) (defBody s__law_item) (defScope s__law_item) .none kV23 dc23 pm23 an23 cd23 ct23), sl23⟩) (c23 : PySem.W.codeIn K cd23 "_law_item" = true) (k23 : PySem.W.keepIn K (.ref f23) = true)
    {f24 : Addr} {od24 an24 : Option Addr} {sl24 : Array (Option Value)} {oc24 kV24 dc24 pm24 cd24 ct24 : Value}
    (a24 : PySem.W.nsIn K mainGlobals "_law_part" = some (some (.ref f24))) (l24 : K.lookup f24 = some ⟨oc24, od24, .func (PySem.W.fnOf "_law_part" "_law_part" (defArgs s__law_part) (defBody s__law_part) (defScope s__law_part) .none kV24 dc24 pm24 an24 cd24 ct24), sl24⟩) (c24 : PySem.W.codeIn K cd24 "_law_part" = true) (k24 : PySem.W.keepIn K (.ref f24) = true)
    {f25 : Addr} {od25 an25 : Option Addr} {sl25 : Array (Option Value)} {oc25 kV25 dc25 pm25 cd25 ct25 : Value}
    (a25 : PySem.W.nsIn K mainGlobals "_law_wrapped" = some (some (.ref f25))) (l25 : K.lookup f25 = some ⟨oc25, od25, .func (PySem.W.fnOf "_law_wrapped" "_law_wrapped" (defArgs s__law_wrapped) (defBody s__law_wrapped) (defScope s__law_wrapped) .none kV25 dc25 pm25 an25 cd25 ct25), sl25⟩) (c25 : PySem.W.codeIn K cd25 "_law_wrapped" = true) (k25 : PySem.W.keepIn K (.ref f25) = true)
    {f26 : Addr} {od26 an26 : Option Addr} {sl26 : Array (Option Value)} {oc26 kV26 dc26 pm26 cd26 ct26 : Value}
    (a26 : PySem.W.nsIn K mainGlobals "_law_leaf" = some (some (.ref f26))) (l26 : K.lookup f26 = some ⟨oc26, od26, .func (PySem.W.fnOf "_law_leaf" "_law_leaf" (defArgs s__law_leaf) (defBody s__law_leaf) (defScope s__law_leaf) .none kV26 dc26 pm26 an26 cd26 ct26), sl26⟩) (c26 : PySem.W.codeIn K cd26 "_law_leaf" = true) (k26 : PySem.W.keepIn K (.ref f26) = true)
    {f27 : Addr} {od27 an27 : Option Addr} {sl27 : Array (Option Value)} {oc27 kV27 dc27 pm27 cd27 ct27 : Value}
    (a27 : PySem.W.nsIn K mainGlobals "_law_full_row" = some (some (.ref f27))) (l27 : K.lookup f27 = some ⟨oc27, od27, .func (PySem.W.fnOf "_law_full_row" "_law_full_row" (defArgs s__law_full_row) (defBody s__law_full_row) (defScope s__law_full_row) .none kV27 dc27 pm27 an27 cd27 ct27), sl27⟩) (c27 : PySem.W.codeIn K cd27 "_law_full_row" = true) (k27 : PySem.W.keepIn K (.ref f27) = true)
    {f28 : Addr} {od28 an28 : Option Addr} {sl28 : Array (Option Value)} {oc28 kV28 dc28 pm28 cd28 ct28 : Value}
    (a28 : PySem.W.nsIn K mainGlobals "_law_full_count" = some (some (.ref f28))) (l28 : K.lookup f28 = some ⟨oc28, od28, .func (PySem.W.fnOf "_law_full_count" "_law_full_count" (defArgs s__law_full_count) (defBody s__law_full_count) (defScope s__law_full_count) .none kV28 dc28 pm28 an28 cd28 ct28), sl28⟩) (c28 : PySem.W.codeIn K cd28 "_law_full_count" = true) (k28 : PySem.W.keepIn K (.ref f28) = true)
    {f29 : Addr} {od29 an29 : Option Addr} {sl29 : Array (Option Value)} {oc29 kV29 dc29 pm29 cd29 ct29 : Value}
    (a29 : PySem.W.nsIn K mainGlobals "_law_full_prose" = some (some (.ref f29))) (l29 : K.lookup f29 = some ⟨oc29, od29, .func (PySem.W.fnOf "_law_full_prose" "_law_full_prose" (defArgs s__law_full_prose) (defBody s__law_full_prose) (defScope s__law_full_prose) .none kV29 dc29 pm29 an29 cd29 ct29), sl29⟩) (c29 : PySem.W.codeIn K cd29 "_law_full_prose" = true) (k29 : PySem.W.keepIn K (.ref f29) = true)
    {f30 : Addr} {od30 an30 : Option Addr} {sl30 : Array (Option Value)} {oc30 kV30 dc30 pm30 cd30 ct30 : Value}
    (a30 : PySem.W.nsIn K mainGlobals "_law_full_depth" = some (some (.ref f30))) (l30 : K.lookup f30 = some ⟨oc30, od30, .func (PySem.W.fnOf "_law_full_depth" "_law_full_depth" (defArgs s__law_full_depth) (defBody s__law_full_depth) (defScope s__law_full_depth) .none kV30 dc30 pm30 an30 cd30 ct30), sl30⟩) (c30 : PySem.W.codeIn K cd30 "_law_full_depth" = true) (k30 : PySem.W.keepIn K (.ref f30) = true)
    {f31 : Addr} {od31 an31 : Option Addr} {sl31 : Array (Option Value)} {oc31 kV31 dc31 pm31 cd31 ct31 : Value}
    (a31 : PySem.W.nsIn K mainGlobals "_law_full_refs" = some (some (.ref f31))) (l31 : K.lookup f31 = some ⟨oc31, od31, .func (PySem.W.fnOf "_law_full_refs" "_law_full_refs" (defArgs s__law_full_refs) (defBody s__law_full_refs) (defScope s__law_full_refs) .none kV31 dc31 pm31 an31 cd31 ct31), sl31⟩) (c31 : PySem.W.codeIn K cd31 "_law_full_refs" = true) (k31 : PySem.W.keepIn K (.ref f31) = true)
    {f32 : Addr} {od32 an32 : Option Addr} {sl32 : Array (Option Value)} {oc32 kV32 dc32 pm32 cd32 ct32 : Value}
    (a32 : PySem.W.nsIn K mainGlobals "_law_edge" = some (some (.ref f32))) (l32 : K.lookup f32 = some ⟨oc32, od32, .func (PySem.W.fnOf "_law_edge" "_law_edge" (defArgs s__law_edge) (defBody s__law_edge) (defScope s__law_edge) .none kV32 dc32 pm32 an32 cd32 ct32), sl32⟩) (c32 : PySem.W.codeIn K cd32 "_law_edge" = true) (k32 : PySem.W.keepIn K (.ref f32) = true)
    {f33 : Addr} {od33 an33 : Option Addr} {sl33 : Array (Option Value)} {oc33 kV33 dc33 pm33 cd33 ct33 : Value}
    (a33 : PySem.W.nsIn K mainGlobals "_law_paths" = some (some (.ref f33))) (l33 : K.lookup f33 = some ⟨oc33, od33, .func (PySem.W.fnOf "_law_paths" "_law_paths" (defArgs s__law_paths) (defBody s__law_paths) (defScope s__law_paths) .none kV33 dc33 pm33 an33 cd33 ct33), sl33⟩) (c33 : PySem.W.codeIn K cd33 "_law_paths" = true) (k33 : PySem.W.keepIn K (.ref f33) = true)
    {f34 : Addr} {od34 an34 : Option Addr} {sl34 : Array (Option Value)} {oc34 kV34 dc34 pm34 cd34 ct34 : Value}
    (a34 : PySem.W.nsIn K mainGlobals "_law_sizes" = some (some (.ref f34))) (l34 : K.lookup f34 = some ⟨oc34, od34, .func (PySem.W.fnOf "_law_sizes" "_law_sizes" (defArgs s__law_sizes) (defBody s__law_sizes) (defScope s__law_sizes) .none kV34 dc34 pm34 an34 cd34 ct34), sl34⟩) (c34 : PySem.W.codeIn K cd34 "_law_sizes" = true) (k34 : PySem.W.keepIn K (.ref f34) = true)
    {f35 : Addr} {od35 an35 : Option Addr} {sl35 : Array (Option Value)} {oc35 kV35 dc35 pm35 cd35 ct35 : Value}
    (a35 : PySem.W.nsIn K mainGlobals "_law_let" = some (some (.ref f35))) (l35 : K.lookup f35 = some ⟨oc35, od35, .func (PySem.W.fnOf "_law_let" "_law_let" (defArgs s__law_let) (defBody s__law_let) (defScope s__law_let) .none kV35 dc35 pm35 an35 cd35 ct35), sl35⟩) (c35 : PySem.W.codeIn K cd35 "_law_let" = true) (k35 : PySem.W.keepIn K (.ref f35) = true)
    {f36 : Addr} {od36 an36 : Option Addr} {sl36 : Array (Option Value)} {oc36 kV36 dc36 pm36 cd36 ct36 : Value}
    (a36 : PySem.W.nsIn K mainGlobals "_law_written" = some (some (.ref f36))) (l36 : K.lookup f36 = some ⟨oc36, od36, .func (PySem.W.fnOf "_law_written" "_law_written" (defArgs s__law_written) (defBody s__law_written) (defScope s__law_written) .none kV36 dc36 pm36 an36 cd36 ct36), sl36⟩) (c36 : PySem.W.codeIn K cd36 "_law_written" = true) (k36 : PySem.W.keepIn K (.ref f36) = true)
    {f37 : Addr} {od37 an37 : Option Addr} {sl37 : Array (Option Value)} {oc37 kV37 dc37 pm37 cd37 ct37 : Value}
    (a37 : PySem.W.nsIn K mainGlobals "_law_read" = some (some (.ref f37))) (l37 : K.lookup f37 = some ⟨oc37, od37, .func (PySem.W.fnOf "_law_read" "_law_read" (defArgs s__law_read) (defBody s__law_read) (defScope s__law_read) .none kV37 dc37 pm37 an37 cd37 ct37), sl37⟩) (c37 : PySem.W.codeIn K cd37 "_law_read" = true) (k37 : PySem.W.keepIn K (.ref f37) = true)
    {f38 : Addr} {od38 an38 : Option Addr} {sl38 : Array (Option Value)} {oc38 kV38 dc38 pm38 cd38 ct38 : Value}
    (a38 : PySem.W.nsIn K mainGlobals "law" = some (some (.ref f38))) (l38 : K.lookup f38 = some ⟨oc38, od38, .func (PySem.W.fnOf "law" "law" (defArgs s_law) (defBody s_law) (defScope s_law) .none kV38 dc38 pm38 an38 cd38 ct38), sl38⟩) (c38 : PySem.W.codeIn K cd38 "law" = true) (k38 : PySem.W.keepIn K (.ref f38) = true)
    (z_abs : PySem.W.nsIn K mainGlobals "abs" = some none)
    (z_all : PySem.W.nsIn K mainGlobals "all" = some none)
    (z_bool : PySem.W.nsIn K mainGlobals "bool" = some none)
    (z_enumerate : PySem.W.nsIn K mainGlobals "enumerate" = some none)
    (z_int : PySem.W.nsIn K mainGlobals "int" = some none)
    (z_isinstance : PySem.W.nsIn K mainGlobals "isinstance" = some none)
    (z_len : PySem.W.nsIn K mainGlobals "len" = some none)
    (z_list : PySem.W.nsIn K mainGlobals "list" = some none)
    (z_max : PySem.W.nsIn K mainGlobals "max" = some none)
    (z_min : PySem.W.nsIn K mainGlobals "min" = some none)
    (z_range : PySem.W.nsIn K mainGlobals "range" = some none)
    (z_str : PySem.W.nsIn K mainGlobals "str" = some none)
    (z_tuple : PySem.W.nsIn K mainGlobals "tuple" = some none)
    {c_BadDocument : Addr} (a_BadDocument : PySem.W.nsIn K mainGlobals "BadDocument" = some (some (.ref c_BadDocument))) (bs_BadDocument : PySem.W.subIn K (.ref c_BadDocument) (.type "BaseException") = some true) (tx_BadDocument : PySem.W.typeIn K (.ref c_BadDocument) = some (.type "type")) (hd_BadDocument : PySem.W.hasDictIn K c_BadDocument = true)
    (hnO : PySem.W.specialIn K (.builtin "object.__class__") "__get__" = some (some (.builtin "getset_descriptor.__get__"))) (htO : PySem.W.takesIn K (.builtin "object.__class__") = some true)
    (x_BadDocument : PySem.W.excIn K c_BadDocument [.type "ValueError", .type "Exception", .type "BaseException", .type "object"] "ValueError.__new__" = true) (kx_BadDocument : PySem.W.keepIn K (.ref c_BadDocument) = true)
    (ga_BadDocument : PySem.W.findIn K (.ref c_BadDocument) "__getattribute__" = some (some (.builtin "BaseException.__getattribute__"))) (gg_BadDocument : PySem.W.findIn K (.ref c_BadDocument) "__getattr__" = some none) (cl_BadDocument : PySem.W.findIn K (.ref c_BadDocument) "__class__" = some (some (.builtin "object.__class__"))) (mo_BadDocument : PySem.W.mroIn K c_BadDocument (.type "object") = some true) (sv_BadDocument : PySem.W.subIn K (.ref c_BadDocument) (.type "ValueError") = some true)
    (sb_BadDocument_BadDocument : PySem.W.subIn K (.ref c_BadDocument) (.ref c_BadDocument) = some true)
    {ts_NAME_LETTERS : Tok} (as_NAME_LETTERS : PySem.W.nsIn K mainGlobals "NAME_LETTERS" = some (some (.str "abcdefghijklmnopqrstuvwxyz" ts_NAME_LETTERS)))
    {ts_TEXT_CHARACTERS : Tok} (as_TEXT_CHARACTERS : PySem.W.nsIn K mainGlobals "TEXT_CHARACTERS" = some (some (.str " abcdefghijklmnopqrstuvwxyzABCDEFGHIJKLMNOPQRSTUVWXYZ0123456789.,;:!?'()|" ts_TEXT_CHARACTERS)))
    {ti_MOST_NAME_LETTERS : Tok} (ai_MOST_NAME_LETTERS : PySem.W.nsIn K mainGlobals "MOST_NAME_LETTERS" = some (some (.int 8 ti_MOST_NAME_LETTERS)))
    {ti_MOST_TEXT_CHARACTERS : Tok} (ai_MOST_TEXT_CHARACTERS : PySem.W.nsIn K mainGlobals "MOST_TEXT_CHARACTERS" = some (some (.int 60 ti_MOST_TEXT_CHARACTERS)))
    {ti_MOST_MARKS : Tok} (ai_MOST_MARKS : PySem.W.nsIn K mainGlobals "MOST_MARKS" = some (some (.int 3 ti_MOST_MARKS)))
    {ti_MOST_ITEMS_OF_A_PART : Tok} (ai_MOST_ITEMS_OF_A_PART : PySem.W.nsIn K mainGlobals "MOST_ITEMS_OF_A_PART" = some (some (.int 12 ti_MOST_ITEMS_OF_A_PART)))
    {ti_MOST_DEPTH : Tok} (ai_MOST_DEPTH : PySem.W.nsIn K mainGlobals "MOST_DEPTH" = some (some (.int 6 ti_MOST_DEPTH)))
    {ti_MOST_ITEMS : Tok} (ai_MOST_ITEMS : PySem.W.nsIn K mainGlobals "MOST_ITEMS" = some (some (.int 60 ti_MOST_ITEMS)))
    {ti_MOST_CHARACTERS : Tok} (ai_MOST_CHARACTERS : PySem.W.nsIn K mainGlobals "MOST_CHARACTERS" = some (some (.int 400 ti_MOST_CHARACTERS)))
    {ti_MOST_REFERENCES : Tok} (ai_MOST_REFERENCES : PySem.W.nsIn K mainGlobals "MOST_REFERENCES" = some (some (.int 3 ti_MOST_REFERENCES)))
    : ∃ T : Txt K mg, T.f_law = f38 ∧ ∀ (s : Shared) (v : Value), BindsTo s T.fd_law ⟨[v], []⟩ [("_law_script", v)] := by
  have F0 := fun_mk (st := s_is_name) l0 c0 k0
  have b0 := F0.binds (ps := ["word"]) fun _ _ _ _ _ _ us hl => match us, hl with | [_], _ => rfl
  have F1 := fun_mk (st := s_is_text) l1 c1 k1
  have b1 := F1.binds (ps := ["word"]) fun _ _ _ _ _ _ us hl => match us, hl with | [_], _ => rfl
  have F2 := fun_mk (st := s_are_marks) l2 c2 k2
  have b2 := F2.binds (ps := ["words"]) fun _ _ _ _ _ _ us hl => match us, hl with | [_], _ => rfl
  have F3 := fun_mk (st := s_is_part) l3 c3 k3
  have b3 := F3.binds (ps := ["item"]) fun _ _ _ _ _ _ us hl => match us, hl with | [_], _ => rfl
  have F4 := fun_mk (st := s_walk) l4 c4 k4
  have b4 := F4.binds (ps := ["root"]) fun _ _ _ _ _ _ us hl => match us, hl with | [_], _ => rfl
  have F5 := fun_mk (st := s_within_bounds) l5 c5 k5
  have b5 := F5.binds (ps := ["root"]) fun _ _ _ _ _ _ us hl => match us, hl with | [_], _ => rfl
  have F6 := fun_mk (st := s_write_leaf) l6 c6 k6
  have b6 := F6.binds (ps := ["item"]) fun _ _ _ _ _ _ us hl => match us, hl with | [_], _ => rfl
  have F7 := fun_mk (st := s_write_document) l7 c7 k7
  have b7 := F7.binds (ps := ["root"]) fun _ _ _ _ _ _ us hl => match us, hl with | [_], _ => rfl
  have F8 := fun_mk (st := s_write_item) l8 c8 k8
  have b8 := F8.binds (ps := ["item"]) fun _ _ _ _ _ _ us hl => match us, hl with | [_], _ => rfl
  have F9 := fun_mk (st := s_word_end) l9 c9 k9
  have b9 := F9.binds (ps := ["text", "at"]) fun _ _ _ _ _ _ us hl => match us, hl with | [_, _], _ => rfl
  have F10 := fun_mk (st := s_read_part) l10 c10 k10
  have b10 := F10.binds (ps := ["text", "at", "depth"]) fun _ _ _ _ _ _ us hl => match us, hl with | [_, _, _], _ => rfl
  have F11 := fun_mk (st := s_read_item) l11 c11 k11
  have b11 := F11.binds (ps := ["text", "at", "depth"]) fun _ _ _ _ _ _ us hl => match us, hl with | [_, _, _], _ => rfl
  have F12 := fun_mk (st := s_is_sound) l12 c12 k12
  have b12 := F12.binds (ps := ["item"]) fun _ _ _ _ _ _ us hl => match us, hl with | [_], _ => rfl
  have F13 := fun_mk (st := s_read_alone) l13 c13 k13
  have b13 := F13.binds (ps := ["text"]) fun _ _ _ _ _ _ us hl => match us, hl with | [_], _ => rfl
  have F14 := fun_mk (st := s_read_document) l14 c14 k14
  have b14 := F14.binds (ps := ["text"]) fun _ _ _ _ _ _ us hl => match us, hl with | [_], _ => rfl
  have F15 := fun_mk (st := s__law_pool) l15 c15 k15
  have b15 := F15.binds (ps := ["_law_script", "_law_at"]) fun _ _ _ _ _ _ us hl => match us, hl with | [_, _], _ => rfl
  have F16 := fun_mk (st := s__law_take) l16 c16 k16
  have b16 := F16.binds (ps := ["_law_pool_here", "_law_many"]) fun _ _ _ _ _ _ us hl => match us, hl with | [_, _], _ => rfl
  have F17 := fun_mk (st := s__law_same) l17 c17 k17
  have b17 := F17.binds (ps := ["_law_one", "_law_two"]) fun _ _ _ _ _ _ us hl => match us, hl with | [_, _], _ => rfl
  have F18 := fun_mk (st := s__law_letters) l18 c18 k18
  have b18 := F18.binds (ps := ["_law_pool_here", "_law_many"]) fun _ _ _ _ _ _ us hl => match us, hl with | [_, _], _ => rfl
  have F19 := fun_mk (st := s__law_name) l19 c19 k19
  have b19 := F19.binds (ps := ["_law_pool_here", "_law_names"]) fun _ _ _ _ _ _ us hl => match us, hl with | [_, _], _ => rfl
  have F20 := fun_mk (st := s__law_marks) l20 c20 k20
  have b20 := F20.binds (ps := ["_law_pool_here", "_law_names"]) fun _ _ _ _ _ _ us hl => match us, hl with | [_, _], _ => rfl
  have F21 := fun_mk (st := s__law_prose) l21 c21 k21
  have b21 := F21.binds (ps := ["_law_pool_here", "_law_many"]) fun _ _ _ _ _ _ us hl => match us, hl with | [_, _], _ => rfl
  have F22 := fun_mk (st := s__law_text) l22 c22 k22
  have b22 := F22.binds (ps := ["_law_pool_here", "_law_budget"]) fun _ _ _ _ _ _ us hl => match us, hl with | [_, _], _ => rfl
  have F23 := fun_mk (st := s__law_item) l23 c23 k23
  have b23 := F23.binds (ps := ["_law_pool_here", "_law_names", "_law_budget", "_law_depth"]) fun _ _ _ _ _ _ us hl => match us, hl with | [_, _, _, _], _ => rfl
  have F24 := fun_mk (st := s__law_part) l24 c24 k24
  have b24 := F24.binds (ps := ["_law_pool_here", "_law_names", "_law_budget", "_law_depth"]) fun _ _ _ _ _ _ us hl => match us, hl with | [_, _, _, _], _ => rfl
  have F25 := fun_mk (st := s__law_wrapped) l25 c25 k25
  have b25 := F25.binds (ps := ["_law_pool_here", "_law_names", "_law_item_here", "_law_many"]) fun _ _ _ _ _ _ us hl => match us, hl with | [_, _, _, _], _ => rfl
  have F26 := fun_mk (st := s__law_leaf) l26 c26 k26
  have b26 := F26.binds (ps := ["_law_pool_here", "_law_names"]) fun _ _ _ _ _ _ us hl => match us, hl with | [_, _], _ => rfl
  have F27 := fun_mk (st := s__law_full_row) l27 c27 k27
  have b27 := F27.binds (ps := ["_law_pool_here", "_law_names", "_law_shift"]) fun _ _ _ _ _ _ us hl => match us, hl with | [_, _, _], _ => rfl
  have F28 := fun_mk (st := s__law_full_count) l28 c28 k28
  have b28 := F28.binds (ps := ["_law_pool_here", "_law_names", "_law_shift"]) fun _ _ _ _ _ _ us hl => match us, hl with | [_, _, _], _ => rfl
  have F29 := fun_mk (st := s__law_full_prose) l29 c29 k29
  have b29 := F29.binds (ps := ["_law_pool_here", "_law_names", "_law_shift"]) fun _ _ _ _ _ _ us hl => match us, hl with | [_, _, _], _ => rfl
  have F30 := fun_mk (st := s__law_full_depth) l30 c30 k30
  have b30 := F30.binds (ps := ["_law_pool_here", "_law_names", "_law_shift"]) fun _ _ _ _ _ _ us hl => match us, hl with | [_, _, _], _ => rfl
  have F31 := fun_mk (st := s__law_full_refs) l31 c31 k31
  have b31 := F31.binds (ps := ["_law_pool_here", "_law_names", "_law_shift"]) fun _ _ _ _ _ _ us hl => match us, hl with | [_, _, _], _ => rfl
  have F32 := fun_mk (st := s__law_edge) l32 c32 k32
  have b32 := F32.binds (ps := ["_law_pool_here", "_law_names", "_law_shift"]) fun _ _ _ _ _ _ us hl => match us, hl with | [_, _, _], _ => rfl
  have F33 := fun_mk (st := s__law_paths) l33 c33 k33
  have b33 := F33.binds (ps := ["_law_item_here", "_law_path"]) fun _ _ _ _ _ _ us hl => match us, hl with | [_, _], _ => rfl
  have F34 := fun_mk (st := s__law_sizes) l34 c34 k34
  have b34 := F34.binds (ps := ["_law_item_here", "_law_depth"]) fun _ _ _ _ _ _ us hl => match us, hl with | [_, _], _ => rfl
  have F35 := fun_mk (st := s__law_let) l35 c35 k35
  have b35 := F35.binds (ps := ["_law_root"]) fun _ _ _ _ _ _ us hl => match us, hl with | [_], _ => rfl
  have F36 := fun_mk (st := s__law_written) l36 c36 k36
  have b36 := F36.binds (ps := ["_law_item_here"]) fun _ _ _ _ _ _ us hl => match us, hl with | [_], _ => rfl
  have F37 := fun_mk (st := s__law_read) l37 c37 k37
  have b37 := F37.binds (ps := ["_law_text_here"]) fun _ _ _ _ _ _ us hl => match us, hl with | [_], _ => rfl
  have F38 := fun_mk (st := s_law) l38 c38 k38
  have b38 := F38.binds (ps := ["_law_script"]) fun _ _ _ _ _ _ us hl => match us, hl with | [_], _ => rfl
  exact ⟨{ c_BadDocument := c_BadDocument, g_BadDocument := PySem.W.mg_of X G a_BadDocument, bs_BadDocument := bs_BadDocument, tx_BadDocument := tx_BadDocument, hd_BadDocument := hd_BadDocument, x_BadDocument := x_BadDocument, kx_BadDocument := kx_BadDocument, xc_BadDocument := ⟨ga_BadDocument, gg_BadDocument, bs_BadDocument, hd_BadDocument, cl_BadDocument, hnO, htO, mo_BadDocument⟩, sv_BadDocument := sv_BadDocument, sb_BadDocument_BadDocument := sb_BadDocument_BadDocument, ti_MOST_NAME_LETTERS := ti_MOST_NAME_LETTERS, gi_MOST_NAME_LETTERS := PySem.W.mg_of X G ai_MOST_NAME_LETTERS, ti_MOST_TEXT_CHARACTERS := ti_MOST_TEXT_CHARACTERS, gi_MOST_TEXT_CHARACTERS := PySem.W.mg_of X G ai_MOST_TEXT_CHARACTERS, ti_MOST_MARKS := ti_MOST_MARKS, gi_MOST_MARKS := PySem.W.mg_of X G ai_MOST_MARKS, ti_MOST_ITEMS_OF_A_PART := ti_MOST_ITEMS_OF_A_PART, gi_MOST_ITEMS_OF_A_PART := PySem.W.mg_of X G ai_MOST_ITEMS_OF_A_PART, ti_MOST_DEPTH := ti_MOST_DEPTH, gi_MOST_DEPTH := PySem.W.mg_of X G ai_MOST_DEPTH, ti_MOST_ITEMS := ti_MOST_ITEMS, gi_MOST_ITEMS := PySem.W.mg_of X G ai_MOST_ITEMS, ti_MOST_CHARACTERS := ti_MOST_CHARACTERS, gi_MOST_CHARACTERS := PySem.W.mg_of X G ai_MOST_CHARACTERS, ti_MOST_REFERENCES := ti_MOST_REFERENCES, gi_MOST_REFERENCES := PySem.W.mg_of X G ai_MOST_REFERENCES, m_abs := PySem.W.mg_none_of X G z_abs, m_all := PySem.W.mg_none_of X G z_all, m_bool := PySem.W.mg_none_of X G z_bool, m_enumerate := PySem.W.mg_none_of X G z_enumerate, m_int := PySem.W.mg_none_of X G z_int, m_isinstance := PySem.W.mg_none_of X G z_isinstance, m_len := PySem.W.mg_none_of X G z_len, m_list := PySem.W.mg_none_of X G z_list, m_max := PySem.W.mg_none_of X G z_max, m_min := PySem.W.mg_none_of X G z_min, m_range := PySem.W.mg_none_of X G z_range, m_str := PySem.W.mg_none_of X G z_str, m_tuple := PySem.W.mg_none_of X G z_tuple, f_is_name := f0, fd_is_name := _, F_is_name := F0, b_is_name := b0, g_is_name := PySem.W.mg_of X G a0, f_is_text := f1, fd_is_text := _, F_is_text := F1, b_is_text := b1, g_is_text := PySem.W.mg_of X G a1, f_are_marks := f2, fd_are_marks := _, F_are_marks := F2, b_are_marks := b2, g_are_marks := PySem.W.mg_of X G a2, f_is_part := f3, fd_is_part := _, F_is_part := F3, b_is_part := b3, g_is_part := PySem.W.mg_of X G a3, f_walk := f4, fd_walk := _, F_walk := F4, b_walk := b4, g_walk := PySem.W.mg_of X G a4, f_within_bounds := f5, fd_within_bounds := _, F_within_bounds := F5, b_within_bounds := b5, g_within_bounds := PySem.W.mg_of X G a5, f_write_leaf := f6, fd_write_leaf := _, F_write_leaf := F6, b_write_leaf := b6, g_write_leaf := PySem.W.mg_of X G a6, f_write_document := f7, fd_write_document := _, F_write_document := F7, b_write_document := b7, g_write_document := PySem.W.mg_of X G a7, f_write_item := f8, fd_write_item := _, F_write_item := F8, b_write_item := b8, g_write_item := PySem.W.mg_of X G a8, f_word_end := f9, fd_word_end := _, F_word_end := F9, b_word_end := b9, g_word_end := PySem.W.mg_of X G a9, f_read_part := f10, fd_read_part := _, F_read_part := F10, b_read_part := b10, g_read_part := PySem.W.mg_of X G a10, f_read_item := f11, fd_read_item := _, F_read_item := F11, b_read_item := b11, g_read_item := PySem.W.mg_of X G a11, f_is_sound := f12, fd_is_sound := _, F_is_sound := F12, b_is_sound := b12, g_is_sound := PySem.W.mg_of X G a12, f_read_alone := f13, fd_read_alone := _, F_read_alone := F13, b_read_alone := b13, g_read_alone := PySem.W.mg_of X G a13, f_read_document := f14, fd_read_document := _, F_read_document := F14, b_read_document := b14, g_read_document := PySem.W.mg_of X G a14, f__law_pool := f15, fd__law_pool := _, F__law_pool := F15, b__law_pool := b15, g__law_pool := PySem.W.mg_of X G a15, f__law_take := f16, fd__law_take := _, F__law_take := F16, b__law_take := b16, g__law_take := PySem.W.mg_of X G a16, f__law_same := f17, fd__law_same := _, F__law_same := F17, b__law_same := b17, g__law_same := PySem.W.mg_of X G a17, f__law_letters := f18, fd__law_letters := _, F__law_letters := F18, b__law_letters := b18, g__law_letters := PySem.W.mg_of X G a18, f__law_name := f19, fd__law_name := _, F__law_name := F19, b__law_name := b19, g__law_name := PySem.W.mg_of X G a19, f__law_marks := f20, fd__law_marks := _, F__law_marks := F20, b__law_marks := b20, g__law_marks := PySem.W.mg_of X G a20, f__law_prose := f21, fd__law_prose := _, F__law_prose := F21, b__law_prose := b21, g__law_prose := PySem.W.mg_of X G a21, f__law_text := f22, fd__law_text := _, F__law_text := F22, b__law_text := b22, g__law_text := PySem.W.mg_of X G a22, f__law_item := f23, fd__law_item := _, F__law_item := F23, b__law_item := b23, g__law_item := PySem.W.mg_of X G a23, f__law_part := f24, fd__law_part := _, F__law_part := F24, b__law_part := b24, g__law_part := PySem.W.mg_of X G a24, f__law_wrapped := f25, fd__law_wrapped := _, F__law_wrapped := F25, b__law_wrapped := b25, g__law_wrapped := PySem.W.mg_of X G a25, f__law_leaf := f26, fd__law_leaf := _, F__law_leaf := F26, b__law_leaf := b26, g__law_leaf := PySem.W.mg_of X G a26, f__law_full_row := f27, fd__law_full_row := _, F__law_full_row := F27, b__law_full_row := b27, g__law_full_row := PySem.W.mg_of X G a27, f__law_full_count := f28, fd__law_full_count := _, F__law_full_count := F28, b__law_full_count := b28, g__law_full_count := PySem.W.mg_of X G a28, f__law_full_prose := f29, fd__law_full_prose := _, F__law_full_prose := F29, b__law_full_prose := b29, g__law_full_prose := PySem.W.mg_of X G a29, f__law_full_depth := f30, fd__law_full_depth := _, F__law_full_depth := F30, b__law_full_depth := b30, g__law_full_depth := PySem.W.mg_of X G a30, f__law_full_refs := f31, fd__law_full_refs := _, F__law_full_refs := F31, b__law_full_refs := b31, g__law_full_refs := PySem.W.mg_of X G a31, f__law_edge := f32, fd__law_edge := _, F__law_edge := F32, b__law_edge := b32, g__law_edge := PySem.W.mg_of X G a32, f__law_paths := f33, fd__law_paths := _, F__law_paths := F33, b__law_paths := b33, g__law_paths := PySem.W.mg_of X G a33, f__law_sizes := f34, fd__law_sizes := _, F__law_sizes := F34, b__law_sizes := b34, g__law_sizes := PySem.W.mg_of X G a34, f__law_let := f35, fd__law_let := _, F__law_let := F35, b__law_let := b35, g__law_let := PySem.W.mg_of X G a35, f__law_written := f36, fd__law_written := _, F__law_written := F36, b__law_written := b36, g__law_written := PySem.W.mg_of X G a36, f__law_read := f37, fd__law_read := _, F__law_read := F37, b__law_read := b37, g__law_read := PySem.W.mg_of X G a37, f_law := f38, fd_law := _, F_law := F38, b_law := b38, g_law := PySem.W.mg_of X G a38, ts_NAME_LETTERS := ts_NAME_LETTERS, gs_NAME_LETTERS := PySem.W.mg_of X G as_NAME_LETTERS, ts_TEXT_CHARACTERS := ts_TEXT_CHARACTERS, gs_TEXT_CHARACTERS := PySem.W.mg_of X G as_TEXT_CHARACTERS }, rfl, fun s v => .of_eq rfl⟩
end Lk10

namespace Lk10
section
open PySem PySem.W PyProof.Rows
set_option maxRecDepth 100000 in
set_option maxHeartbeats 0 in
theorem early0 (h : (PySem.Challenge.rw_stylepages_k10_whole_written_form_there).row.wellSaid = true → (PySem.Challenge.rw_stylepages_k10_whole_written_form_there).row.Holds) : (PySem.Challenge.rw_stylepages_k10_whole_written_form_there).Holds := by
  w_on; o_law; exact h (by assumption)
end
end Lk10

section
open PySem L2 Ab
noncomputable def kids : Tr → List Tr
  | .part _ _ its => its
  | _ => []
theorem kids_some {t u : Tr} {i : Nat} (h : (kids t)[i]? = some u) : ∃ kd ms its, t = .part kd ms its ∧ its[i]? = some u := by
  cases t with
  | part kd ms its => exact ⟨kd, ms, its, rfl, h⟩
  | txt z => exact absurd h (by simp [kids])
  | lab z => exact absurd h (by simp [kids])
  | ref z => exact absurd h (by simp [kids])
noncomputable def Tr.at : Tr → List Nat → Option Tr
  | t, [] => some t
  | t, i :: p => match (kids t)[i]? with
    | some u => u.at p
    | none => none
theorem at_nil (t : Tr) : t.at [] = some t := by rw [Tr.at]
theorem at_cons {t u : Tr} {i : Nat} {p : List Nat} (h : (kids t)[i]? = some u) : t.at (i :: p) = u.at p := by rw [Tr.at, h]
theorem at_none {t : Tr} {i : Nat} {p : List Nat} (h : (kids t)[i]? = none) : t.at (i :: p) = none := by rw [Tr.at, h]
noncomputable def isP : Tr → Bool
  | .part _ _ _ => true
  | _ => false
noncomputable abbrev dtN (k : Nat) : Dt := .int (k : Int)
noncomputable def Pr.dt (a : Str × List Str) : Dt := .tup [.str a.1, .tup (a.2.map Dt.str)]
noncomputable def ap_isp : AP := fun as Post => ∃ t : Tr, as = [.val t.dt] ∧ Post (.val (.bl (isP t))) as
mutual
noncomputable def flat : Tr → List Nat → List (List Nat × Tr)
  | .txt z, p => [(p, .txt z)]
  | .lab z, p => [(p, .lab z)]
  | .ref z, p => [(p, .ref z)]
  | .part kd ms its, p => (p, .part kd ms its) :: flats its p 0
noncomputable def flats : List Tr → List Nat → Nat → List (List Nat × Tr)
  | [], _, _ => []
  | t :: r, p, i => flat t (p ++ [i]) ++ flats r p (i + 1)
end
noncomputable def Rw.dt (a : List Nat × Tr) : Dt := .tup [.tup (a.1.map dtN), a.2.dt]
theorem flats_snoc : ∀ (l : List Tr) (t : Tr) (p : List Nat) (k : Nat), flats (l ++ [t]) p k = flats l p k ++ flat t (p ++ [k + l.length])
  | [], t, p, k => by simp [flats]
  | u :: r, t, p, k => by
    rw [List.cons_append, flats, flats, flats_snoc r t p (k + 1), List.append_assoc, List.length_cons, show k + 1 + r.length = k + (r.length + 1) by omega]
theorem flats_len {its : List Tr} (h : ∀ t ∈ its, ∀ p, (flat t p).length = t.sz) : ∀ p k, (flats its p k).length = (its.map Tr.sz).sum := by
  induction its with
  | nil => intro p k; simp [flats]
  | cons t r ih =>
    intro p k
    rw [flats, List.length_append, h t List.mem_cons_self, ih (fun u hu => h u (List.mem_cons_of_mem _ hu)), List.map_cons, List.sum_cons]
theorem flat_len : ∀ (t : Tr) (p : List Nat), (flat t p).length = t.sz := by
  intro t
  refine Tr.ind (P := fun t => ∀ p, (flat t p).length = t.sz) ?_ ?_ ?_ ?_ t
  · intro z p; unfold Tr.sz; rw [flat, Tr.sum]; rfl
  · intro z p; unfold Tr.sz; rw [flat, Tr.sum]; rfl
  · intro z p; unfold Tr.sz; rw [flat, Tr.sum]; rfl
  · intro kd ms its ih p
    rw [flat, List.length_cons, flats_len ih]
    show _ = Tr.sum w1 (.part kd ms its)
    rw [Tr.sum, sums_map]
    exact Nat.add_comm _ 1
theorem flats_at {its : List Tr} (h : ∀ t ∈ its, ∀ p a, a ∈ flat t p → ∃ r, a.1 = p ++ r ∧ t.at r = some a.2) : ∀ p k a, a ∈ flats its p k → ∃ i r u, its[i]? = some u ∧ a.1 = p ++ (k + i) :: r ∧ u.at r = some a.2 := by
  induction its with
  | nil => intro p k a ha; simp [flats] at ha
  | cons t r ih =>
    intro p k a ha
    rw [flats] at ha
    rcases List.mem_append.mp ha with ha | ha
    · obtain ⟨q, e1, e2⟩ := h t List.mem_cons_self _ a ha
      exact ⟨0, q, t, rfl, by rw [e1, List.append_assoc]; rfl, e2⟩
    · obtain ⟨i, q, u, e0, e1, e2⟩ := ih (fun u hu => h u (List.mem_cons_of_mem _ hu)) p (k + 1) a ha
      exact ⟨i + 1, q, u, by simpa using e0, by rw [e1]; congr 2; omega, e2⟩
theorem flat_at : ∀ (t : Tr) (p : List Nat) (a : List Nat × Tr), a ∈ flat t p → ∃ r, a.1 = p ++ r ∧ t.at r = some a.2 := by
  intro t
  refine Tr.ind (P := fun t => ∀ p a, a ∈ flat t p → ∃ r, a.1 = p ++ r ∧ t.at r = some a.2) ?_ ?_ ?_ ?_ t
  · intro z p a ha; rw [flat, List.mem_singleton] at ha; subst ha; exact ⟨[], by rw [List.append_nil], at_nil _⟩
  · intro z p a ha; rw [flat, List.mem_singleton] at ha; subst ha; exact ⟨[], by rw [List.append_nil], at_nil _⟩
  · intro z p a ha; rw [flat, List.mem_singleton] at ha; subst ha; exact ⟨[], by rw [List.append_nil], at_nil _⟩
  · intro kd ms its ih p a ha
    rw [flat] at ha
    rcases List.mem_cons.mp ha with ha | ha
    · subst ha; exact ⟨[], by rw [List.append_nil], at_nil _⟩
    · obtain ⟨i, q, u, e0, e1, e2⟩ := flats_at ih p 0 a ha
      exact ⟨i :: q, by rw [e1, Nat.zero_add], by rw [at_cons (u := u) e0]; exact e2⟩
noncomputable def todo (st : List (List Nat × Tr)) : List (List Nat × Tr) := (st.reverse).flatMap fun a => flat a.2 a.1
theorem rest_snoc (st : List (List Nat × Tr)) (a : List Nat × Tr) : todo (st ++ [a]) = flat a.2 a.1 ++ todo st := by
  unfold todo
  rw [List.reverse_append, List.reverse_singleton, List.singleton_append, List.flatMap_cons]
noncomputable def idx : List Tr → List Nat → Nat → List (List Nat × Tr)
  | [], _, _ => []
  | t :: r, p, i => (p ++ [i], t) :: idx r p (i + 1)
theorem idx_len : ∀ (l : List Tr) (p : List Nat) (k : Nat), (idx l p k).length = l.length
  | [], _, _ => rfl
  | t :: r, p, k => by rw [idx, List.length_cons, List.length_cons, idx_len r p (k + 1)]
theorem idx_at : ∀ (l : List Tr) (p : List Nat) (k j : Nat) (u : Tr), l[j]? = some u → (idx l p k)[j]? = some (p ++ [k + j], u)
  | [], _, _, _, _, h => by simp at h
  | t :: r, p, k, 0, u, h => by simp at h; subst h; rfl
  | t :: r, p, k, j + 1, u, h => by
    rw [idx, List.getElem?_cons_succ, idx_at r p (k + 1) j u (by simpa using h)]
    congr 4
    omega
theorem idx_flat : ∀ (l : List Tr) (p : List Nat) (k : Nat), ((idx l p k).flatMap fun a => flat a.2 a.1) = flats l p k
  | [], _, _ => rfl
  | t :: r, p, k => by rw [idx, List.flatMap_cons, idx_flat r p (k + 1), flats]
theorem rest_idx (st : List (List Nat × Tr)) (its : List Tr) (p : List Nat) : todo (st ++ (idx its p 0).reverse) = flats its p 0 ++ todo st := by
  unfold todo
  rw [List.reverse_append, List.reverse_reverse, List.flatMap_append, idx_flat]
theorem drop_step {α : Type} {l : List α} {j : Nat} {x : α} (h : l[j]? = some x) : l.drop j = x :: l.drop (j + 1) := by
  obtain ⟨h1, h2⟩ := List.getElem?_eq_some_iff.mp h
  rw [List.drop_eq_getElem_cons h1, h2]
noncomputable def ap_paths (n : Nat) : AP := fun as Post => ∃ (t : Tr) (p : List Nat), as = [.val t.dt, .val (.tup (p.map dtN))] ∧ t.dep ≤ n ∧ p.length + t.dep ≤ 60 ∧ t.sz ≤ 1000 ∧ Post (.new ((flat t p).map Rw.dt)) as
end
section
open PySem L2 Ab
noncomputable def tq_is_part (K : PySem.W.Frag) : TS :=
    (tRet (tAndV (tCB (rIsi K) (tCons (tVar 0) (tCons (tC (.ty "tuple")) tNil))) (tOp (rEqG K) (tCB (rLenV K) (tCons (tVar 0) tNil)) (tC (.int 3)))))
noncomputable def tq_walk (K : PySem.W.Frag) (ap_is_part : AP) : Ga.TY :=
    (Ga.yThen (Ga.yPlain (tAsg (tLst (tCons (tTup (tCons (tTup tNil) (tCons (tVar 0) tNil))) tNil)) (gName 1)))
    (Ga.yThen (Ga.yWhile (tTru K (tVar 1)) (Ga.yThen (Ga.yPlain (tAsg (tBM0 K "list" rPop (tVar 1)) (gTup K 2 (gCons (gName 2) (gCons (gName 3) gNil)))))
    (Ga.yThen (Ga.yYield (tTup (tCons (tVar 2) (tCons (tVar 3) tNil))))
    (Ga.yThen (Ga.yPlain (tIfS (tB (tCall (toSp K ap_is_part) [] E0 (tCons (tVar 3) tNil))) (tFor (iRng3 (tCons (tOp rSubI (tCB (rLenV K) (tCons (tOp (rIx K) (tVar 3) (tC (.int 2))) tNil)) (tC (.int 1))) (tCons (tUn rNegI (tC (.int 1))) (tCons (tUn rNegI (tC (.int 1))) tNil)))) (gName 4) (tDrop (tBM K "list" rAppend (tVar 1) (tCons (tTup (tCons (tOp (rAddG K) (tVar 2) (tTup (tCons (tVar 4) tNil))) (tCons (tOp (rIx K) (tOp (rIx K) (tVar 3) (tC (.int 2))) (tVar 4)) tNil))) tNil)))) tNext))
    Ga.yNil))))
    Ga.yNil))
noncomputable def tq_within_bounds (K : PySem.W.Frag) (ap_is_part : AP) : TS :=
    (tSeq (tAsg (tC (.int 0)) (gName 1))
    (tSeq (tAsg (tC (.int 0)) (gName 2))
    (tSeq (tAsg (tC (.int 0)) (gName 3))
    (tSeq (Ga.tForY (Ga.yArgs 1 [] (tCons (tVar 0) tNil)) ["root", "waiting", "path", "item", "at"] (tq_walk K ap_is_part) (gTup K 2 (gCons (gName 4) (gCons (gName 5) gNil))) (tSeq (tAug 1 (tC (.int 1)) (ipI fun i j => i + j))
    (tIfS (tB (tCB (rIsi K) (tCons (tVar 5) (tCons (tC (.ty "str")) tNil)))) (tAug 2 (tCB (rLenV K) (tCons (tVar 5) tNil)) (ipI fun i j => i + j)) (tIfS (tB (tCall (toSp K ap_is_part) [] E0 (tCons (tVar 5) tNil))) (tIfS (tOr (tTest (tOp rGtI (tCB (rLenV K) (tCons (tOp (rIx K) (tVar 5) (tC (.int 2))) tNil)) (tC (.int 12)))) (tTest (tOp rGeI (tCB (rLenV K) (tCons (tVar 4) tNil)) (tC (.int 6))))) (tRet (tC (.bl false))) tNext) (tIfS (tTest (tOp (rEqG K) (tOp (rIx K) (tVar 5) (tC (.int 0))) (tC (.str "@")))) (tAug 3 (tC (.int 1)) (ipI fun i j => i + j)) tNext)))))
    (tRet (tAndV (tOp rLeI (tVar 1) (tC (.int 60))) (tAndV (tOp rLeI (tVar 2) (tC (.int 400))) (tOp rLeI (tVar 3) (tC (.int 3))))))))))
end
section
open PySem L2 Ab
end
local macro_rules | `(tactic| walk_at "no") => `(tactic| first
  | with_reducible exact fun h => Bool.noConfusion (show true = false from h)
  | with_reducible exact fun h => Bool.noConfusion (show false = true from h)
  | exact fun h => absurd h (by decide)
  | exact fun h => absurd (of_decide_eq_true h) (by omega)
  | exact fun h => absurd (by omega) (of_decide_eq_false h)
  | exact fun h => absurd (by omega) (nd_t h)
  | exact fun h => absurd (nd_f h) (by omega)
  | fail "no")
section
open PySem L2 Ab
end
local macro_rules | `(tactic| walk_at "kb") => `(tactic| first | exact kb_tt | exact kb_ll | exact kb_ii | exact kb_ib | exact kb_ss | exact kb_sb | exact kb_si | exact kb_tb | exact kb_ti | exact kb_ts | exact kb_tl | exact kb_lb | exact kb_li | exact kb_ls | exact kb_lt | exact kb_is | exact kb_it | exact kb_il | exact kb_st | exact kb_sl | exact kb_bb | exact kb_bi | exact kb_nb | exact kb_ni | exact kb_ns | exact kb_nt | exact kb_nl | exact kb_bs | exact kb_bt | exact kb_bl | fail "kb")
section
open PySem L2 Ab
end
local macro_rules | `(tactic| walk_at "norm") => `(tactic| first
  | ((refine' norm_cons (rfl : _ = _ :: _) ?ea ?et); (case ea => first | with_reducible exact (rfl : Sl.val _ = _) | with_reducible exact (rfl : Sl.cel _ = _) | with_reducible exact (rfl : Sl.un = _) | with_reducible exact norm_v | with_reducible exact norm_n | with_reducible exact norm_o | exact norm_v | exact norm_n | exact norm_o | exact rfl | fail "norm"); (case et => walk_at "norm"))
  | exact (rfl : _ = ([] : List Sl))
  | fail "norm")
section
open PySem L2 Ab
end
local macro_rules | `(tactic| walk_at "nd") => `(tactic| first
  | exact (rfl : _ = ([] : List Dt))
  | ((refine' normD_cons (rfl : _ = _ :: _) ?et); (case et => walk_at "nd"))
  | fail "nd")
section
open PySem L2 Ab
end
local macro_rules | `(tactic| walk_at "yO") => `(tactic| first
  | with_reducible refine we_ixG ?_
  | with_reducible refine we_opI0 ?_
  | with_reducible refine we_addG ?_
  | with_reducible refine we_eqG ?_
  | with_reducible refine we_neG ?_
  | with_reducible refine we_ltG ?_
  | with_reducible refine we_mulG ?_
  | with_reducible refine we_opI ?_
  | with_reducible refine we_inG ?_
  | with_reducible refine we_notInG ?_
  | with_reducible refine we_gtS ?_
  | fail "yO")
section
open PySem L2 Ab
end
local macro_rules | `(tactic| walk_at "yB") => `(tactic| first
  | with_reducible refine we_lenG ?_
  | with_reducible refine we_isiG ?_
  | with_reducible refine we_intG ?_
  | with_reducible refine we_tuple ?_
  | with_reducible refine we_list ?_
  | with_reducible refine we_sumG ?_
  | with_reducible refine we_sum ?_
  | with_reducible refine we_max2 ?_
  | with_reducible refine we_min2 ?_
  | with_reducible refine we_abs ?_
  | with_reducible refine we_isoG ?_
  | with_reducible refine we_join ?_
  | fail "yB")
section
open PySem L2 Ab
end
local macro_rules | `(tactic| walk_at "yV") => `(tactic| first
  | ((with_reducible refine' we_var ?hh ?_); (case hh => exact rfl))
  | ((with_reducible refine' we_own ?hh ?_); (case hh => exact rfl))
  | fail "yV")
section
open PySem L2 Ab
end
local macro_rules | `(tactic| walk_at "yC") => `(tactic| first
  | with_reducible refine we_c ?_
  | fail "yC")
section
open PySem L2 Ab
end
local macro_rules | `(tactic| walk_at "yE") => `(tactic| first
  | ((with_reducible show Ab.WE _ (L2.tVar _) _ _); walk_at "yV")
  | ((with_reducible show Ab.WE _ (L2.tOp _ _ _) _ _); walk_at "yO")
  | ((with_reducible show Ab.WE _ (L2.tC _) _ _); walk_at "yC")
  | ((with_reducible show Ab.WE _ (L2.tCB _ _) _ _); walk_at "yB")
  | with_reducible refine we_callH ?_
  | with_reducible refine we_join ?_
  | with_reducible refine we_fldG ?_
  | with_reducible refine we_tup ?_
  | with_reducible refine we_lst ?_
  | with_reducible refine we_notN ?_
  | with_reducible refine we_isN ?_
  | with_reducible refine we_if ?_
  | with_reducible refine we_methG ?_
  | ((with_reducible refine' we_appendN ?hh ?_); (case hh => exact rfl))
  | with_reducible refine we_slG ?_
  | with_reducible refine we_neg ?_
  | with_reducible refine we_make ?_
  | with_reducible refine we_own2 ?_
  | with_reducible refine we_smeth ?_
  | with_reducible refine we_makeD ?_
  | with_reducible refine we_makeK ?_
  | ((with_reducible refine' we_clearN ?hh ?_); (case hh => exact rfl))
  | with_reducible refine we_chainI ?_
  | with_reducible refine we_andV ?_
  | with_reducible refine we_orV ?_
  | with_reducible refine we_notV ?_
  | ((with_reducible refine' we_reverseN ?hh ?_); (case hh => exact rfl))
  | ((with_reducible refine' we_ktup ?h1 ?_); (case h1 => assumption))
  | fail "yE")
section
open PySem L2 Ab
end
local macro_rules | `(tactic| walk_at "yS") => `(tactic| first
  | with_reducible refine ws_if ?_
  | with_reducible refine ws_expr ?_
  | with_reducible refine ws_asgN rfl rfl ?_
  | with_reducible refine ws_setN ?_
  | with_reducible refine ws_asgG ?_
  | with_reducible refine ws_nil ?_
  | ((with_reducible refine' ws_retA ?hh ?_); (case hh => exact rfl))
  | with_reducible refine ws_ret ?_
  | ((with_reducible refine' ws_augN ?h1 ?h2 ?_); (case h1 => exact rfl); (case h2 => exact rfl))
  | fail "yS")
section
open PySem L2 Ab
end
local macro_rules | `(tactic| walk_at "yT") => `(tactic| first
  | with_reducible refine wt_test ?_
  | with_reducible refine wt_B ?_
  | with_reducible refine wt_not ?_
  | with_reducible refine wt_and ?_
  | with_reducible refine wt_or ?_
  | with_reducible refine wt_yes ?_
  | fail "yT")
section
open PySem L2 Ab
end
local macro_rules | `(tactic| walk_at "yG") => `(tactic| first
  | with_reducible refine wg_nameN rfl rfl ?_
  | ((with_reducible refine' wg_tup ?hh ?_); (case hh => exact rfl))
  | fail "yG")
section
open PySem L2 Ab
end
local macro_rules | `(tactic| walk_at "yD") => `(tactic| first
  | with_reducible refine wd_cons ?_
  | with_reducible refine wd_nil ?_
  | fail "yD")
section
open PySem L2 Ab
end
local macro_rules | `(tactic| walk_at "yW") => `(tactic| first
  | with_reducible refine wa_cons ?_
  | with_reducible refine wa_nil ?_
  | fail "yW")
section
open PySem L2 Ab
end
local macro_rules | `(tactic| walk_at "yR") => `(tactic| first
  | with_reducible refine wo_none ?_
  | with_reducible refine wo_some ?_
  | fail "yR")
section
open PySem L2 Ab
end
local macro_rules | `(tactic| walk_at "yP") => `(tactic| first
  | ((with_reducible refine' fldp ?h1 ?h2 ?h3 ?_); (case h1 => assumption); (case h2 => assumption); (case h3 => walk_at "lk"))
  | ((with_reducible refine' ixp ?h1 ?h2 ?_); (case h1 => exact rfl); (case h2 => assumption))
  | ((with_reducible refine' ixp ?h1 ?h2 ?_); (case h1 => exact rfl); (case h2 => exact rfl))
  | with_reducible refine eqp_st ?_
  | with_reducible refine nep_st ?_
  | ((with_reducible refine' eqp_sf ?h1 ?_); (case h1 => first | assumption | decide +kernel))
  | ((with_reducible refine' nep_sf ?h1 ?_); (case h1 => first | assumption | decide +kernel))
  | with_reducible refine eqp_i ?_
  | with_reducible refine nep_i ?_
  | with_reducible refine addp_i ?_
  | with_reducible refine ltp_i ?_
  | ((with_reducible refine' lenp ?hh ?_); (case hh => exact rfl))
  | ((with_reducible refine' metp ?h3 ?_); (case h3 => walk_at "lk"))
  | ((with_reducible refine' addp_tE ?hz ?h ?_); (case h => walk_at "nd"); (case hz => exact Nat.le_of_ble_eq_true rfl))
  | ((with_reducible refine' slp_tE ?h ?_); (case h => walk_at "nd"))
  | ((with_reducible refine' mulp_r ?h1 ?_); (case h1 => first | decide | omega | fail "m"))
  | ((with_reducible refine' mulp_l ?h1 ?_); (case h1 => first | decide | omega | fail "m"))
  | with_reducible refine intp_i ?_
  | with_reducible refine intp_b ?_
  | ((with_reducible refine' isi_own ?h1 ?h2 ?_); (case h1 => exact rfl); (case h2 => walk_at "kb"))
  | ((with_reducible refine' isi_val ?h1 ?h2 ?_); (case h1 => exact rfl); (case h2 => walk_at "kb"))
  | ((with_reducible refine' isi_new ?h2 ?_); (case h2 => walk_at "kb"))
  | ((with_reducible refine' isop ?h1 ?_); (case h1 => assumption))
  | ((with_reducible refine' lenp_s ?h1 ?_); (case h1 => assumption))
  | ((with_reducible refine' slp_s ?h1 ?_); (case h1 => assumption))
  | ((with_reducible refine' ixp_s ?h1 ?h2 ?_); (case h1 => assumption); (case h2 => assumption))
  | with_reducible refine wgs_cons ?_
  | with_reducible refine wgs_nil ?_
  | fail "yP")
section
open PySem L2 Ab
end
local macro_rules | `(tactic| walk_at "yA") => `(tactic| first
  | (refine ⟨_, rfl, ⟨_, rfl⟩, ?_⟩)
  | (refine ⟨_, rfl, ?_⟩)
  | (refine ⟨_, _, _, rfl, rfl, rfl, ?_⟩)
  | (refine ⟨_, _, rfl, rfl, (Nat.le_of_ble_eq_true rfl : _ ≤ _), ?_⟩)
  | (refine ⟨_, _, rfl, rfl, ?_⟩)
  | (refine ⟨(Nat.le_of_ble_eq_true rfl : _ ≤ _), ?_⟩)
  | (refine ⟨(rfl : _ = true), ?_⟩)
  | ((refine' ⟨fun _ => ?_, fun hY => absurd hY ?k2⟩); (case k2 => walk_at "no"))
  | ((refine' ⟨fun hY => absurd hY ?k2, fun _ => ?_⟩); (case k2 => walk_at "no"))
  | (refine ⟨⟨(by omega), (by omega)⟩, ?_⟩)
  | (refine ⟨⟨(by decide), (by decide), (by decide)⟩, ?_⟩)
  | (refine ⟨(show (_ : Prop) from by first | decide | omega | fail "c"), ?_⟩)
  | fail "yA")
section
open PySem L2 Ab
end
local macro_rules | `(tactic| walk_at "x") => `(tactic| first
  | ((with_reducible refine' norm_intro ?hn ?_); (case hn => walk_at "norm"))
  | ((with_reducible show Ab.WE _ _ _ _); walk_at "yE")
  | ((with_reducible show Ab.WS _ _ _ _ _); walk_at "yS")
  | ((with_reducible show Ab.WD _ _ _ _); walk_at "yD")
  | ((with_reducible show Ab.WT _ _ _ _); walk_at "yT")
  | ((with_reducible show Ab.WG _ _ _ _ _ _); walk_at "yG")
  | ((with_reducible show Ab.WA _ _ _ _); walk_at "yW")
  | ((with_reducible show Ab.WO _ _ _ _); walk_at "yR")
  | ((fail_if_success with_reducible show Ab.Hold _); (first | walk_at "yP" | walk_at "yA" | fail "p"))
  | fail "x")
section
open PySem L2 Ab
end
local macro_rules | `(tactic| walk_at "e") => `(tactic| first | with_reducible refine ws_seq ?_ | walk_at "x" | fail "stop")
section
open PySem L2 Ab
end
local macro_rules | `(tactic| walk_at "xs") => `(tactic| repeat' walk_at "x")
section
open PySem L2 Ab
end
local macro_rules | `(tactic| walk_at "es") => `(tactic| repeat' walk_at "e")
section
open PySem L2 Ab
end
local macro_rules | `(tactic| walk_at "len") => `(tactic| ((intro as Post h); (repeat (first | (obtain ⟨e, _⟩ := h; exact (congrArg List.length e).trans rfl) | (obtain ⟨_, h⟩ := h)))))
section
open PySem L2 Ab
end
local macro_rules | `(tactic| walk_at "tk") => `(tactic| refine .a (tk (by assumption) (by omega) (by omega) (by omega) fun _ _ _ _ _ => ?_))
section
open PySem L2 Ab
theorem sum_take_le {f : Tr → Nat} : ∀ {l : List Tr} {i : Nat} {u : Tr}, l[i]? = some u → ((l.take i).map f).sum + f u ≤ (l.map f).sum
  | [], i, u, h => by simp at h
  | x :: r, 0, u, h => by
    simp at h
    subst h
    simp
  | x :: r, i + 1, u, h => by
    have := sum_take_le (f := f) (l := r) (i := i) (u := u) (by simpa using h)
    simp only [List.take_succ_cons, List.map_cons, List.sum_cons]
    omega
theorem fm_len : ∀ l : List (List Nat × Tr), l.length ≤ (l.flatMap fun a => flat a.2 a.1).length
  | [] => by simp
  | a :: r => by
    rw [List.flatMap_cons, List.length_append, flat_len, List.length_cons]
    have := fm_len r
    have := sz_pos a.2
    omega
theorem todo_len (st : List (List Nat × Tr)) : st.length ≤ (todo st).length := by
  have := fm_len st.reverse
  rw [List.length_reverse] at this
  exact this
theorem we_popN {Γ : List Sl} {i : Nat} {ds : List Dt} {d : Dt} {Post : Re → List Sl → Prop} (h0 : Γ[i]? = some (.acc (ds ++ [d]))) (p : NormP (Γ.set i (.acc ds)) (Post (.val d))) : WE K (tBM0 K "list" rPop (tVar i)) Γ Post := fun σ B H E Q q => by
  obtain ⟨l, vs, e0, e1, e2, k0⟩ := E.acc i _ h0
  have hl : vs.length = ds.length + 1 := by rw [k0.len, List.length_append]; rfl
  obtain ⟨w, hw, kw⟩ := k0.get (show (ds ++ [d])[vs.length - 1]? = some d by rw [hl, Nat.add_sub_cancel, List.getElem?_append_right (Nat.le_refl _), Nat.sub_self]; rfl)
  have hdl : IsA K B vs.dropLast ds := by
    refine ⟨by rw [List.length_dropLast, hl, Nat.add_sub_cancel], fun j v e a b => ?_⟩
    have hj := (List.getElem?_eq_some_iff.mp b).1
    refine k0.at_ j v e ?_ (by rw [List.getElem?_append_left hj]; exact b)
    rw [List.getElem?_dropLast, if_pos (by omega)] at a
    exact a
  exact ⟨.ref l, e0, .inl ⟨rfl, vs, .inl (.inl e1)⟩, l, vs, w, rfl, rfl, e1, hw, q w B _ (.val d) _ (Go.put E h0 e0 hdl) kw p⟩
theorem noT_strs (ms : List Str) : NoT (.tup (ms.map Dt.str)) := .tup fun d hd => by
  obtain ⟨z, _, rfl⟩ := List.mem_map.mp hd
  exact .raw _
theorem noT_tr : ∀ t : Tr, NoT t.dt := by
  intro t
  refine Tr.ind (P := fun t => NoT t.dt) ?_ ?_ ?_ ?_ t
  · intro z; rw [Tr.dt]; exact .raw _
  · intro z; rw [Tr.dt]; exact noT_strs ["#", z]
  · intro z; rw [Tr.dt]; exact noT_strs ["@", z]
  · intro kd ms its ih
    rw [dt_part]
    refine .tup fun d hd => ?_
    rcases List.mem_cons.mp hd with rfl | hd
    · exact .raw _
    · rcases List.mem_cons.mp hd with rfl | hd
      · exact noT_strs ms
      · rw [List.mem_singleton.mp hd]
        refine .tup fun d hd => ?_
        obtain ⟨u, hu, rfl⟩ := List.mem_map.mp hd
        exact ih u hu
theorem noT_rw (a : List Nat × Tr) : NoT (Rw.dt a) := by
  unfold Rw.dt
  refine .tup fun d hd => ?_
  rcases List.mem_cons.mp hd with rfl | hd
  · refine .tup fun d hd => ?_
    obtain ⟨z, _, rfl⟩ := List.mem_map.mp hd
    exact .raw _
  · rw [List.mem_singleton.mp hd]; exact noT_tr _
theorem flat_hd (u : Tr) (p : List Nat) : ∃ X, flat u p = (p, u) :: X := by
  cases u with
  | part kd ms its => exact ⟨_, by rw [flat]⟩
  | _ => exact ⟨[], by rw [flat]⟩
noncomputable def az_walk : AZ := fun as ds => ∃ t : Tr, as = [t.dt] ∧ t.sz ≤ 1000 ∧ t.dep ≤ 30 ∧ ds = (flat t []).map Rw.dt
theorem run_isp {K : PySem.W.Frag} : RunOk K [] (tq_is_part K) 1 ap_isp := by
  rintro as Post ⟨t, rfl, k⟩
  unfold tq_is_part
  show WS K [] _ [.val t.dt] _
  cases t with
  | txt z => rw [Tr.dt] at k ⊢; walk_at "es"; exact k
  | lab z => rw [Tr.dt] at k ⊢; walk_at "es"; exact k
  | ref z => rw [Tr.dt] at k ⊢; walk_at "es"; exact k
  | part kd ms its => rw [Tr.dt] at k ⊢; walk_at "es"; exact k
theorem run_walk {K : PySem.W.Frag} : RunZ K (tq_walk K ap_isp) 5 az_walk := by
  rintro as ds ⟨t, rfl, hsz, hdp, rfl⟩
  refine ⟨by simp, fun d hd => by rw [List.mem_singleton.mp hd]; exact noT_tr t, ?_⟩
  unfold tq_walk
  show WZ K _ _ 0 [.val t.dt, .un, .un, .un, .un] _
  refine wz_seq (wz_plain ?_)
  walk_at "es"
  refine wz_seq (wz_while (fun m ys G => ∃ (out st : List (List Nat × Tr)) (s2 s3 s4 : Sl), ys = out.length ∧ G = [.val t.dt, .acc (st.map Rw.dt), s2, s3, s4] ∧ out ++ todo st = flat t [] ∧ m = (todo st).length ∧ ∀ a ∈ st, a.1.length + a.2.dep ≤ 30 ∧ a.2.sz ≤ 1000) (flat t []).length ?_ ?_)
  · refine ⟨[], [([], t)], _, _, _, rfl, rfl, ?_, ?_, ?_⟩
    · rw [List.nil_append, show [([], t)] = [] ++ [(([] : List Nat), t)] from rfl, rest_snoc]; simp [todo]
    · rw [show [([], t)] = [] ++ [(([] : List Nat), t)] from rfl, rest_snoc]; simp [todo]
    · intro a ha
      rw [List.mem_singleton.mp ha]
      exact ⟨by simpa using hdp, hsz⟩
  · rintro m ys G ⟨out, st, s2, s3, s4, rfl, rfl, hall, rfl, hst⟩
    refine wt_truA (ds := st.map Rw.dt) rfl ⟨fun hz => ?_, fun hz => ?_⟩
    · have hne : st ≠ [] := fun h => by subst h; simp at hz
      obtain ⟨st0, ⟨p, u⟩, rfl⟩ : ∃ st0 a, st = st0 ++ [a] := ⟨st.dropLast, st.getLast hne, (List.dropLast_concat_getLast hne).symm⟩
      have hst0 : ∀ a ∈ st0, a.1.length + a.2.dep ≤ 30 ∧ a.2.sz ≤ 1000 := fun a ha => hst a (List.mem_append_left _ ha)
      obtain ⟨hpu, hsu⟩ := hst (p, u) (List.mem_append_right _ List.mem_cons_self)
      have hpu : p.length + u.dep ≤ 30 := hpu
      have hsu : u.sz ≤ 1000 := hsu
      have hol : out.length < 1000 := by
        have := congrArg List.length hall
        rw [flat_len, List.length_append, rest_snoc, List.length_append, flat_len] at this
        dsimp only at this
        have := sz_pos u
        omega
      rw [rest_snoc] at hall
      have hsl : st0.length ≤ 1000 := by
        have h1 := congrArg List.length hall
        rw [flat_len, List.length_append, List.length_append] at h1
        have h2 := todo_len st0
        omega
      have fin : ∀ (st' : List (List Nat × Tr)) (X : List (List Nat × Tr)) (s2 s3 s4 : Sl) (Q1 Q2 : Nat → List Sl → Prop), flat u p = (p, u) :: X → todo st' = X ++ todo st0 → (∀ a ∈ st', a.1.length + a.2.dep ≤ 30 ∧ a.2.sz ≤ 1000) →
          WZ K ((flat t []).map Rw.dt) Ga.yNil (out.length + 1) [.val t.dt, .acc (st'.map Rw.dt), s2, s3, s4] ⟨fun y G => ∃ m', m' < (todo (st0 ++ [(p, u)])).length ∧ ∃ (out st : List (List Nat × Tr)) (s2 s3 s4 : Sl), y = out.length ∧ G = [.val t.dt, .acc (st.map Rw.dt), s2, s3, s4] ∧ out ++ todo st = flat t [] ∧ m' = (todo st).length ∧ ∀ a ∈ st, a.1.length + a.2.dep ≤ 30 ∧ a.2.sz ≤ 1000, Q1, Q2⟩ := by
        intro st' X s2 s3 s4 Q1 Q2 e1 e2 h3
        refine wz_nil ⟨(todo st').length, ?_, out ++ [(p, u)], st', s2, s3, s4, ?_, rfl, ?_, rfl, h3⟩
        · rw [rest_snoc, e1, e2]; simp
        · rw [List.length_append]; rfl
        · rw [← hall, e1, e2]; simp
      have hget : ((flat t []).map Rw.dt)[out.length]? = some (Rw.dt (p, u)) := by
        rw [← hall, List.getElem?_map]
        obtain ⟨X, hX⟩ := flat_hd u p
        dsimp only
        rw [hX]
        simp
      have em : (st0 ++ [(p, u)]).map Rw.dt = st0.map Rw.dt ++ [.tup [.tup (p.map dtN), u.dt]] := by rw [List.map_append]; rfl
      rw [em]
      refine wz_seq (wz_plain ?_)
      walk_at "es"
      refine we_popN rfl ?_
      walk_at "es"
      refine wz_seq (wz_yield hget (noT_rw _) ?_)
      walk_at "es"
      refine ⟨rfl, ?_⟩
      refine wz_seq (wz_plain ?_)
      walk_at "es"
      refine .a ⟨u, rfl, ?_⟩
      cases u with
      | txt z => rw [show isP (.txt z) = false from rfl]; walk_at "es"; exact fin st0 [] _ _ _ _ _ (by rw [flat]) rfl hst0
      | lab z => rw [show isP (.lab z) = false from rfl]; walk_at "es"; exact fin st0 [] _ _ _ _ _ (by rw [flat]) rfl hst0
      | ref z => rw [show isP (.ref z) = false from rfl]; walk_at "es"; exact fin st0 [] _ _ _ _ _ (by rw [flat]) rfl hst0
      | part kd ms its =>
        have hsz2 : 1 + (its.map Tr.sz).sum = (Tr.part kd ms its).sz := by unfold Tr.sz; rw [Tr.sum, sums_map]; rfl
        rw [Tr.dep] at hpu
        have hil : its.length ≤ (its.map Tr.sz).sum := by
          have : ∀ l : List Tr, l.length ≤ (l.map Tr.sz).sum := fun l => by
            induction l with
            | nil => simp
            | cons x r ih => have := sz_pos x; simp only [List.length_cons, List.map_cons, List.sum_cons]; omega
          exact this its
        have fin2 := fin (st0 ++ (idx its p 0).reverse) (flats its p 0)
        rw [show isP (.part kd ms its) = true from rfl, dt_part]
        walk_at "es"
        have hlm : (its.map Tr.dt).length = its.length := List.length_map ..
        have hxl : (idx its p 0).length = its.length := idx_len its p 0
        refine for_3H ?_
        walk_at "es"
        refine .a ⟨_, _, rfl, ⟨by omega, by omega, by omega, by omega⟩, fun i G => ∃ s4, G = [.val t.dt, .acc ((st0 ++ ((idx its p 0).drop (its.length - i)).reverse).map Rw.dt), .val (.tup (p.map dtN)), .val (.tup [.str kd, .tup (ms.map Dt.str), .tup (its.map Tr.dt)]), s4], ⟨_, by rw [Nat.sub_zero, List.drop_eq_nil_of_le (by omega), List.reverse_nil, List.append_nil]⟩, ?_, ?_⟩
        · rintro i G hi ⟨s4, rfl⟩
          obtain ⟨v, hv⟩ : ∃ v, its[its.length - 1 - i]? = some v := ⟨_, List.getElem?_eq_getElem (by omega)⟩
          have hx := idx_at its p 0 (its.length - 1 - i) v hv
          have hd := drop_step hx
          rw [Nat.zero_add] at hd
          have hj : ((its.map Tr.dt).length : Int) - 1 - i = ((its.length - 1 - i : Nat) : Int) := by omega
          rw [hj]
          generalize hje : its.length - 1 - i = j at hv hx hd ⊢
          have hat2 : atI (its.map Tr.dt) (j : Int) = some v.dt := atI_of rfl (by rw [List.getElem?_map, hv]; rfl)
          have hll : ((st0 ++ ((idx its p 0).drop (its.length - i)).reverse).map Rw.dt).length < 1000000 := by
            rw [List.length_map, List.length_append, List.length_reverse, List.length_drop]
            omega
          walk_at "es"
          refine addp_t (by rw [List.length_map]; simp only [List.length_cons, List.length_nil]; omega) ?_
          have e2 : p.map dtN ++ [Dt.int (j : Int)] = (p ++ [j]).map dtN := by rw [List.map_append]; rfl
          rw [e2]
          walk_at "es"
          refine .a ⟨.val (.int (j : Int)), ?_⟩
          rw [show its.length - (i + 1) = j by omega, hd, show its.length - i = j + 1 by omega, List.reverse_cons, ← List.append_assoc]
          have e3 : Rw.dt (p ++ [j], v) = .tup [.tup (p.map dtN ++ [dtN j]), v.dt] := by rw [Rw.dt, List.map_append]; rfl
          simp only [List.map_append, List.map_cons, List.map_nil, e3]
        · rintro G ⟨s4, rfl⟩
          walk_at "es"
          rw [show its.length - (((its.map Tr.dt).length : Int) - 1 - -1).toNat = 0 by omega, List.drop_zero]
          refine fin2 _ _ _ _ _ (by rw [flat]) (rest_idx st0 its p) fun a ha => ?_
          rcases List.mem_append.mp ha with ha | ha
          · exact hst0 a ha
          · obtain ⟨j, hj, hja⟩ := List.getElem_of_mem (List.mem_reverse.mp ha)
            obtain ⟨v, hv⟩ : ∃ v, its[j]? = some v := ⟨_, List.getElem?_eq_getElem (by omega)⟩
            have hx := idx_at its p 0 j v hv
            rw [List.getElem?_eq_getElem hj, hja] at hx
            cases hx
            have h1 : v.dep ≤ Tr.deps its := deps_le.mp (Nat.le_refl _) v (List.mem_of_getElem? hv)
            have h2 := sum_take_le (f := Tr.sz) hv
            refine ⟨?_, ?_⟩
            · rw [List.length_append, List.length_singleton]; dsimp only; omega
            · show v.sz ≤ 1000; omega
    · have : st = [] := by
        cases st with
        | nil => rfl
        | cons a r => simp at hz
      subst this
      rw [show todo [] = [] from rfl, List.append_nil] at hall
      subst hall
      exact wz_nil (by rw [List.length_map])
end
section
open PySem L2 Ab
theorem at_ok {wd : Nat} : ∀ {p : List Nat} {t u : Tr}, TrOk wd t → t.at p = some u → TrOk wd u
  | [], t, u, h, e => by rw [at_nil] at e; cases e; exact h
  | k :: p, t, u, h, e => by
    cases q : (kids t)[k]? with
    | none => rw [at_none q] at e; cases e
    | some v =>
      rw [at_cons q] at e
      obtain ⟨kd, ms, its, rfl, e2⟩ := kids_some q
      unfold TrOk at h
      rw [Tr.All] at h
      exact at_ok (alls_iff.mp h.2 v (List.mem_of_getElem? e2)) e

noncomputable def good (a : List Nat × Tr) : Bool := match a.2 with
  | .part _ _ its => decide (its.length ≤ 12) && decide (a.1.length < 6)
  | _ => true
noncomputable def csum (l : List (List Nat × Tr)) : Nat := (l.map fun a => wc a.2).sum
noncomputable def rsum (l : List (List Nat × Tr)) : Nat := (l.map fun a => wr a.2).sum
noncomputable def inB (t : Tr) : Bool := (flat t []).all good && (decide ((flat t []).length ≤ 60) && (decide (csum (flat t []) ≤ 400) && decide (rsum (flat t []) ≤ 3)))
noncomputable def ap_wb : AP := fun as Post => ∃ (t : Tr) (wd : Nat), as = [.val t.dt] ∧ t.sz ≤ 1000 ∧ t.dep ≤ 30 ∧ TrOk wd t ∧ Post (.val (.bl (inB t))) as
theorem csum_snoc (l : List (List Nat × Tr)) (a : List Nat × Tr) : csum (l ++ [a]) = csum l + wc a.2 := by simp [csum]
theorem rsum_snoc (l : List (List Nat × Tr)) (a : List Nat × Tr) : rsum (l ++ [a]) = rsum l + wr a.2 := by simp [rsum]
theorem run_wb {K : PySem.W.Frag} : RunOk K [] (tq_within_bounds K ap_isp) 6 ap_wb := by
  rintro as Post ⟨t, wd, rfl, hsz, hdp, hok, k⟩
  unfold tq_within_bounds
  show WS K [] _ [.val t.dt, .un, .un, .un, .un, .un] _
  walk_at "es"
  refine ws_forY run_walk ?_
  walk_at "es"
  refine ⟨rfl, _, ⟨t, rfl, hsz, hdp, rfl⟩, fun j G => ∃ s4 s5, ((flat t []).take j).all good = true ∧ G = [.val t.dt, .val (.int (j : Int)), .val (.int (csum ((flat t []).take j) : Nat)), .val (.int (rsum ((flat t []).take j) : Nat)), s4, s5], ⟨_, _, rfl, rfl⟩, ?_, ?_⟩
  · rintro G ⟨s4, s5, hg, rfl⟩
    rw [List.length_map, List.take_length] at *
    have e1 : decide (((flat t []).length : Int) ≤ 60) = decide ((flat t []).length ≤ 60) := decide_eq_decide.mpr (by omega)
    have e2 : decide ((csum (flat t []) : Int) ≤ 400) = decide (csum (flat t []) ≤ 400) := decide_eq_decide.mpr (by omega)
    have e3 : decide ((rsum (flat t []) : Int) ≤ 3) = decide (rsum (flat t []) ≤ 3) := decide_eq_decide.mpr (by omega)
    unfold inB at k
    rw [hg, Bool.true_and, ← e1, ← e2, ← e3] at k
    walk_at "es"
    refine ⟨fun h => ?_, fun h => ?_⟩
    · rw [h, Bool.true_and] at k
      walk_at "es"
      refine ⟨fun h => ?_, fun h => ?_⟩
      · rw [h, Bool.true_and] at k
        walk_at "es"
        exact k
      · rw [h, Bool.false_and] at k
        exact ⟨rfl, k⟩
    · rw [h, Bool.false_and] at k
      exact ⟨rfl, k⟩
  · rintro j d G hd ⟨s4, s5, hg, rfl⟩
    rw [List.getElem?_map] at hd
    cases hu : (flat t [])[j]? with
    | none => rw [hu] at hd; cases hd
    | some a =>
      rw [hu] at hd; cases hd
      obtain ⟨q, u⟩ := a
      have tk : (flat t []).take (j + 1) = (flat t []).take j ++ [(q, u)] := by rw [List.take_add_one, hu]; rfl
      have hmem := List.mem_of_getElem? hu
      have huok : TrOk wd u := by
        obtain ⟨r, _, h2⟩ := flat_at t [] (q, u) hmem
        exact at_ok hok h2
      unfold Rw.dt
      walk_at "es"
      cases u with
      | txt z =>
        rw [Tr.dt]
        have hz : z.length ≤ 60 := by unfold TrOk at huok; rw [Tr.All] at huok; exact huok.2.1
        walk_at "es"
        refine lenp_s (by omega) ?_
        walk_at "es"
        exact ⟨_, _, by rw [tk, List.all_append, hg]; rfl, by rw [tk, csum_snoc, rsum_snoc]; rfl⟩
      | lab z =>
        rw [Tr.dt]
        walk_at "es"
        refine .a ⟨.lab z, by rw [Tr.dt]; rfl, ?_⟩
        rw [show isP (.lab z) = false from rfl]
        walk_at "es"
        exact ⟨_, _, by rw [tk, List.all_append, hg]; rfl, by rw [tk, csum_snoc, rsum_snoc]; rfl⟩
      | ref z =>
        rw [Tr.dt]
        walk_at "es"
        refine .a ⟨.ref z, by rw [Tr.dt]; rfl, ?_⟩
        rw [show isP (.ref z) = false from rfl]
        walk_at "es"
        exact ⟨_, _, by rw [tk, List.all_append, hg]; rfl, by rw [tk, csum_snoc, rsum_snoc]; rfl⟩
      | part kd ms its =>
        rw [dt_part]
        walk_at "es"
        refine .a ⟨.part kd ms its, by rw [dt_part]; rfl, ?_⟩
        rw [show isP (.part kd ms its) = true from rfl]
        have bad : good (q, .part kd ms its) = false → inB t = false := fun hb => by
          have : (flat t []).all good = false := by
            rw [Bool.eq_false_iff]
            intro h
            rw [List.all_eq_true] at h
            rw [h _ hmem] at hb; cases hb
          unfold inB
          rw [this, Bool.false_and]
        have e1 : ((its.map Tr.dt).length : Int) = its.length := by rw [List.length_map]
        have e2 : ((List.map dtN (q, Tr.part kd ms its).1).length : Int) = q.length := by rw [List.length_map]
        walk_at "es"
        refine ⟨fun h1 => ?_, fun h1 => ?_⟩
        · have h1 := of_decide_eq_false h1
          walk_at "es"
          refine ⟨fun h2 => ?_, fun h2 => ?_⟩
          · have h2 := of_decide_eq_true h2
            rw [bad (by show (decide (its.length ≤ 12) && decide (q.length < 6)) = false; rw [decide_eq_false (show ¬ q.length < 6 by omega), Bool.and_false])] at k
            walk_at "es"
            exact k
          · have h2 := of_decide_eq_false h2
            walk_at "es"
            refine ⟨_, _, ?_, by rw [tk, csum_snoc, rsum_snoc]; rfl⟩
            rw [tk, List.all_append, hg]
            have g : good (q, .part kd ms its) = true := by
              show (decide (its.length ≤ 12) && decide (q.length < 6)) = true
              rw [Bool.and_eq_true]
              exact ⟨decide_eq_true (by omega), decide_eq_true (by omega)⟩
            simp [g]
        · have h1 := of_decide_eq_true h1
          rw [bad (by show (decide (its.length ≤ 12) && decide (q.length < 6)) = false; rw [decide_eq_false (show ¬ its.length ≤ 12 by omega), Bool.false_and])] at k
          walk_at "es"
          exact k
end
section
open PySem L2 Ab
noncomputable def tq_wrapped (K : PySem.W.Frag) (ap__law_name : AP) : TS :=
    (tSeq (tFor (iRng1 (tCons (tVar 3) tNil)) (gName 4) (tAsg (tTup (tCons (tCall (toSp K ap__law_name) [] E0 (tCons (tVar 0) (tCons (tVar 1) tNil))) (tCons (tTup tNil) (tCons (tTup (tCons (tVar 2) tNil)) tNil)))) (gName 2)))
    (tRet (tVar 2)))
noncomputable def tq_leaf (K : PySem.W.Frag) (ap__law_take : AP) (ap__law_name : AP) (ap__law_prose : AP) : TS :=
    (tSeq (tIfS (tTest (tOp (rEqG K) (tCall (toSp K ap__law_take) [] E0 (tCons (tVar 0) (tCons (tC (.int 3)) tNil))) (tC (.int 0)))) (tRet (tTup (tCons (tC (.str "#")) (tCons (tCall (toSp K ap__law_name) [] E0 (tCons (tVar 0) (tCons (tVar 1) tNil))) tNil)))) tNext)
    (tRet (tCall (toSp K ap__law_prose) [] E0 (tCons (tVar 0) (tCons (tC (.int 1)) tNil)))))
noncomputable def tq_full_row (K : PySem.W.Frag) (ap__law_leaf : AP) (ap__law_marks : AP) (ap__law_name : AP) (ap__law_wrapped : AP) (ap__law_take : AP) : TS :=
    (tSeq (tAsg (tCB (rTupleOf K) (tCons (tLc (iRng1 (tCons (tOp (rAddG K) (tC (.int 12)) (tVar 2)) tNil)) (gName 5) tYes (tCall (toSp K ap__law_leaf) [] E0 (tCons (tVar 0) (tCons (tVar 1) tNil))) [5]) tNil)) (gName 3))
    (tSeq (tAsg (tTup (tCons (tCall (toSp K ap__law_name) [] E0 (tCons (tVar 0) (tCons (tVar 1) tNil))) (tCons (tCall (toSp K ap__law_marks) [] E0 (tCons (tVar 0) (tCons (tVar 1) tNil))) (tCons (tVar 3) tNil)))) (gName 4))
    (tRet (tCall (toSp K ap__law_wrapped) [] E0 (tCons (tVar 0) (tCons (tVar 1) (tCons (tVar 4) (tCons (tCall (toSp K ap__law_take) [] E0 (tCons (tVar 0) (tCons (tC (.int 5)) tNil))) tNil))))))))
noncomputable def tq_full_count (K : PySem.W.Frag) (ap__law_take : AP) (ap__law_leaf : AP) (ap__law_name : AP) : TS :=
    (tSeq (tAsg (tCall (toSp K ap__law_take) [] E0 (tCons (tVar 0) (tCons (tC (.int 5)) tNil))) (gName 3))
    (tSeq (tAsg (tLst tNil) (gName 4))
    (tSeq (tFor (iRng1 (tCons (tC (.int 5)) tNil)) (gName 5) (tSeq (tAsg (tOp rSubI (tC (.int 12)) (tOp (rMulG K) (tOp rSubI (tC (.int 6)) (tVar 2)) (tCB rInt1 (tCons (tOp (rEqG K) (tVar 5) (tVar 3)) tNil)))) (gName 6))
    (tSeq (tAsg (tCB (rTupleOf K) (tCons (tLc (iRng1 (tCons (tVar 6) tNil)) (gName 8) tYes (tCall (toSp K ap__law_leaf) [] E0 (tCons (tVar 0) (tCons (tVar 1) tNil))) [8]) tNil)) (gName 7))
    (tDrop (tBM K "list" rAppend (tVar 4) (tCons (tTup (tCons (tCall (toSp K ap__law_name) [] E0 (tCons (tVar 0) (tCons (tVar 1) tNil))) (tCons (tTup tNil) (tCons (tVar 7) tNil)))) tNil))))))
    (tRet (tTup (tCons (tCall (toSp K ap__law_name) [] E0 (tCons (tVar 0) (tCons (tVar 1) tNil))) (tCons (tTup tNil) (tCons (tCB (rTupleOf K) (tCons (tVar 4) tNil)) tNil))))))))
noncomputable def tq_full_prose (K : PySem.W.Frag) (ap__law_take : AP) (ap__law_prose : AP) (ap__law_wrapped : AP) (ap__law_name : AP) : TS :=
    (tSeq (tAsg (tCall (toSp K ap__law_take) [] E0 (tCons (tVar 0) (tCons (tC (.int 7)) tNil))) (gName 3))
    (tSeq (tAsg (tLst tNil) (gName 4))
    (tSeq (tFor (iRng1 (tCons (tC (.int 7)) tNil)) (gName 5) (tSeq (tAsg (tCall (toSp K ap__law_prose) [] E0 (tCons (tVar 0) (tCons (tOp rSubI (tC (.int 60)) (tOp (rMulG K) (tOp rSubI (tC (.int 20)) (tVar 2)) (tCB rInt1 (tCons (tOp (rEqG K) (tVar 5) (tVar 3)) tNil)))) tNil))) (gName 6))
    (tDrop (tBM K "list" rAppend (tVar 4) (tCons (tCall (toSp K ap__law_wrapped) [] E0 (tCons (tVar 0) (tCons (tVar 1) (tCons (tVar 6) (tCons (tCall (toSp K ap__law_take) [] E0 (tCons (tVar 0) (tCons (tC (.int 3)) tNil))) tNil))))) tNil)))))
    (tRet (tTup (tCons (tCall (toSp K ap__law_name) [] E0 (tCons (tVar 0) (tCons (tVar 1) tNil))) (tCons (tTup tNil) (tCons (tCB (rTupleOf K) (tCons (tVar 4) tNil)) tNil))))))))
noncomputable def tq_full_depth (K : PySem.W.Frag) (ap__law_marks : AP) (ap__law_name : AP) (ap__law_take : AP) (ap__law_leaf : AP) : TS :=
    (tSeq (tAsg (tTup (tCons (tCall (toSp K ap__law_name) [] E0 (tCons (tVar 0) (tCons (tVar 1) tNil))) (tCons (tCall (toSp K ap__law_marks) [] E0 (tCons (tVar 0) (tCons (tVar 1) tNil))) (tCons (tTup tNil) tNil)))) (gName 3))
    (tSeq (tIfS (tTest (tOp (rEqG K) (tCall (toSp K ap__law_take) [] E0 (tCons (tVar 0) (tCons (tC (.int 2)) tNil))) (tC (.int 0)))) (tAsg (tTup (tCons (tOp (rIx K) (tVar 3) (tC (.int 0))) (tCons (tOp (rIx K) (tVar 3) (tC (.int 1))) (tCons (tTup (tCons (tCall (toSp K ap__law_leaf) [] E0 (tCons (tVar 0) (tCons (tVar 1) tNil))) tNil)) tNil)))) (gName 3)) tNext)
    (tSeq (tFor (iRng1 (tCons (tOp (rAddG K) (tC (.int 5)) (tVar 2)) tNil)) (gName 4) (tSeq (tAsg (tTup (tCons (tVar 3) tNil)) (gName 5))
    (tSeq (tIfS (tTest (tOp (rEqG K) (tCall (toSp K ap__law_take) [] E0 (tCons (tVar 0) (tCons (tC (.int 2)) tNil))) (tC (.int 0)))) (tAsg (tTup (tCons (tCall (toSp K ap__law_leaf) [] E0 (tCons (tVar 0) (tCons (tVar 1) tNil))) (tCons (tVar 3) tNil))) (gName 5)) tNext)
    (tAsg (tTup (tCons (tCall (toSp K ap__law_name) [] E0 (tCons (tVar 0) (tCons (tVar 1) tNil))) (tCons (tTup tNil) (tCons (tVar 5) tNil)))) (gName 3)))))
    (tRet (tVar 3)))))
noncomputable def tq_full_refs (K : PySem.W.Frag) (ap__law_name : AP) (ap__law_wrapped : AP) (ap__law_take : AP) (ap__law_leaf : AP) : TS :=
    (tSeq (tAsg (tLst tNil) (gName 3))
    (tSeq (tFor (iRng1 (tCons (tOp (rAddG K) (tC (.int 3)) (tVar 2)) tNil)) (gName 4) (tSeq (tAsg (tCall (toSp K ap__law_name) [] E0 (tCons (tVar 0) (tCons (tVar 1) tNil))) (gName 5))
    (tSeq (tDrop (tBM K "list" rAppend (tVar 3) (tCons (tCall (toSp K ap__law_wrapped) [] E0 (tCons (tVar 0) (tCons (tVar 1) (tCons (tTup (tCons (tC (.str "@")) (tCons (tVar 5) tNil))) (tCons (tCall (toSp K ap__law_take) [] E0 (tCons (tVar 0) (tCons (tC (.int 3)) tNil))) tNil))))) tNil)))
    (tDrop (tBM K "list" rAppend (tVar 3) (tCons (tCall (toSp K ap__law_leaf) [] E0 (tCons (tVar 0) (tCons (tVar 1) tNil))) tNil))))))
    (tRet (tTup (tCons (tCall (toSp K ap__law_name) [] E0 (tCons (tVar 0) (tCons (tVar 1) tNil))) (tCons (tTup tNil) (tCons (tCB (rTupleOf K) (tCons (tVar 3) tNil)) tNil)))))))
noncomputable def tq_edge (K : PySem.W.Frag) (ap__law_take : AP) (ap__law_full_row : AP) (ap__law_full_count : AP) (ap__law_full_prose : AP) (ap__law_full_depth : AP) (ap__law_full_refs : AP) : TS :=
    (tSeq (tAsg (tCall (toSp K ap__law_take) [] E0 (tCons (tVar 0) (tCons (tC (.int 5)) tNil))) (gName 3))
    (tSeq (tIfS (tTest (tOp (rEqG K) (tVar 3) (tC (.int 0)))) (tRet (tCall (toSp K ap__law_full_row) [] E0 (tCons (tVar 0) (tCons (tVar 1) (tCons (tVar 2) tNil))))) tNext)
    (tSeq (tIfS (tTest (tOp (rEqG K) (tVar 3) (tC (.int 1)))) (tRet (tCall (toSp K ap__law_full_count) [] E0 (tCons (tVar 0) (tCons (tVar 1) (tCons (tVar 2) tNil))))) tNext)
    (tSeq (tIfS (tTest (tOp (rEqG K) (tVar 3) (tC (.int 2)))) (tRet (tCall (toSp K ap__law_full_prose) [] E0 (tCons (tVar 0) (tCons (tVar 1) (tCons (tVar 2) tNil))))) tNext)
    (tSeq (tIfS (tTest (tOp (rEqG K) (tVar 3) (tC (.int 3)))) (tRet (tCall (toSp K ap__law_full_depth) [] E0 (tCons (tVar 0) (tCons (tVar 1) (tCons (tVar 2) tNil))))) tNext)
    (tRet (tCall (toSp K ap__law_full_refs) [] E0 (tCons (tVar 0) (tCons (tVar 1) (tCons (tVar 2) tNil))))))))))
structure Fed (c : Int) (zl : Nat) (X : Int) (Y : Nat) (c' : Int) (zs' : List Str) : Prop where
  c0 : c ≤ c' ∧ zl ≤ zs'.length
  c1 : c' ≤ c + X
  zl : zs'.length ≤ zl + Y
  nm : ∀ z ∈ zs', Nm1 z
theorem ok_lab {z : Str} (h : Nm z) (hp : 0 < z.length) : TrOk 16 (.lab z) := by unfold TrOk; rw [Tr.All]; exact ⟨h, hp⟩
theorem ok_ref {z : Str} (h : Nm z) (hp : 0 < z.length) : TrOk 16 (.ref z) := by unfold TrOk; rw [Tr.All]; exact ⟨h, hp⟩
theorem ok_txt {z : Str} (h : Tx z) (h0 : 0 < z.length) (h1 : z.length ≤ 60) : TrOk 16 (.txt z) := by unfold TrOk; rw [Tr.All]; exact ⟨h0, h1, h⟩
theorem sz_lab {z : Str} : (Tr.lab z).sz = 1 := by unfold Tr.sz; rw [Tr.sum]; rfl
theorem sz_ref {z : Str} : (Tr.ref z).sz = 1 := by unfold Tr.sz; rw [Tr.sum]; rfl
theorem sz_txt {z : Str} : (Tr.txt z).sz = 1 := by unfold Tr.sz; rw [Tr.sum]; rfl
theorem sz_part {kd : Str} {ms : List Str} {its : List Tr} : (Tr.part kd ms its).sz = 1 + (its.map Tr.sz).sum := by unfold Tr.sz; rw [Tr.sum, sums_map]; rfl
theorem mk_nil : Mk [] := ⟨by simp, by simp, .nil⟩
theorem ok_mkp {kd : Str} {ms : List Str} {its : List Tr} (h : Nm kd) (hp : 0 < kd.length) (hm : Mk ms) (hl : its.length ≤ 16) (ha : ∀ t ∈ its, TrOk 16 t) : TrOk 16 (.part kd ms its) := by
  unfold TrOk; rw [Tr.All]; exact ⟨⟨⟨h, hp⟩, hm, hl⟩, alls_iff.mpr ha⟩
theorem sum_const {f : Tr → Nat} {n : Nat} : ∀ {l : List Tr}, (∀ t ∈ l, f t ≤ n) → (l.map f).sum ≤ n * l.length
  | [], _ => by simp
  | x :: r, h => by
    have h1 := h x List.mem_cons_self
    have h2 := sum_const (f := f) (n := n) (l := r) fun t ht => h t (List.mem_cons_of_mem _ ht)
    rw [List.map_cons, List.sum_cons, List.length_cons, Nat.mul_succ]
    omega
theorem app_part {ts us : List Tr} {z : Str} : (ts ++ [Tr.part z [] us]).map Tr.dt = ts.map Tr.dt ++ [Dt.tup [Dt.str z, Dt.tup [], Dt.tup (us.map Tr.dt)]] := by
  rw [List.map_append, List.map_cons, List.map_nil, dt_part]; rfl
noncomputable def Sm (n m : Nat) (t : Tr) : Prop := TrOk 16 t ∧ t.sz ≤ n ∧ t.dep ≤ m
noncomputable def SmL (lo n m : Nat) (t : Tr) : Prop := TrOk 16 t ∧ t.sz ≤ n ∧ (lo ≤ t.dep ∧ t.dep ≤ m)
theorem isP_dep {t : Tr} (h : 1 ≤ t.dep) : isP t = true := by
  cases t with
  | part kd ms its => rfl
  | _ => rw [Tr.dep] at h; omega
noncomputable def ap_leaf : AP := fun as Post => ∃ (ds : List Dt) (c : Int) (zs : List Str), as = [.acc ds, .acc (zs.map Dt.str)] ∧ PoolIs c ds ∧ 0 ≤ c ∧ c < 80000 ∧ zs.length < 80000 ∧ (∀ z ∈ zs, Nm1 z) ∧
  ∀ ds' c' (zs' : List Str) (t : Tr), PoolIs c' ds' → Fed c zs.length 16 1 c' zs' → Sm 1 0 t → Post (.val t.dt) [.acc ds', .acc (zs'.map Dt.str)]
noncomputable def ap_wrapped : AP := fun as Post => ∃ (ds : List Dt) (c : Int) (zs : List Str) (u : Tr) (n a b : Nat), as = [.acc ds, .acc (zs.map Dt.str), .val u.dt, .val (.int n)] ∧ PoolIs c ds ∧ 0 ≤ c ∧ c < 80000 ∧ zs.length < 80000 ∧ (∀ z ∈ zs, Nm1 z) ∧ n ≤ 10 ∧ Sm a b u ∧
  ∀ ds' c' (zs' : List Str) (t : Tr), PoolIs c' ds' → Fed c zs.length 140 10 c' zs' → SmL u.dep (a + n) (b + n) t → Post (.val t.dt) [.acc ds', .acc (zs'.map Dt.str), .val u.dt, .val (.int n)]
noncomputable def ap_big (X : Int) (Y : Nat) : AP := fun as Post => ∃ (ds : List Dt) (c : Int) (zs : List Str) (s : Int), as = [.acc ds, .acc (zs.map Dt.str), .val (.int s)] ∧ PoolIs c ds ∧ 0 ≤ c ∧ c < 10000 ∧ zs.length < 10000 ∧ (∀ z ∈ zs, Nm1 z) ∧ -1 ≤ s ∧ s ≤ 2 ∧
  ∀ ds' c' (zs' : List Str) (t : Tr), PoolIs c' ds' → Fed c (zs.length + 1) X Y c' zs' → SmL 1 200 20 t → Post (.val t.dt) [.acc ds', .acc (zs'.map Dt.str), .val (.int s)]
end
section
open PySem L2 Ab
section
variable {K : PySem.W.Frag}
theorem run_leaf : RunOk K [0, 1] (tq_leaf K ap_take ap_name ap_prose) 2 ap_leaf := by
  rintro as Post ⟨ds, c, zs, rfl, h0, c0, c1, hl, h8, k⟩
  unfold tq_leaf
  show WS K [0, 1] _ [.acc ds, .acc (zs.map Dt.str)] _
  walk_at "es"
  refine .a ⟨ds, c, 3, rfl, h0, by omega, by omega, by omega, by omega, fun d1 s h1 s0 s1 => ?_⟩
  by_cases hs : s = 0
  · walk_at "es"
    refine .a ⟨d1, c + 1, zs, rfl, h1, by omega, by omega, by omega, h8, fun d2 c2 z h2 c20 c21 hz hzp => ?_⟩
    walk_at "es"
    have := k d2 c2 (zs ++ [z]) (.lab z) h2 ⟨⟨by omega, by simp⟩, by omega, by simp, nm_snoc h8 ⟨hz, hzp⟩⟩ ⟨ok_lab hz hzp, by rw [sz_lab]; omega, by rw [Tr.dep]; omega⟩
    rw [Tr.dt] at this
    exact this
  · walk_at "es"
    refine .a ⟨d1, c + 1, 1, rfl, h1, by omega, by omega, by omega, fun d2 z h2 hzl hz => ?_⟩
    walk_at "es"
    have := k d2 (c + 1 + (1 : Nat)) zs (.txt z) h2 ⟨by omega, by omega, by omega, h8⟩ ⟨ok_txt hz (by omega) (by omega), by rw [sz_txt]; omega, by rw [Tr.dep]; omega⟩
    rw [Tr.dt] at this
    exact this
theorem run_wrapped : RunOk K [0, 1] (tq_wrapped K ap_name) 5 ap_wrapped := by
  rintro as Post ⟨ds, c, zs, u, n, a, b, rfl, h0, c0, c1, hl, h8, hn, hu, k⟩
  unfold tq_wrapped
  show WS K [0, 1] _ [.acc ds, .acc (zs.map Dt.str), .val u.dt, .val (.int n), .un] _
  walk_at "es"
  refine for_range1 (n : Int) (fun i G => ∃ (d1 : List Dt) (c1 : Int) (z1 : List Str) (t : Tr) (s4 : Sl), PoolIs c1 d1 ∧ Fed c zs.length (14 * i) i c1 z1 ∧ SmL u.dep (a + i) (b + i) t ∧ G = [.acc d1, .acc (z1.map Dt.str), .val t.dt, .val (.int n), s4]) ?_ ?_ ?_
  · walk_at "es"
    exact .a ⟨rfl, by omega, by omega, ds, c, zs, u, _, h0, ⟨by omega, by omega, by omega, h8⟩, ⟨hu.1, hu.2.1, Nat.le_refl _, hu.2.2⟩, rfl⟩
  · rintro i G hi ⟨d1, c1, z1, t, s4, h1, ⟨f0, f1, f2, f3⟩, ⟨t1, t2, t3⟩, rfl⟩
    walk_at "es"
    refine .a ⟨d1, c1, z1, rfl, h1, by omega, by omega, by omega, f3, fun d2 c2 z h2 c20 c21 hz hzp => ?_⟩
    walk_at "es"
    refine .a ⟨d2, c2, z1 ++ [z], .part z [] [t], _, h2, ⟨⟨by omega, by rw [List.length_append]; omega⟩, by omega, by rw [List.length_append, List.length_singleton]; omega, nm_snoc f3 ⟨hz, hzp⟩⟩, ⟨ok_mkp hz hzp mk_nil (by simp) (fun x hx => by rw [List.mem_singleton.mp hx]; exact t1), ?_, ?_⟩, by rw [dt_part]; rfl⟩
    · rw [sz_part]; simp only [List.map_cons, List.map_nil, List.sum_cons, List.sum_nil]; omega
    · rw [Tr.dep, Tr.deps, Tr.deps]; omega
  · rintro G ⟨d1, c1, z1, t, s4, h1, ⟨f0, f1, f2, f3⟩, ht, rfl⟩
    rw [show (n : Int).toNat = n by omega] at f1 f2 ht
    walk_at "es"
    exact k d1 c1 z1 t h1 ⟨f0, by omega, by omega, f3⟩ ht
theorem run_row : RunOk K [0, 1] (tq_full_row K ap_leaf ap_marks ap_name ap_wrapped ap_take) 6 (ap_big 600 40) := by
  rintro as Post ⟨ds, c, zs, s, rfl, h0, c0, c1, hl, h8, s0, s1, k⟩
  unfold tq_full_row
  show WS K [0, 1] _ [.acc ds, .acc (zs.map Dt.str), .val (.int s), .un, .un, .un] _
  obtain ⟨n, hn⟩ : ∃ n : Nat, 12 + s = (n : Int) := ⟨(12 + s).toNat, by omega⟩
  walk_at "es"
  refine lc_range1 n (fun i es G => ∃ (d1 : List Dt) (c1 : Int) (z1 : List Str) (ts : List Tr), PoolIs c1 d1 ∧ Fed c zs.length (16 * i) i c1 z1 ∧ ts.length = i ∧ (∀ t ∈ ts, Sm 1 0 t) ∧ es = ts.map Tr.dt ∧ G = [.acc d1, .acc (z1.map Dt.str), .val (.int s), .un, .un, .un]) ?_ ?_ ?_
  · walk_at "es"
    exact .a ⟨by rw [hn], by omega, rfl, rfl, rfl, ds, c, zs, [], h0, ⟨by omega, by omega, by omega, h8⟩, rfl, (fun _ h => nomatch h), rfl, rfl⟩
  · rintro i es G hi ⟨d1, c1, z1, ts, h1, ⟨f0, f1, f2, f3⟩, tl, ta, rfl, rfl⟩
    show WT K _ [.acc d1, .acc (z1.map Dt.str), .val (.int s), .un, .un, .val (.int i)] _
    walk_at "es"
    refine .a ⟨d1, c1, z1, rfl, h1, by omega, by omega, by omega, f3, fun d2 c2 z2 t h2 g ht => ?_⟩
    obtain ⟨g0, g1, g2, g3⟩ := g
    walk_at "es"
    refine .a ⟨d2, c2, z2, ts ++ [t], h2, ⟨by omega, by omega, by omega, g3⟩, by simp [tl], fun x hx => ?_, by simp, rfl⟩
    rcases List.mem_append.mp hx with hx | hx
    · exact ta x hx
    · rw [List.mem_singleton.mp hx]; exact ht
  · rintro es G ⟨d1, c1, z1, ts, h1, ⟨f0, f1, f2, f3⟩, tl, ta, rfl, rfl⟩
    walk_at "es"
    refine .a ⟨d1, c1, z1, rfl, h1, by omega, by omega, by omega, f3, fun d2 c2 z h2 c20 c21 hz hzp => ?_⟩
    walk_at "es"
    have hzl2 : (z1 ++ [z]).length = z1.length + 1 := by simp
    refine .a ⟨d2, c2, z1 ++ [z], rfl, h2, by omega, by omega, by omega, nm_snoc f3 ⟨hz, hzp⟩, fun d3 c3 z3 ms h3 c30 c31 hzl hz3 hmk => ?_⟩
    walk_at "es"
    refine .a ⟨d3, c3, 5, rfl, h3, by omega, by omega, by omega, by omega, fun d4 g h4 g0 g1 => ?_⟩
    obtain ⟨gn, rfl⟩ : ∃ gn : Nat, g = (gn : Int) := ⟨g.toNat, by omega⟩
    walk_at "es"
    refine .a ⟨d4, c3 + 1, z3, .part z ms ts, gn, 15, 1, by rw [dt_part]; rfl, h4, by omega, by omega, by omega, hz3, by omega, ⟨ok_mkp hz hzp hmk (by omega) (fun x hx => (ta x hx).1), ?_, ?_⟩, fun d5 c5 z5 t h5 ⟨e0, e1, e2, e3⟩ ⟨t1, t2, t3⟩ => ?_⟩
    · rw [sz_part]
      have := sum_const (f := Tr.sz) (n := 1) (l := ts) fun x hx => (ta x hx).2.1
      omega
    · rw [Tr.dep]
      have := (deps_le (n := 0) (its := ts)).mpr fun x hx => (ta x hx).2.2
      omega
    · have hdp1 : 1 ≤ (Tr.part z ms ts).dep := by rw [Tr.dep]; omega
      rw [dt_part]
      walk_at "es"
      exact k d5 c5 z5 t h5 ⟨by omega, by omega, by omega, e3⟩ ⟨t1, by omega, by omega⟩
theorem run_count : RunOk K [0, 1] (tq_full_count K ap_take ap_leaf ap_name) 9 (ap_big 1600 90) := by
  rintro as Post ⟨ds, c, zs, s, rfl, h0, c0, c1, hl, h8, s0, s1, k⟩
  unfold tq_full_count
  show WS K [0, 1] _ [.acc ds, .acc (zs.map Dt.str), .val (.int s), .un, .un, .un, .un, .un, .un] _
  walk_at "es"
  refine .a ⟨ds, c, 5, rfl, h0, by omega, by omega, by omega, by omega, fun d1 o h1 o0 o1 => ?_⟩
  walk_at "es"
  refine for_range1 5 (fun i G => ∃ (d1 : List Dt) (c1 : Int) (z1 : List Str) (ts : List Tr) (s5 s6 s7 : Sl), PoolIs c1 d1 ∧ Fed c zs.length (1 + 300 * i) (16 * i) c1 z1 ∧ ts.length = i ∧ (∀ t ∈ ts, Sm 15 1 t) ∧ G = [.acc d1, .acc (z1.map Dt.str), .val (.int s), .val (.int o), .acc (ts.map Tr.dt), s5, s6, s7, .un]) ?_ ?_ ?_
  · walk_at "es"
    exact .a ⟨rfl, by omega, by omega, d1, c + 1, zs, [], _, _, _, h1, ⟨by omega, by omega, by omega, h8⟩, rfl, (fun _ h => nomatch h), rfl⟩
  · rintro i G hi ⟨d1, c1, z1, ts, s5, s6, s7, h1, ⟨f0, f1, f2, f3⟩, tl, ta, rfl⟩
    obtain ⟨n, hn, hn2⟩ : ∃ n : Nat, (12 - (6 - s) * if decide ((i : Int) = o) = true then 1 else 0 : Int) = n ∧ n ≤ 12 := by
      by_cases hio : (i : Int) = o
      · exact ⟨(6 + s).toNat, by rw [decide_eq_true hio, if_pos rfl]; omega, by omega⟩
      · exact ⟨12, by rw [decide_eq_false hio, if_neg Bool.false_ne_true]; omega, by omega⟩
    walk_at "es"
    rw [hn]
    refine lc_range1 n (fun m es G => ∃ (d2 : List Dt) (c2 : Int) (z2 : List Str) (us : List Tr), PoolIs c2 d2 ∧ Fed c1 z1.length (16 * m) m c2 z2 ∧ us.length = m ∧ (∀ t ∈ us, Sm 1 0 t) ∧ es = us.map Tr.dt ∧ G = [.acc d2, .acc (z2.map Dt.str), .val (.int s), .val (.int o), .acc (ts.map Tr.dt), .val (.int i), .val (.int n), s7, .un]) ?_ ?_ ?_
    · walk_at "es"
      exact .a ⟨rfl, by omega, rfl, rfl, rfl, d1, c1, z1, [], h1, ⟨by omega, by omega, by omega, f3⟩, rfl, (fun _ h => nomatch h), rfl, rfl⟩
    · rintro m es G hm ⟨d2, c2, z2, us, h2, ⟨g0, g1, g2, g3⟩, ul, ua, rfl, rfl⟩
      show WT K _ [.acc d2, .acc (z2.map Dt.str), .val (.int s), .val (.int o), .acc (ts.map Tr.dt), .val (.int i), .val (.int n), s7, .val (.int m)] _
      walk_at "es"
      refine .a ⟨d2, c2, z2, rfl, h2, by omega, by omega, by omega, g3, fun d3 c3 z3 t h3 g ht => ?_⟩
      obtain ⟨e0, e1, e2, e3⟩ := g
      walk_at "es"
      refine .a ⟨d3, c3, z3, us ++ [t], h3, ⟨by omega, by omega, by omega, e3⟩, by simp [ul], fun x hx => ?_, by simp, rfl⟩
      rcases List.mem_append.mp hx with hx | hx
      · exact ua x hx
      · rw [List.mem_singleton.mp hx]; exact ht
    · rintro es G ⟨d2, c2, z2, us, h2, ⟨g0, g1, g2, g3⟩, ul, ua, rfl, rfl⟩
      walk_at "es"
      refine .a ⟨d2, c2, z2, rfl, h2, by omega, by omega, by omega, g3, fun d3 c3 z h3 c30 c31 hz hzp => ?_⟩
      have hzl2 : (z2 ++ [z]).length = z2.length + 1 := by simp
      have htl : (ts.map Tr.dt).length = i := by rw [List.length_map, tl]
      walk_at "es"
      refine .a ⟨d3, c3, z2 ++ [z], ts ++ [.part z [] us], .val (.int i), .val (.int n), .val (.tup (us.map Tr.dt)), h3, ⟨by omega, by omega, by omega, nm_snoc g3 ⟨hz, hzp⟩⟩, by simp [tl], fun x hx => ?_, ?_⟩
      · rcases List.mem_append.mp hx with hx | hx
        · exact ta x hx
        · rw [List.mem_singleton.mp hx]
          refine ⟨ok_mkp hz hzp mk_nil (by omega) (fun x hx => (ua x hx).1), ?_, ?_⟩
          · rw [sz_part]
            have := sum_const (f := Tr.sz) (n := 1) (l := us) fun x hx => (ua x hx).2.1
            omega
          · rw [Tr.dep]
            have := (deps_le (n := 0) (its := us)).mpr fun x hx => (ua x hx).2.2
            omega
      · rw [app_part, List.map_append] <;> rfl
  · rintro G ⟨d1, c1, z1, ts, s5, s6, s7, h1, ⟨f0, f1, f2, f3⟩, tl, ta, rfl⟩
    have tl5 : ts.length = 5 := tl
    have htl : (ts.map Tr.dt).length = 5 := by rw [List.length_map, tl5]
    have f1 : c1 ≤ c + (1 + 300 * 5) := f1
    have f2 : z1.length ≤ zs.length + 16 * 5 := f2
    walk_at "es"
    refine .a ⟨d1, c1, z1, rfl, h1, by omega, by omega, by omega, f3, fun d3 c3 z h3 c30 c31 hz hzp => ?_⟩
    have hzl2 : (z1 ++ [z]).length = z1.length + 1 := by simp
    walk_at "es"
    have := k d3 c3 (z1 ++ [z]) (.part z [] ts) h3 ⟨by omega, by omega, by omega, nm_snoc f3 ⟨hz, hzp⟩⟩ ⟨ok_mkp hz hzp mk_nil (by omega) (fun x hx => (ta x hx).1), by
      rw [sz_part]
      have := sum_const (f := Tr.sz) (n := 15) (l := ts) fun x hx => (ta x hx).2.1
      omega, by
      rw [Tr.dep]
      have := (deps_le (n := 1) (its := ts)).mpr fun x hx => (ta x hx).2.2
      omega⟩
    rw [dt_part] at this
    exact this
theorem run_fprose : RunOk K [0, 1] (tq_full_prose K ap_take ap_prose ap_wrapped ap_name) 7 (ap_big 1600 90) := by
  rintro as Post ⟨ds, c, zs, s, rfl, h0, c0, c1, hl, h8, s0, s1, k⟩
  unfold tq_full_prose
  show WS K [0, 1] _ [.acc ds, .acc (zs.map Dt.str), .val (.int s), .un, .un, .un, .un] _
  walk_at "es"
  refine .a ⟨ds, c, 7, rfl, h0, by omega, by omega, by omega, by omega, fun d1 o h1 o0 o1 => ?_⟩
  walk_at "es"
  refine for_range1 7 (fun i G => ∃ (d1 : List Dt) (c1 : Int) (z1 : List Str) (ts : List Tr) (s5 s6 : Sl), PoolIs c1 d1 ∧ Fed c zs.length (1 + 210 * i) (10 * i) c1 z1 ∧ ts.length = i ∧ (∀ t ∈ ts, Sm 3 2 t) ∧ G = [.acc d1, .acc (z1.map Dt.str), .val (.int s), .val (.int o), .acc (ts.map Tr.dt), s5, s6]) ?_ ?_ ?_
  · walk_at "es"
    exact .a ⟨rfl, by omega, by omega, d1, c + 1, zs, [], _, _, h1, ⟨by omega, by omega, by omega, h8⟩, rfl, (fun _ h => nomatch h), rfl⟩
  · rintro i G hi ⟨d1, c1, z1, ts, s5, s6, h1, ⟨f0, f1, f2, f3⟩, tl, ta, rfl⟩
    obtain ⟨n, hn, hn2, hn0⟩ : ∃ n : Nat, (60 - (20 - s) * if decide ((i : Int) = o) = true then 1 else 0 : Int) = n ∧ n ≤ 60 ∧ 0 < n := by
      by_cases hio : (i : Int) = o
      · exact ⟨(40 + s).toNat, by rw [decide_eq_true hio, if_pos rfl]; omega, by omega, by omega⟩
      · exact ⟨60, by rw [decide_eq_false hio, if_neg Bool.false_ne_true]; omega, by omega, by omega⟩
    walk_at "es"
    refine .a ⟨d1, c1, n, by rw [hn]; rfl, h1, by omega, by omega, by omega, fun d2 z h2 hzl hz => ?_⟩
    walk_at "es"
    refine .a ⟨d2, c1 + n, 3, rfl, h2, by omega, by omega, by omega, by omega, fun d3 g h3 g0 g1 => ?_⟩
    obtain ⟨gn, rfl⟩ : ∃ gn : Nat, g = (gn : Int) := ⟨g.toNat, by omega⟩
    walk_at "es"
    refine .a ⟨d3, c1 + n + 1, z1, .txt z, gn, 1, 0, by rw [Tr.dt]; rfl, h3, by omega, by omega, by omega, f3, by omega, ⟨ok_txt hz (by omega) (by omega), by rw [sz_txt]; omega, by rw [Tr.dep]; omega⟩, fun d4 c4 z4 t h4 ⟨e0, e1, e2, e3⟩ ⟨t1, t2, t3⟩ => ?_⟩
    have htl : (ts.map Tr.dt).length = i := by rw [List.length_map, tl]
    rw [Tr.dt]
    walk_at "es"
    refine .a ⟨d4, c4, z4, ts ++ [t], .val (.int i), .val (.str z), h4, ⟨by omega, by omega, by omega, e3⟩, by simp [tl], fun x hx => ?_, by rw [List.map_append]; rfl⟩
    rcases List.mem_append.mp hx with hx | hx
    · exact ta x hx
    · rw [List.mem_singleton.mp hx]; exact ⟨t1, by omega, by omega⟩
  · rintro G ⟨d1, c1, z1, ts, s5, s6, h1, ⟨f0, f1, f2, f3⟩, tl, ta, rfl⟩
    have tl5 : ts.length = 7 := tl
    have htl : (ts.map Tr.dt).length = 7 := by rw [List.length_map, tl5]
    have f1 : c1 ≤ c + (1 + 210 * 7) := f1
    have f2 : z1.length ≤ zs.length + 10 * 7 := f2
    walk_at "es"
    refine .a ⟨d1, c1, z1, rfl, h1, by omega, by omega, by omega, f3, fun d3 c3 z h3 c30 c31 hz hzp => ?_⟩
    have hzl2 : (z1 ++ [z]).length = z1.length + 1 := by simp
    walk_at "es"
    have := k d3 c3 (z1 ++ [z]) (.part z [] ts) h3 ⟨by omega, by omega, by omega, nm_snoc f3 ⟨hz, hzp⟩⟩ ⟨ok_mkp hz hzp mk_nil (by omega) (fun x hx => (ta x hx).1), by
      rw [sz_part]
      have := sum_const (f := Tr.sz) (n := 3) (l := ts) fun x hx => (ta x hx).2.1
      omega, by
      rw [Tr.dep]
      have := (deps_le (n := 2) (its := ts)).mpr fun x hx => (ta x hx).2.2
      omega⟩
    rw [dt_part] at this
    exact this
theorem run_refs : RunOk K [0, 1] (tq_full_refs K ap_name ap_wrapped ap_take ap_leaf) 6 (ap_big 1600 90) := by
  rintro as Post ⟨ds, c, zs, s, rfl, h0, c0, c1, hl, h8, s0, s1, k⟩
  unfold tq_full_refs
  show WS K [0, 1] _ [.acc ds, .acc (zs.map Dt.str), .val (.int s), .un, .un, .un] _
  obtain ⟨n, hn⟩ : ∃ n : Nat, 3 + s = (n : Int) := ⟨(3 + s).toNat, by omega⟩
  walk_at "es"
  refine for_range1 n (fun i G => ∃ (d1 : List Dt) (c1 : Int) (z1 : List Str) (ts : List Tr) (s4 s5 : Sl), PoolIs c1 d1 ∧ Fed c zs.length (180 * i) (12 * i) c1 z1 ∧ ts.length = 2 * i ∧ (∀ t ∈ ts, Sm 3 2 t) ∧ G = [.acc d1, .acc (z1.map Dt.str), .val (.int s), .acc (ts.map Tr.dt), s4, s5]) ?_ ?_ ?_
  · walk_at "es"
    exact .a ⟨by rw [hn], by omega, by omega, ds, c, zs, [], _, _, h0, ⟨by omega, by omega, by omega, h8⟩, rfl, (fun _ h => nomatch h), rfl⟩
  · rintro i G hi ⟨d1, c1, z1, ts, s4, s5, h1, ⟨f0, f1, f2, f3⟩, tl, ta, rfl⟩
    have htl : (ts.map Tr.dt).length = 2 * i := by rw [List.length_map, tl]
    walk_at "es"
    refine .a ⟨d1, c1, z1, rfl, h1, by omega, by omega, by omega, f3, fun d2 c2 z h2 c20 c21 hz hzp => ?_⟩
    have hzl2 : (z1 ++ [z]).length = z1.length + 1 := by simp
    walk_at "es"
    refine .a ⟨d2, c2, 3, rfl, h2, by omega, by omega, by omega, by omega, fun d3 g h3 g0 g1 => ?_⟩
    obtain ⟨gn, rfl⟩ : ∃ gn : Nat, g = (gn : Int) := ⟨g.toNat, by omega⟩
    walk_at "es"
    refine .a ⟨d3, c2 + 1, z1 ++ [z], .ref z, gn, 1, 0, by rw [Tr.dt]; rfl, h3, by omega, by omega, by omega, nm_snoc f3 ⟨hz, hzp⟩, by omega, ⟨ok_ref hz hzp, by rw [sz_ref]; omega, by rw [Tr.dep]; omega⟩, fun d4 c4 z4 t h4 ⟨e0, e1, e2, e3⟩ ⟨t1, t2, t3⟩ => ?_⟩
    rw [Tr.dt]
    walk_at "es"
    refine .a ⟨d4, c4, z4, rfl, h4, by omega, by omega, by omega, e3, fun d5 c5 z5 u h5 ⟨q0, q1, q2, q3⟩ hu => ?_⟩
    have htl2 : (ts.map Tr.dt ++ [t.dt]).length = 2 * i + 1 := by rw [List.length_append, htl]; rfl
    walk_at "es"
    refine .a ⟨d5, c5, z5, ts ++ [t] ++ [u], .val (.int i), .val (.str z), h5, ⟨by omega, by omega, by omega, q3⟩, by simp [tl]; omega, fun x hx => ?_, by rw [List.map_append, List.map_append]; rfl⟩
    rcases List.mem_append.mp hx with hx | hx
    · rcases List.mem_append.mp hx with hx | hx
      · exact ta x hx
      · rw [List.mem_singleton.mp hx]; exact ⟨t1, by omega, by omega⟩
    · rw [List.mem_singleton.mp hx]; exact ⟨hu.1, by have := hu.2.1; omega, by have := hu.2.2; omega⟩
  · rintro G ⟨d1, c1, z1, ts, s4, s5, h1, ⟨f0, f1, f2, f3⟩, tl, ta, rfl⟩
    have htl : (ts.map Tr.dt).length = 2 * n := by rw [List.length_map, tl]; rfl
    have tl5 : ts.length = 2 * n := tl
    have f1 : c1 ≤ c + 180 * (n : Int) := f1
    have f2 : z1.length ≤ zs.length + 12 * n := f2
    walk_at "es"
    refine .a ⟨d1, c1, z1, rfl, h1, by omega, by omega, by omega, f3, fun d3 c3 z h3 c30 c31 hz hzp => ?_⟩
    have hzl2 : (z1 ++ [z]).length = z1.length + 1 := by simp
    walk_at "es"
    have := k d3 c3 (z1 ++ [z]) (.part z [] ts) h3 ⟨by omega, by omega, by omega, nm_snoc f3 ⟨hz, hzp⟩⟩ ⟨ok_mkp hz hzp mk_nil (by omega) (fun x hx => (ta x hx).1), by
      rw [sz_part]
      have := sum_const (f := Tr.sz) (n := 3) (l := ts) fun x hx => (ta x hx).2.1
      omega, by
      rw [Tr.dep]
      have := (deps_le (n := 2) (its := ts)).mpr fun x hx => (ta x hx).2.2
      omega⟩
    rw [dt_part] at this
    exact this
theorem run_depth : RunOk K [0, 1] (tq_full_depth K ap_marks ap_name ap_take ap_leaf) 6 (ap_big 1600 90) := by
  rintro as Post ⟨ds, c, zs, s, rfl, h0, c0, c1, hl, h8, s0, s1, k⟩
  unfold tq_full_depth
  show WS K [0, 1] _ [.acc ds, .acc (zs.map Dt.str), .val (.int s), .un, .un, .un] _
  obtain ⟨n, hn⟩ : ∃ n : Nat, 5 + s = (n : Int) := ⟨(5 + s).toNat, by omega⟩
  walk_at "es"
  refine .a ⟨ds, c, zs, rfl, h0, by omega, by omega, by omega, h8, fun d1 c1 z h1 c10 c11 hz hzp => ?_⟩
  have hzl1 : (zs ++ [z]).length = zs.length + 1 := by simp
  walk_at "es"
  refine .a ⟨d1, c1, zs ++ [z], rfl, h1, by omega, by omega, by omega, nm_snoc h8 ⟨hz, hzp⟩, fun d2 c2 z2 ms h2 c20 c21 hzl hz2 hmk => ?_⟩
  walk_at "xs"
  refine ws_cut (fun G => ∃ (d3 : List Dt) (c3 : Int) (z3 : List Str) (t : Tr), PoolIs c3 d3 ∧ Fed c (zs.length + 1) 100 10 c3 z3 ∧ SmL 1 2 1 t ∧ G = [.acc d3, .acc (z3.map Dt.str), .val (.int s), .val t.dt, .un, .un]) ?_ ?_
  · walk_at "es"
    refine .a ⟨d2, c2, 2, rfl, h2, by omega, by omega, by omega, by omega, fun d3 g h3 g0 g1 => ?_⟩
    by_cases hg : g = 0
    · walk_at "es"
      refine .a ⟨d3, c2 + 1, z2, rfl, h3, by omega, by omega, by omega, hz2, fun d4 c4 z4 u h4 ⟨e0, e1, e2, e3⟩ hu => ?_⟩
      walk_at "es"
      refine .a ⟨d4, c4, z4, .part z ms [u], h4, ⟨by omega, by omega, by omega, e3⟩, ⟨ok_mkp hz hzp hmk (by simp) (fun x hx => by rw [List.mem_singleton.mp hx]; exact hu.1), ?_, ?_⟩, by rw [dt_part]; rfl⟩
      · rw [sz_part]; have := hu.2.1; simp only [List.map_cons, List.map_nil, List.sum_cons, List.sum_nil]; omega
      · rw [Tr.dep, Tr.deps, Tr.deps]; have := hu.2.2; omega
    · walk_at "es"
      refine .a ⟨d3, c2 + 1, z2, .part z ms [], h3, ⟨by omega, by omega, by omega, hz2⟩, ⟨ok_mkp hz hzp hmk (by simp) (fun x hx => nomatch hx), ?_, ?_⟩, by rw [dt_part]; rfl⟩
      · rw [sz_part]; simp only [List.map_nil, List.sum_nil]; omega
      · rw [Tr.dep, Tr.deps]; omega
  rintro G ⟨d3, c3, z3, t, h3, ⟨f0, f1, f2, f3⟩, ht, rfl⟩
  walk_at "es"
  refine for_range1 n (fun i G => ∃ (d1 : List Dt) (c1 : Int) (z1 : List Str) (t : Tr) (s4 s5 : Sl), PoolIs c1 d1 ∧ Fed c (zs.length + 1) (100 + 40 * i) (10 + 5 * i) c1 z1 ∧ SmL 1 (2 + 3 * i) (1 + i) t ∧ G = [.acc d1, .acc (z1.map Dt.str), .val (.int s), .val t.dt, s4, s5]) ?_ ?_ ?_
  · walk_at "es"
    exact .a ⟨by rw [hn], by omega, by omega, d3, c3, z3, t, _, _, h3, ⟨by omega, by omega, by omega, f3⟩, ht, rfl⟩
  · rintro i G hi ⟨d1, c1, z1, t, s4, s5, h1, ⟨f0, f1, f2, f3⟩, ⟨t1, t2, t3⟩, rfl⟩
    walk_at "xs"; walk_at "e"; walk_at "xs"
    refine ws_cut (fun G => ∃ (d3 : List Dt) (c3 : Int) (z3 : List Str) (us : List Tr), PoolIs c3 d3 ∧ Fed c1 z1.length 17 1 c3 z3 ∧ us.length ≤ 2 ∧ (∀ u ∈ us, TrOk 16 u ∧ u.dep ≤ 1 + i) ∧ (us.map Tr.sz).sum ≤ 3 + 3 * i ∧ G = [.acc d3, .acc (z3.map Dt.str), .val (.int s), .val t.dt, .val (.int i), .val (.tup (us.map Tr.dt))]) ?_ ?_
    · walk_at "es"
      refine .a ⟨d1, c1, 2, rfl, h1, by omega, by omega, by omega, by omega, fun d2 g h2 g0 g1 => ?_⟩
      by_cases hg : g = 0
      · walk_at "es"
        refine .a ⟨d2, c1 + 1, z1, rfl, h2, by omega, by omega, by omega, f3, fun d4 c4 z4 u h4 ⟨e0, e1, e2, e3⟩ hu => ?_⟩
        walk_at "es"
        refine .a ⟨d4, c4, z4, [u, t], h4, ⟨by omega, by omega, by omega, e3⟩, by simp, fun x hx => ?_, ?_, rfl⟩
        · rcases List.mem_cons.mp hx with rfl | hx
          · exact ⟨hu.1, by have := hu.2.2; omega⟩
          · rw [List.mem_singleton.mp hx]; exact ⟨t1, t3.2⟩
        · have := hu.2.1
          simp only [List.map_cons, List.map_nil, List.sum_cons, List.sum_nil]; omega
      · walk_at "es"
        refine .a ⟨d2, c1 + 1, z1, [t], h2, ⟨by omega, by omega, by omega, f3⟩, by simp, fun x hx => ?_, ?_, rfl⟩
        · rw [List.mem_singleton.mp hx]; exact ⟨t1, t3.2⟩
        · simp only [List.map_cons, List.map_nil, List.sum_cons, List.sum_nil]; omega
    rintro G ⟨d3, c3, z3, us, h3, ⟨q0, q1, q2, q3⟩, ul, ua, usz, rfl⟩
    walk_at "es"
    refine .a ⟨d3, c3, z3, rfl, h3, by omega, by omega, by omega, q3, fun d5 c5 z h5 c50 c51 hz hzp => ?_⟩
    have hzl5 : (z3 ++ [z]).length = z3.length + 1 := by simp
    walk_at "es"
    refine .a ⟨d5, c5, z3 ++ [z], .part z [] us, .val (.int i), .val (.tup (us.map Tr.dt)), h5, ⟨by omega, by omega, by omega, nm_snoc q3 ⟨hz, hzp⟩⟩, ⟨ok_mkp hz hzp mk_nil (by omega) (fun x hx => (ua x hx).1), ?_, ?_⟩, by rw [dt_part]; rfl⟩
    · rw [sz_part]; omega
    · rw [Tr.dep]
      have := (deps_le (n := 1 + i) (its := us)).mpr fun x hx => (ua x hx).2
      omega
  · rintro G ⟨d1, c1, z1, t, s4, s5, h1, ⟨f0, f1, f2, f3⟩, ⟨t1, t2, t3⟩, rfl⟩
    have f1 : c1 ≤ c + (100 + 40 * (n : Int)) := f1
    have f2 : z1.length ≤ zs.length + 1 + (10 + 5 * n) := f2
    have t2 : t.sz ≤ 2 + 3 * n := t2
    have t3 : 1 ≤ t.dep ∧ t.dep ≤ 1 + n := t3
    walk_at "es"
    exact k d1 c1 z1 t h1 ⟨by omega, by omega, by omega, f3⟩ ⟨t1, by omega, by omega⟩
noncomputable def ap_edge : AP := fun as Post => ∃ (ds : List Dt) (c : Int) (zs : List Str) (s : Int), as = [.acc ds, .acc (zs.map Dt.str), .val (.int s)] ∧ PoolIs c ds ∧ 0 ≤ c ∧ c < 9000 ∧ zs.length < 9000 ∧ (∀ z ∈ zs, Nm1 z) ∧ -1 ≤ s ∧ s ≤ 2 ∧
  ∀ ds' c' (zs' : List Str) (t : Tr), PoolIs c' ds' → Fed c (zs.length + 1) 1700 100 c' zs' → SmL 1 200 20 t → Post (.val t.dt) [.acc ds', .acc (zs'.map Dt.str), .val (.int s)]
theorem run_edge : RunOk K [0, 1] (tq_edge K ap_take (ap_big 600 40) (ap_big 1600 90) (ap_big 1600 90) (ap_big 1600 90) (ap_big 1600 90)) 4 ap_edge := by
  rintro as Post ⟨ds, c, zs, s, rfl, h0, c0, c1, hl, h8, s0, s1, k⟩
  unfold tq_edge
  show WS K [0, 1] _ [.acc ds, .acc (zs.map Dt.str), .val (.int s), .un] _
  walk_at "es"
  refine .a ⟨ds, c, 5, rfl, h0, by omega, by omega, by omega, by omega, fun d1 g h1 g0 g1 => ?_⟩
  have fin : ∀ (X : Int) (Y : Nat), X ≤ 1600 → Y ≤ 90 → ∀ (d : List Dt) (c' : Int) (z : List Str) (t : Tr), PoolIs c' d → Fed (c + 1) (zs.length + 1) X Y c' z → SmL 1 200 20 t → Post (.val t.dt) [.acc d, .acc (z.map Dt.str), .val (.int s)] := fun X Y hX hY d c' z t p f m =>
    k d c' z t p ⟨by have := f.c0; omega, by have := f.c1; omega, by have := f.zl; omega, f.nm⟩ m
  by_cases a0 : g = 0
  · walk_at "es"
    refine .a ⟨d1, c + 1, zs, s, rfl, h1, by omega, by omega, by omega, h8, s0, s1, fun d2 c2 z2 t h2 f m => ?_⟩
    walk_at "es"
    exact fin 600 40 (by omega) (by omega) d2 c2 z2 t h2 f m
  by_cases a1 : g = 1
  · walk_at "es"
    refine .a ⟨d1, c + 1, zs, s, rfl, h1, by omega, by omega, by omega, h8, s0, s1, fun d2 c2 z2 t h2 f m => ?_⟩
    walk_at "es"
    exact fin 1600 90 (by omega) (by omega) d2 c2 z2 t h2 f m
  by_cases a2 : g = 2
  · walk_at "es"
    refine .a ⟨d1, c + 1, zs, s, rfl, h1, by omega, by omega, by omega, h8, s0, s1, fun d2 c2 z2 t h2 f m => ?_⟩
    walk_at "es"
    exact fin 1600 90 (by omega) (by omega) d2 c2 z2 t h2 f m
  by_cases a3 : g = 3
  · walk_at "es"
    refine .a ⟨d1, c + 1, zs, s, rfl, h1, by omega, by omega, by omega, h8, s0, s1, fun d2 c2 z2 t h2 f m => ?_⟩
    walk_at "es"
    exact fin 1600 90 (by omega) (by omega) d2 c2 z2 t h2 f m
  · walk_at "es"
    refine .a ⟨d1, c + 1, zs, s, rfl, h1, by omega, by omega, by omega, h8, s0, s1, fun d2 c2 z2 t h2 f m => ?_⟩
    walk_at "es"
    exact fin 1600 90 (by omega) (by omega) d2 c2 z2 t h2 f m
end
end
section
open PySem L2 Ab
noncomputable def tq_sizes (K : PySem.W.Frag) (ap__law_sizes : AP) : TS :=
    (tSeq (tIfS (tB (tCB (rIsi K) (tCons (tVar 0) (tCons (tC (.ty "str")) tNil)))) (tRet (tLst (tCons (tC (.int 1)) (tCons (tCB (rLenV K) (tCons (tVar 0) tNil)) (tCons (tOp rSubI (tVar 1) (tC (.int 1))) (tCons (tC (.int 0)) (tCons (tC (.int 0)) tNil))))))) tNext)
    (tSeq (tIfS (tTest (tOp (rEqG K) (tCB (rLenV K) (tCons (tVar 0) tNil)) (tC (.int 2)))) (tRet (tLst (tCons (tC (.int 1)) (tCons (tC (.int 0)) (tCons (tOp rSubI (tVar 1) (tC (.int 1))) (tCons (tCB rInt1 (tCons (tOp (rEqG K) (tOp (rIx K) (tVar 0) (tC (.int 0))) (tC (.str "@"))) tNil)) (tCons (tC (.int 0)) tNil))))))) tNext)
    (tSeq (tAsg (tLst (tCons (tC (.int 1)) (tCons (tC (.int 0)) (tCons (tVar 1) (tCons (tC (.int 0)) (tCons (tCB (rLenV K) (tCons (tOp (rIx K) (tVar 0) (tC (.int 2))) tNil)) tNil)))))) (gName 2))
    (tSeq (tFor (iTup K (tOp (rIx K) (tVar 0) (tC (.int 2)))) (gName 3) (tSeq (tAsg (tCall (toSp K ap__law_sizes) [] E0 (tCons (tVar 3) (tCons (tOp (rAddG K) (tVar 1) (tC (.int 1))) tNil))) (gName 4))
    (tSeq (tAsg (tLc (iRng1 (tCons (tC (.int 5)) tNil)) (gName 6) tYes (tOp (rAddG K) (tOp (rIx K) (tVar 2) (tVar 6)) (tOp (rIx K) (tVar 4) (tVar 6))) [6]) (gName 5))
    (tSeq (tAsg (tCB rMx2 (tCons (tCB rInt1 (tCons (tOp (rIx K) (tVar 2) (tC (.int 2))) tNil)) (tCons (tOp (rIx K) (tVar 4) (tC (.int 2))) tNil))) (gSub (tVar 5) (tC (.int 2)) rSetL))
    (tSeq (tAsg (tCB rMx2 (tCons (tCB rInt1 (tCons (tOp (rIx K) (tVar 2) (tC (.int 4))) tNil)) (tCons (tOp (rIx K) (tVar 4) (tC (.int 4))) tNil))) (gSub (tVar 5) (tC (.int 4)) rSetL))
    (tAsg (tVar 5) (gName 2)))))))
    (tRet (tVar 2))))))
noncomputable def tq_let (K : PySem.W.Frag) (ap__law_sizes : AP) : TS :=
    (tSeq (tAsg (tCall (toSp K ap__law_sizes) [] E0 (tCons (tVar 0) (tCons (tC (.int 1)) tNil))) (gName 1))
    (tSeq (tAsg (tLst (tCons (tC (.int 60)) (tCons (tC (.int 400)) (tCons (tC (.int 6)) (tCons (tC (.int 3)) (tCons (tC (.int 12)) tNil)))))) (gName 2))
    (tRet (tOp (rEqG K) (tCB (rLenV K) (tCons (tLc (iRng1 (tCons (tC (.int 5)) tNil)) (gName 3) (tTest (tOp rGtI (tOp (rIx K) (tVar 1) (tVar 3)) (tOp (rIx K) (tVar 2) (tVar 3)))) (tVar 3) [3]) tNil)) (tC (.int 0))))))
noncomputable def tq_paths (K : PySem.W.Frag) (ap__law_paths : AP) : TS :=
    (tSeq (tAsg (tLst (tCons (tTup (tCons (tVar 1) (tCons (tVar 0) tNil))) tNil)) (gName 2))
    (tSeq (tIfS (tAnd (tB (tCB (rIsi K) (tCons (tVar 0) (tCons (tC (.ty "tuple")) tNil)))) (tTest (tOp (rEqG K) (tCB (rLenV K) (tCons (tVar 0) tNil)) (tC (.int 3))))) (tFor (iRng1 (tCons (tCB (rLenV K) (tCons (tOp (rIx K) (tVar 0) (tC (.int 2))) tNil)) tNil)) (gName 3) (tDrop (tBM K "list" rExtend (tVar 2) (tCons (tCall (toSp K ap__law_paths) [] E0 (tCons (tOp (rIx K) (tOp (rIx K) (tVar 0) (tC (.int 2))) (tVar 3)) (tCons (tOp (rAddG K) (tVar 1) (tTup (tCons (tVar 3) tNil))) tNil))) tNil)))) tNext)
    (tRet (tVar 2))))
mutual
noncomputable def Tr.kmax : Tr → Nat
  | .txt _ => 0
  | .lab _ => 0
  | .ref _ => 0
  | .part _ _ its => max its.length (Tr.kmaxs its)
noncomputable def Tr.kmaxs : List Tr → Nat
  | [] => 0
  | t :: r => max t.kmax (Tr.kmaxs r)
end
theorem deps_snoc : ∀ (l : List Tr) (u : Tr), Tr.deps (l ++ [u]) = max (Tr.deps l) u.dep
  | [], u => by rw [List.nil_append]; simp only [Tr.deps]; omega
  | x :: r, u => by rw [List.cons_append]; simp only [Tr.deps, deps_snoc r u]; omega
theorem kmaxs_snoc : ∀ (l : List Tr) (u : Tr), Tr.kmaxs (l ++ [u]) = max (Tr.kmaxs l) u.kmax
  | [], u => by rw [List.nil_append]; simp only [Tr.kmaxs]; omega
  | x :: r, u => by rw [List.cons_append]; simp only [Tr.kmaxs, kmaxs_snoc r u]; omega
theorem kmaxs_le {n : Nat} : ∀ {l : List Tr}, Tr.kmaxs l ≤ n ↔ ∀ t ∈ l, t.kmax ≤ n
  | [] => by rw [Tr.kmaxs]; exact ⟨(fun _ _ h => nomatch h), fun _ => Nat.zero_le _⟩
  | t :: r => by
    rw [Tr.kmaxs, Nat.max_le, kmaxs_le (l := r)]
    refine ⟨fun h u hu => ?_, fun h => ⟨h t List.mem_cons_self, fun u hu => h u (List.mem_cons_of_mem _ hu)⟩⟩
    rcases List.mem_cons.mp hu with rfl | hu
    · exact h.1
    · exact h.2 u hu
noncomputable def szs (t : Tr) (d : Nat) : List Int := [(t.sz : Int), (t.chars : Int), (d : Int) - 1 + t.dep, (t.refs : Int), (t.kmax : Int)]
theorem szs_txt {z : Str} {d : Nat} : szs (.txt z) d = [1, (z.length : Int), (d : Int) - 1, 0, 0] := by
  unfold szs Tr.sz Tr.chars Tr.refs; rw [Tr.sum, Tr.sum, Tr.sum, Tr.dep, Tr.kmax]; simp [w1, wc, wr]
theorem szs_lab {z : Str} {d : Nat} : szs (.lab z) d = [1, 0, (d : Int) - 1, 0, 0] := by
  unfold szs Tr.sz Tr.chars Tr.refs; rw [Tr.sum, Tr.sum, Tr.sum, Tr.dep, Tr.kmax]; simp [w1, wc, wr]
theorem szs_ref {z : Str} {d : Nat} : szs (.ref z) d = [1, 0, (d : Int) - 1, 1, 0] := by
  unfold szs Tr.sz Tr.chars Tr.refs; rw [Tr.sum, Tr.sum, Tr.sum, Tr.dep, Tr.kmax]; simp [w1, wc, wr]
noncomputable def ap_sizes (n : Nat) : AP := fun as Post => ∃ (t : Tr) (d : Nat), as = [.val t.dt, .val (.int d)] ∧ t.dep ≤ n ∧ d + t.dep ≤ 100 ∧ TrOk 40 t ∧ Post (.new ((szs t d).map Dt.int)) as
end
section
open PySem L2 Ab
section
variable {K : PySem.W.Frag}
theorem run_paths {n : Nat} {ap : AP} (hap : ∀ (t : Tr) (p : List Nat) (Post : Re → List Sl → Prop), t.dep < n → p.length + t.dep ≤ 60 → t.sz ≤ 1000 → Post (.new ((flat t p).map Rw.dt)) [.val t.dt, .val (.tup (p.map dtN))] → ap [.val t.dt, .val (.tup (p.map dtN))] Post)
    (as : List Sl) (Post : Re → List Sl → Prop) (h : ap_paths n as Post) : WS K [] (tq_paths K ap) (as ++ List.replicate (4 - as.length) .un) ⟨fun G => Post (.val .non) (exitArgs [] G as), fun r G => Post r (exitArgs [] G as), fun _ => False, fun _ => False, .no⟩ := by
  obtain ⟨t, p, rfl, hn, hpd, hsz, k⟩ := h
  unfold tq_paths
  show WS K [] _ [.val t.dt, .val (.tup (p.map dtN)), .un, .un] _
  cases t with
  | txt z =>
    have k2 : Post (.new [.tup [.tup (p.map dtN), .str z]]) [.val (.str z), .val (.tup (p.map dtN))] := by
      rw [flat, List.map_cons, List.map_nil, Rw.dt, Tr.dt] at k; exact k
    rw [Tr.dt] at k ⊢; walk_at "es"; exact k2
  | lab z =>
    have k2 : Post (.new [.tup [.tup (p.map dtN), .tup [.str "#", .str z]]]) [.val (.tup [.str "#", .str z]), .val (.tup (p.map dtN))] := by
      rw [flat, List.map_cons, List.map_nil, Rw.dt, Tr.dt] at k; exact k
    rw [Tr.dt] at k ⊢; walk_at "es"
    refine ⟨fun h => absurd (of_decide_eq_true h) (by simp), fun _ => ?_⟩
    walk_at "es"; exact k2
  | ref z =>
    have k2 : Post (.new [.tup [.tup (p.map dtN), .tup [.str "@", .str z]]]) [.val (.tup [.str "@", .str z]), .val (.tup (p.map dtN))] := by
      rw [flat, List.map_cons, List.map_nil, Rw.dt, Tr.dt] at k; exact k
    rw [Tr.dt] at k ⊢; walk_at "es"
    refine ⟨fun h => absurd (of_decide_eq_true h) (by simp), fun _ => ?_⟩
    walk_at "es"; exact k2
  | part kd ms its =>
    have hsz2 : 1 + (its.map Tr.sz).sum = (Tr.part kd ms its).sz := by unfold Tr.sz; rw [Tr.sum, sums_map]; rfl
    rw [Tr.dep] at hn hpd
    rw [flat, List.map_cons, Rw.dt] at k
    rw [dt_part] at k ⊢
    have hil : its.length ≤ (its.map Tr.sz).sum := by
      have : ∀ l : List Tr, l.length ≤ (l.map Tr.sz).sum := fun l => by
        induction l with
        | nil => simp
        | cons x r ih => have := sz_pos x; simp only [List.length_cons, List.map_cons, List.sum_cons]; omega
      exact this its
    walk_at "es"
    refine ⟨fun _ => ?_, fun h => absurd (of_decide_eq_false h) (by simp)⟩
    refine for_range1 (its.length : Int) (fun i G => ∃ (s3 : Sl), G = [.val (.tup [.str kd, .tup (ms.map Dt.str), .tup (its.map Tr.dt)]), .val (.tup (p.map dtN)), .acc (.tup [.tup (p.map dtN), .tup [.str kd, .tup (ms.map Dt.str), .tup (its.map Tr.dt)]] :: (flats (its.take i) p 0).map Rw.dt), s3]) ?_ ?_ ?_
    · walk_at "es"
      exact .a ⟨by rw [List.length_map], by omega, by omega, _, by rw [List.take_zero, flats]; rfl⟩
    · rintro i G hi ⟨s3, rfl⟩
      obtain ⟨u, hu⟩ : ∃ u, its[i]? = some u := ⟨_, List.getElem?_eq_getElem (by omega)⟩
      have tk : its.take (i + 1) = its.take i ++ [u] := by rw [List.take_add_one, hu]; rfl
      have hdu : u.dep ≤ Tr.deps its := deps_le.mp (Nat.le_refl _) u (List.mem_of_getElem? hu)
      have hss := sum_take_le (f := Tr.sz) hu
      have hat2 : atI (its.map Tr.dt) (i : Int) = some u.dt := atI_of rfl (by rw [List.getElem?_map, hu]; rfl)
      have hfl := flats_len (its := its.take i) (fun t _ q => flat_len t q) p 0
      have hf2 := flat_len u (p ++ [i])
      have hti : (its.take i).length = i := by rw [List.length_take]; omega
      walk_at "es"
      refine we_extend rfl ?_
      walk_at "es"
      refine addp_t (by rw [List.length_map]; simp only [List.length_cons, List.length_nil]; omega) ?_
      have e2 : p.map dtN ++ [Dt.int (i : Int)] = (p ++ [i]).map dtN := by rw [List.map_append]; rfl
      rw [e2]
      walk_at "es"
      refine .a (hap u (p ++ [i]) _ (by omega) (by rw [List.length_append, List.length_singleton]; omega) (by omega) ?_)
      refine ⟨_, _, rfl, rfl, rfl, by rw [List.length_cons, List.length_map, List.length_map]; omega, ?_⟩
      walk_at "es"
      refine .a ⟨_, by rw [tk, flats_snoc, List.map_append, hti, Nat.zero_add]; rfl⟩
    · rintro G ⟨s3, rfl⟩
      rw [show (its.length : Int).toNat = its.length by omega, List.take_length]
      walk_at "es"
      exact k
local macro_rules | `(tactic| walk_at "x") => `(tactic| with_reducible refine ws_move rfl rfl rfl rfl ?_)
theorem run_sizes {n : Nat} {ap : AP} (hap : ∀ (t : Tr) (d : Nat) (Post : Re → List Sl → Prop), t.dep < n → d + t.dep ≤ 100 → TrOk 40 t → Post (.new ((szs t d).map Dt.int)) [.val t.dt, .val (.int d)] → ap [.val t.dt, .val (.int d)] Post)
    (as : List Sl) (Post : Re → List Sl → Prop) (h : ap_sizes n as Post) : WS K [] (tq_sizes K ap) (as ++ List.replicate (7 - as.length) .un) ⟨fun G => Post (.val .non) (exitArgs [] G as), fun r G => Post r (exitArgs [] G as), fun _ => False, fun _ => False, .no⟩ := by
  obtain ⟨t, d, rfl, hn, hd, hok, k⟩ := h
  unfold tq_sizes
  show WS K [] _ [.val t.dt, .val (.int d), .un, .un, .un, .un, .un] _
  cases t with
  | txt z =>
    rw [szs_txt] at k
    rw [Tr.dt] at k ⊢
    unfold TrOk at hok; rw [Tr.All] at hok
    have hz : z.length ≤ 60 := hok.2.1
    walk_at "es"
    refine lenp_s (by omega) ?_
    walk_at "es"
    exact k
  | lab z =>
    rw [szs_lab] at k
    rw [Tr.dt] at k ⊢
    walk_at "es"
    refine ⟨fun _ => ?_, fun h => absurd (of_decide_eq_false h) (by simp)⟩
    walk_at "es"
    exact k
  | ref z =>
    rw [szs_ref] at k
    rw [Tr.dt] at k ⊢
    walk_at "es"
    refine ⟨fun _ => ?_, fun h => absurd (of_decide_eq_false h) (by simp)⟩
    walk_at "es"
    exact k
  | part kd ms its =>
    rw [dt_part] at k ⊢
    unfold TrOk at hok; rw [Tr.All] at hok
    obtain ⟨⟨_, _, hil⟩, ha⟩ := hok
    rw [Tr.dep] at hn hd
    walk_at "es"
    refine ⟨fun h => absurd (of_decide_eq_true h) (by simp), fun _ => ?_⟩
    walk_at "es"
    refine for_tuple (its.map Tr.dt) (fun i G => ∃ (s3 s4 s5 : Sl), G = [.val (.tup [.str kd, .tup (ms.map Dt.str), .tup (its.map Tr.dt)]), .val (.int d), .acc [.int (1 + (((its.take i).map Tr.sz).sum : Nat)), .int (((its.take i).map Tr.chars).sum : Nat), .int ((d : Int) + Tr.deps (its.take i)), .int (((its.take i).map Tr.refs).sum : Nat), .int (max its.length (Tr.kmaxs (its.take i)) : Nat)], s3, s4, s5, .un]) ?_ ?_ ?_
    · walk_at "es"
      exact .a ⟨rfl, .un, .un, .un, by simp [Tr.deps, Tr.kmaxs]⟩
    · rintro i x G hx ⟨s3, s4, s5, rfl⟩
      rw [List.getElem?_map] at hx
      cases hu : its[i]? with
      | none => rw [hu] at hx; cases hx
      | some u =>
        rw [hu] at hx; cases hx
        have tk : its.take (i + 1) = its.take i ++ [u] := by rw [List.take_add_one, hu]; rfl
        have hmem := List.mem_of_getElem? hu
        have hdu : u.dep ≤ Tr.deps its := deps_le.mp (Nat.le_refl _) u hmem
        walk_at "es"
        refine .a (hap u (d + 1) _ (by omega) (by omega) (alls_iff.mp ha u hmem) ?_)
        have e1 : ((d + 1 : Nat) : Int) - 1 + (u.dep : Int) = d + u.dep := by omega
        unfold szs
        rw [e1]
        generalize ha0 : (1 + (((its.take i).map Tr.sz).sum : Nat) : Int) = a0
        generalize ha1 : ((((its.take i).map Tr.chars).sum : Nat) : Int) = a1
        generalize ha2 : ((d : Int) + (Tr.deps (its.take i) : Nat)) = a2
        generalize ha3 : ((((its.take i).map Tr.refs).sum : Nat) : Int) = a3
        generalize ha4 : ((max its.length (Tr.kmaxs (its.take i)) : Nat) : Int) = a4
        walk_at "es"
        refine lc_range1 5 (fun m es G => es = (([a0 + u.sz, a1 + u.chars, a2 + (d + u.dep), a3 + u.refs, a4 + u.kmax] : List Int).take m).map Dt.int ∧ G = [.val (.tup [.str kd, .tup (ms.map Dt.str), .tup (its.map Tr.dt)]), .val (.int d), .acc ([a0, a1, a2, a3, a4].map Dt.int), .val u.dt, .acc ([(u.sz : Int), (u.chars : Int), (d : Int) + u.dep, (u.refs : Int), (u.kmax : Int)].map Dt.int), s5, .un]) ?_ ?_ ?_
        · walk_at "es"
          exact .a ⟨rfl, by omega, rfl, rfl, rfl, rfl, rfl⟩
        · rintro m es G hm ⟨rfl, rfl⟩
          have hm5 : m = 0 ∨ m = 1 ∨ m = 2 ∨ m = 3 ∨ m = 4 := by omega
          show WT K _ [.val (.tup [.str kd, .tup (ms.map Dt.str), .tup (its.map Tr.dt)]), .val (.int d), .acc ([a0, a1, a2, a3, a4].map Dt.int), .val u.dt, .acc ([(u.sz : Int), (u.chars : Int), (d : Int) + u.dep, (u.refs : Int), (u.kmax : Int)].map Dt.int), s5, .val (.int m)] _
          rcases hm5 with rfl | rfl | rfl | rfl | rfl
          · walk_at "es"
            exact .a ⟨rfl, rfl⟩
          · walk_at "es"
            exact .a ⟨rfl, rfl⟩
          · walk_at "es"
            exact .a ⟨rfl, rfl⟩
          · walk_at "es"
            exact .a ⟨rfl, rfl⟩
          · walk_at "es"
            exact .a ⟨rfl, rfl⟩
        · rintro es G ⟨rfl, rfl⟩
          have e0 : (1 + (((its.take (i + 1)).map Tr.sz).sum : Nat) : Int) = a0 + u.sz := by rw [tk, List.map_append, List.sum_append, ← ha0]; simp; omega
          have e1 : ((((its.take (i + 1)).map Tr.chars).sum : Nat) : Int) = a1 + u.chars := by rw [tk, List.map_append, List.sum_append, ← ha1]; simp
          have e2 : ((d : Int) + (Tr.deps (its.take (i + 1)) : Nat)) = if (d : Int) + u.dep > a2 then (d : Int) + u.dep else a2 := by rw [tk, deps_snoc, ← ha2]; split <;> omega
          have e3 : ((((its.take (i + 1)).map Tr.refs).sum : Nat) : Int) = a3 + u.refs := by rw [tk, List.map_append, List.sum_append, ← ha3]; simp
          have e4 : ((max its.length (Tr.kmaxs (its.take (i + 1))) : Nat) : Int) = if (u.kmax : Int) > a4 then (u.kmax : Int) else a4 := by rw [tk, kmaxs_snoc, ← ha4]; split <;> omega
          walk_at "es"
          refine .a ⟨.val u.dt, .acc ([(u.sz : Int), (u.chars : Int), (d : Int) + u.dep, (u.refs : Int), (u.kmax : Int)].map Dt.int), .un, ?_⟩
          rw [e0, e1, e2, e3, e4]
          rfl
    · rintro G ⟨s3, s4, s5, rfl⟩
      have e : szs (.part kd ms its) d = [(1 : Int) + (((its.map Tr.sz).sum : Nat) : Int), (((its.map Tr.chars).sum : Nat) : Int), (d : Int) + ((Tr.deps its : Nat) : Int), (((its.map Tr.refs).sum : Nat) : Int), ((max its.length (Tr.kmaxs its) : Nat) : Int)] := by
        unfold szs
        rw [sz_part, Tr.dep, Tr.kmax]
        unfold Tr.chars Tr.refs
        rw [Tr.sum, Tr.sum, sums_map, sums_map]
        simp only [wc, wr, Nat.zero_add]
        simp
        omega
      rw [e] at k
      rw [List.length_map, List.take_length]
      walk_at "es"
      exact k
end
end
section
open PySem L2 Ab
noncomputable def letB (t : Tr) : Bool := decide (t.sz ≤ 60) && (decide (t.chars ≤ 400) && (decide (t.dep ≤ 6) && (decide (t.refs ≤ 3) && decide (t.kmax ≤ 12))))
theorem flats_all {q : List Nat × Tr → Prop} {its : List Tr} : ∀ (p : List Nat) (k : Nat), (∀ a ∈ flats its p k, q a) ↔ ∀ (i : Nat) (u : Tr), its[i]? = some u → ∀ a ∈ flat u (p ++ [k + i]), q a := by
  induction its with
  | nil => intro p k; rw [flats]; exact ⟨fun _ i u h => by simp at h, fun _ a h => nomatch h⟩
  | cons t r ih =>
    intro p k
    rw [flats]
    refine ⟨fun h i u hu a ha => ?_, fun h a ha => ?_⟩
    · cases i with
      | zero =>
        simp at hu; subst hu
        exact h a (List.mem_append_left _ ha)
      | succ i =>
        refine (ih p (k + 1)).mp (fun b hb => h b (List.mem_append_right _ hb)) i u (by simpa using hu) a ?_
        rw [show k + 1 + i = k + (i + 1) by omega]; exact ha
    · rcases List.mem_append.mp ha with ha | ha
      · exact h 0 t rfl a ha
      · refine (ih p (k + 1)).mpr (fun i u hu b hb => h (i + 1) u (by simpa using hu) b ?_) a ha
        rw [show k + (i + 1) = k + 1 + i by omega]; exact hb
theorem goods : ∀ (t : Tr) (p : List Nat), (∀ a ∈ flat t p, good a = true) ↔ (t.kmax ≤ 12 ∧ (t.dep = 0 ∨ p.length + t.dep ≤ 6)) := by
  intro t
  refine Tr.ind (P := fun t => ∀ p : List Nat, (∀ a ∈ flat t p, good a = true) ↔ (t.kmax ≤ 12 ∧ (t.dep = 0 ∨ p.length + t.dep ≤ 6))) ?_ ?_ ?_ ?_ t
  · intro z p; rw [flat, Tr.kmax, Tr.dep]; exact ⟨fun _ => ⟨by omega, .inl rfl⟩, fun _ a ha => by rw [List.mem_singleton.mp ha]; rfl⟩
  · intro z p; rw [flat, Tr.kmax, Tr.dep]; exact ⟨fun _ => ⟨by omega, .inl rfl⟩, fun _ a ha => by rw [List.mem_singleton.mp ha]; rfl⟩
  · intro z p; rw [flat, Tr.kmax, Tr.dep]; exact ⟨fun _ => ⟨by omega, .inl rfl⟩, fun _ a ha => by rw [List.mem_singleton.mp ha]; rfl⟩
  · intro kd ms its ih p
    rw [flat, Tr.kmax, Tr.dep]
    have head : good (p, .part kd ms its) = true ↔ (its.length ≤ 12 ∧ p.length < 6) := by
      show (decide (its.length ≤ 12) && decide (p.length < 6)) = true ↔ _
      rw [Bool.and_eq_true, decide_eq_true_iff, decide_eq_true_iff]
    have tail : (∀ a ∈ flats its p 0, good a = true) ↔ ∀ u ∈ its, u.kmax ≤ 12 ∧ (u.dep = 0 ∨ p.length + 1 + u.dep ≤ 6) := by
      rw [flats_all]
      refine ⟨fun h u hu => ?_, fun h i u hu => ?_⟩
      · obtain ⟨i, hi, e⟩ := List.mem_iff_getElem.mp hu
        have := (ih u hu _).mp (h i u (by rw [List.getElem?_eq_getElem hi, e]))
        rw [List.length_append, List.length_singleton] at this
        exact this
      · refine (ih u (List.mem_of_getElem? hu) _).mpr ?_
        rw [List.length_append, List.length_singleton]
        exact h u (List.mem_of_getElem? hu)
    refine ⟨fun h => ?_, fun h => ?_⟩
    · obtain ⟨h1, h2⟩ := head.mp (h _ List.mem_cons_self)
      have h3 := tail.mp fun a ha => h a (List.mem_cons_of_mem _ ha)
      have hk := (kmaxs_le (n := 12) (l := its)).mpr fun u hu => (h3 u hu).1
      have hd := (deps_le (n := 5 - p.length) (its := its)).mpr fun u hu => by
        rcases (h3 u hu).2 with z | z <;> omega
      exact ⟨by omega, .inr (by omega)⟩
    · obtain ⟨h1, h2⟩ := h
      have h2 : p.length + (Tr.deps its + 1) ≤ 6 := by omega
      have hk := (kmaxs_le (n := 12) (l := its)).mp (by omega)
      have hd := (deps_le (n := 5 - p.length) (its := its)).mp (by omega)
      intro a ha
      rcases List.mem_cons.mp ha with rfl | ha
      · exact head.mpr ⟨by omega, by omega⟩
      · exact tail.mpr (fun u hu => ⟨hk u hu, .inr (by have := hd u hu; omega)⟩) a ha
theorem wsum_flat (f : Tr → Nat) (hp : ∀ kd ms its, f (.part kd ms its) = 0) : ∀ (t : Tr) (p : List Nat), ((flat t p).map fun a => f a.2).sum = t.sum f := by
  intro t
  refine Tr.ind (P := fun t => ∀ p : List Nat, ((flat t p).map fun a => f a.2).sum = t.sum f) ?_ ?_ ?_ ?_ t
  · intro z p; rw [flat, Tr.sum]; simp
  · intro z p; rw [flat, Tr.sum]; simp
  · intro z p; rw [flat, Tr.sum]; simp
  · intro kd ms its ih p
    rw [flat, Tr.sum, hp, List.map_cons, List.sum_cons]
    have : ∀ (l : List Tr), (∀ u ∈ l, u ∈ its) → ∀ k, ((flats l p k).map fun a => f a.2).sum = Tr.sums f l := by
      intro l
      induction l with
      | nil => intro _ k; rw [flats, Tr.sums]; rfl
      | cons u r ihr =>
        intro hu k
        rw [flats, Tr.sums, List.map_append, List.sum_append, ih u (hu u List.mem_cons_self), ihr (fun v hv => hu v (List.mem_cons_of_mem _ hv))]
    rw [this its fun _ h => h]
    dsimp only
    rw [hp]
theorem in_let (t : Tr) : inB t = letB t := by
  have h1 : (flat t []).length = t.sz := flat_len t []
  have h2 : csum (flat t []) = t.chars := wsum_flat wc (fun _ _ _ => rfl) t []
  have h3 : rsum (flat t []) = t.refs := wsum_flat wr (fun _ _ _ => rfl) t []
  have h4 : (flat t []).all good = decide (t.kmax ≤ 12 ∧ t.dep ≤ 6) := by
    rw [Bool.eq_iff_iff, List.all_eq_true, decide_eq_true_iff, goods t []]
    simp only [List.length_nil]
    omega
  unfold inB letB
  rw [h1, h2, h3, h4]
  rw [Bool.eq_iff_iff]
  simp only [Bool.and_eq_true, decide_eq_true_iff]
  omega
noncomputable def ap_let2 : AP := fun as Post => ∃ t : Tr, as = [.val t.dt] ∧ t.dep ≤ 28 ∧ TrOk 40 t ∧ Post (.val (.bl (letB t))) as
end
section
open PySem L2 Ab
section
variable {K : PySem.W.Frag}
theorem run_let2 : RunOk K [] (tq_let K (ap_sizes 28)) 4 ap_let2 := by
  rintro as Post ⟨t, rfl, hd, hok, k⟩
  unfold tq_let
  show WS K [] _ [.val t.dt, .un, .un, .un] _
  walk_at "es"
  refine .a ⟨t, 1, rfl, hd, by omega, hok, ?_⟩
  have e : szs t 1 = [(t.sz : Int), (t.chars : Int), (t.dep : Int), (t.refs : Int), (t.kmax : Int)] := by
    unfold szs
    rw [show ((1 : Nat) : Int) - 1 + (t.dep : Int) = t.dep by omega]
  rw [e]
  walk_at "es"
  refine lc_range1 5 (fun m es G => es.length ≤ m ∧ (es.length = 0 ↔ ((0 < m → t.sz ≤ 60) ∧ (1 < m → t.chars ≤ 400) ∧ (2 < m → t.dep ≤ 6) ∧ (3 < m → t.refs ≤ 3) ∧ (4 < m → t.kmax ≤ 12))) ∧ G = [.val t.dt, .acc ([(t.sz : Int), (t.chars : Int), (t.dep : Int), (t.refs : Int), (t.kmax : Int)].map Dt.int), .acc [.int 60, .int 400, .int 6, .int 3, .int 12], .un]) ?_ ?_ ?_
  · walk_at "es"
    exact .a ⟨rfl, by omega, rfl, rfl, rfl, by simp, by simp, rfl⟩
  · rintro m es G hm ⟨hl, he, rfl⟩
    have hm5 : m = 0 ∨ m = 1 ∨ m = 2 ∨ m = 3 ∨ m = 4 := by omega
    show WT K _ [.val t.dt, .acc ([(t.sz : Int), (t.chars : Int), (t.dep : Int), (t.refs : Int), (t.kmax : Int)].map Dt.int), .acc [.int 60, .int 400, .int 6, .int 3, .int 12], .val (.int m)] _
    rcases hm5 with rfl | rfl | rfl | rfl | rfl
    · walk_at "es"
      refine ⟨fun h => ?_, fun h => ?_⟩
      · have h := of_decide_eq_true h
        walk_at "es"
        exact .a ⟨by rw [List.length_append, List.length_singleton]; omega, by rw [List.length_append, List.length_singleton]; omega, rfl⟩
      · have h := of_decide_eq_false h
        exact .a ⟨by omega, by omega, rfl⟩
    · walk_at "es"
      refine ⟨fun h => ?_, fun h => ?_⟩
      · have h := of_decide_eq_true h
        walk_at "es"
        exact .a ⟨by rw [List.length_append, List.length_singleton]; omega, by rw [List.length_append, List.length_singleton]; omega, rfl⟩
      · have h := of_decide_eq_false h
        exact .a ⟨by omega, by omega, rfl⟩
    · walk_at "es"
      refine ⟨fun h => ?_, fun h => ?_⟩
      · have h := of_decide_eq_true h
        walk_at "es"
        exact .a ⟨by rw [List.length_append, List.length_singleton]; omega, by rw [List.length_append, List.length_singleton]; omega, rfl⟩
      · have h := of_decide_eq_false h
        exact .a ⟨by omega, by omega, rfl⟩
    · walk_at "es"
      refine ⟨fun h => ?_, fun h => ?_⟩
      · have h := of_decide_eq_true h
        walk_at "es"
        exact .a ⟨by rw [List.length_append, List.length_singleton]; omega, by rw [List.length_append, List.length_singleton]; omega, rfl⟩
      · have h := of_decide_eq_false h
        exact .a ⟨by omega, by omega, rfl⟩
    · walk_at "es"
      refine ⟨fun h => ?_, fun h => ?_⟩
      · have h := of_decide_eq_true h
        walk_at "es"
        exact .a ⟨by rw [List.length_append, List.length_singleton]; omega, by rw [List.length_append, List.length_singleton]; omega, rfl⟩
      · have h := of_decide_eq_false h
        exact .a ⟨by omega, by omega, rfl⟩
  · rintro es G ⟨hl, he, rfl⟩
    walk_at "es"
    have e2 : decide ((es.length : Int) = 0) = letB t := by
      unfold letB
      rw [Bool.eq_iff_iff]
      simp only [Bool.and_eq_true, decide_eq_true_iff]
      omega
    rw [e2]
    exact k
end
end
section
open PySem L2 Ab
noncomputable def Tr.atI : Tr → List Int → Option Tr
  | t, [] => some t
  | t, i :: p => if 0 ≤ i then (match (kids t)[i.toNat]? with
    | some u => u.atI p
    | none => none) else none
end
section
open PySem L2 Ab
section
variable {K : PySem.W.Frag}
end
end
section
open PySem L2 Ab
inductive Ed where
  | put (p : List Int) (u : Tr)
  | take (p : List Int)
  | text (p : List Int) (z : Str)
  | kind (p : List Int) (z : Str)
  | marks (p : List Int) (ms : List Str)
  | wrap (p : List Int) (n : Int) (kd : Str) (ms : List Str)
  | opn (p : List Int)
noncomputable def pD (p : List Int) : Dt := .tup (p.map Dt.int)
noncomputable def Ed.dt : Ed → Dt
  | .put p u => .tup [.str "put", pD p, u.dt]
  | .take p => .tup [.str "take", pD p]
  | .text p z => .tup [.str "text", pD p, .str z]
  | .kind p z => .tup [.str "kind", pD p, .str z]
  | .marks p ms => .tup [.str "marks", pD p, .tup (ms.map Dt.str)]
  | .wrap p n kd ms => .tup [.str "wrap", pD p, .int n, .str kd, .tup (ms.map Dt.str)]
  | .opn p => .tup [.str "open", pD p]
noncomputable def Ed.path : Ed → List Int
  | .put p _ => p
  | .take p => p
  | .text p _ => p
  | .kind p _ => p
  | .marks p _ => p
  | .wrap p _ _ _ => p
  | .opn p => p
end
section
open PySem L2 Ab
section
variable {K : PySem.W.Frag}
end
end
section
open PySem L2 Ab
noncomputable def Ed.word : Ed → Str
  | .put _ _ => "put"
  | .take _ => "take"
  | .text _ _ => "text"
  | .kind _ _ => "kind"
  | .marks _ _ => "marks"
  | .wrap _ _ _ _ => "wrap"
  | .opn _ => "open"
end
section
open PySem L2 Ab
section
variable {K : PySem.W.Frag}
end
end
section
open PySem L2 Ab
theorem at_dep : ∀ {p : List Nat} {t u : Tr}, t.at p = some u → p.length + u.dep ≤ t.dep
  | [], t, u, e => by rw [at_nil] at e; cases e; simp
  | k :: p, t, u, e => by
    cases q : (kids t)[k]? with
    | none => rw [at_none q] at e; cases e
    | some v =>
      rw [at_cons q] at e
      obtain ⟨kd, ms, its, rfl, e2⟩ := kids_some q
      have h1 := at_dep e
      have h2 : v.dep ≤ Tr.deps its := deps_le.mp (Nat.le_refl _) v (List.mem_of_getElem? e2)
      rw [Tr.dep, List.length_cons]
      omega
theorem at_sz : ∀ {p : List Nat} {t u : Tr}, t.at p = some u → u.sz ≤ t.sz
  | [], t, u, e => by rw [at_nil] at e; cases e; exact Nat.le_refl _
  | k :: p, t, u, e => by
    cases q : (kids t)[k]? with
    | none => rw [at_none q] at e; cases e
    | some v =>
      rw [at_cons q] at e
      have h1 := at_sz e
      obtain ⟨kd, ms, its, rfl, e2⟩ := kids_some q
      have h2 := sum_take_le (f := Tr.sz) e2
      rw [sz_part]
      omega
end
section
open PySem L2 Ab
section
variable {K : PySem.W.Frag}
end
end
section
open PySem L2 Ab
noncomputable abbrev tl (z : Str) : List Nat := z.cps.toList
noncomputable def hd (kd : Str) (ms : List Str) : List Nat := TL.joinL [46] (tl kd :: ms.map tl)
mutual
noncomputable def wl : Tr → List Nat
  | .txt z => 34 :: (tl z ++ [34])
  | .lab z => 35 :: tl z
  | .ref z => 64 :: tl z
  | .part kd ms its => 40 :: (hd kd ms ++ (wls its ++ [41]))
noncomputable def wls : List Tr → List Nat
  | [] => []
  | t :: r => 32 :: (wl t ++ wls r)
end
noncomputable def S (l : List Nat) : Str := ⟨l.toArray⟩
theorem S_tl (x : Str) : S (tl x) = x := TL.mk_tl x
theorem S_len (a : List Nat) : (S a).length = a.length := by simp [S, Str.length]
noncomputable def wo (d : Nat) (a : List Nat × Tr) : List Nat := List.replicate (d - a.1.length) 41 ++ ((if 0 < a.1.length then [32] else []) ++ match a.2 with
  | .part kd ms _ => 40 :: hd kd ms
  | u => wl u)
noncomputable def wd (a : List Nat × Tr) : Nat := match a.2 with
  | .part _ _ _ => a.1.length + 1
  | _ => a.1.length
noncomputable def wf (s : List Nat × Nat) (a : List Nat × Tr) : List Nat × Nat := (s.1 ++ wo s.2 a, wd a)
theorem rep_add (a b : Nat) (x : Nat) : List.replicate a x ++ List.replicate b x = List.replicate (a + b) x := by rw [List.replicate_append_replicate]
theorem leaf_run {u : Tr} (p : List Nat) (d : Nat) (acc : List Nat) (hd : p.length ≤ d) (hf : flat u p = [(p, u)]) (hw : wo d (p, u) = List.replicate (d - p.length) 41 ++ ((if 0 < p.length then [32] else []) ++ wl u)) (h2 : Doc.wd (p, u) = p.length) :
    ∃ d' X, p.length ≤ d' ∧ (flat u p).foldl wf (acc, d) = (acc ++ X, d') ∧ X ++ List.replicate (d' - p.length) 41 = List.replicate (d - p.length) 41 ++ ((if 0 < p.length then [32] else []) ++ wl u) := by
  refine ⟨p.length, wo d (p, u), Nat.le_refl _, ?_, ?_⟩
  · rw [hf]
    show (acc ++ wo d (p, u), Doc.wd (p, u)) = _
    rw [h2]
  · rw [Nat.sub_self, List.replicate_zero, List.append_nil, hw]
mutual
theorem run_wl : ∀ (u : Tr) (p : List Nat) (d : Nat) (acc : List Nat), p.length ≤ d →
    ∃ d' X, p.length ≤ d' ∧ (flat u p).foldl wf (acc, d) = (acc ++ X, d') ∧ X ++ List.replicate (d' - p.length) 41 = List.replicate (d - p.length) 41 ++ ((if 0 < p.length then [32] else []) ++ wl u)
  | .txt z, p, d, acc, h => leaf_run p d acc h (by rw [flat]) rfl rfl
  | .lab z, p, d, acc, h => leaf_run p d acc h (by rw [flat]) rfl rfl
  | .ref z, p, d, acc, h => leaf_run p d acc h (by rw [flat]) rfl rfl
  | .part kd ms its, p, d, acc, h => by
    obtain ⟨d', X, h1, h2, h3⟩ := run_wls its p 0 (p.length + 1) (acc ++ wo d (p, .part kd ms its)) (Nat.le_refl _)
    refine ⟨d', wo d (p, .part kd ms its) ++ X, by omega, ?_, ?_⟩
    · rw [flat, List.foldl_cons]
      show (flats its p 0).foldl wf (acc ++ wo d (p, .part kd ms its), p.length + 1) = _
      rw [h2, List.append_assoc]
    · have e : d' - p.length = (d' - (p.length + 1)) + 1 := by omega
      rw [e, ← rep_add, List.append_assoc, ← List.append_assoc X, h3, Nat.sub_self, List.replicate_zero, List.nil_append]
      show (List.replicate (d - p.length) 41 ++ ((if 0 < p.length then [32] else []) ++ 40 :: hd kd ms)) ++ (wls its ++ [41]) = _
      rw [wl]
      simp
theorem run_wls : ∀ (its : List Tr) (p : List Nat) (k d : Nat) (acc : List Nat), p.length + 1 ≤ d →
    ∃ d' X, p.length + 1 ≤ d' ∧ (flats its p k).foldl wf (acc, d) = (acc ++ X, d') ∧ X ++ List.replicate (d' - (p.length + 1)) 41 = List.replicate (d - (p.length + 1)) 41 ++ wls its
  | [], p, k, d, acc, h => ⟨d, [], h, by rw [flats]; simp, by rw [wls]; simp⟩
  | t :: r, p, k, d, acc, h => by
    have hl : (p ++ [k]).length = p.length + 1 := by simp
    obtain ⟨d1, X1, a1, a2, a3⟩ := run_wl t (p ++ [k]) d acc (by omega)
    rw [hl] at a1 a3
    obtain ⟨d2, X2, b1, b2, b3⟩ := run_wls r p (k + 1) d1 (acc ++ X1) a1
    refine ⟨d2, X1 ++ X2, b1, ?_, ?_⟩
    · rw [flats, List.foldl_append, a2, b2, List.append_assoc]
    · rw [List.append_assoc, b3, ← List.append_assoc, a3, if_pos (by omega), wls]
      simp
end
theorem run_root (u : Tr) : ∃ d X, (flat u []).foldl wf ([], 0) = (X, d) ∧ X ++ List.replicate d 41 = wl u := by
  obtain ⟨d, X, h1, h2, h3⟩ := run_wl u [] 0 [] (Nat.le_refl _)
  exact ⟨d, X, by rw [h2]; rfl, by simpa using h3⟩
theorem len_joinL : ∀ (l : List (List Nat)), (TL.joinL [46] l).length ≤ (l.map List.length).sum + l.length
  | [] => by simp [TL.joinL]
  | [p] => by simp [TL.joinL]
  | p :: q :: r => by
    have := len_joinL (q :: r)
    simp only [TL.joinL, List.length_append, List.map_cons, List.sum_cons, List.length_cons, List.length_nil] at this ⊢
    omega
theorem tl_len (z : Str) : (tl z).length = z.length := by simp [tl, Str.length]
theorem sum_le {α : Type} (f : α → Nat) (n : Nat) : ∀ l : List α, (∀ x ∈ l, f x ≤ n) → (l.map f).sum ≤ n * l.length
  | [], _ => by simp
  | a :: r, h => by
    have h1 := h a (by simp)
    have h2 := sum_le f n r fun x hx => h x (by simp [hx])
    rw [List.map_cons, List.sum_cons, List.length_cons, Nat.mul_add]
    omega
theorem hd_len {kd : Str} {ms : List Str} (h1 : Nm1 kd) (h2 : Mk ms) : (hd kd ms).length ≤ 40 := by
  have e := len_joinL (tl kd :: ms.map tl)
  have e3 : ((ms.map tl).map List.length).sum ≤ 8 * ms.length := by
    rw [List.map_map]
    exact sum_le _ 8 ms fun z hz => by show (tl z).length ≤ 8; rw [tl_len]; exact (h2.2.1 z hz).1.1
  have e4 := h1.1.1
  have e5 := h2.1
  unfold hd
  rw [List.map_cons, List.sum_cons, List.length_cons, List.length_map, tl_len] at e
  omega
mutual
theorem wl_len {n : Nat} : ∀ u : Tr, TrOk n u → (wl u).length + 1 ≤ 100 * u.sz
  | .txt z, h => by
    unfold TrOk at h; rw [Tr.All] at h
    have := h.2.1
    rw [wl, Tr.sz, Tr.sum, List.length_cons, List.length_append, tl_len]
    show _ ≤ 100 * 1
    simp; omega
  | .lab z, h => by
    unfold TrOk at h; rw [Tr.All] at h
    have := h.1.1
    rw [wl, Tr.sz, Tr.sum, List.length_cons, tl_len]
    show _ ≤ 100 * 1
    omega
  | .ref z, h => by
    unfold TrOk at h; rw [Tr.All] at h
    have := h.1.1
    rw [wl, Tr.sz, Tr.sum, List.length_cons, tl_len]
    show _ ≤ 100 * 1
    omega
  | .part kd ms its, h => by
    unfold TrOk at h; rw [Tr.All] at h
    have e1 := hd_len h.1.1 h.1.2.1
    have e2 := wls_len its h.2
    rw [wl, Tr.sz, Tr.sum, List.length_cons, List.length_append, List.length_append]
    show _ ≤ 100 * (1 + _)
    simp only [List.length_cons, List.length_nil]
    omega
theorem wls_len {n : Nat} : ∀ its : List Tr, Tr.Alls (Nd n) its → (wls its).length ≤ 100 * Tr.sums w1 its
  | [], _ => by rw [wls]; simp
  | t :: r, h => by
    rw [Tr.Alls] at h
    have e1 := wl_len t h.1
    have e2 := wls_len r h.2
    rw [wls, Tr.sums, List.length_cons, List.length_append]
    have : t.sz = t.sum w1 := rfl
    omega
end
theorem foldl_rep : ∀ (k : Nat) (acc : Array Nat), ((List.replicate k (#[41] : Array Nat)).foldl (· ++ ·) acc).toList = acc.toList ++ List.replicate k 41
  | 0, acc => by simp
  | k + 1, acc => by
    rw [List.replicate_succ, List.foldl_cons, foldl_rep k, Array.toList_append]
    simp [List.replicate_succ]
theorem tl_mul (n : Int) : tl (Txt.mul ⟨#[41]⟩ n) = List.replicate n.toNat 41 := by
  unfold Txt.mul
  by_cases h : n < 1
  · rw [if_pos h, show n.toNat = 0 by omega]; rfl
  · rw [if_neg h]
    by_cases h1 : n = 1
    · subst h1; rfl
    · have e : (n == 1 || (⟨#[41]⟩ : Str).length == 0) = false := by
        have : (n == 1) = false := by simpa using h1
        rw [this]; rfl
      rw [if_neg (by rw [e]; exact Bool.false_ne_true)]
      show ((List.replicate n.toNat (#[41] : Array Nat)).foldl (· ++ ·) #[]).toList = _
      rw [foldl_rep]; simp
theorem S_inj {a b : Str} (h : tl a = tl b) : a = b := TL.ext_tl h
theorem tl_S (l : List Nat) : tl (S l) = l := by simp [tl, S]
theorem tl_cat (a b : Str) : tl (a ++ b) = tl a ++ tl b := TL.tl_append a b
theorem joinL_nil : ∀ l : List (List Nat), TL.joinL [] l = l.flatten
  | [] => rfl
  | [p] => by simp [TL.joinL]
  | p :: q :: r => by rw [TL.joinL, joinL_nil (q :: r)]; simp
theorem tl_joinE (ys : List Str) : tl (Txt.join "" ys) = ys.flatMap tl := by
  have e := TL.tl_join "" ys
  have : TL.joinL (TL.tl "") (ys.map TL.tl) = (ys.map TL.tl).flatten := joinL_nil _
  rw [this] at e
  rw [List.flatMap_def, TL.join_eq]
  exact e
theorem tl_joinD (kd : Str) (ms : List Str) : tl (Txt.join "." (kd :: ms)) = hd kd ms := by
  have e := TL.tl_join "." (kd :: ms)
  have : TL.tl "." = [46] := by decide
  rw [this] at e
  rw [TL.join_eq]
  exact e
mutual
theorem flat_sz : ∀ (u : Tr) (p : List Nat), (flat u p).length = u.sz
  | .txt z, p => by rw [flat, Tr.sz, Tr.sum]; rfl
  | .lab z, p => by rw [flat, Tr.sz, Tr.sum]; rfl
  | .ref z, p => by rw [flat, Tr.sz, Tr.sum]; rfl
  | .part kd ms its, p => by rw [flat, Tr.sz, Tr.sum, List.length_cons, flats_sz its p 0]; show _ = 1 + _; omega
theorem flats_sz : ∀ (its : List Tr) (p : List Nat) (k : Nat), (flats its p k).length = Tr.sums w1 its
  | [], p, k => by rw [flats]; rfl
  | t :: r, p, k => by rw [flats, List.length_append, flat_sz t, flats_sz r, Tr.sums]
end
theorem cl_eq : (")" : Str) = ⟨#[41]⟩ := by decide
theorem flat_dep : ∀ (u : Tr) (p : List Nat) (a : List Nat × Tr), a ∈ flat u p → a.1.length ≤ p.length + u.dep := by
  intro u p a ha
  obtain ⟨r, h1, h2⟩ := flat_at u p a ha
  have := at_dep h2
  rw [h1, List.length_append]
  omega
end
section
open PySem L2 Ab
end
local macro_rules | `(tactic| walk_at "x") => `(tactic| first | with_reducible refine we_joinG ?_ | with_reducible refine we_repS ?_)
section
open PySem L2 Ab
end
local macro_rules | `(tactic| walk_at "x") => `(tactic| (refine ⟨(show (_ : List Dt).length < 1000000 from by simp only [List.length_append, List.length_map, List.length_cons, List.length_nil]; omega), ?_⟩))
section
open PySem L2 Ab
noncomputable def tq_write_leaf (K : PySem.W.Frag) : TS :=
    (tSeq (tIfS (tB (tCB (rIsi K) (tCons (tVar 0) (tCons (tC (.ty "str")) tNil)))) (tRet (tOp (rAddG K) (tOp (rAddG K) (tC (.str "\"")) (tVar 0)) (tC (.str "\"")))) tNext)
    (tRet (tOp (rAddG K) (tOp (rIx K) (tVar 0) (tC (.int 0))) (tOp (rIx K) (tVar 0) (tC (.int 1))))))
noncomputable def tq_write_document (K : PySem.W.Frag) (ap_is_part : AP) (ap_write_leaf : AP) : TS :=
    (tSeq (tAsg (tLst tNil) (gName 1))
    (tSeq (tAsg (tC (.int 0)) (gName 2))
    (tSeq (Ga.tForY (Ga.yArgs 1 [] (tCons (tVar 0) tNil)) ["root", "waiting", "path", "item", "at"] (tq_walk K ap_is_part) (gTup K 2 (gCons (gName 3) (gCons (gName 4) gNil))) (tSeq (tDrop (tBM K "list" rAppend (tVar 1) (tCons (tOp rRepS (tC (.str ")")) (tOp rSubI (tVar 2) (tCB (rLenV K) (tCons (tVar 3) tNil)))) tNil)))
    (tSeq (tAsg (tCB (rLenV K) (tCons (tVar 3) tNil)) (gName 2))
    (tSeq (tIfS (tTest (tOp rGtI (tVar 2) (tC (.int 0)))) (tDrop (tBM K "list" rAppend (tVar 1) (tCons (tC (.str " ")) tNil))) tNext)
    (tIfS (tB (tCall (toSp K ap_is_part) [] E0 (tCons (tVar 4) tNil))) (tSeq (tDrop (tBM K "list" rAppend (tVar 1) (tCons (tOp (rAddG K) (tC (.str "(")) (tM1 (rJoin K) (tC (.str ".")) (tOp (rAddG K) (tTup (tCons (tOp (rIx K) (tVar 4) (tC (.int 0))) tNil)) (tOp (rIx K) (tVar 4) (tC (.int 1)))))) tNil)))
    (tAug 2 (tC (.int 1)) (ipI fun i j => i + j))) (tDrop (tBM K "list" rAppend (tVar 1) (tCons (tCall (toSp K ap_write_leaf) [] E0 (tCons (tVar 4) tNil)) tNil))))))))
    (tRet (tOp (rAddG K) (tM1 (rJoin K) (tC (.str "")) (tVar 1)) (tOp rRepS (tC (.str ")")) (tVar 2)))))))
noncomputable def tq_write_item (K : PySem.W.Frag) (ap_is_part : AP) (ap_write_document : AP) (ap_write_leaf : AP) : TS :=
    (tSeq (tIfS (tB (tCall (toSp K ap_is_part) [] E0 (tCons (tVar 0) tNil))) (tRet (tCall (toSp K ap_write_document) [] E0 (tCons (tVar 0) tNil))) tNext)
    (tRet (tCall (toSp K ap_write_leaf) [] E0 (tCons (tVar 0) tNil))))

theorem dq_tl : tl "\"" = [34] := by decide
theorem op_tl : tl "(" = [40] := by decide
theorem sp_tl : tl " " = [32] := by decide
theorem dot_len : Str.length "." = 1 := by decide
theorem emp_len : Str.length "" = 0 := by decide
noncomputable def ap_wleaf : AP := fun as Post => ∃ (u : Tr) (n : Nat), as = [.val u.dt] ∧ isP u = false ∧ TrOk n u ∧ Post (.val (.str (S (wl u)))) as
noncomputable def ap_wdoc : AP := fun as Post => ∃ (u : Tr) (n : Nat), as = [.val u.dt] ∧ u.sz ≤ 1000 ∧ u.dep ≤ 30 ∧ TrOk n u ∧ Post (.val (.str (S (wl u)))) as
theorem run_wleaf {K : PySem.W.Frag} : RunOk K [] (tq_write_leaf K) 1 ap_wleaf := by
  rintro as Post ⟨u, n, rfl, hp, hok, k⟩
  unfold tq_write_leaf
  show WS K [] _ [.val u.dt] _
  unfold TrOk at hok
  cases u with
  | txt z =>
    rw [Tr.All] at hok
    rw [Tr.dt] at k ⊢
    have hz := hok.2.1
    walk_at "es"
    refine addp_s (by show 1 + z.length ≤ 1000000; omega) ?_
    walk_at "es"
    have e0 : (("\"" : Str) ++ z).length = 1 + z.length := by rw [← tl_len, tl_cat, List.length_append, tl_len]; rfl
    refine addp_s (by show _ + 1 ≤ 1000000; omega) ?_
    walk_at "es"
    have e : (("\"" : Str) ++ z ++ "\"" : Str) = S (wl (.txt z)) := S_inj (by rw [tl_cat, tl_cat, tl_S, dq_tl, wl]; simp)
    first | (rw [e]; exact k) | (rw [e]; exact ⟨rfl, k⟩)
  | lab z =>
    rw [Tr.All] at hok
    rw [Tr.dt] at k ⊢
    have hz : z.length ≤ 8 := hok.1.1
    walk_at "es"
    refine addp_s (by show 1 + z.length ≤ 1000000; omega) ?_
    walk_at "es"
    have e : (("#" : Str) ++ z : Str) = S (wl (.lab z)) := S_inj (by rw [tl_cat, tl_S, wl]; rfl)
    first | (rw [e]; exact k) | (rw [e]; exact ⟨rfl, k⟩)
  | ref z =>
    rw [Tr.All] at hok
    rw [Tr.dt] at k ⊢
    have hz : z.length ≤ 8 := hok.1.1
    walk_at "es"
    refine addp_s (by show 1 + z.length ≤ 1000000; omega) ?_
    walk_at "es"
    have e : (("@" : Str) ++ z : Str) = S (wl (.ref z)) := S_inj (by rw [tl_cat, tl_S, wl]; rfl)
    first | (rw [e]; exact k) | (rw [e]; exact ⟨rfl, k⟩)
  | part kd ms its => cases hp
theorem run_wdoc {K : PySem.W.Frag} : RunOk K [] (tq_write_document K ap_isp ap_wleaf) 5 ap_wdoc := by
  rintro as Post ⟨t, n, rfl, hsz, hdp, hok, k⟩
  unfold tq_write_document
  show WS K [] _ [.val t.dt, .un, .un, .un, .un] _
  obtain ⟨dn, X, hX, hW⟩ := run_root t
  have hlen := wl_len t hok
  have hXl : X.length ≤ 100000 := by
    have := congrArg List.length hW
    rw [List.length_append] at this
    omega
  walk_at "es"
  refine ws_forY run_walk ?_
  walk_at "es"
  refine ⟨rfl, _, ⟨t, rfl, hsz, hdp, rfl⟩, fun j G => ∃ (ws : List Str) (d : Nat) (s3 s4 : Sl), ((flat t []).take j).foldl wf ([], 0) = (ws.flatMap tl, d) ∧ ws.length ≤ 3 * j ∧ d ≤ 31 ∧ G = [.val t.dt, .acc (ws.map Dt.str), .val (.int (d : Int)), s3, s4], ⟨[], 0, _, _, rfl, by simp, by omega, rfl⟩, ?_, ?_⟩
  · rintro G ⟨ws, d, s3, s4, hf, hl, hd, rfl⟩
    rw [List.length_map, List.take_length, hX] at hf
    have e1 : X = ws.flatMap tl := (Prod.mk.inj hf).1
    have e2 : dn = d := (Prod.mk.inj hf).2
    subst e1 e2
    have es : (ws.map (·.length)).sum = (ws.flatMap tl).length := by rw [List.length_flatMap]; rfl
    walk_at "es"
    refine .a ⟨ws, rfl, by rw [emp_len, es]; omega, ?_⟩
    walk_at "es"
    have em : tl (Txt.mul ")" (dn : Int)) = List.replicate dn 41 := by rw [cl_eq, tl_mul, Int.toNat_natCast]
    refine addp_s (by rw [← tl_len, ← tl_len, tl_joinE, em, List.length_replicate]; omega) ?_
    have e : (Txt.join "" ws ++ Txt.mul ")" (dn : Int) : Str) = S (wl t) := S_inj (by rw [tl_cat, tl_joinE, em, tl_S, hW])
    exact ⟨rfl, by rw [e]; exact k⟩
  · rintro j d G hd ⟨ws, d0, s3, s4, hf, hl, hd0, rfl⟩
    rw [List.getElem?_map] at hd
    cases hu : (flat t [])[j]? with
    | none => rw [hu] at hd; cases hd
    | some a =>
      rw [hu] at hd; cases hd
      obtain ⟨q, u⟩ := a
      have tk : (flat t []).take (j + 1) = (flat t []).take j ++ [(q, u)] := by rw [List.take_add_one, hu]; rfl
      have hmem := List.mem_of_getElem? hu
      have hq : q.length ≤ 30 := by have := flat_dep t [] _ hmem; simp at this; omega
      have huok : TrOk n u := by
        obtain ⟨r, _, h2⟩ := flat_at t [] (q, u) hmem
        exact at_ok hok h2
      unfold Rw.dt
      have hj : j < (flat t []).length := (List.getElem?_eq_some_iff.mp hu).1
      rw [flat_sz] at hj
      have el : ((List.map dtN (q, u).fst).length : Int) = (q.length : Int) := by rw [List.length_map]
      have ec : (List.map Dt.str ws).length < 1000000 := by rw [List.length_map]; omega
      have em : tl (Txt.mul ")" ((d0 : Int) - (List.map dtN (q, u).fst).length)) = List.replicate (d0 - q.length) 41 := by rw [cl_eq, tl_mul, el]; congr 1; omega
      have fin : ∀ (ws1 : List Str) (d1 : Nat) (s3 s4 : Sl), ws1.flatMap tl = ws.flatMap tl ++ wo d0 (q, u) → d1 = wd (q, u) → ws1.length ≤ 3 * j + 3 → ∃ (ws : List Str) (d : Nat) (s3' s4' : Sl), ((flat t []).take (j + 1)).foldl wf ([], 0) = (ws.flatMap tl, d) ∧ ws.length ≤ 3 * (j + 1) ∧ d ≤ 31 ∧ [Sl.val t.dt, .acc (ws1.map Dt.str), .val (.int (d1 : Int)), s3, s4] = [.val t.dt, .acc (ws.map Dt.str), .val (.int (d : Int)), s3', s4'] := by
        intro ws1 d1 s3 s4 h1 h2 h3
        refine ⟨ws1, d1, s3, s4, ?_, by omega, ?_, rfl⟩
        · rw [tk, List.foldl_append, hf, List.foldl_cons, List.foldl_nil, h1, h2]; rfl
        · rw [h2]
          show (match u with | .part _ _ _ => q.length + 1 | _ => q.length) ≤ 31
          cases u <;> simp <;> omega
      cases hp : isP u with
      | false =>
        have w1 : wo d0 (q, u) = List.replicate (d0 - q.length) 41 ++ ((if 0 < q.length then [32] else []) ++ wl u) := by cases u <;> first | rfl | cases hp
        have w2 : wd (q, u) = q.length := by cases u <;> first | rfl | cases hp
        have fl : ∀ (z1 : Str) (m : List Str) (L : List Dt) (s3 s4 : Sl), tl z1 = List.replicate (d0 - q.length) 41 → m = (if 0 < q.length then [(" " : Str)] else []) → L = ((ws ++ ([z1] ++ (m ++ [S (wl u)]))).map Dt.str) → ∃ (ws' : List Str) (d : Nat) (s3' s4' : Sl), ((flat t []).take (j + 1)).foldl wf ([], 0) = (ws'.flatMap tl, d) ∧ ws'.length ≤ 3 * (j + 1) ∧ d ≤ 31 ∧ [Sl.val t.dt, .acc L, .val (.int ((List.map dtN (q, u).fst).length : Int)), s3, s4] = [.val t.dt, .acc (ws'.map Dt.str), .val (.int (d : Int)), s3', s4'] := by
          intro z1 m L s3 s4 em hm hL
          subst hL
          rw [el]
          refine fin _ q.length s3 s4 ?_ w2.symm ?_
          · rw [List.flatMap_append, w1, hm]
            congr 1
            rw [List.flatMap_append, List.flatMap_append]
            have a1 : [z1].flatMap tl = List.replicate (d0 - q.length) 41 := by rw [List.flatMap_singleton, em]
            have a2 : [S (wl u)].flatMap tl = wl u := by rw [List.flatMap_singleton, tl_S]
            rw [a1, a2]
            congr 2
            split
            · rw [List.flatMap_singleton, sp_tl]
            · rfl
          · subst hm
            simp only [List.length_append, List.length_cons, List.length_nil]
            split <;> simp <;> omega
        walk_at "es"
        refine ⟨fun h1 => ?_, fun h1 => ?_⟩
        · have h1 := of_decide_eq_true h1
          walk_at "es"
          refine .a ⟨u, rfl, ?_⟩
          rw [hp]
          walk_at "es"
          refine .a ⟨u, n, rfl, hp, huok, ?_⟩
          walk_at "es"
          exact fl _ [" "] _ _ _ em (by rw [if_pos (by omega)]) (by simp)
        · have h1 := of_decide_eq_false h1
          walk_at "es"
          refine .a ⟨u, rfl, ?_⟩
          rw [hp]
          walk_at "es"
          refine .a ⟨u, n, rfl, hp, huok, ?_⟩
          walk_at "es"
          exact fl _ [] _ _ _ em (by rw [if_neg (by omega)]) (by simp)
      | true =>
        cases u with
        | txt z => cases hp
        | lab z => cases hp
        | ref z => cases hp
        | part kd ms its =>
          have w2 : wd (q, Tr.part kd ms its) = q.length + 1 := rfl
          unfold TrOk at huok; rw [Tr.All] at huok
          have hh := hd_len huok.1.1 huok.1.2.1
          have hk8 : kd.length ≤ 8 := huok.1.1.1.1
          have hm3 : ms.length ≤ 3 := huok.1.2.1.1
          have hms : (ms.map (·.length)).sum ≤ 8 * ms.length := sum_le _ 8 ms fun z hz => (huok.1.2.1.2.1 z hz).1.1
          have fl : ∀ (z1 : Str) (m : List Str) (L : List Dt) (s3 s4 : Sl), tl z1 = List.replicate (d0 - q.length) 41 → m = (if 0 < q.length then [(" " : Str)] else []) → L = ((ws ++ ([z1] ++ (m ++ [("(" ++ Txt.join "." (kd :: ms) : Str)]))).map Dt.str) → ∃ (ws' : List Str) (d : Nat) (s3' s4' : Sl), ((flat t []).take (j + 1)).foldl wf ([], 0) = (ws'.flatMap tl, d) ∧ ws'.length ≤ 3 * (j + 1) ∧ d ≤ 31 ∧ [Sl.val t.dt, .acc L, .val (.int ((List.map dtN q).length + 1 : Int)), s3, s4] = [.val t.dt, .acc (ws'.map Dt.str), .val (.int (d : Int)), s3', s4'] := by
            intro z1 m L s3 s4 em hm hL
            subst hL
            have el2 : ((List.map dtN q).length + 1 : Int) = ((q.length + 1 : Nat) : Int) := by rw [List.length_map]; rfl
            rw [el2]
            refine fin _ (q.length + 1) s3 s4 ?_ w2.symm ?_
            · rw [List.flatMap_append, hm]
              congr 1
              rw [List.flatMap_append, List.flatMap_append]
              have a1 : [z1].flatMap tl = List.replicate (d0 - q.length) 41 := by rw [List.flatMap_singleton, em]
              have a2 : [("(" ++ Txt.join "." (kd :: ms) : Str)].flatMap tl = 40 :: hd kd ms := by rw [List.flatMap_singleton, tl_cat, tl_joinD, op_tl]; rfl
              rw [a1, a2]
              show _ = List.replicate (d0 - q.length) 41 ++ ((if 0 < q.length then [32] else []) ++ 40 :: hd kd ms)
              congr 2
              split
              · rw [List.flatMap_singleton, sp_tl]
              · rfl
            · subst hm
              simp only [List.length_append, List.length_cons, List.length_nil]
              split <;> simp <;> omega
          rw [dt_part]
          walk_at "es"
          refine ⟨fun h1 => ?_, fun h1 => ?_⟩
          · have h1 := of_decide_eq_true h1
            walk_at "es"
            refine .a ⟨.part kd ms its, by rw [dt_part]; rfl, ?_⟩
            rw [hp]
            walk_at "es"
            refine addp_t (by simp only [List.length_cons, List.length_nil, List.length_map]; omega) ?_
            walk_at "es"
            refine .a ⟨kd :: ms, rfl, by rw [dot_len, List.map_cons, List.sum_cons, List.length_cons]; omega, ?_⟩
            walk_at "es"
            refine addp_s (by rw [← tl_len (Txt.join _ _), tl_joinD]; show 1 + _ ≤ _; omega) ?_
            walk_at "es"
            exact fl _ [" "] _ _ _ em (by rw [if_pos (by omega)]) (by simp)
          · have h1 := of_decide_eq_false h1
            walk_at "es"
            refine .a ⟨.part kd ms its, by rw [dt_part]; rfl, ?_⟩
            rw [hp]
            walk_at "es"
            refine addp_t (by simp only [List.length_cons, List.length_nil, List.length_map]; omega) ?_
            walk_at "es"
            refine .a ⟨kd :: ms, rfl, by rw [dot_len, List.map_cons, List.sum_cons, List.length_cons]; omega, ?_⟩
            walk_at "es"
            refine addp_s (by rw [← tl_len (Txt.join _ _), tl_joinD]; show 1 + _ ≤ _; omega) ?_
            walk_at "es"
            exact fl _ [] _ _ _ em (by rw [if_neg (by omega)]) (by simp)
end
section
open PySem L2 Ab
end
local macro_rules | `(tactic| walk_at "x") => `(tactic| first | with_reducible refine we_joinG ?_ | with_reducible refine we_notInC ?_)
section
open PySem L2 Ab
noncomputable def tq_written (K : PySem.W.Frag) (ap__law_written : AP) : TS :=
    (tSeq (tIfS (tB (tCB (rIsi K) (tCons (tVar 0) (tCons (tC (.ty "str")) tNil)))) (tRet (tOp (rAddG K) (tOp (rAddG K) (tC (.str "\"")) (tVar 0)) (tC (.str "\"")))) tNext)
    (tSeq (tIfS (tTest (tOp (rEqG K) (tCB (rLenV K) (tCons (tVar 0) tNil)) (tC (.int 2)))) (tRet (tOp (rAddG K) (tOp (rIx K) (tVar 0) (tC (.int 0))) (tOp (rIx K) (tVar 0) (tC (.int 1))))) tNext)
    (tSeq (tAsg (tM1 (rJoin K) (tC (.str "")) (tLc (iTup K (tOp (rIx K) (tVar 0) (tC (.int 2)))) (gName 2) tYes (tOp (rAddG K) (tC (.str " ")) (tCall (toSp K ap__law_written) [] E0 (tCons (tVar 2) tNil))) [2])) (gName 1))
    (tRet (tOp (rAddG K) (tOp (rAddG K) (tOp (rAddG K) (tC (.str "(")) (tM1 (rJoin K) (tC (.str ".")) (tOp (rAddG K) (tLst (tCons (tOp (rIx K) (tVar 0) (tC (.int 0))) tNil)) (tCB (rListOf K) (tCons (tOp (rIx K) (tVar 0) (tC (.int 1))) tNil))))) (tVar 1)) (tC (.str ")")))))))
noncomputable def tq_word_end (K : PySem.W.Frag) : TS :=
    (tSeq (tWhile (tAnd (tTest (tOp (rLtG K) (tVar 1) (tCB (rLenV K) (tCons (tVar 0) tNil)))) (tTest (tOp rNotInC (tOp (rIx K) (tVar 0) (tVar 1)) (tC (.str " \"()"))))) (tAug 1 (tC (.int 1)) (ipI fun i j => i + j)))
    (tRet (tVar 1)))

noncomputable def ap_witem : AP := fun as Post => ∃ (u : Tr) (n : Nat), as = [.val u.dt] ∧ u.sz ≤ 1000 ∧ u.dep ≤ 30 ∧ TrOk n u ∧ Post (.val (.str (S (wl u)))) as
theorem run_witem {K : PySem.W.Frag} : RunOk K [] (tq_write_item K ap_isp ap_wdoc ap_wleaf) 1 ap_witem := by
  rintro as Post ⟨u, n, rfl, hs, hd, hok, k⟩
  unfold tq_write_item
  show WS K [] _ [.val u.dt] _
  walk_at "es"
  refine .a ⟨u, rfl, ?_⟩
  cases hp : isP u with
  | true =>
    walk_at "es"
    refine .a ⟨u, n, rfl, hs, hd, hok, ?_⟩
    walk_at "es"
    exact k
  | false =>
    walk_at "es"
    refine .a ⟨u, n, rfl, hp, hok, ?_⟩
    walk_at "es"
    exact k
noncomputable def ap_lwr (m : Nat) : AP := fun as Post => ∃ (t : Tr) (n : Nat), as = [.val t.dt] ∧ t.dep ≤ m ∧ t.sz ≤ 1000 ∧ TrOk n t ∧ Post (.val (.str (S (wl t)))) as
theorem wls_take : ∀ (its : List Tr) (i : Nat) (u : Tr), its[i]? = some u → wls (its.take (i + 1)) = wls (its.take i) ++ (32 :: wl u)
  | [], i, u, h => by cases h
  | t :: r, 0, u, h => by cases h; simp [wls]
  | t :: r, i + 1, u, h => by
    have := wls_take r i u h
    rw [List.take_succ_cons, List.take_succ_cons, wls, wls, this]
    simp
theorem run_written {K : PySem.W.Frag} {m : Nat} {ap : AP} (hap : ∀ (t : Tr) (n : Nat) (Post : Re → List Sl → Prop), t.dep < m → t.sz ≤ 1000 → TrOk n t → Post (.val (.str (S (wl t)))) [.val t.dt] → ap [.val t.dt] Post) : RunOk K [] (tq_written K ap) 3 (ap_lwr m) := by
  rintro as Post ⟨t, n, rfl, hd, hs, hok, k⟩
  unfold tq_written
  show WS K [] _ [.val t.dt, .un, .un] _
  have hlen := wl_len t hok
  cases t with
  | txt z =>
    unfold TrOk at hok; rw [Tr.All] at hok
    rw [Tr.dt] at k ⊢
    have hz := hok.2.1
    walk_at "es"
    refine addp_s (by show 1 + z.length ≤ 1000000; omega) ?_
    walk_at "es"
    have e0 : (("\"" : Str) ++ z).length = 1 + z.length := by rw [← tl_len, tl_cat, List.length_append, tl_len]; rfl
    refine addp_s (by show _ + 1 ≤ 1000000; omega) ?_
    walk_at "es"
    have e : (("\"" : Str) ++ z ++ "\"" : Str) = S (wl (.txt z)) := S_inj (by rw [tl_cat, tl_cat, tl_S, dq_tl, wl]; simp)
    first | (rw [e]; exact k) | (rw [e]; exact ⟨rfl, k⟩)
  | lab z =>
    unfold TrOk at hok; rw [Tr.All] at hok
    rw [Tr.dt] at k ⊢
    have hz : z.length ≤ 8 := hok.1.1
    walk_at "es"
    refine ⟨fun _ => ?_, fun h => absurd (of_decide_eq_false h) (by simp)⟩
    walk_at "es"
    refine addp_s (by show 1 + z.length ≤ 1000000; omega) ?_
    walk_at "es"
    have e : (("#" : Str) ++ z : Str) = S (wl (.lab z)) := S_inj (by rw [tl_cat, tl_S, wl]; rfl)
    first | (rw [e]; exact k) | (rw [e]; exact ⟨rfl, k⟩)
  | ref z =>
    unfold TrOk at hok; rw [Tr.All] at hok
    rw [Tr.dt] at k ⊢
    have hz : z.length ≤ 8 := hok.1.1
    walk_at "es"
    refine ⟨fun _ => ?_, fun h => absurd (of_decide_eq_false h) (by simp)⟩
    walk_at "es"
    refine addp_s (by show 1 + z.length ≤ 1000000; omega) ?_
    walk_at "es"
    have e : (("@" : Str) ++ z : Str) = S (wl (.ref z)) := S_inj (by rw [tl_cat, tl_S, wl]; rfl)
    first | (rw [e]; exact k) | (rw [e]; exact ⟨rfl, k⟩)
  | part kd ms its =>
    have hok0 := hok
    unfold TrOk at hok; rw [Tr.All] at hok
    have hh := hd_len hok.1.1 hok.1.2.1
    have hk8 : kd.length ≤ 8 := hok.1.1.1.1
    have hm3 : ms.length ≤ 3 := hok.1.2.1.1
    have hms : (ms.map (·.length)).sum ≤ 8 * ms.length := sum_le _ 8 ms fun z hz => (hok.1.2.1.2.1 z hz).1.1
    have hws := wls_len its hok.2
    have hsz : Tr.sums w1 its ≤ 1000 := by have : (Tr.part kd ms its).sz = 1 + Tr.sums w1 its := by rw [Tr.sz, Tr.sum]; rfl
                                           omega
    have hil : its.length ≤ 1000 := by
      have : ∀ l : List Tr, l.length ≤ Tr.sums w1 l := fun l => by
        induction l with
        | nil => exact Nat.zero_le _
        | cons a r ih => rw [List.length_cons, Tr.sums]; have := sz_pos a; have e : a.sz = a.sum w1 := rfl; omega
      have := this its; omega
    have each : ∀ u ∈ its, u.dep < m ∧ u.sz ≤ 1000 ∧ TrOk n u := fun u hu => by
      have a1 := deps_le.mp (Nat.le_refl (Tr.deps its)) u hu
      rw [Tr.dep] at hd
      have a2 : ∀ l : List Tr, u ∈ l → u.sz ≤ Tr.sums w1 l := fun l => by
        induction l with
        | nil => intro h; cases h
        | cons a r ih =>
          intro h
          rw [Tr.sums]
          have e : u.sz = u.sum w1 := rfl
          rcases List.mem_cons.mp h with rfl | h
          · omega
          · have := ih h; omega
      exact ⟨by omega, by have := a2 its hu; omega, alls_iff.mp hok.2 u hu⟩
    rw [dt_part] at k ⊢
    walk_at "es"
    refine ⟨fun h => absurd (of_decide_eq_true h) (by simp), fun _ => ?_⟩
    walk_at "es"
    refine lc_tuple (its.map Tr.dt) (fun i es G => ∃ ys : List Str, es = ys.map Dt.str ∧ ys.flatMap tl = wls (its.take i) ∧ G = [.val (.tup [.str kd, .tup (ms.map Dt.str), .tup (its.map Tr.dt)]), .un, .un]) ?_ ?_ ?_
    · walk_at "es"
      exact .a ⟨rfl, by rw [List.length_map]; omega, rfl, rfl, rfl, [], rfl, by simp [wls], rfl⟩
    · rintro i d es G hd ⟨ys, rfl, hy, rfl⟩
      rw [List.getElem?_map] at hd
      cases hq : its[i]? with
      | none => rw [hq] at hd; cases hd
      | some u =>
        rw [hq] at hd; cases hd
        obtain ⟨q1, q2, q3⟩ := each u (List.mem_of_getElem? hq)
        have hul := wl_len u q3
        show WT K _ [.val (.tup [.str kd, .tup (ms.map Dt.str), .tup (its.map Tr.dt)]), .un, .val u.dt] _
        walk_at "es"
        refine .a (hap u n _ q1 q2 q3 ?_)
        walk_at "es"
        refine addp_s (by rw [S_len]; show 1 + _ ≤ 1000000; omega) ?_
        walk_at "es"
        refine .a ⟨ys ++ [(" " ++ S (wl u) : Str)], by simp, ?_, rfl⟩
        rw [List.flatMap_append, List.flatMap_singleton, hy, wls_take its i u hq, tl_cat, tl_S, sp_tl]; rfl
    · rintro es G ⟨ys, rfl, hy, rfl⟩
      rw [List.length_map, List.take_length] at hy
      have es : (ys.map (·.length)).sum = (ys.flatMap tl).length := by rw [List.length_flatMap]; rfl
      refine .a ⟨ys, rfl, by rw [emp_len, es, hy]; omega, ?_⟩
      walk_at "es"
      refine addp_l (ra := .new [Dt.str kd]) (rb := .new (ms.map Dt.str)) (ds := [Dt.str kd]) (es := ms.map Dt.str) rfl rfl rfl rfl (by simp only [List.length_cons, List.length_nil, List.length_map]; omega) ?_
      walk_at "es"
      refine .a ⟨kd :: ms, rfl, by rw [dot_len, List.map_cons, List.sum_cons, List.length_cons]; omega, ?_⟩
      walk_at "es"
      refine addp_s (by rw [← tl_len (Txt.join _ _), tl_joinD]; show 1 + _ ≤ _; omega) ?_
      walk_at "es"
      have b1 : (("(" : Str) ++ Txt.join "." (kd :: ms)).length = 1 + (Doc.hd kd ms).length := by rw [← tl_len, tl_cat, List.length_append, tl_joinD]; rfl
      have b2 : (Txt.join "" ys).length = (wls its).length := by rw [← tl_len, tl_joinE, hy]
      refine addp_s (by rw [b1, b2]; omega) ?_
      walk_at "es"
      have b3 : (("(" : Str) ++ Txt.join "." (kd :: ms) ++ Txt.join "" ys).length = 1 + (Doc.hd kd ms).length + (wls its).length := by rw [← tl_len, tl_cat, List.length_append, tl_len, tl_len, b1, b2]
      refine addp_s (by rw [b3]; show _ + 1 ≤ _; omega) ?_
      walk_at "es"
      have e : (("(" : Str) ++ Txt.join "." (kd :: ms) ++ Txt.join "" ys ++ ")" : Str) = S (wl (.part kd ms its)) := S_inj (by rw [tl_cat, tl_cat, tl_cat, tl_joinD, tl_joinE, hy, tl_S, op_tl, wl, show tl ")" = [41] by decide]; simp)
      rw [e]
      exact k
noncomputable def wcut (c : Nat) : Bool := c == 32 || c == 34 || c == 40 || c == 41
noncomputable def wendL (l : List Nat) : Nat := (l.takeWhile fun c => !wcut c).length
noncomputable def ap_wend : AP := fun as Post => ∃ (z : Str) (i : Nat), as = [.val (.str z), .val (.int i)] ∧ i ≤ z.length ∧ z.length ≤ 1000000 ∧ Post (.val (.int ((i + wendL ((tl z).drop i) : Nat) : Int))) as
theorem cut_mem (c : Nat) : decide (c ∈ tl " \"()") = wcut c := by
  have : tl " \"()" = [32, 34, 40, 41] := by decide
  rw [this]
  unfold wcut
  by_cases h1 : c = 32
  · subst h1; rfl
  by_cases h2 : c = 34
  · subst h2; rfl
  by_cases h3 : c = 40
  · subst h3; rfl
  by_cases h4 : c = 41
  · subst h4; rfl
  have e : c ∉ [32, 34, 40, 41] := by simp [h1, h2, h3, h4]
  rw [decide_eq_false e]
  simp [h1, h2, h3, h4]
theorem wend_drop {l : List Nat} {j : Nat} (hj : j < l.length) : wendL (l.drop j) = if wcut l[j] then 0 else 1 + wendL (l.drop (j + 1)) := by
  rw [List.drop_eq_getElem_cons hj]
  unfold wendL
  rw [List.takeWhile_cons]
  cases wcut l[j] <;> simp
  omega
theorem run_wend {K : PySem.W.Frag} : RunOk K [] (tq_word_end K) 2 ap_wend := by
  rintro as Post ⟨z, i, rfl, hi, hz, k⟩
  unfold tq_word_end
  show WS K [] _ [.val (.str z), .val (.int i)] _
  walk_at "es"
  refine ws_while (fun m G => ∃ j : Nat, m = z.length - j ∧ j ≤ z.length ∧ i ≤ j ∧ j + wendL ((tl z).drop j) = i + wendL ((tl z).drop i) ∧ G = [.val (.str z), .val (.int (j : Int))]) (z.length - i) ⟨i, rfl, hi, Nat.le_refl _, rfl, rfl⟩ ?_
  rintro m G ⟨j, rfl, hj, hij, he, rfl⟩
  walk_at "es"
  refine ⟨fun h => ?_, fun h => ?_⟩
  · have h := of_decide_eq_true h
    have hj2 : j < (tl z).length := by rw [tl_len]; omega
    have hw := wend_drop hj2
    walk_at "es"
    refine ixp_s (by omega) (c := (tl z)[j]) (by rw [atI_nat]; exact List.getElem?_eq_getElem hj2) ?_
    walk_at "es"
    have cm : decide ((tl z)[j] ∈ (Str.ofString " \"()").cps.toList) = wcut (tl z)[j] := cut_mem _
    rw [cm]
    refine ⟨fun h2 => ?_, fun h2 => ?_⟩
    · have h2' : wcut (tl z)[j] = false := by simpa using h2
      rw [h2', if_neg Bool.false_ne_true] at hw
      walk_at "es"
      exact ⟨z.length - (j + 1), by omega, j + 1, rfl, by omega, by omega, by omega, rfl⟩
    · have h2' : wcut (tl z)[j] = true := by simpa using h2
      rw [h2', if_pos rfl] at hw
      rw [hw, Nat.add_zero] at he
      walk_at "es"
      rw [← he] at k
      exact k
  · have h := of_decide_eq_false h
    have ej : j = z.length := by omega
    subst ej
    have e0 : wendL ((tl z).drop z.length) = 0 := by rw [List.drop_eq_nil_of_le (by rw [tl_len]; exact Nat.le_refl _)]; rfl
    rw [e0, Nat.add_zero] at he
    walk_at "es"
    rw [← he] at k
    exact k
end
section
open PySem L2 Ab
theorem cut_nat (l : List Nat) (a b : Nat) : tl (cutS (S l) (some (a : Int)) (some (b : Int))) = (l.drop a).take (b - a) := by
  unfold cutS
  rw [HT.sIx_nat, HT.sIx_nat, S_len]
  show (((tl (S l)).drop (min a l.length)).take (min b l.length - min a l.length)).toArray.toList = _
  rw [tl_S]
  simp only
  by_cases h : a ≤ l.length
  · rw [Nat.min_eq_left h]
    by_cases h2 : b ≤ l.length
    · rw [Nat.min_eq_left h2]
    · rw [Nat.min_eq_right (show l.length ≤ b by omega), List.take_of_length_le (by rw [List.length_drop]; omega), List.take_of_length_le (by rw [List.length_drop]; omega)]
  · rw [Nat.min_eq_right (show l.length ≤ a by omega), List.drop_eq_nil_of_le (Nat.le_refl _), List.drop_eq_nil_of_le (show l.length ≤ a by omega)]
    simp
theorem cut_one (pre : List Nat) (c : Nat) (rest : List Nat) {i : Int} (hi : i = (pre.length : Int)) : cutS (S (pre ++ c :: rest)) (some i) (some (i + 1)) = S [c] := by
  have e : i + 1 = ((pre.length + 1 : Nat) : Int) := by omega
  rw [hi] at e ⊢
  rw [e]
  refine S_inj ?_
  rw [cut_nat, tl_S, List.drop_left]
  simp
theorem cut_mid (pre m post : List Nat) {i j : Int} (hi : i = (pre.length : Int)) (hj : j = ((pre.length + m.length : Nat) : Int)) : cutS (S (pre ++ (m ++ post))) (some i) (some j) = S m := by
  rw [hi, hj]
  refine S_inj ?_
  rw [cut_nat, tl_S, List.drop_left, Nat.add_sub_cancel_left, List.take_left]
theorem wend_mid {m post : List Nat} (h1 : ∀ c ∈ m, wcut c = false) (h2 : ∀ c, post.head? = some c → wcut c = true) : wendL (m ++ post) = m.length := by
  unfold wendL
  induction m with
  | nil =>
    cases post with
    | nil => rfl
    | cons c r => rw [List.nil_append, List.takeWhile_cons, h2 c rfl]; rfl
  | cons a r ih =>
    rw [List.cons_append, List.takeWhile_cons, h1 a (by simp)]
    simp only [Bool.not_false, if_true, List.length_cons]
    rw [ih fun c hc => h1 c (by simp [hc])]
theorem find_at (pre body post : List Nat) (hb : 34 ∉ body) {i : Int} (hi : i = (pre.length : Int)) : Txt.find3 (S (pre ++ (body ++ 34 :: post))) "\"" i = ((pre.length + body.length : Nat) : Int) := by
  have eq : ("\"" : Str) = ⟨#[34]⟩ := by decide
  rw [eq]
  have g : ∀ v, (S (pre ++ (body ++ 34 :: post))).cps.getD v 0 = ((pre ++ (body ++ 34 :: post))[v]?).getD 0 := fun v => by
    simp [S, Array.getD_eq_getD_getElem?]
  have hK : (pre ++ (body ++ 34 :: post))[pre.length + body.length]? = some 34 := by
    rw [List.getElem?_append_right (by omega), Nat.add_sub_cancel_left, List.getElem?_append_right (Nat.le_refl _), Nat.sub_self]; rfl
  have hf : PySem.fromIndex (S (pre ++ (body ++ 34 :: post))).length i = pre.length := by
    unfold PySem.fromIndex
    rw [if_neg (by omega), Int.max_eq_right (by omega)]; omega
  have hlen : (S (pre ++ (body ++ 34 :: post))).length = pre.length + (body.length + (post.length + 1)) := by rw [S_len]; simp
  rcases StrLaws.find3_spec (S (pre ++ (body ++ 34 :: post))) 34 i with ⟨_, h⟩ | ⟨k, h1, h2, h3, h4, h5⟩
  · rw [hf] at h
    have := h (pre.length + body.length) (by omega) (by rw [hlen]; omega)
    rw [g, hK] at this
    exact absurd rfl this
  · rw [hf] at h2 h5
    rw [h1]
    rcases Nat.lt_trichotomy k (pre.length + body.length) with q | q | q
    · rw [g, List.getElem?_append_right h2, List.getElem?_append_left (by omega), List.getElem?_eq_getElem (show k - pre.length < body.length by omega)] at h4
      exact absurd (h4 ▸ List.getElem_mem _) hb
    · rw [q]
    · have := h5 (pre.length + body.length) (by omega) q
      rw [g, hK] at this
      exact absurd rfl this
theorem split_hd {kd : Str} {ms : List Str} (h1 : 46 ∉ tl kd) (h2 : ∀ z ∈ ms, 46 ∉ tl z) : Txt.split (S (hd kd ms)) "." = kd :: ms := by
  have e1 : tl "." = [46] := by decide
  have e := TL.split_spl (S (hd kd ms)) "." (by decide) (TL.kind_ok (by decide +kernel))
  have e2 : TL.tl "." = [46] := e1
  have e3 : TL.tl (S (hd kd ms)) = TL.joinL [46] (tl kd :: ms.map tl) := tl_S _
  rw [e2, e3, TL.spl_join (by simp) (by
    intro p hp
    rcases List.mem_cons.mp hp with rfl | hp
    · exact h1
    · obtain ⟨z, hz, rfl⟩ := List.mem_map.mp hp
      exact h2 z hz)] at e
  have inj : ∀ {a b : List Str}, a.map TL.tl = b.map TL.tl → a = b := fun {a b} h => TL.map_tl_inj h
  exact inj (e.trans (by rw [List.map_cons]))
theorem az_cut {z : Str} (h : Az z) : ∀ c ∈ tl z, wcut c = false := fun c hc => by
  have := h c hc
  unfold wcut
  simp only [Bool.or_eq_false_iff, beq_eq_false_iff_ne]
  omega
theorem az_dot {z : Str} (h : Az z) : 46 ∉ tl z := fun hc => by have := h 46 hc; omega
theorem tx_dq {z : Str} (h : Tx z) : 34 ∉ tl z := fun hc => absurd (h 34 hc) (by decide +kernel)
theorem joinL_cut : ∀ (l : List (List Nat)), (∀ p ∈ l, ∀ c ∈ p, wcut c = false) → ∀ c ∈ TL.joinL [46] l, wcut c = false
  | [], _, c, h => by simp [TL.joinL] at h
  | [p], h, c, hc => h p (by simp) c (by simpa [TL.joinL] using hc)
  | p :: q :: r, h, c, hc => by
    rw [TL.joinL] at hc
    rcases List.mem_append.mp hc with hc | hc
    · exact h p (by simp) c hc
    · rcases List.mem_append.mp hc with hc | hc
      · rw [List.mem_singleton.mp hc]; rfl
      · exact joinL_cut (q :: r) (fun p hp => h p (by simp at hp ⊢; right; exact hp)) c hc
theorem hd_cut {kd : Str} {ms : List Str} (h1 : Nm1 kd) (h2 : Mk ms) : ∀ c ∈ hd kd ms, wcut c = false := by
  refine joinL_cut _ fun p hp => ?_
  rcases List.mem_cons.mp hp with rfl | hp
  · exact az_cut h1.1.2
  · obtain ⟨z, hz, rfl⟩ := List.mem_map.mp hp
    exact az_cut (h2.2.1 z hz).1.2
end
section
open PySem L2 Ab
end
local macro_rules | `(tactic| walk_at "x") => `(tactic| first | with_reducible refine we_splitS ?_ | with_reducible refine we_find3 ?_ | with_reducible refine ws_star rfl rfl rfl rfl (by decide) ?_)
section
open PySem L2 Ab
end
local macro_rules | `(tactic| walk_at "x") => `(tactic| with_reducible refine ws_asgGX (wx_call rfl ?_))
section
open PySem L2 Ab
end
local macro_rules | `(tactic| walk_at "x") => `(tactic| with_reducible refine ws_retX (wx_call rfl ?_))
section
open PySem L2 Ab
end
local macro_rules | `(tactic| walk_at "x") => `(tactic| with_reducible refine ws_raise rfl ?_)
section
open PySem L2 Ab
noncomputable def tq_read_part (K : PySem.W.Frag) (c_BadDocument : Addr) (ap_word_end : AP) (ap_read_item : APX) (W : WX) : TS :=
    (tSeq (tIfS (tTest (tOp rGtI (tVar 2) (tC (.int 6)))) (tRaise W (.ref c_BadDocument)) tNext)
    (tSeq (tAsg (tCall (toSp K ap_word_end) [] E0 (tCons (tVar 0) (tCons (tOp (rAddG K) (tVar 1) (tC (.int 1))) tNil))) (gName 3))
    (tSeq (tAsg (tM1 rSplitS (tSl (rSlG K) (tVar 0) (tPart (tOp (rAddG K) (tVar 1) (tC (.int 1)))) (tPart (tVar 3))) (tC (.str "."))) (gStar K (gCons (gName 4) (gCons (gName 5) gNil))))
    (tSeq (tAsg (tLst tNil) (gName 6))
    (tSeq (tWhile (tTest (tOp (rEqG K) (tSl (rSlG K) (tVar 0) (tPart (tVar 3)) (tPart (tOp (rAddG K) (tVar 3) (tC (.int 1))))) (tC (.str " ")))) (tSeq (tAsg (tCallX K ap_read_item W (tCons (tVar 0) (tCons (tOp (rAddG K) (tVar 3) (tC (.int 1))) (tCons (tOp (rAddG K) (tVar 2) (tC (.int 1))) tNil)))) (gTup K 2 (gCons (gName 7) (gCons (gName 3) gNil))))
    (tDrop (tBM K "list" rAppend (tVar 6) (tCons (tVar 7) tNil)))))
    (tSeq (tIfS (tTest (tOp (rNeG K) (tSl (rSlG K) (tVar 0) (tPart (tVar 3)) (tPart (tOp (rAddG K) (tVar 3) (tC (.int 1))))) (tC (.str ")")))) (tRaise W (.ref c_BadDocument)) tNext)
    (tRet (tTup (tCons (tTup (tCons (tVar 4) (tCons (tCB (rTupleOf K) (tCons (tVar 5) tNil)) (tCons (tCB (rTupleOf K) (tCons (tVar 6) tNil)) tNil)))) (tCons (tOp (rAddG K) (tVar 3) (tC (.int 1))) tNil))))))))))
noncomputable def tq_read_item (K : PySem.W.Frag) (c_BadDocument : Addr) (ap_read_part : APX) (ap_word_end : AP) (W : WX) : TS :=
    (tSeq (tAsg (tSl (rSlG K) (tVar 0) (tPart (tVar 1)) (tPart (tOp (rAddG K) (tVar 1) (tC (.int 1))))) (gName 3))
    (tSeq (tIfS (tTest (tOp (rEqG K) (tVar 3) (tC (.str "(")))) (tRet (tCallX K ap_read_part W (tCons (tVar 0) (tCons (tVar 1) (tCons (tVar 2) tNil))))) tNext)
    (tSeq (tIfS (tTest (tOp (rEqG K) (tVar 3) (tC (.str "\"")))) (tSeq (tAsg (tMG tyS rFind3 (tVar 0) (tCons (tC (.str "\"")) (tCons (tOp (rAddG K) (tVar 1) (tC (.int 1))) tNil))) (gName 4))
    (tSeq (tIfS (tTest (tOp (rLtG K) (tVar 4) (tC (.int 0)))) (tRaise W (.ref c_BadDocument)) tNext)
    (tRet (tTup (tCons (tSl (rSlG K) (tVar 0) (tPart (tOp (rAddG K) (tVar 1) (tC (.int 1)))) (tPart (tVar 4))) (tCons (tOp (rAddG K) (tVar 4) (tC (.int 1))) tNil)))))) tNext)
    (tSeq (tIfS (tTest (tOp (rIn K true) (tVar 3) (tTup (tCons (tC (.str "#")) (tCons (tC (.str "@")) tNil))))) (tRaise W (.ref c_BadDocument)) tNext)
    (tSeq (tAsg (tCall (toSp K ap_word_end) [] E0 (tCons (tVar 0) (tCons (tOp (rAddG K) (tVar 1) (tC (.int 1))) tNil))) (gName 4))
    (tRet (tTup (tCons (tTup (tCons (tVar 3) (tCons (tSl (rSlG K) (tVar 0) (tPart (tOp (rAddG K) (tVar 1) (tC (.int 1)))) (tPart (tVar 4))) tNil))) (tCons (tVar 4) tNil)))))))))

noncomputable def Ends (post : List Nat) : Prop := ∀ c, post.head? = some c → wcut c = true
noncomputable def ap_rdX (c : Addr) (m : Nat) : APX := fun as Post XP => ∃ (pre post : List Nat) (u : Tr) (d n : Nat), as = [.val (.str (S (pre ++ (wl u ++ post)))), .val (.int pre.length), .val (.int (d : Int))] ∧ 1 ≤ d ∧ d ≤ 7 ∧ 7 < d + m ∧ TrOk n u ∧ Ends post ∧ pre.length + ((wl u).length + post.length) ≤ 1000000 ∧
  (d + u.dep ≤ 7 → Post (.val (.tup [u.dt, .int ((pre.length + (wl u).length : Nat) : Int)])) as) ∧ (7 < d + u.dep → XP (.ref c) [] as)
noncomputable def ap_rpX (c : Addr) (m : Nat) : APX := fun as Post XP => ∃ (pre post : List Nat) (kd : Str) (ms : List Str) (its : List Tr) (d n : Nat), as = [.val (.str (S (pre ++ (wl (.part kd ms its) ++ post)))), .val (.int pre.length), .val (.int (d : Int))] ∧ 1 ≤ d ∧ d ≤ 7 ∧ 7 < d + m ∧ TrOk n (.part kd ms its) ∧ Ends post ∧ pre.length + ((wl (.part kd ms its)).length + post.length) ≤ 1000000 ∧
  (d + (Tr.part kd ms its).dep ≤ 7 → Post (.val (.tup [(Tr.part kd ms its).dt, .int ((pre.length + (wl (.part kd ms its)).length : Nat) : Int)])) as) ∧ (7 < d + (Tr.part kd ms its).dep → XP (.ref c) [] as)
theorem sg40 : S [40] = "(" := by decide
theorem sg34 : S [34] = "\"" := by decide
theorem sg35 : S [35] = "#" := by decide
theorem sg64 : S [64] = "@" := by decide
theorem sg41 : S [41] = ")" := by decide
theorem sg32 : S [32] = " " := by decide
theorem leaf_dep {u : Tr} (h : isP u = false) : u.dep = 0 := by cases u <;> first | rfl | cases h
theorem run_ritem {K : PySem.W.Frag} {c : Addr} {m : Nat} : RunOkX K [] (fun W => tq_read_item K c (ap_rpX c m) ap_wend W) 5 (ap_rdX c m) := by
  rintro W as Post XP ⟨pre, post, u, d, n, rfl, d1, d7, dm, hok, he, hsz, k, kx⟩
  unfold tq_read_item
  show WS K [] _ [.val (.str (S (pre ++ (wl u ++ post)))), .val (.int pre.length), .val (.int (d : Int)), .un, .un] _
  have hz : (S (pre ++ (wl u ++ post))).length ≤ 1000000 := by rw [S_len, List.length_append, List.length_append]; exact hsz
  have hok0 := hok
  unfold TrOk at hok
  cases u with
  | txt z =>
    rw [Tr.All] at hok
    have k := k (by rw [leaf_dep rfl]; omega)
    rw [Tr.dt] at k
    have c1 : cutS (S (pre ++ (wl (.txt z) ++ post))) (some (pre.length : Int)) (some ((pre.length : Int) + 1)) = "\"" := by rw [wl]; exact (cut_one pre 34 _ rfl).trans sg34
    have ew : pre ++ (wl (.txt z) ++ post) = (pre ++ [34]) ++ (tl z ++ 34 :: post) := by rw [wl]; simp
    have c2 : Txt.find3 (S (pre ++ (wl (.txt z) ++ post))) "\"" ((pre.length : Int) + 1) = ((pre.length + 1 + z.length : Nat) : Int) := by
      rw [ew, find_at (pre ++ [34]) (tl z) post (tx_dq hok.2.2) (by simp), tl_len]; simp
    have c3 : cutS (S (pre ++ (wl (.txt z) ++ post))) (some ((pre.length : Int) + 1)) (some ((pre.length + 1 + z.length : Nat) : Int)) = z := by
      rw [ew]; exact (cut_mid (pre ++ [34]) (tl z) (34 :: post) (by simp) (by rw [tl_len]; simp)).trans (S_tl z)
    have el : (wl (.txt z)).length = z.length + 2 := by rw [wl, List.length_cons, List.length_append, tl_len]; rfl
    walk_at "es"
    rw [c1]
    walk_at "es"
    refine ⟨_, _, rfl, ?_⟩
    rw [c2]
    walk_at "es"
    rw [c3]
    walk_at "es"
    have e9 : (((pre.length + 1 + z.length : Nat) : Int) + 1) = ((pre.length + (wl (.txt z)).length : Nat) : Int) := by rw [el]; omega
    rw [e9]
    exact k
  | lab z =>
    rw [Tr.All] at hok
    have k := k (by rw [leaf_dep rfl]; omega)
    rw [Tr.dt] at k
    have c1 : cutS (S (pre ++ (wl (.lab z) ++ post))) (some (pre.length : Int)) (some ((pre.length : Int) + 1)) = "#" := by rw [wl]; exact (cut_one pre 35 _ rfl).trans sg35
    have ew : pre ++ (wl (.lab z) ++ post) = (pre ++ [35]) ++ (tl z ++ post) := by rw [wl]; simp
    have el : (wl (.lab z)).length = z.length + 1 := by rw [wl, List.length_cons, tl_len]
    have c2 : wendL ((tl (S (pre ++ (wl (.lab z) ++ post)))).drop (pre.length + 1)) = z.length := by
      rw [tl_S, ew, show pre.length + 1 = (pre ++ [35]).length by simp, List.drop_left, wend_mid (az_cut hok.1.2) he, tl_len]
    have c3 : cutS (S (pre ++ (wl (.lab z) ++ post))) (some ((pre.length : Int) + 1)) (some ((pre.length + 1 + z.length : Nat) : Int)) = z := by
      rw [ew]; exact (cut_mid (pre ++ [35]) (tl z) post (by simp) (by rw [tl_len]; simp)).trans (S_tl z)
    walk_at "es"
    rw [c1]
    walk_at "es"
    refine ⟨.str "#", [.str "#", .str "@"], rfl, rfl, rfl, rfl, ?_⟩
    rw [show inV (.str "#") [.str "#", .str "@"] = true by decide +kernel]
    walk_at "es"
    refine .a ⟨_, pre.length + 1, rfl, by rw [S_len, List.length_append, List.length_append]; omega, hz, ?_⟩
    rw [c2]
    walk_at "es"
    rw [c3]
    walk_at "es"
    have e9 : (((pre.length + 1 + z.length : Nat) : Int)) = ((pre.length + (wl (.lab z)).length : Nat) : Int) := by rw [el]; omega
    rw [e9]
    exact k
  | ref z =>
    rw [Tr.All] at hok
    have k := k (by rw [leaf_dep rfl]; omega)
    rw [Tr.dt] at k
    have c1 : cutS (S (pre ++ (wl (.ref z) ++ post))) (some (pre.length : Int)) (some ((pre.length : Int) + 1)) = "@" := by rw [wl]; exact (cut_one pre 64 _ rfl).trans sg64
    have ew : pre ++ (wl (.ref z) ++ post) = (pre ++ [64]) ++ (tl z ++ post) := by rw [wl]; simp
    have el : (wl (.ref z)).length = z.length + 1 := by rw [wl, List.length_cons, tl_len]
    have c2 : wendL ((tl (S (pre ++ (wl (.ref z) ++ post)))).drop (pre.length + 1)) = z.length := by
      rw [tl_S, ew, show pre.length + 1 = (pre ++ [64]).length by simp, List.drop_left, wend_mid (az_cut hok.1.2) he, tl_len]
    have c3 : cutS (S (pre ++ (wl (.ref z) ++ post))) (some ((pre.length : Int) + 1)) (some ((pre.length + 1 + z.length : Nat) : Int)) = z := by
      rw [ew]; exact (cut_mid (pre ++ [64]) (tl z) post (by simp) (by rw [tl_len]; simp)).trans (S_tl z)
    walk_at "es"
    rw [c1]
    walk_at "es"
    refine ⟨.str "@", [.str "#", .str "@"], rfl, rfl, rfl, rfl, ?_⟩
    rw [show inV (.str "@") [.str "#", .str "@"] = true by decide +kernel]
    walk_at "es"
    refine .a ⟨_, pre.length + 1, rfl, by rw [S_len, List.length_append, List.length_append]; omega, hz, ?_⟩
    rw [c2]
    walk_at "es"
    rw [c3]
    walk_at "es"
    have e9 : (((pre.length + 1 + z.length : Nat) : Int)) = ((pre.length + (wl (.ref z)).length : Nat) : Int) := by rw [el]; omega
    rw [e9]
    exact k
  | part kd ms its =>
    have c1 : cutS (S (pre ++ (wl (.part kd ms its) ++ post))) (some (pre.length : Int)) (some ((pre.length : Int) + 1)) = "(" := by rw [wl]; exact (cut_one pre 40 _ rfl).trans sg40
    walk_at "es"
    rw [c1]
    walk_at "es"
    refine .a ⟨pre, post, kd, ms, its, d, n, rfl, d1, d7, dm, hok0, he, hsz, fun h => ?_, fun h => ?_⟩
    · walk_at "es"
      exact k h
    · walk_at "es"
      exact kx h
theorem wls_app : ∀ a b : List Tr, wls (a ++ b) = wls a ++ wls b
  | [], b => by rw [wls]; rfl
  | t :: r, b => by rw [List.cons_append, wls, wls, wls_app r b]; simp
theorem wls_ends (l : List Tr) (post : List Nat) : Ends (wls l ++ 41 :: post) := fun c hc => by
  cases l with
  | nil => rw [wls] at hc; cases hc; rfl
  | cons t r => rw [wls] at hc; cases hc; rfl
theorem run_rpart {K : PySem.W.Frag} {c : Addr} {m : Nat} : RunOkX K [] (fun W => tq_read_part K c ap_wend (ap_rdX c m) W) 8 (ap_rpX c (m + 1)) := by
  rintro W as Post XP ⟨pre, post, kd, ms, its, d, n, rfl, d1, d7, dm, hok, he, hsz, k, kx⟩
  have hok0 := hok
  unfold TrOk at hok; rw [Tr.All] at hok
  have hT : pre ++ (wl (.part kd ms its) ++ post) = (pre ++ [40]) ++ (hd kd ms ++ (wls its ++ 41 :: post)) := by rw [wl]; simp
  have hz : (S (pre ++ (wl (.part kd ms its) ++ post))).length ≤ 1000000 := by rw [S_len, List.length_append, List.length_append]; exact hsz
  have hl : (wl (.part kd ms its)).length = (hd kd ms).length + (wls its).length + 2 := by rw [wl]; simp; omega
  rw [Tr.dep] at k kx
  have hP : ∀ j, ((pre ++ [40]) ++ (hd kd ms ++ wls (its.take j))).length = pre.length + 1 + (hd kd ms).length + (wls (its.take j)).length := fun j => by simp; omega
  have hTj : ∀ j, pre ++ (wl (.part kd ms its) ++ post) = ((pre ++ [40]) ++ (hd kd ms ++ wls (its.take j))) ++ (wls (its.drop j) ++ 41 :: post) := fun j => by
    rw [hT]
    have e := wls_app (its.take j) (its.drop j)
    rw [List.take_append_drop] at e
    rw [e]; simp
  have c2 : wendL ((tl (S (pre ++ (wl (.part kd ms its) ++ post)))).drop (pre.length + 1)) = (hd kd ms).length := by
    rw [tl_S, hT, show pre.length + 1 = (pre ++ [40]).length by simp, List.drop_left, wend_mid (hd_cut hok.1.1 hok.1.2.1) (wls_ends its post)]
  have c3 : cutS (S (pre ++ (wl (.part kd ms its) ++ post))) (some ((pre.length : Int) + 1)) (some ((pre.length + 1 + (hd kd ms).length : Nat) : Int)) = S (hd kd ms) := by
    rw [hT]; exact cut_mid (pre ++ [40]) (hd kd ms) _ (by simp) (by simp)
  have c4 : Txt.split (S (hd kd ms)) "." = kd :: ms := split_hd (az_dot hok.1.1.1.2) fun z hz => az_dot (hok.1.2.1.2.1 z hz).1.2
  generalize hTT : pre ++ (wl (.part kd ms its) ++ post) = T at *
  unfold tq_read_part
  show WS K [] _ [.val (.str (S T)), .val (.int pre.length), .val (.int (d : Int)), .un, .un, .un, .un, .un] _
  walk_at "es"
  refine ⟨fun h => ?_, fun h => ?_⟩
  · have h := of_decide_eq_true h
    walk_at "es"
    exact kx (by omega)
  · have h := of_decide_eq_false h
    walk_at "es"
    refine .a ⟨_, pre.length + 1, rfl, by rw [S_len, ← hTT, List.length_append, List.length_append]; omega, hz, ?_⟩
    rw [c2]
    have b1 : (cutS (S T) (some ((pre.length : Int) + 1)) (some ((pre.length + 1 + (hd kd ms).length : Nat) : Int))).length + 2 ≤ sizeLine := by
      rw [c3, S_len]
      have := hd_len hok.1.1 hok.1.2.1
      have : (1000 : Nat) ≤ sizeLine := by decide
      omega
    walk_at "es"
    rw [c3, c4]
    refine ⟨_, _, rfl, ?_⟩
    walk_at "es"
    refine ws_while (fun q G => ∃ (j : Nat) (s7 : Sl), q = its.length - j ∧ j ≤ its.length ∧ (∀ u ∈ its.take j, d + 1 + u.dep ≤ 7) ∧ G = [.val (.str (S T)), .val (.int pre.length), .val (.int (d : Int)), .val (.int ((pre.length + 1 + (hd kd ms).length + (wls (its.take j)).length : Nat) : Int)), .val (.str kd), .acc (ms.map Dt.str), .acc ((its.take j).map Tr.dt), s7]) its.length ⟨0, .un, rfl, Nat.zero_le _, (fun u hu => by simp at hu), by simp [wls]⟩ ?_
    rintro q G ⟨j, s7, rfl, hj, hdj, rfl⟩
    have hzl : pre.length + 1 + (hd kd ms).length + (wls its).length + 1 + post.length ≤ 1000000 := by rw [hl] at hsz; omega
    have hwa := congrArg List.length (wls_app (its.take j) (its.drop j))
    rw [List.take_append_drop, List.length_append] at hwa
    cases hu : its[j]? with
    | some u =>
      have hmem := List.mem_of_getElem? hu
      have hjl : j < its.length := (List.getElem?_eq_some_iff.mp hu).1
      have hud : wls (its.drop j) = 32 :: (wl u ++ wls (its.drop (j + 1))) := by
        rw [List.drop_eq_getElem_cons hjl, wls]
        have : its[j] = u := by rw [List.getElem?_eq_getElem hjl] at hu; exact Option.some.inj hu
        rw [this]
      have c5 : cutS (S T) (some ((pre.length + 1 + (hd kd ms).length + (wls (its.take j)).length : Nat) : Int)) (some (((pre.length + 1 + (hd kd ms).length + (wls (its.take j)).length : Nat) : Int) + 1)) = " " := by
        rw [hTj j, hud]
        exact (cut_one _ 32 _ (by rw [hP])).trans sg32
      have hT2 : T = (((pre ++ [40]) ++ (hd kd ms ++ wls (its.take j))) ++ [32]) ++ (wl u ++ (wls (its.drop (j + 1)) ++ 41 :: post)) := by
        rw [hTj j, hud]; simp
      have hl2 : ((((pre ++ [40]) ++ (hd kd ms ++ wls (its.take j))) ++ [32]).length : Int) = ((pre.length + 1 + (hd kd ms).length + (wls (its.take j)).length : Nat) : Int) + 1 := by
        rw [List.length_append, hP]; rfl
      have hws := congrArg List.length hud
      rw [List.length_cons, List.length_append] at hws
      have hwt := wls_take its j u hu
      have hwl := congrArg List.length hwt
      rw [List.length_append, List.length_cons] at hwl
      have hPl : ((((pre ++ [40]) ++ (hd kd ms ++ wls (its.take j))) ++ [32]).length + (wl u).length : Nat) = pre.length + 1 + (hd kd ms).length + (wls (its.take (j + 1))).length := by
        rw [List.length_append, hP, hwl]; simp; omega
      have htk : its.take (j + 1) = its.take j ++ [u] := by rw [List.take_add_one, hu]; rfl
      walk_at "es"
      rw [c5]
      walk_at "es"
      refine .a ⟨((pre ++ [40]) ++ (hd kd ms ++ wls (its.take j))) ++ [32], wls (its.drop (j + 1)) ++ 41 :: post, u, d + 1, n, ?_, by omega, by omega, by omega, alls_iff.mp hok.2 u hmem, wls_ends _ _, ?_, fun hg => ?_, fun hb => ?_⟩
      · rw [← hT2, hl2]; rfl
      · have e9 : ((((pre ++ [40]) ++ (hd kd ms ++ wls (its.take j))) ++ [32]).length : Nat) = pre.length + 1 + (hd kd ms).length + (wls (its.take j)).length + 1 := by rw [List.length_append, hP]; rfl
        rw [e9, List.length_append, List.length_cons]
        omega
      · rw [hPl]
        have ec : (List.map Tr.dt (List.take j its)).length < 1000000 := by
          rw [List.length_map]
          have h1 : ∀ l : List Tr, l.length ≤ (wls l).length := fun l => by
            induction l with
            | nil => exact Nat.zero_le _
            | cons a r ih => rw [wls, List.length_cons, List.length_cons, List.length_append]; omega
          have := h1 (its.take j)
          omega
        walk_at "es"
        refine ⟨its.length - (j + 1), by omega, j + 1, .val u.dt, rfl, by omega, fun v hv => ?_, ?_⟩
        · rw [htk] at hv
          rcases List.mem_append.mp hv with hv | hv
          · exact hdj v hv
          · rw [List.mem_singleton.mp hv]; exact hg
        · rw [htk, List.map_append]; rfl
      · walk_at "es"
        refine kx ?_
        have := deps_le.mp (Nat.le_refl (Tr.deps its)) u hmem
        omega
    | none =>
      have ej : j = its.length := by have := List.getElem?_eq_none_iff.mp hu; omega
      subst ej
      have c5 : cutS (S T) (some ((pre.length + 1 + (hd kd ms).length + (wls (its.take its.length)).length : Nat) : Int)) (some (((pre.length + 1 + (hd kd ms).length + (wls (its.take its.length)).length : Nat) : Int) + 1)) = ")" := by
        rw [hTj its.length, List.drop_length]
        exact (cut_one _ 41 post (by rw [hP])).trans sg41
      walk_at "es"
      rw [c5]
      walk_at "es"
      rw [c5]
      walk_at "es"
      rw [List.take_length] at hdj ⊢
      have hdp : Tr.deps its ≤ 6 - d := deps_le.mpr fun v hv => by have := hdj v hv; omega
      have k := k (by omega)
      rw [dt_part, hl] at k
      have e9 : (((pre.length + 1 + (hd kd ms).length + (wls its).length : Nat) : Int) + 1) = ((pre.length + ((hd kd ms).length + (wls its).length + 2) : Nat) : Int) := by omega
      rw [e9]
      exact k
end
section
open PySem L2 Ab
end
local macro_rules | `(tactic| walk_at "x") => `(tactic| first | with_reducible refine we_geS ?_)
section
open PySem L2 Ab
noncomputable def tq_is_name (K : PySem.W.Frag) : TS :=
    (tSeq (tIfS (tNot (tTest (tChain rLeI rLeI (tC (.int 1)) (tCB (rLenV K) (tCons (tVar 0) tNil)) (tC (.int 8))))) (tRet (tC (.bl false))) tNext)
    (tRet (tCB (rAll K) (tCons (tLc (iStr (tVar 0)) (gName 1) tYes (tOp (rInG K) (tVar 1) (tC (.str "abcdefghijklmnopqrstuvwxyz"))) [1]) tNil))))
noncomputable def tq_is_text (K : PySem.W.Frag) : TS :=
    (tSeq (tIfS (tNot (tTest (tChain rLeI rLeI (tC (.int 1)) (tCB (rLenV K) (tCons (tVar 0) tNil)) (tC (.int 60))))) (tRet (tC (.bl false))) tNext)
    (tRet (tCB (rAll K) (tCons (tLc (iStr (tVar 0)) (gName 1) tYes (tOp (rInG K) (tVar 1) (tC (.str " abcdefghijklmnopqrstuvwxyzABCDEFGHIJKLMNOPQRSTUVWXYZ0123456789.,;:!?'()|"))) [1]) tNil))))
noncomputable def tq_are_marks (K : PySem.W.Frag) (ap_is_name : AP) : TS :=
    (tSeq (tIfS (tTest (tOp rGtI (tCB (rLenV K) (tCons (tVar 0) tNil)) (tC (.int 3)))) (tRet (tC (.bl false))) tNext)
    (tSeq (tFor (iEnumT K (tCons (tVar 0) tNil)) (gTup K 2 (gCons (gName 1) (gCons (gName 2) gNil))) (tSeq (tIfS (tNot (tB (tCall (toSp K ap_is_name) [] E0 (tCons (tVar 2) tNil)))) (tRet (tC (.bl false))) tNext)
    (tIfS (tAnd (tTest (tOp rGtI (tVar 1) (tC (.int 0)))) (tTest (tOp rGeS (tOp (rIx K) (tVar 0) (tOp rSubI (tVar 1) (tC (.int 1)))) (tVar 2)))) (tRet (tC (.bl false))) tNext)))
    (tRet (tC (.bl true)))))

noncomputable def txtD : Str := " abcdefghijklmnopqrstuvwxyzABCDEFGHIJKLMNOPQRSTUVWXYZ0123456789.,;:!?'()|"
noncomputable def abcD : Str := "abcdefghijklmnopqrstuvwxyz"
noncomputable def lowB (c : Nat) : Bool := decide (97 ≤ c ∧ c ≤ 122)
noncomputable def txtB (c : Nat) : Bool := decide (c ∈ txtD.cps.toList)
theorem mem_abcD (c : Nat) : decide (c ∈ abcD.cps.toList) = lowB c := by
  have e : abcD.cps.toList = List.range' 97 26 := by decide +kernel
  unfold lowB
  rw [e]
  refine decide_eq_decide.mpr ?_
  rw [List.mem_range'_1]
  omega
noncomputable def nmB (z : Str) : Bool := decide (1 ≤ z.length ∧ z.length ≤ 8) && z.cps.toList.all lowB
noncomputable def txB (z : Str) : Bool := decide (1 ≤ z.length ∧ z.length ≤ 60) && z.cps.toList.all txtB
noncomputable def mkB (ms : List Str) : Bool := decide (ms.length ≤ 3) && (ms.all nmB && decide (ms.Pairwise fun a b => a.cps.toList < b.cps.toList))
noncomputable def ap_isn : AP := fun as Post => ∃ z : Str, as = [.val (.str z)] ∧ z.length ≤ 10000 ∧ Post (.val (.bl (nmB z))) as
noncomputable def ap_ist : AP := fun as Post => ∃ z : Str, as = [.val (.str z)] ∧ z.length ≤ 10000 ∧ Post (.val (.bl (txB z))) as
theorem all_whole {f : Nat → Bool} {z : Str} : ((z.cps.toList.take z.cps.size).map f).all id = z.cps.toList.all f := by
  rw [List.take_of_length_le (by simp), List.all_map]; rfl
theorem run_isn {K : PySem.W.Frag} : RunOk K [] (tq_is_name K) 2 ap_isn := by
  rintro as Post ⟨z, rfl, hz, k⟩
  unfold tq_is_name
  show WS K [] _ [.val (.str z), .un] _
  rw [show ("abcdefghijklmnopqrstuvwxyz" : Str) = abcD from rfl]
  walk_at "es"
  refine lenp_s (by omega) ?_
  by_cases h0 : z.length = 0
  · walk_at "es"
    rw [show nmB z = false by unfold nmB; rw [decide_eq_false (by omega)]; rfl] at k
    exact k
  by_cases h8 : 8 < z.length
  · walk_at "es"
    rw [show nmB z = false by unfold nmB; rw [decide_eq_false (by omega)]; rfl] at k
    exact k
  rw [show nmB z = z.cps.toList.all lowB by unfold nmB; rw [decide_eq_true (by omega)]; rfl] at k
  walk_at "es"
  refine we_all ?_
  refine lc_str z (fun i es G => es = ((z.cps.toList.take i).map lowB).map Dt.bl ∧ G = [.val (.str z), .un]) ?_ (fun i c es G hc hI => ?_) (fun es G hI => ?_)
  · walk_at "es"
    exact .a ⟨rfl, by omega, rfl, rfl, rfl, rfl, rfl⟩
  · obtain ⟨rfl, rfl⟩ := hI
    walk_at "es"
    refine .inr ⟨c, abcD, rfl, rfl, ?_⟩
    rw [mem_abcD]
    walk_at "es"
    exact .a ⟨by rw [List.take_add_one, Array.getElem?_toList, hc, List.map_append, List.map_append]; rfl, rfl⟩
  · obtain ⟨rfl, rfl⟩ := hI
    walk_at "es"
    refine .a ⟨_, rfl, ?_⟩
    rw [all_whole]
    walk_at "es"
    exact k
theorem run_ist {K : PySem.W.Frag} : RunOk K [] (tq_is_text K) 2 ap_ist := by
  rintro as Post ⟨z, rfl, hz, k⟩
  unfold tq_is_text
  show WS K [] _ [.val (.str z), .un] _
  rw [show (" abcdefghijklmnopqrstuvwxyzABCDEFGHIJKLMNOPQRSTUVWXYZ0123456789.,;:!?'()|" : Str) = txtD from rfl]
  walk_at "es"
  refine lenp_s (by omega) ?_
  by_cases h0 : z.length = 0
  · walk_at "es"
    rw [show txB z = false by unfold txB; rw [decide_eq_false (by omega)]; rfl] at k
    exact k
  by_cases h8 : 60 < z.length
  · walk_at "es"
    rw [show txB z = false by unfold txB; rw [decide_eq_false (by omega)]; rfl] at k
    exact k
  rw [show txB z = z.cps.toList.all txtB by unfold txB; rw [decide_eq_true (by omega)]; rfl] at k
  walk_at "es"
  refine we_all ?_
  refine lc_str z (fun i es G => es = ((z.cps.toList.take i).map txtB).map Dt.bl ∧ G = [.val (.str z), .un]) ?_ (fun i c es G hc hI => ?_) (fun es G hI => ?_)
  · walk_at "es"
    exact .a ⟨rfl, by omega, rfl, rfl, rfl, rfl, rfl⟩
  · obtain ⟨rfl, rfl⟩ := hI
    walk_at "es"
    refine .inr ⟨c, txtD, rfl, rfl, ?_⟩
    rw [show decide (c ∈ txtD.cps.toList) = txtB c from rfl]
    walk_at "es"
    exact .a ⟨by rw [List.take_add_one, Array.getElem?_toList, hc, List.map_append, List.map_append]; rfl, rfl⟩
  · obtain ⟨rfl, rfl⟩ := hI
    walk_at "es"
    refine .a ⟨_, rfl, ?_⟩
    rw [all_whole]
    walk_at "es"
    exact k
noncomputable def ap_arm : AP := fun as Post => ∃ ms : List Str, as = [.val (.tup (ms.map Dt.str))] ∧ ms.length ≤ 10000 ∧ (∀ z ∈ ms, z.length ≤ 10000) ∧ Post (.val (.bl (mkB ms))) as
theorem pw_no {l : List Str} {j : Nat} {a b : Str} (ha : l[j]? = some a) (hb : l[j + 1]? = some b) (h : ¬ a.cps.toList < b.cps.toList) : ¬ l.Pairwise fun a b => a.cps.toList < b.cps.toList := fun hp => by
  rw [List.pairwise_iff_getElem] at hp
  obtain ⟨h1, e1⟩ := List.getElem?_eq_some_iff.mp ha
  obtain ⟨h2, e2⟩ := List.getElem?_eq_some_iff.mp hb
  have := hp j (j + 1) h1 h2 (by omega)
  rw [e1, e2] at this
  exact h this
theorem pw_take {l : List Str} {j : Nat} {b : Str} (hb : l[j]? = some b) (hp : (l.take j).Pairwise fun a b => a.cps.toList < b.cps.toList) (h : ∀ a, j ≠ 0 → l[j - 1]? = some a → a.cps.toList < b.cps.toList) : (l.take (j + 1)).Pairwise fun a b => a.cps.toList < b.cps.toList := by
  rw [List.take_add_one, hb]
  refine List.pairwise_append.mpr ⟨hp, List.pairwise_singleton _ _, fun x hx y hy => ?_⟩
  obtain rfl : y = b := by simpa using hy
  cases j with
  | zero => simp at hx
  | succ i =>
    have hi : i < l.length := by have := (List.getElem?_eq_some_iff.mp hb).1; omega
    have hl := h l[i] (by omega) (by simpa using List.getElem?_eq_getElem hi)
    rw [List.take_add_one, List.getElem?_eq_getElem hi] at hx hp
    rcases List.mem_append.mp hx with hx | hx
    · have := (List.pairwise_append.mp hp).2.2 x hx l[i] (by simp)
      exact List.lt_trans this hl
    · obtain rfl : x = l[i] := by simpa using hx
      exact hl
theorem run_arm {K : PySem.W.Frag} : RunOk K [] (tq_are_marks K ap_isn) 3 ap_arm := by
  rintro as Post ⟨ms, rfl, h1, hzs, k⟩
  have e1 : ((ms.map Dt.str).length : Int) = ms.length := by rw [List.length_map]
  unfold tq_are_marks
  show WS K [] _ [.val (.tup (ms.map Dt.str)), .un, .un] _
  by_cases h3 : 3 < ms.length
  · rw [show mkB ms = false by unfold mkB; rw [decide_eq_false (by omega)]; rfl] at k
    walk_at "es"
    exact k
  walk_at "es"
  refine ws_forEn (ms.map Dt.str) (fun i G => ∃ s1 s2, (∀ z ∈ ms.take i, nmB z = true) ∧ (ms.take i).Pairwise (fun a b => a.cps.toList < b.cps.toList) ∧ G = [.val (.tup (ms.map Dt.str)), s1, s2]) ?_ ?_ ?_
  · walk_at "es"
    exact .a ⟨rfl, _, _, (fun z hz => by simp at hz), by simp, rfl⟩
  · rintro i d G hd ⟨s1, s2, hn, hp, rfl⟩
    rw [List.getElem?_map] at hd
    obtain ⟨z, hz, rfl⟩ := Option.map_eq_some_iff.mp hd
    have hmem := List.mem_of_getElem? hz
    walk_at "es"
    refine .a ⟨z, rfl, hzs z hmem, ?_⟩
    cases hb : nmB z with
    | false =>
      have : ms.all nmB = false := by
        rw [Bool.eq_false_iff]; intro h; rw [List.all_eq_true] at h; rw [h z hmem] at hb; cases hb
      rw [show mkB ms = false by unfold mkB; rw [this, Bool.false_and, Bool.and_false]] at k
      walk_at "es"
      exact k
    | true =>
      have hn2 : ∀ y ∈ ms.take (i + 1), nmB y = true := fun y hy => by
        rw [List.take_add_one, hz] at hy
        rcases List.mem_append.mp hy with hy | hy
        · exact hn y hy
        · obtain rfl : y = z := by simpa using hy
          exact hb
      walk_at "es"
      cases i with
      | zero =>
        walk_at "es"
        exact .a ⟨_, _, hn2, pw_take hz hp (fun a h => absurd rfl h), rfl⟩
      | succ j =>
        have hj : j < ms.length := by have := (List.getElem?_eq_some_iff.mp hz).1; omega
        have hat : atI (ms.map Dt.str) (((j + 1 : Nat) : Int) - 1) = some (.str ms[j]) := by
          exact at_mapI (i := j) (by omega) (List.getElem?_eq_getElem hj)
        walk_at "es"
        by_cases hlt : (ms[j]).cps.toList < z.cps.toList
        · rw [decide_eq_true hlt]
          walk_at "es"
          exact .a ⟨_, _, hn2, pw_take hz hp (fun a _ ha => by rw [Nat.add_sub_cancel, List.getElem?_eq_getElem hj] at ha; cases ha; exact hlt), rfl⟩
        · rw [decide_eq_false hlt]
          rw [show mkB ms = false by unfold mkB; rw [decide_eq_false (pw_no (List.getElem?_eq_getElem hj) hz hlt), Bool.and_false, Bool.and_false]] at k
          walk_at "es"
          exact k
  · rintro G ⟨s1, s2, hn, hp, rfl⟩
    rw [List.length_map, List.take_length] at hn hp
    rw [show mkB ms = true by unfold mkB; rw [decide_eq_true (by omega), decide_eq_true hp, List.all_eq_true.mpr hn]; rfl] at k
    walk_at "es"
    exact k
theorem nm_true {z : Str} (h : Nm1 z) : nmB z = true := by
  unfold nmB
  rw [Bool.and_eq_true, List.all_eq_true]
  refine ⟨decide_eq_true ⟨h.2, h.1.1⟩, fun c hc => decide_eq_true ?_⟩
  have := h.1.2 c hc
  omega
theorem tx_true {z : Str} (h0 : 0 < z.length) (h : z.length ≤ 60) (ht : Tx z) : txB z = true := by
  unfold txB
  rw [Bool.and_eq_true, List.all_eq_true]
  exact ⟨decide_eq_true ⟨h0, h⟩, fun c hc => decide_eq_true (ht c hc)⟩
theorem mk_true {ms : List Str} (h : Mk ms) : mkB ms = true := by
  unfold mkB
  rw [decide_eq_true h.1, decide_eq_true h.2.2, List.all_eq_true.mpr fun z hz => nm_true (h.2.1 z hz)]; rfl
end
section
open PySem L2 Ab
end
local macro_rules | `(tactic| walk_at "x") => `(tactic| with_reducible refine ws_asgX rfl rfl (wx_call rfl ?_))
section
open PySem L2 Ab
noncomputable def tq_is_sound (K : PySem.W.Frag) (ap_is_part : AP) (ap_is_text : AP) (ap_is_name : AP) (ap_are_marks : AP) (ap_within_bounds : AP) : TS :=
    (tSeq (Ga.tForY (Ga.yArgs 1 [] (tCons (tVar 0) tNil)) ["root", "waiting", "path", "item", "at"] (tq_walk K ap_is_part) (gTup K 2 (gCons (gName 1) (gCons (gName 2) gNil))) (tSeq (tIfS (tB (tCB (rIsi K) (tCons (tVar 2) (tCons (tC (.ty "str")) tNil)))) (tAsg (tCall (toSp K ap_is_text) [] E0 (tCons (tVar 2) tNil)) (gName 3)) (tIfS (tB (tCall (toSp K ap_is_part) [] E0 (tCons (tVar 2) tNil))) (tAsg (tAndV (tCall (toSp K ap_is_name) [] E0 (tCons (tOp (rIx K) (tVar 2) (tC (.int 0))) tNil)) (tCall (toSp K ap_are_marks) [] E0 (tCons (tOp (rIx K) (tVar 2) (tC (.int 1))) tNil))) (gName 3)) (tAsg (tCall (toSp K ap_is_name) [] E0 (tCons (tOp (rIx K) (tVar 2) (tC (.int 1))) tNil)) (gName 3))))
    (tIfS (tNot (tB (tVar 3))) (tRet (tC (.bl false))) tNext)))
    (tRet (tCall (toSp K ap_within_bounds) [] E0 (tCons (tVar 0) tNil))))
noncomputable def tq_read_alone (K : PySem.W.Frag) (c_BadDocument : Addr) (ap_read_item : APX) (ap_is_sound : AP) (ap_write_item : AP) (W : WX) : TS :=
    (tSeq (tAsg (tCallX K ap_read_item W (tCons (tVar 0) (tCons (tC (.int 0)) (tCons (tC (.int 1)) tNil)))) (gTup K 2 (gCons (gName 1) (gCons (gName 2) gNil))))
    (tSeq (tIfS (tOr (tTest (tOp (rNeG K) (tVar 2) (tCB (rLenV K) (tCons (tVar 0) tNil)))) (tOr (tNot (tB (tCall (toSp K ap_is_sound) [] E0 (tCons (tVar 1) tNil)))) (tTest (tOp (rNeG K) (tCall (toSp K ap_write_item) [] E0 (tCons (tVar 1) tNil)) (tVar 0))))) (tRaise W (.ref c_BadDocument)) tNext)
    (tRet (tVar 1))))
noncomputable def tq_read_document (K : PySem.W.Frag) (c_BadDocument : Addr) (ap_read_alone : APX) (ap_is_part : AP) (W : WX) : TS :=
    (tSeq (tAsg (tCallX K ap_read_alone W (tCons (tVar 0) tNil)) (gName 1))
    (tSeq (tIfS (tNot (tB (tCall (toSp K ap_is_part) [] E0 (tCons (tVar 1) tNil)))) (tRaise W (.ref c_BadDocument)) tNext)
    (tRet (tVar 1))))
noncomputable def tq_read (K : PySem.W.Frag) (c_BadDocument : Addr) (ap_read_document : APX) : TS :=
    (tSeq (tAsg (tC .non) (gName 1))
    (tSeq (tTryO K (.ref c_BadDocument) (fun W1 => (tAsg (tLst (tCons (tCallX K ap_read_document W1 (tCons (tVar 0) tNil)) tNil)) (gName 1))) (tAsg (tC .non) (gName 1)) (fun _ _ _ _ => False))
    (tRet (tVar 1))))
noncomputable def ap_snd : AP := fun as Post => ∃ (t : Tr) (wd : Nat), as = [.val t.dt] ∧ t.sz ≤ 1000 ∧ t.dep ≤ 30 ∧ TrOk wd t ∧ Post (.val (.bl (inB t))) as
theorem run_snd {K : PySem.W.Frag} : RunOk K [] (tq_is_sound K ap_isp ap_ist ap_isn ap_arm ap_wb) 4 ap_snd := by
  rintro as Post ⟨t, wd, rfl, hsz, hdp, hok, k⟩
  unfold tq_is_sound
  show WS K [] _ [.val t.dt, .un, .un, .un] _
  walk_at "es"
  refine ws_forY run_walk ?_
  walk_at "es"
  refine ⟨rfl, _, ⟨t, rfl, hsz, hdp, rfl⟩, fun j G => ∃ s1 s2 s3, G = [.val t.dt, s1, s2, s3], ⟨_, _, _, rfl⟩, ?_, ?_⟩
  · rintro G ⟨s1, s2, s3, rfl⟩
    walk_at "es"
    refine .a ⟨t, wd, rfl, hsz, hdp, hok, ?_⟩
    walk_at "es"
    exact k
  · rintro j d G hd ⟨s1, s2, s3, rfl⟩
    rw [List.getElem?_map] at hd
    cases hu : (flat t [])[j]? with
    | none => rw [hu] at hd; cases hd
    | some a =>
      rw [hu] at hd; cases hd
      obtain ⟨q, u⟩ := a
      have huok : TrOk wd u := by
        obtain ⟨r, _, h2⟩ := flat_at t [] (q, u) (List.mem_of_getElem? hu)
        exact at_ok hok h2
      unfold Rw.dt
      unfold TrOk at huok
      walk_at "es"
      cases u with
      | txt z =>
        rw [Tr.All] at huok
        rw [Tr.dt]
        have hz : z.length ≤ 60 := huok.2.1
        have ht := tx_true huok.1 hz huok.2.2
        walk_at "es"
        refine .a ⟨z, rfl, by omega, ?_⟩
        rw [ht]
        walk_at "es"
        exact ⟨_, _, _, rfl⟩
      | lab z =>
        rw [Tr.All] at huok
        rw [Tr.dt]
        have hz : z.length ≤ 8 := huok.1.1
        have ht := nm_true huok
        walk_at "es"
        refine .a ⟨.lab z, by rw [Tr.dt]; rfl, ?_⟩
        rw [show isP (.lab z) = false from rfl]
        walk_at "es"
        refine .a ⟨z, rfl, by omega, ?_⟩
        rw [ht]
        walk_at "es"
        exact ⟨_, _, _, rfl⟩
      | ref z =>
        rw [Tr.All] at huok
        rw [Tr.dt]
        have hz : z.length ≤ 8 := huok.1.1
        have ht := nm_true huok
        walk_at "es"
        refine .a ⟨.ref z, by rw [Tr.dt]; rfl, ?_⟩
        rw [show isP (.ref z) = false from rfl]
        walk_at "es"
        refine .a ⟨z, rfl, by omega, ?_⟩
        rw [ht]
        walk_at "es"
        exact ⟨_, _, _, rfl⟩
      | part kd ms its =>
        rw [Tr.All] at huok
        rw [dt_part]
        have hz : kd.length ≤ 8 := huok.1.1.1.1
        have ht := nm_true huok.1.1
        have hm3 : ms.length ≤ 3 := huok.1.2.1.1
        have hm := mk_true huok.1.2.1
        walk_at "es"
        refine .a ⟨.part kd ms its, by rw [dt_part]; rfl, ?_⟩
        rw [show isP (.part kd ms its) = true from rfl]
        walk_at "es"
        refine .a ⟨kd, rfl, by omega, ?_⟩
        rw [ht]
        walk_at "es"
        refine .a ⟨ms, rfl, by omega, fun y hy => by have := (huok.1.2.1.2.1 y hy).1.1; omega, ?_⟩
        rw [hm]
        walk_at "es"
        exact ⟨_, _, _, rfl⟩
noncomputable def ap_ral (c : Addr) : APX := fun as Post XP => ∃ (u : Tr) (n : Nat), as = [.val (.str (S (wl u)))] ∧ TrOk n u ∧ u.sz ≤ 1000 ∧ u.dep ≤ 30 ∧ (inB u = true → Post (.val u.dt) as) ∧ (inB u = false → XP (.ref c) [] as)
theorem run_ral {K : PySem.W.Frag} {c : Addr} : RunOkX K [] (fun W => tq_read_alone K c (ap_rdX c 7) ap_snd ap_witem W) 3 (ap_ral c) := by
  rintro W as Post XP ⟨u, n, rfl, hok, hsz, hdp, k, kx⟩
  have hl := wl_len u hok
  have e0 : ([] : List Nat) ++ (wl u ++ []) = wl u := by simp
  have e1 : (((([] : List Nat).length + (wl u).length : Nat) : Int)) = ((wl u).length : Int) := by simp
  unfold tq_read_alone
  show WS K [] _ [.val (.str (S (wl u))), .un, .un] _
  walk_at "es"
  refine .a ⟨[], [], u, 1, n, by rw [e0]; rfl, by omega, by omega, by omega, hok, (fun _ h => nomatch h), by simp only [List.length_nil]; omega, fun hd => ?_, fun hd => ?_⟩
  · rw [e1]
    walk_at "es"
    refine lenp_s (by rw [S_len]; omega) ?_
    rw [S_len]
    walk_at "es"
    refine .a ⟨u, n, rfl, hsz, hdp, hok, ?_⟩
    cases hb : inB u with
    | false =>
      walk_at "es"
      exact kx hb
    | true =>
      walk_at "es"
      refine .a ⟨u, n, rfl, hsz, hdp, hok, ?_⟩
      walk_at "es"
      exact k hb
  · have hb : inB u = false := by
      rw [in_let]
      unfold letB
      rw [decide_eq_false (show ¬ u.dep ≤ 6 by omega)]
      simp
    walk_at "es"
    exact kx hb
noncomputable def ap_rdoc (c : Addr) : APX := fun as Post XP => ∃ (u : Tr) (n : Nat), as = [.val (.str (S (wl u)))] ∧ isP u = true ∧ TrOk n u ∧ u.sz ≤ 1000 ∧ u.dep ≤ 30 ∧ (inB u = true → Post (.val u.dt) as) ∧ (inB u = false → XP (.ref c) [] as)
theorem run_rdoc {K : PySem.W.Frag} {c : Addr} : RunOkX K [] (fun W => tq_read_document K c (ap_ral c) ap_isp W) 2 (ap_rdoc c) := by
  rintro W as Post XP ⟨u, n, rfl, hp, hok, hsz, hdp, k, kx⟩
  unfold tq_read_document
  show WS K [] _ [.val (.str (S (wl u))), .un] _
  walk_at "es"
  refine .a ⟨u, n, rfl, hok, hsz, hdp, fun hb => ?_, fun hb => ?_⟩
  · walk_at "es"
    refine .a ⟨u, rfl, ?_⟩
    rw [hp]
    walk_at "es"
    exact k hb
  · walk_at "es"
    exact kx hb
noncomputable def ap_lread : AP := fun as Post => ∃ (u : Tr) (n : Nat), as = [.val (.str (S (wl u)))] ∧ isP u = true ∧ TrOk n u ∧ u.sz ≤ 1000 ∧ u.dep ≤ 30 ∧ (inB u = true → Post (.new [u.dt]) as) ∧ (inB u = false → Post (.val (.raw .non)) as)
theorem run_lread {K : PySem.W.Frag} {c : Addr} (h : PySem.W.exmOne K (.ref c) (.ref c) = some true) : RunOk K [] (tq_read K c (ap_rdoc c)) 2 ap_lread := by
  rintro as Post ⟨u, n, rfl, hp, hok, hsz, hdp, k1, k2⟩
  unfold tq_read
  show WS K [] _ [.val (.str (S (wl u))), .un] _
  walk_at "es"
  refine (ws_tryO (fun cls fs G => cls = .ref c ∧ inB u = false ∧ G = [.val (.str (S (wl u))), .val (.raw .non)]) (fun W => ?_) ?_)
  · refine ws_asgX rfl rfl (wx_lst1 (wx_call rfl ?_))
    walk_at "es"
    refine .a ⟨u, n, rfl, hp, hok, hsz, hdp, fun hb => ?_, fun hb => ?_⟩
    · walk_at "es"
      exact k1 hb
    · exact .a ⟨rfl, hb, rfl⟩
  · rintro cls fs G ⟨rfl, hb, rfl⟩
    refine ⟨true, h, fun _ => ?_, fun h => nomatch h⟩
    walk_at "es"
    exact k2 hb
end
section
open PySem L2 Ab
noncomputable def EdOk : Ed → Prop
  | .put _ u => TrOk 12 u ∧ u.dep ≤ 8 ∧ u.sz ≤ 61
  | .text _ z => 0 < z.length ∧ z.length ≤ 60 ∧ Tx z
  | .kind _ z => Nm z ∧ 0 < z.length
  | .marks _ ms => Mk ms
  | .wrap _ _ kd ms => (Nm kd ∧ 0 < kd.length) ∧ Mk ms
  | _ => True
structure Mad (x : Int) (c c' : Int) (zs zs' : List Str) (w : Str) (p : List Int) (e : Ed) : Prop where
  c0 : c ≤ c' ∧ zs.length ≤ zs'.length
  c1 : c' ≤ c + x
  z1 : zs'.length ≤ zs.length + 600
  nm : ∀ z ∈ zs', Nm1 z
  path : e.path = p
  word : e.word = w
  ok : EdOk e
end
section
open PySem L2 Ab
section
variable {K : PySem.W.Frag}
end
end
section
open PySem L2 Ab
theorem ok_up {a b : Nat} (h : a ≤ b) : ∀ t : Tr, TrOk a t → TrOk b t := by
  intro t
  refine Tr.ind (P := fun t => TrOk a t → TrOk b t) ?_ ?_ ?_ ?_ t
  · intro z h; unfold TrOk at h ⊢; rw [Tr.All] at h ⊢; exact h
  · intro z h; unfold TrOk at h ⊢; rw [Tr.All] at h ⊢; exact h
  · intro z h; unfold TrOk at h ⊢; rw [Tr.All] at h ⊢; exact h
  · intro kd ms its ih h1
    unfold TrOk at h1 ⊢
    rw [Tr.All] at h1 ⊢
    exact ⟨⟨h1.1.1, h1.1.2.1, Nat.le_trans h1.1.2.2 h⟩, alls_iff.mpr fun t ht => ih t ht (alls_iff.mp h1.2 t ht)⟩
structure RwOk (wd S D : Nat) (l : List Tr) : Prop where
  ok : ∀ x ∈ l, TrOk wd x
  sz : (l.map Tr.sz).sum ≤ S
  dp : Tr.deps l ≤ D
end
section
open PySem L2 Ab
theorem okAll_map {α : Type} {f : α → Dt} : ∀ {xs : List α}, (∀ x ∈ xs, okD (f x) = true) → okAll (xs.map f) = true
  | [], _ => by rw [List.map_nil, okAll]
  | x :: r, h => by rw [List.map_cons, okAll, h x List.mem_cons_self, okAll_map fun y hy => h y (List.mem_cons_of_mem _ hy)]; rfl
theorem depAll_map {α : Type} {f : α → Dt} {n : Nat} : ∀ {xs : List α}, (∀ x ∈ xs, depD (f x) ≤ n) → depAll (xs.map f) ≤ n
  | [], _ => by rw [List.map_nil, depAll]; omega
  | x :: r, h => by
    have := h x List.mem_cons_self
    have := depAll_map (f := f) (n := n) fun y hy => h y (List.mem_cons_of_mem _ hy)
    rw [List.map_cons, depAll]
    omega

theorem tr_okD : ∀ (t : Tr), TrOk 40 t → okD t.dt = true ∧ depD t.dt ≤ 2 * t.dep + 1 := by
  intro t
  refine Tr.ind (P := fun t => TrOk 40 t → okD t.dt = true ∧ depD t.dt ≤ 2 * t.dep + 1) ?_ ?_ ?_ ?_ t
  · intro z _; rw [Tr.dt]; exact ⟨rfl, by rw [depD]; omega⟩
  · intro z _; rw [Tr.dt]; exact ⟨by simp [okD, okAll], by simp [depD, depAll]⟩
  · intro z _; rw [Tr.dt]; exact ⟨by simp [okD, okAll], by simp [depD, depAll]⟩
  · intro kd ms its ih h
    unfold TrOk at h
    rw [Tr.All] at h
    obtain ⟨⟨hk, hm, hl⟩, ha⟩ := h
    have hm3 : ms.length ≤ 3 := hm.1
    have ih2 : ∀ x ∈ its, okD x.dt = true ∧ depD x.dt ≤ 2 * Tr.deps its + 1 := fun x hx => by
      have h1 := ih x hx (alls_iff.mp ha x hx)
      have h2 : x.dep ≤ Tr.deps its := deps_le.mp (Nat.le_refl _) x hx
      exact ⟨h1.1, by omega⟩
    have o1 : okAll (ms.map Dt.str) = true := okAll_map fun y _ => by rw [okD]
    have o2 : okAll (its.map Tr.dt) = true := okAll_map fun y hy => (ih2 y hy).1
    have d1 := depAll_map (f := Dt.str) (xs := ms) (n := 0) fun y _ => by rw [depD]; exact Nat.le_refl _
    have d2 := depAll_map (f := Tr.dt) (xs := its) (n := 2 * Tr.deps its + 1) fun y hy => (ih2 y hy).2
    rw [dt_part]
    refine ⟨?_, ?_⟩
    · simp only [okD, okAll, o1, o2, List.length_map, List.length_cons, List.length_nil, Bool.and_true, Bool.true_and, Bool.and_eq_true, decide_eq_true_eq]
      omega
    · rw [depD, depAll, depAll, depAll, depAll, depD, depD, depD, Tr.dep]
      omega
end
section
open PySem L2 Ab
section
variable {K : PySem.W.Frag}
end
end
namespace Lk10
open PySem L2 Ab Doc
local macro_rules | `(tactic| walk_at "lenX") => `(tactic| ((intro as Post XP h); (repeat (first | (obtain ⟨e, _⟩ := h; exact (congrArg List.length e).trans rfl) | (obtain ⟨_, h⟩ := h)))))
theorem fn_neverX {P : Program} {w : World} {K : PySem.W.Frag} {mg : Str → Option Value} {base : Heap} {x qual : Str} {st : Stmt} {f : Addr} {fd : FuncData} {N ps : List Str} {k : Nat} {ap : APX} (F : Fun K x qual st f fd) (S : FnScope N ps (defScope st)) (h0 : ∀ as Post XP, ¬ ap as Post XP) :
    FnOk P w K mg base (L2.CX P w) (k + 1) f fd ps (toSpX K ap) := by
  refine F.okX S (fun vs H Q E h => ?_) (fun cdv A outer s H vs Q E hr h => ?_)
  · obtain ⟨_, _, _, _, _, z, _⟩ := h; exact (h0 _ _ _ z).elim
  · obtain ⟨_, _, _, _, _, z, _⟩ := h; exact (h0 _ _ _ z).elim
noncomputable def ap_law : AP := fun as Post => ∃ ns, as = [.val (.scr ns)] ∧ Post (.val (.bl true)) [.val (.scr ns)]
section
variable {P : Program} {w : World} {K : PySem.W.Frag} {mg : Str → Option Value} {base : Heap}
theorem ok__law_pool (T : Txt K mg) : FnOk P w K mg base CX0 1 T.f__law_pool T.fd__law_pool ["_law_script", "_law_at"] (toSp K (ap_pool)) := by
  exact fn_ab [] T.F__law_pool sc__law_pool (by walk_at "len") rfl (fun cdv A outer s H E hr => ⟨_, tm__law_pool T cdv A outer s H E hr, run_tPool⟩)
theorem ok__law_take (T : Txt K mg) : FnOk P w K mg base CX0 1 T.f__law_take T.fd__law_take ["_law_pool_here", "_law_many"] (toSp K (ap_take)) := by
  exact fn_ab [0] T.F__law_take sc__law_take (by walk_at "len") rfl (fun cdv A outer s H E hr => ⟨_, tm__law_take T cdv A outer s H E hr, run_tTakeA⟩)
theorem ok__law_letters (T : Txt K mg) : FnOk P w K mg base CX0 2 T.f__law_letters T.fd__law_letters ["_law_pool_here", "_law_many"] (toSp K (ap_let)) := by
  have G__law_take := ok__law_take (P := P) (w := w) (base := base) T
  exact fn_ab [0] T.F__law_letters sc__law_letters (by walk_at "len") rfl (fun cdv A outer s H E hr => ⟨_, tm__law_letters T G__law_take cdv A outer s H E hr, run_let⟩)
theorem ok__law_name (T : Txt K mg) : FnOk P w K mg base CX0 3 T.f__law_name T.fd__law_name ["_law_pool_here", "_law_names"] (toSp K (ap_name)) := by
  have G__law_take := ok__law_take (P := P) (w := w) (base := base) T
  have G__law_letters := ok__law_letters (P := P) (w := w) (base := base) T
  exact fn_ab [0, 1] T.F__law_name sc__law_name (by walk_at "len") rfl (fun cdv A outer s H E hr => ⟨_, tm__law_name T G__law_take G__law_letters cdv A outer s H E hr, run_name⟩)
theorem ok__law_marks (T : Txt K mg) : FnOk P w K mg base CX0 4 T.f__law_marks T.fd__law_marks ["_law_pool_here", "_law_names"] (toSp K (ap_marks)) := by
  have G__law_take := ok__law_take (P := P) (w := w) (base := base) T
  have G__law_name := ok__law_name (P := P) (w := w) (base := base) T
  exact fn_ab [0, 1] T.F__law_marks sc__law_marks (by walk_at "len") rfl (fun cdv A outer s H E hr => ⟨_, tm__law_marks T G__law_take G__law_name cdv A outer s H E hr, run_marks⟩)
theorem ok__law_prose (T : Txt K mg) : FnOk P w K mg base CX0 2 T.f__law_prose T.fd__law_prose ["_law_pool_here", "_law_many"] (toSp K (ap_prose)) := by
  have G__law_take := ok__law_take (P := P) (w := w) (base := base) T
  exact fn_ab [0] T.F__law_prose sc__law_prose (by walk_at "len") rfl (fun cdv A outer s H E hr => ⟨_, tm__law_prose T G__law_take cdv A outer s H E hr, run_prose⟩)
theorem ok__law_text (T : Txt K mg) : FnOk P w K mg base CX0 3 T.f__law_text T.fd__law_text ["_law_pool_here", "_law_budget"] (toSp K (ap_text)) := by
  have G__law_take := ok__law_take (P := P) (w := w) (base := base) T
  have G__law_prose := ok__law_prose (P := P) (w := w) (base := base) T
  exact fn_ab [0, 1] T.F__law_text sc__law_text (by walk_at "len") rfl (fun cdv A outer s H E hr => ⟨_, tm__law_text T G__law_take G__law_prose cdv A outer s H E hr, run_text⟩)
theorem ok_part_of (T : Txt K mg) {m : Nat} (hm : m ≤ 20) (Gi : FnOk P w K mg base CX0 (2 * m + 5) T.f__law_item T.fd__law_item ["_law_pool_here", "_law_names", "_law_budget", "_law_depth"] (toSp K (ap_item m))) :
    FnOk P w K mg base CX0 (2 * m + 5 + 1) T.f__law_part T.fd__law_part ["_law_pool_here", "_law_names", "_law_budget", "_law_depth"] (toSp K (ap_part m)) :=
  fn_ab [0, 1, 2] T.F__law_part sc__law_part (by walk_at "len") rfl (fun cdv A outer s H E hr => ⟨_, tm__law_part T (by omega) (ok__law_name T) (ok__law_marks T) (ok__law_take T) Gi cdv A outer s H E hr, run_part hm⟩)
theorem okn__law_item (T : Txt K mg) : ∀ m, m ≤ 20 → FnOk P w K mg base CX0 (2 * m + 5) T.f__law_item T.fd__law_item ["_law_pool_here", "_law_names", "_law_budget", "_law_depth"] (toSp K (ap_item m))
  | 0, _ => fn_ab (k := 4) [0, 1, 2] T.F__law_item sc__law_item (by walk_at "len") rfl (fun cdv A outer s H E hr => ⟨_, tm__law_item T (by omega) (ok__law_take T) (fn_never (k := 3) T.F__law_part sc__law_part) (ok__law_name T) (ok__law_text T) cdv A outer s H E hr, run_item (m := 0) (by rintro as Post ⟨ds, c, zs, b0, b1, b2, b3, b4, dep, rfl, _, _, _, h1, h2, _⟩; omega)⟩)
  | m + 1, hm => by
    have Gp := ok_part_of (P := P) (w := w) (base := base) T (m := m) (by omega) (okn__law_item T m (by omega))
    rw [show 2 * (m + 1) + 5 = 2 * m + 5 + 1 + 1 by omega]
    refine fn_ab [0, 1, 2] T.F__law_item sc__law_item (by walk_at "len") rfl (fun cdv A outer s H E hr => ⟨_, tm__law_item T (by omega) (ok__law_take T) Gp (ok__law_name T) (ok__law_text T) cdv A outer s H E hr, run_item (m := m + 1) ?_⟩)
    rintro as Post ⟨ds, c, zs, b0, b1, b2, b3, b4, dep, e, h0, hb, hz, h1, h2, k⟩
    exact ⟨ds, c, zs, b0, b1, b2, b3, b4, dep, e, h0, hb, hz, by omega, fun ds' c' zs' b0' b1' b2' kd ms ts hp hg => k ds' c' zs' b0' b1' b2' _ hp hg⟩
theorem ok__law_item (T : Txt K mg) : FnOk P w K mg base CX0 43 T.f__law_item T.fd__law_item ["_law_pool_here", "_law_names", "_law_budget", "_law_depth"] (toSp K (ap_item 19)) := okn__law_item T 19 (by omega)
theorem ok__law_part (T : Txt K mg) : FnOk P w K mg base CX0 44 T.f__law_part T.fd__law_part ["_law_pool_here", "_law_names", "_law_budget", "_law_depth"] (toSp K (ap_part 19)) := ok_part_of (m := 19) T (by omega) (ok__law_item T)
theorem ok__law_wrapped (T : Txt K mg) : FnOk P w K mg base CX0 4 T.f__law_wrapped T.fd__law_wrapped ["_law_pool_here", "_law_names", "_law_item_here", "_law_many"] (toSp K (ap_wrapped)) := by
  have G__law_name := ok__law_name (P := P) (w := w) (base := base) T
  exact fn_ab [0, 1] T.F__law_wrapped sc__law_wrapped (by walk_at "len") rfl (fun cdv A outer s H E hr => ⟨_, tm__law_wrapped T G__law_name cdv A outer s H E hr, run_wrapped⟩)
theorem ok__law_leaf (T : Txt K mg) : FnOk P w K mg base CX0 4 T.f__law_leaf T.fd__law_leaf ["_law_pool_here", "_law_names"] (toSp K (ap_leaf)) := by
  have G__law_take := ok__law_take (P := P) (w := w) (base := base) T
  have G__law_name := ok__law_name (P := P) (w := w) (base := base) T
  have G__law_prose := ok__law_prose (P := P) (w := w) (base := base) T
  exact fn_ab [0, 1] T.F__law_leaf sc__law_leaf (by walk_at "len") rfl (fun cdv A outer s H E hr => ⟨_, tm__law_leaf T G__law_take G__law_name G__law_prose cdv A outer s H E hr, run_leaf⟩)
theorem okn__law_paths (T : Txt K mg) : ∀ n, FnOk P w K mg base CX0 (n + 2) T.f__law_paths T.fd__law_paths ["_law_item_here", "_law_path"] (toSp K (ap_paths n))
  | 0 => fn_ab [] T.F__law_paths sc__law_paths (by walk_at "len") rfl (fun cdv A outer s H E hr => ⟨_, tm__law_paths T (fn_never (k := 0) T.F__law_paths sc__law_paths) cdv A outer s H E hr, run_paths (fun t p Post h => absurd h (Nat.not_lt_zero _))⟩)
  | n + 1 => fn_ab [] T.F__law_paths sc__law_paths (by walk_at "len") rfl (fun cdv A outer s H E hr => ⟨_, tm__law_paths T (okn__law_paths T n) cdv A outer s H E hr, run_paths (fun t p Post h1 h2 h3 h4 => ⟨t, p, rfl, by omega, h2, h3, h4⟩)⟩)
theorem ok__law_paths (T : Txt K mg) : FnOk P w K mg base CX0 30 T.f__law_paths T.fd__law_paths ["_law_item_here", "_law_path"] (toSp K (ap_paths 28)) := okn__law_paths T 28
theorem okn__law_sizes (T : Txt K mg) : ∀ n, FnOk P w K mg base CX0 (n + 2) T.f__law_sizes T.fd__law_sizes ["_law_item_here", "_law_depth"] (toSp K (ap_sizes n))
  | 0 => fn_ab [] T.F__law_sizes sc__law_sizes (by walk_at "len") rfl (fun cdv A outer s H E hr => ⟨_, tm__law_sizes T (fn_never (k := 0) T.F__law_sizes sc__law_sizes) cdv A outer s H E hr, run_sizes (fun t d Post h => absurd h (Nat.not_lt_zero _))⟩)
  | n + 1 => fn_ab [] T.F__law_sizes sc__law_sizes (by walk_at "len") rfl (fun cdv A outer s H E hr => ⟨_, tm__law_sizes T (okn__law_sizes T n) cdv A outer s H E hr, run_sizes (fun t d Post h1 h2 h3 h4 => ⟨t, d, rfl, by omega, h2, h3, h4⟩)⟩)
theorem ok__law_sizes (T : Txt K mg) : FnOk P w K mg base CX0 30 T.f__law_sizes T.fd__law_sizes ["_law_item_here", "_law_depth"] (toSp K (ap_sizes 28)) := okn__law_sizes T 28
theorem ok__law_let (T : Txt K mg) : FnOk P w K mg base CX0 31 T.f__law_let T.fd__law_let ["_law_root"] (toSp K (ap_let2)) := by
  have G__law_sizes := ok__law_sizes (P := P) (w := w) (base := base) T
  exact fn_ab [] T.F__law_let sc__law_let (by walk_at "len") rfl (fun cdv A outer s H E hr => ⟨_, tm__law_let T G__law_sizes cdv A outer s H E hr, run_let2⟩)
theorem okn__law_same (T : Txt K mg) : ∀ n, FnOk P w K mg base CX0 (n + 2) T.f__law_same T.fd__law_same ["_law_one", "_law_two"] (toSp K (ap_same n))
  | 0 => fn_ab [0, 1] T.F__law_same sc__law_same (by walk_at "len") rfl (fun cdv A outer s H E hr => ⟨_, tm__law_same T (fn_never (k := 0) T.F__law_same sc__law_same) cdv A outer s H E hr, run_tSame (fun d Post _ h => absurd h (Nat.not_lt_zero _))⟩)
  | n + 1 => fn_ab [0, 1] T.F__law_same sc__law_same (by walk_at "len") rfl (fun cdv A outer s H E hr => ⟨_, tm__law_same T (okn__law_same T n) cdv A outer s H E hr, run_tSame (fun d Post ok h p => ⟨.val d, .val d, d, rfl, rfl, rfl, ok, Nat.le_of_lt_succ h, p⟩)⟩)
theorem ok__law_same (T : Txt K mg) : FnOk P w K mg base CX0 60 T.f__law_same T.fd__law_same ["_law_one", "_law_two"] (toSp K (ap_same 58)) := okn__law_same T 58
theorem ok__law_full_row (T : Txt K mg) : FnOk P w K mg base CX0 5 T.f__law_full_row T.fd__law_full_row ["_law_pool_here", "_law_names", "_law_shift"] (toSp K (ap_big 600 40)) := by
  have G__law_leaf := ok__law_leaf (P := P) (w := w) (base := base) T
  have G__law_marks := ok__law_marks (P := P) (w := w) (base := base) T
  have G__law_name := ok__law_name (P := P) (w := w) (base := base) T
  have G__law_wrapped := ok__law_wrapped (P := P) (w := w) (base := base) T
  have G__law_take := ok__law_take (P := P) (w := w) (base := base) T
  exact fn_ab [0, 1] T.F__law_full_row sc__law_full_row (by walk_at "len") rfl (fun cdv A outer s H E hr => ⟨_, tm__law_full_row T G__law_leaf G__law_marks G__law_name G__law_wrapped G__law_take cdv A outer s H E hr, run_row⟩)
theorem ok__law_full_count (T : Txt K mg) : FnOk P w K mg base CX0 5 T.f__law_full_count T.fd__law_full_count ["_law_pool_here", "_law_names", "_law_shift"] (toSp K (ap_big 1600 90)) := by
  have G__law_take := ok__law_take (P := P) (w := w) (base := base) T
  have G__law_leaf := ok__law_leaf (P := P) (w := w) (base := base) T
  have G__law_name := ok__law_name (P := P) (w := w) (base := base) T
  exact fn_ab [0, 1] T.F__law_full_count sc__law_full_count (by walk_at "len") rfl (fun cdv A outer s H E hr => ⟨_, tm__law_full_count T G__law_take G__law_leaf G__law_name cdv A outer s H E hr, run_count⟩)
theorem ok__law_full_prose (T : Txt K mg) : FnOk P w K mg base CX0 5 T.f__law_full_prose T.fd__law_full_prose ["_law_pool_here", "_law_names", "_law_shift"] (toSp K (ap_big 1600 90)) := by
  have G__law_take := ok__law_take (P := P) (w := w) (base := base) T
  have G__law_prose := ok__law_prose (P := P) (w := w) (base := base) T
  have G__law_wrapped := ok__law_wrapped (P := P) (w := w) (base := base) T
  have G__law_name := ok__law_name (P := P) (w := w) (base := base) T
  exact fn_ab [0, 1] T.F__law_full_prose sc__law_full_prose (by walk_at "len") rfl (fun cdv A outer s H E hr => ⟨_, tm__law_full_prose T G__law_take G__law_prose G__law_wrapped G__law_name cdv A outer s H E hr, run_fprose⟩)
theorem ok__law_full_depth (T : Txt K mg) : FnOk P w K mg base CX0 5 T.f__law_full_depth T.fd__law_full_depth ["_law_pool_here", "_law_names", "_law_shift"] (toSp K (ap_big 1600 90)) := by
  have G__law_marks := ok__law_marks (P := P) (w := w) (base := base) T
  have G__law_name := ok__law_name (P := P) (w := w) (base := base) T
  have G__law_take := ok__law_take (P := P) (w := w) (base := base) T
  have G__law_leaf := ok__law_leaf (P := P) (w := w) (base := base) T
  exact fn_ab [0, 1] T.F__law_full_depth sc__law_full_depth (by walk_at "len") rfl (fun cdv A outer s H E hr => ⟨_, tm__law_full_depth T G__law_marks G__law_name G__law_take G__law_leaf cdv A outer s H E hr, run_depth⟩)
theorem ok__law_full_refs (T : Txt K mg) : FnOk P w K mg base CX0 5 T.f__law_full_refs T.fd__law_full_refs ["_law_pool_here", "_law_names", "_law_shift"] (toSp K (ap_big 1600 90)) := by
  have G__law_name := ok__law_name (P := P) (w := w) (base := base) T
  have G__law_wrapped := ok__law_wrapped (P := P) (w := w) (base := base) T
  have G__law_take := ok__law_take (P := P) (w := w) (base := base) T
  have G__law_leaf := ok__law_leaf (P := P) (w := w) (base := base) T
  exact fn_ab [0, 1] T.F__law_full_refs sc__law_full_refs (by walk_at "len") rfl (fun cdv A outer s H E hr => ⟨_, tm__law_full_refs T G__law_name G__law_wrapped G__law_take G__law_leaf cdv A outer s H E hr, run_refs⟩)
theorem ok__law_edge (T : Txt K mg) : FnOk P w K mg base CX0 6 T.f__law_edge T.fd__law_edge ["_law_pool_here", "_law_names", "_law_shift"] (toSp K (ap_edge)) := by
  have G__law_take := ok__law_take (P := P) (w := w) (base := base) T
  have G__law_full_row := ok__law_full_row (P := P) (w := w) (base := base) T
  have G__law_full_count := ok__law_full_count (P := P) (w := w) (base := base) T
  have G__law_full_prose := ok__law_full_prose (P := P) (w := w) (base := base) T
  have G__law_full_depth := ok__law_full_depth (P := P) (w := w) (base := base) T
  have G__law_full_refs := ok__law_full_refs (P := P) (w := w) (base := base) T
  exact fn_ab [0, 1] T.F__law_edge sc__law_edge (by walk_at "len") rfl (fun cdv A outer s H E hr => ⟨_, tm__law_edge T G__law_take G__law_full_row G__law_full_count G__law_full_prose G__law_full_depth G__law_full_refs cdv A outer s H E hr, run_edge⟩)
theorem ok_is_name (T : Txt K mg) : FnOk P w K mg base CX0 1 T.f_is_name T.fd_is_name ["word"] (toSp K (ap_isn)) := by
  exact fn_ab [] T.F_is_name sc_is_name (by walk_at "len") rfl (fun cdv A outer s H E hr => ⟨_, tm_is_name T cdv A outer s H E hr, run_isn⟩)
theorem ok_is_text (T : Txt K mg) : FnOk P w K mg base CX0 1 T.f_is_text T.fd_is_text ["word"] (toSp K (ap_ist)) := by
  exact fn_ab [] T.F_is_text sc_is_text (by walk_at "len") rfl (fun cdv A outer s H E hr => ⟨_, tm_is_text T cdv A outer s H E hr, run_ist⟩)
theorem ok_are_marks (T : Txt K mg) : FnOk P w K mg base CX0 2 T.f_are_marks T.fd_are_marks ["words"] (toSp K (ap_arm)) := by
  have G_is_name := ok_is_name (P := P) (w := w) (base := base) T
  exact fn_ab [] T.F_are_marks sc_are_marks (by walk_at "len") rfl (fun cdv A outer s H E hr => ⟨_, tm_are_marks T G_is_name cdv A outer s H E hr, run_arm⟩)
theorem ok_is_part (T : Txt K mg) : FnOk P w K mg base CX0 1 T.f_is_part T.fd_is_part ["item"] (toSp K (ap_isp)) := by
  exact fn_ab [] T.F_is_part sc_is_part (by walk_at "len") rfl (fun cdv A outer s H E hr => ⟨_, tm_is_part T cdv A outer s H E hr, run_isp⟩)
theorem ok_within_bounds (T : Txt K mg) : FnOk P w K mg base CX0 4 T.f_within_bounds T.fd_within_bounds ["root"] (toSp K (ap_wb)) := by
  have G_is_part := ok_is_part (P := P) (w := w) (base := base) T
  exact fn_ab [] T.F_within_bounds sc_within_bounds (by walk_at "len") rfl (fun cdv A outer s H E hr => ⟨_, tm_within_bounds T G_is_part cdv A outer s H E hr, run_wb⟩)
theorem ok_write_leaf (T : Txt K mg) : FnOk P w K mg base CX0 1 T.f_write_leaf T.fd_write_leaf ["item"] (toSp K (ap_wleaf)) := by
  exact fn_ab [] T.F_write_leaf sc_write_leaf (by walk_at "len") rfl (fun cdv A outer s H E hr => ⟨_, tm_write_leaf T cdv A outer s H E hr, run_wleaf⟩)
theorem ok_write_document (T : Txt K mg) : FnOk P w K mg base CX0 4 T.f_write_document T.fd_write_document ["root"] (toSp K (ap_wdoc)) := by
  have G_is_part := ok_is_part (P := P) (w := w) (base := base) T
  have G_write_leaf := ok_write_leaf (P := P) (w := w) (base := base) T
  exact fn_ab [] T.F_write_document sc_write_document (by walk_at "len") rfl (fun cdv A outer s H E hr => ⟨_, tm_write_document T G_is_part G_write_leaf cdv A outer s H E hr, run_wdoc⟩)
theorem ok_write_item (T : Txt K mg) : FnOk P w K mg base CX0 5 T.f_write_item T.fd_write_item ["item"] (toSp K (ap_witem)) := by
  have G_is_part := ok_is_part (P := P) (w := w) (base := base) T
  have G_write_document := ok_write_document (P := P) (w := w) (base := base) T
  have G_write_leaf := ok_write_leaf (P := P) (w := w) (base := base) T
  exact fn_ab [] T.F_write_item sc_write_item (by walk_at "len") rfl (fun cdv A outer s H E hr => ⟨_, tm_write_item T G_is_part G_write_document G_write_leaf cdv A outer s H E hr, run_witem⟩)
theorem ok_word_end (T : Txt K mg) : FnOk P w K mg base CX0 1 T.f_word_end T.fd_word_end ["text", "at"] (toSp K (ap_wend)) := by
  exact fn_ab [] T.F_word_end sc_word_end (by walk_at "len") rfl (fun cdv A outer s H E hr => ⟨_, tm_word_end T cdv A outer s H E hr, run_wend⟩)
theorem okr_part (T : Txt K mg) {m : Nat} (Gi : FnOk P w K mg base (L2.CX P w) (2 * m + 2) T.f_read_item T.fd_read_item ["text", "at", "depth"] (toSpX K (ap_rdX T.c_BadDocument m))) :
    FnOk P w K mg base (L2.CX P w) (2 * m + 2 + 1) T.f_read_part T.fd_read_part ["text", "at", "depth"] (toSpX K (ap_rpX T.c_BadDocument (m + 1))) := by
  have G1 := ok_word_end (P := P) (w := w) (base := base) T
  exact fn_abX [] T.F_read_part sc_read_part (by walk_at "lenX") rfl _ (fun cdv A outer s H E hr => tm_read_part T (by omega) G1 Gi cdv A outer s H E hr) run_rpart
theorem okr_item (T : Txt K mg) : ∀ m, FnOk P w K mg base (L2.CX P w) (2 * m + 2) T.f_read_item T.fd_read_item ["text", "at", "depth"] (toSpX K (ap_rdX T.c_BadDocument m))
  | 0 => by
    have G1 := ok_word_end (P := P) (w := w) (base := base) T
    exact fn_abX [] T.F_read_item sc_read_item (by walk_at "lenX") rfl _ (fun cdv A outer s H E hr => tm_read_item T (by omega) (fn_neverX (k := 0) T.F_read_part sc_read_part (fun as Post XP h => by obtain ⟨_, _, _, _, _, d, _, _, _, h1, h2, _⟩ := h; omega)) G1 cdv A outer s H E hr) run_ritem
  | m + 1 => by
    have G1 := ok_word_end (P := P) (w := w) (base := base) T
    have Gp := okr_part (P := P) (w := w) (base := base) T (okr_item T m)
    exact fn_abX [] T.F_read_item sc_read_item (by walk_at "lenX") rfl _ (fun cdv A outer s H E hr => tm_read_item T (by omega) Gp G1 cdv A outer s H E hr) run_ritem
theorem ok_read_item (T : Txt K mg) : FnOk P w K mg base (L2.CX P w) 16 T.f_read_item T.fd_read_item ["text", "at", "depth"] (toSpX K (ap_rdX T.c_BadDocument 7)) := okr_item T 7
theorem ok_is_sound (T : Txt K mg) : FnOk P w K mg base CX0 5 T.f_is_sound T.fd_is_sound ["item"] (toSp K (ap_snd)) := by
  have G_is_part := ok_is_part (P := P) (w := w) (base := base) T
  have G_is_text := ok_is_text (P := P) (w := w) (base := base) T
  have G_is_name := ok_is_name (P := P) (w := w) (base := base) T
  have G_are_marks := ok_are_marks (P := P) (w := w) (base := base) T
  have G_within_bounds := ok_within_bounds (P := P) (w := w) (base := base) T
  exact fn_ab [] T.F_is_sound sc_is_sound (by walk_at "len") rfl (fun cdv A outer s H E hr => ⟨_, tm_is_sound T G_is_part G_is_text G_is_name G_are_marks G_within_bounds cdv A outer s H E hr, run_snd⟩)
theorem ok_read_alone (T : Txt K mg) : FnOk P w K mg base (L2.CX P w) 17 T.f_read_alone T.fd_read_alone ["text"] (toSpX K (ap_ral T.c_BadDocument)) := by
  have G_read_item := ok_read_item (P := P) (w := w) (base := base) T
  have G_is_sound := ok_is_sound (P := P) (w := w) (base := base) T
  have G_write_item := ok_write_item (P := P) (w := w) (base := base) T
  exact fn_abX [] T.F_read_alone sc_read_alone (by walk_at "lenX") rfl _ (fun cdv A outer s H E hr => tm_read_alone T G_read_item G_is_sound G_write_item cdv A outer s H E hr) (run_ral)
theorem ok_read_document (T : Txt K mg) : FnOk P w K mg base (L2.CX P w) 18 T.f_read_document T.fd_read_document ["text"] (toSpX K (ap_rdoc T.c_BadDocument)) := by
  have G_read_alone := ok_read_alone (P := P) (w := w) (base := base) T
  have G_is_part := ok_is_part (P := P) (w := w) (base := base) T
  exact fn_abX [] T.F_read_document sc_read_document (by walk_at "lenX") rfl _ (fun cdv A outer s H E hr => tm_read_document T G_read_alone G_is_part cdv A outer s H E hr) (run_rdoc)
theorem okn__law_written (T : Txt K mg) : ∀ n, FnOk P w K mg base CX0 (n + 2) T.f__law_written T.fd__law_written ["_law_item_here"] (toSp K (ap_lwr n))
  | 0 => fn_ab [] T.F__law_written sc__law_written (by walk_at "len") rfl (fun cdv A outer s H E hr => ⟨_, tm__law_written T (fn_never (k := 0) T.F__law_written sc__law_written) cdv A outer s H E hr, run_written (fun t n Post h => absurd h (Nat.not_lt_zero _))⟩)
  | n + 1 => fn_ab [] T.F__law_written sc__law_written (by walk_at "len") rfl (fun cdv A outer s H E hr => ⟨_, tm__law_written T (okn__law_written T n) cdv A outer s H E hr, run_written (fun t n Post h1 h2 h3 h4 => ⟨t, n, rfl, by omega, h2, h3, h4⟩)⟩)
theorem ok__law_written (T : Txt K mg) : FnOk P w K mg base CX0 30 T.f__law_written T.fd__law_written ["_law_item_here"] (toSp K (ap_lwr 28)) := okn__law_written T 28
theorem ok__law_read (T : Txt K mg) : FnOk P w K mg base CX0 19 T.f__law_read T.fd__law_read ["_law_text_here"] (toSp K (ap_lread)) := by
  have G_read_document := ok_read_document (P := P) (w := w) (base := base) T
  exact fn_ab [] T.F__law_read sc__law_read (by walk_at "len") rfl (fun cdv A outer s H E hr => ⟨_, tm__law_read T G_read_document cdv A outer s H E hr, run_lread (PySem.W.exm_ref T.bs_BadDocument T.hd_BadDocument T.tx_BadDocument T.sb_BadDocument_BadDocument)⟩)
theorem ok_law (T : Txt K mg) : FnOk P w K mg base CX0 61 T.f_law T.fd_law ["_law_script"] (toSp K ap_law) := by
  have G1 := ok__law_pool (P := P) (w := w) (base := base) T
  have G2 := ok__law_take (P := P) (w := w) (base := base) T
  have G3 := ok__law_part (P := P) (w := w) (base := base) T
  have G4 := ok__law_edge (P := P) (w := w) (base := base) T
  have G5 := ok__law_paths (P := P) (w := w) (base := base) T
  have G6 := ok__law_same (P := P) (w := w) (base := base) T
  have G7 := ok__law_written (P := P) (w := w) (base := base) T
  have G8 := ok_write_document (P := P) (w := w) (base := base) T
  have G9 := ok__law_let (P := P) (w := w) (base := base) T
  have G10 := ok__law_read (P := P) (w := w) (base := base) T
  refine fn_ab [] T.F_law sc_law (by rintro as Post ⟨ns, rfl, _⟩; rfl) rfl (fun cdv A outer s H E hr => ⟨_, tm_law T G1 G2 G3 G4 G5 G6 G7 G8 G9 G10 cdv A outer s H E hr, ?_⟩)
  rintro as Post ⟨ns, rfl, fk⟩
  unfold t_law
  show WS K [] _ [.val (.scr ns), .un, .un, .un, .un, .un, .un] _
  walk_at "es"
  refine .a ⟨ns, 0, rfl, by omega, by omega, fun d0 h0 => ?_⟩
  walk_at "es"
  refine .a ⟨d0, 0, 8, rfl, h0, by omega, by omega, by omega, by omega, fun d1 way h1 w0 w1 => ?_⟩
  repeat' (first | walk_at "x" | fail "stop")
  refine ws_cut (fun G => ∃ (d : List Dt) (zs : List Str) (t : Tr), TrOk 40 t ∧ isP t = true ∧ t.dep ≤ 20 ∧ t.sz ≤ 251 ∧ G = [.val (.scr ns), .acc (zs.map Dt.str), .acc d, .val (.int way), .val t.dt, .un, .un]) ?_ ?_
  · by_cases a3 : way = 3
    · walk_at "es"
      refine .a ⟨d1, 0 + 1, [], 250, 2000, 40, 20, 40, 1, rfl, h1, ⟨by omega, by omega, by simp, by omega, by omega, by omega, by omega, by omega, by omega⟩, (fun _ h => nomatch h), by omega, fun ds' c' zs' b0' b1' b2' kd ms ts hp g => ?_⟩
      obtain ⟨g1, g2, g3, g4, g5, g6, g7, g8, g9, g10, g11, g12, g13⟩ := g
      walk_at "es"
      exact .a ⟨ds', zs', _, g9, rfl, by omega, by omega, rfl⟩
    · have small : ∀ ds' c' (zs' : List Str) b0' b1' b2' (kd : Str) (ms : List Str) (ts : List Tr), PoolIs c' ds' → Got 60 4 (0 + 1) (([] : List Str).length + 1) 59 400 3 12 20 c' zs' b0' b1' b2' (.part kd ms ts) → TrOk 40 (.part kd ms ts) ∧ (Tr.part kd ms ts).dep ≤ 20 ∧ (Tr.part kd ms ts).sz ≤ 251 := fun ds' c' zs' b0' b1' b2' kd ms ts hp g => by
        obtain ⟨g1, g2, g3, g4, g5, g6, g7, g8, g9, g10, g11, g12, g13⟩ := g
        exact ⟨ok_up (by decide) _ g9, by omega, by omega⟩
      by_cases a0 : way = 0
      · walk_at "es"
        refine .a ⟨d1, 0 + 1, 4, rfl, h1, by omega, by omega, by omega, by omega, fun d2 s h2 s0 s1 => ?_⟩
        walk_at "es"
        refine .a ⟨d2, 0 + 1 + 1, [], s - 1, rfl, h2, by omega, by omega, by simp, (fun _ h => nomatch h), by omega, by omega, fun d3 c3 z3 t h3 f m => ?_⟩
        walk_at "es"
        exact .a ⟨d3, z3, t, ok_up (by decide) _ m.1, isP_dep m.2.2.1, m.2.2.2, by have := m.2.1; omega, rfl⟩
      · by_cases a2 : way = 2
        · walk_at "es"
          refine .a ⟨d1, 0 + 1, 4, rfl, h1, by omega, by omega, by omega, by omega, fun d2 s h2 s0 s1 => ?_⟩
          walk_at "es"
          refine .a ⟨d2, 0 + 1 + 1, [], s - 1, rfl, h2, by omega, by omega, by simp, (fun _ h => nomatch h), by omega, by omega, fun d3 c3 z3 t h3 f m => ?_⟩
          walk_at "es"
          exact .a ⟨d3, z3, t, ok_up (by decide) _ m.1, isP_dep m.2.2.1, m.2.2.2, by have := m.2.1; omega, rfl⟩
        · walk_at "es"
          refine .a ⟨d1, 0 + 1, [], 59, 400, 3, 6, 12, 1, rfl, h1, ⟨by omega, by omega, by simp, by omega, by omega, by omega, by omega, by omega, by omega⟩, (fun _ h => nomatch h), by omega, fun ds' c' zs' b0' b1' b2' kd ms ts hp g => ?_⟩
          obtain ⟨q1, q2, q3⟩ := small ds' c' zs' b0' b1' b2' kd ms ts hp g
          walk_at "es"
          exact .a ⟨ds', zs', _, q1, rfl, q2, q3, rfl⟩
  rintro G ⟨d2, zs, t, hok, hpt, hdp, hsz, rfl⟩
  have hwl := wl_len t hok
  walk_at "es"
  refine for_lstT (flat t []) Rw.dt (fun i G => ∃ s5, G = [.val (.scr ns), .acc (zs.map Dt.str), .acc d2, .val (.int way), .val t.dt, s5, .un]) ?_ ?_ ?_
  · walk_at "es"
    refine .a ⟨t, [], rfl, by omega, by simp only [List.length_nil]; omega, by omega, ?_⟩
    walk_at "es"
    exact .a ⟨rfl, _, rfl⟩
  · rintro i a G ha ⟨s5, rfl⟩
    obtain ⟨q, u⟩ := a
    obtain ⟨r, hq, hu⟩ := flat_at t [] (q, u) (List.mem_of_getElem? ha)
    have huok := at_ok hok hu
    have hud := at_dep hu
    have hus : u.sz ≤ 251 := Nat.le_trans (at_sz hu) hsz
    have hud : u.dep ≤ 20 := by have : r.length + u.dep ≤ t.dep := hud; omega
    unfold Rw.dt
    walk_at "es"
    cases u with
    | txt z => rw [Tr.dt]; walk_at "es"; exact .a ⟨_, rfl⟩
    | lab z =>
      rw [Tr.dt]
      walk_at "es"
      refine ⟨fun h => absurd (of_decide_eq_true h) (by simp), fun _ => ?_⟩
      walk_at "es"
      exact .a ⟨_, rfl⟩
    | ref z =>
      rw [Tr.dt]
      walk_at "es"
      refine ⟨fun h => absurd (of_decide_eq_true h) (by simp), fun _ => ?_⟩
      walk_at "es"
      exact .a ⟨_, rfl⟩
    | part kd ms its =>
      rw [dt_part]
      walk_at "es"
      refine ⟨fun _ => ?_, fun h => absurd (of_decide_eq_false h) (by simp)⟩
      walk_at "es"
      refine .a ⟨.part kd ms its, 40, by rw [dt_part]; rfl, by omega, by omega, huok, ?_⟩
      walk_at "es"
      refine .a ⟨.part kd ms its, 40, by rw [dt_part]; rfl, by omega, by omega, huok, ?_⟩
      walk_at "es"
      refine .a ⟨_, _, .str (S (wl (.part kd ms its))), rfl, rfl, rfl, by rw [okD], by rw [depD]; omega, ?_⟩
      walk_at "es"
      exact .a ⟨_, rfl⟩
  · rintro G ⟨s5, rfl⟩
    obtain ⟨x1, x2⟩ := tr_okD t hok
    have y1 : okD (.lst [t.dt]) = true := by rw [okD, okAll, okAll, x1]; rfl
    have y2 : depD (.lst [t.dt]) ≤ 58 := by rw [depD, depAll, depAll]; omega
    walk_at "es"
    refine .a ⟨t, 40, rfl, by omega, by omega, hok, ?_⟩
    walk_at "es"
    refine .a ⟨t, rfl, by omega, hok, ?_⟩
    cases hb : letB t with
    | true =>
      have hb2 : inB t = true := by rw [in_let]; exact hb
      walk_at "es"
      refine .a ⟨t, 40, rfl, hpt, hok, by omega, by omega, fun _ => ?_, fun h => absurd (h.symm.trans hb2) (by simp)⟩
      walk_at "es"
      refine .a ⟨_, _, .lst [t.dt], rfl, rfl, rfl, y1, y2, ?_⟩
      walk_at "es"
      refine .a ⟨t, 40, rfl, hpt, hok, by omega, by omega, fun _ => ?_, fun h => absurd (h.symm.trans hb2) (by simp)⟩
      walk_at "es"
      refine .a ⟨_, _, .lst [t.dt], rfl, rfl, rfl, y1, y2, ?_⟩
      walk_at "es"
      exact fk
    | false =>
      have hb2 : inB t = false := by rw [in_let]; exact hb
      walk_at "es"
      refine lenp_s (by rw [S_len]; omega) ?_
      rw [S_len]
      walk_at "es"
      refine ⟨fun h => ?_, fun h => ?_⟩
      · walk_at "es"
        refine .a ⟨t, 40, rfl, hpt, hok, by omega, by omega, fun h => absurd (h.symm.trans hb2) (by simp), fun _ => ?_⟩
        walk_at "es"
        exact fk
      · exact ⟨rfl, fk⟩
end
end Lk10
namespace Lk10
open PySem L2 Ab
theorem law_pre {ns : List Int} (hl : ns.length ≤ 63) {Post : Re → List Sl → Prop} (hp : ∀ as, Post (.val (.bl true)) as) : ap_law [.val (.scr ns)] Post := ⟨ns, rfl, hp _⟩
end Lk10

namespace Lk10
open PySem L2 Ab
theorem fin_mk {l : PySem.W.OpenLaw} {w : World} {K : PySem.W.Frag} {h : Heap} {mg : Str → Option Value} {fa : Addr} (X : K.In h) (G : h.Ns mainGlobals mg) (hfa : mg "law" = some (.ref fa))
    {f0 : Addr} {od0 an0 : Option Addr} {sl0 : Array (Option Value)} {oc0 kV0 dc0 pm0 cd0 ct0 : Value}
    (a0 : PySem.W.nsIn K mainGlobals "is_name" = some (some (.ref f0))) (l0 : K.lookup f0 = some ⟨oc0, od0, .func (PySem.W.fnOf "is_name" "is_name" (defArgs s_is_name) (defBody s_is_name) (defScope s_is_name) .none kV0 dc0 pm0 an0 cd0 ct0), sl0⟩) (c0 : PySem.W.codeIn K cd0 "is_name" = true) (k0 : PySem.W.keepIn K (.ref f0) = true)
    {f1 : Addr} {od1 an1 : Option Addr} {sl1 : Array (Option Value)} {oc1 kV1 dc1 pm1 cd1 ct1 : Value}
    (a1 : PySem.W.nsIn K mainGlobals "is_text" = some (some (.ref f1))) (l1 : K.lookup f1 = some ⟨oc1, od1, .func (PySem.W.fnOf "is_text" "is_text" (defArgs s_is_text) (defBody s_is_text) (defScope s_is_text) .none kV1 dc1 pm1 an1 cd1 ct1), sl1⟩) (c1 : PySem.W.codeIn K cd1 "is_text" = true) (k1 : PySem.W.keepIn K (.ref f1) = true)
    {f2 : Addr} {od2 an2 : Option Addr} {sl2 : Array (Option Value)} {oc2 kV2 dc2 pm2 cd2 ct2 : Value}
    (a2 : PySem.W.nsIn K mainGlobals "are_marks" = some (some (.ref f2))) (l2 : K.lookup f2 = some ⟨oc2, od2, .func (PySem.W.fnOf "are_marks" "are_marks" (defArgs s_are_marks) (defBody s_are_marks) (defScope s_are_marks) .none kV2 dc2 pm2 an2 cd2 ct2), sl2⟩) (c2 : PySem.W.codeIn K cd2 "are_marks" = true) (k2 : PySem.W.keepIn K (.ref f2) = true)
    {f3 : Addr} {od3 an3 : Option Addr} {sl3 : Array (Option Value)} {oc3 kV3 dc3 pm3 cd3 ct3 : Value}
    (a3 : PySem.W.nsIn K mainGlobals "is_part" = some (some (.ref f3))) (l3 : K.lookup f3 = some ⟨oc3, od3, .func (PySem.W.fnOf "is_part" "is_part" (defArgs s_is_part) (defBody s_is_part) (defScope s_is_part) .none kV3 dc3 pm3 an3 cd3 ct3), sl3⟩) (c3 : PySem.W.codeIn K cd3 "is_part" = true) (k3 : PySem.W.keepIn K (.ref f3) = true)
    {f4 : Addr} {od4 an4 : Option Addr} {sl4 : Array (Option Value)} {oc4 kV4 dc4 pm4 cd4 ct4 : Value}
    (a4 : PySem.W.nsIn K mainGlobals "walk" = some (some (.ref f4))) (l4 : K.lookup f4 = some ⟨oc4, od4, .func (PySem.W.fnOf "walk" "walk" (defArgs s_walk) (defBody s_walk) (defScope s_walk) .none kV4 dc4 pm4 an4 cd4 ct4), sl4⟩) (c4 : PySem.W.codeIn K cd4 "walk" = true) (k4 : PySem.W.keepIn K (.ref f4) = true)
    {f5 : Addr} {od5 an5 : Option Addr} {sl5 : Array (Option Value)} {oc5 kV5 dc5 pm5 cd5 ct5 : Value}
    (a5 : PySem.W.nsIn K mainGlobals "within_bounds" = some (some (.ref f5))) (l5 : K.lookup f5 = some ⟨oc5, od5, .func (PySem.W.fnOf "within_bounds" "within_bounds" (defArgs s_within_bounds) (defBody s_within_bounds) (defScope s_within_bounds) .none kV5 dc5 pm5 an5 cd5 ct5), sl5⟩) (c5 : PySem.W.codeIn K cd5 "within_bounds" = true) (k5 : PySem.W.keepIn K (.ref f5) = true)
    {f6 : Addr} {od6 an6 : Option Addr} {sl6 : Array (Option Value)} {oc6 kV6 dc6 pm6 cd6 ct6 : Value}
    (a6 : PySem.W.nsIn K mainGlobals "write_leaf" = some (some (.ref f6))) (l6 : K.lookup f6 = some ⟨oc6, od6, .func (PySem.W.fnOf "write_leaf" "write_leaf" (defArgs s_write_leaf) (defBody s_write_leaf) (defScope s_write_leaf) .none kV6 dc6 pm6 an6 cd6 ct6), sl6⟩) (c6 : PySem.W.codeIn K cd6 "write_leaf" = true) (k6 : PySem.W.keepIn K (.ref f6) = true)
    {f7 : Addr} {od7 an7 : Option Addr} {sl7 : Array (Option Value)} {oc7 kV7 dc7 pm7 cd7 ct7 : Value}
    (a7 : PySem.W.nsIn K mainGlobals "write_document" = some (some (.ref f7))) (l7 : K.lookup f7 = some ⟨oc7, od7, .func (PySem.W.fnOf "write_document" "write_document" (defArgs s_write_document) (defBody s_write_document) (defScope s_write_document) .none kV7 dc7 pm7 an7 cd7 ct7), sl7⟩) (c7 : PySem.W.codeIn K cd7 "write_document" = true) (k7 : PySem.W.keepIn K (.ref f7) = true)
    {f8 : Addr} {od8 an8 : Option Addr} {sl8 : Array (Option Value)} {oc8 kV8 dc8 pm8 cd8 ct8 : Value}
    (a8 : PySem.W.nsIn K mainGlobals "write_item" = some (some (.ref f8))) (l8 : K.lookup f8 = some ⟨oc8, od8, .func (PySem.W.fnOf "write_item" "write_item" (defArgs s_write_item) (defBody s_write_item) (defScope s_write_item) .none kV8 dc8 pm8 an8 cd8 ct8), sl8⟩) (c8 : PySem.W.codeIn K cd8 "write_item" = true) (k8 : PySem.W.keepIn K (.ref f8) = true)
    {f9 : Addr} {od9 an9 : Option Addr} {sl9 : Array (Option Value)} {oc9 kV9 dc9 pm9 cd9 ct9 : Value}
    (a9 : PySem.W.nsIn K mainGlobals "word_end" = some (some (.ref f9))) (l9 : K.lookup f9 = some ⟨oc9, od9, .func (PySem.W.fnOf "word_end" "word_end" (defArgs s_word_end) (defBody s_word_end) (defScope s_word_end) .none kV9 dc9 pm9 an9 cd9 ct9), sl9⟩) (c9 : PySem.W.codeIn K cd9 "word_end" = true) (k9 : PySem.W.keepIn K (.ref f9) = true)
    {f10 : Addr} {od10 an10 : Option Addr} {sl10 : Array (Option Value)} {oc10 kV10 dc10 pm10 cd10 ct10 : Value}
    (a10 : PySem.W.nsIn K mainGlobals "read_part" = some (some (.ref f10))) (l10 : K.lookup f10 = some ⟨oc10, od10, .func (PySem.W.fnOf "read_part" "read_part" (defArgs s_read_part) (defBody s_read_part) (defScope s_read_part) .none kV10 dc10 pm10 an10 cd10 ct10), sl10⟩) (c10 : PySem.W.codeIn K cd10 "read_part" = true) (k10 : PySem.W.keepIn K (.ref f10) = true)
    {f11 : Addr} {od11 an11 : Option Addr} {sl11 : Array (Option Value)} {oc11 kV11 dc11 pm11 cd11 ct11 : Value}
    (a11 : PySem.W.nsIn K mainGlobals "read_item" = some (some (.ref f11))) (l11 : K.lookup f11 = some ⟨oc11, od11, .func (PySem.W.fnOf "read_item" "read_item" (defArgs s_read_item) (defBody s_read_item) (defScope s_read_item) .none kV11 dc11 pm11 an11 cd11 ct11), sl11⟩) (c11 : PySem.W.codeIn K cd11 "read_item" = true) (k11 : PySem.W.keepIn K (.ref f11) = true)
    {f12 : Addr} {od12 an12 : Option Addr} {sl12 : Array (Option Value)} {oc12 kV12 dc12 pm12 cd12 ct12 : Value}
    (a12 : PySem.W.nsIn K mainGlobals "is_sound" = some (some (.ref f12))) (l12 : K.lookup f12 = some ⟨oc12, od12, .func (PySem.W.fnOf "is_sound" "is_sound" (defArgs s_is_sound) (defBody s_is_sound) (defScope s_is_sound) .none kV12 dc12 pm12 an12 cd12 ct12), sl12⟩) (c12 : PySem.W.codeIn K cd12 "is_sound" = true) (k12 : PySem.W.keepIn K (.ref f12) = true)
    {f13 : Addr} {od13 an13 : Option Addr} {sl13 : Array (Option Value)} {oc13 kV13 dc13 pm13 cd13 ct13 : Value}
    (a13 : PySem.W.nsIn K mainGlobals "read_alone" = some (some (.ref f13))) (l13 : K.lookup f13 = some ⟨oc13, od13, .func (PySem.W.fnOf "read_alone" "read_alone" (defArgs s_read_alone) (defBody s_read_alone) (defScope s_read_alone) .none kV13 dc13 pm13 an13 cd13 ct13), sl13⟩) (c13 : PySem.W.codeIn K cd13 "read_alone" = true) (k13 : PySem.W.keepIn K (.ref f13) = true)
    {f14 : Addr} {od14 an14 : Option Addr} {sl14 : Array (Option Value)} {oc14 kV14 dc14 pm14 cd14 ct14 : Value}
    (a14 : PySem.W.nsIn K mainGlobals "read_document" = some (some (.ref f14))) (l14 : K.lookup f14 = some ⟨oc14, od14, .func (PySem.W.fnOf "read_document" "read_document" (defArgs s_read_document) (defBody s_read_document) (defScope s_read_document) .none kV14 dc14 pm14 an14 cd14 ct14), sl14⟩) (c14 : PySem.W.codeIn K cd14 "read_document" = true) (k14 : PySem.W.keepIn K (.ref f14) = true)
    {f15 : Addr} {od15 an15 : Option Addr} {sl15 : Array (Option Value)} {oc15 kV15 dc15 pm15 cd15 ct15 : Value}
    (a15 : PySem.W.nsIn K mainGlobals "_law_pool" = some (some (.ref f15))) (l15 : K.lookup f15 = some ⟨oc15, od15, .func (PySem.W.fnOf "_law_pool" "_law_pool" (defArgs s__law_pool) (defBody s__law_pool) (defScope s__law_pool) .none kV15 dc15 pm15 an15 cd15 ct15), sl15⟩) (c15 : PySem.W.codeIn K cd15 "_law_pool" = true) (k15 : PySem.W.keepIn K (.ref f15) = true)
    {f16 : Addr} {od16 an16 : Option Addr} {sl16 : Array (Option Value)} {oc16 kV16 dc16 pm16 cd16 ct16 : Value}
    (a16 : PySem.W.nsIn K mainGlobals "_law_take" = some (some (.ref f16))) (l16 : K.lookup f16 = some ⟨oc16, od16, .func (PySem.W.fnOf "_law_take" "_law_take" (defArgs s__law_take) (defBody s__law_take) (defScope s__law_take) .none kV16 dc16 pm16 an16 cd16 ct16), sl16⟩) (c16 : PySem.W.codeIn K cd16 "_law_take" = true) (k16 : PySem.W.keepIn K (.ref f16) = true)
    {f17 : Addr} {od17 an17 : Option Addr} {sl17 : Array (Option Value)} {oc17 kV17 dc17 pm17 cd17 ct17 : Value}
    (a17 : PySem.W.nsIn K mainGlobals "_law_same" = some (some (.ref f17))) (l17 : K.lookup f17 = some ⟨oc17, od17, .func (PySem.W.fnOf "_law_same" "_law_same" (defArgs s__law_same) (defBody s__law_same) (defScope s__law_same) .none kV17 dc17 pm17 an17 cd17 ct17), sl17⟩) (c17 : PySem.W.codeIn K cd17 "_law_same" = true) (k17 : PySem.W.keepIn K (.ref f17) = true)
    {f18 : Addr} {od18 an18 : Option Addr} {sl18 : Array (Option Value)} {oc18 kV18 dc18 pm18 cd18 ct18 : Value}
    (a18 : PySem.W.nsIn K mainGlobals "_law_letters" = some (some (.ref f18))) (l18 : K.lookup f18 = some ⟨oc18, od18, .func (PySem.W.fnOf "_law_letters" "_law_letters" (defArgs s__law_letters) (defBody s__law_letters) (defScope s__law_letters) .none kV18 dc18 pm18 an18 cd18 ct18), sl18⟩) (c18 : PySem.W.codeIn K cd18 "_law_letters" = true) (k18 : PySem.W.keepIn K (.ref f18) = true)
    {f19 : Addr} {od19 an19 : Option Addr} {sl19 : Array (Option Value)} {oc19 kV19 dc19 pm19 cd19 ct19 : Value}
    (a19 : PySem.W.nsIn K mainGlobals "_law_name" = some (some (.ref f19))) (l19 : K.lookup f19 = some ⟨oc19, od19, .func (PySem.W.fnOf "_law_name" "_law_name" (defArgs s__law_name) (defBody s__law_name) (defScope s__law_name) .none kV19 dc19 pm19 an19 cd19 ct19), sl19⟩) (c19 : PySem.W.codeIn K cd19 "_law_name" = true) (k19 : PySem.W.keepIn K (.ref f19) = true)
    {f20 : Addr} {od20 an20 : Option Addr} {sl20 : Array (Option Value)} {oc20 kV20 dc20 pm20 cd20 ct20 : Value}
    (a20 : PySem.W.nsIn K mainGlobals "_law_marks" = some (some (.ref f20))) (l20 : K.lookup f20 = some ⟨oc20, od20, .func (PySem.W.fnOf "_law_marks" "_law_marks" (defArgs s__law_marks) (defBody s__law_marks) (defScope s__law_marks) .none kV20 dc20 pm20 an20 cd20 ct20), sl20⟩) (c20 : PySem.W.codeIn K cd20 "_law_marks" = true) (k20 : PySem.W.keepIn K (.ref f20) = true)
    {f21 : Addr} {od21 an21 : Option Addr} {sl21 : Array (Option Value)} {oc21 kV21 dc21 pm21 cd21 ct21 : Value}
    (a21 : PySem.W.nsIn K mainGlobals "_law_prose" = some (some (.ref f21))) (l21 : K.lookup f21 = some ⟨oc21, od21, .func (PySem.W.fnOf "_law_prose" "_law_prose" (defArgs s__law_prose) (defBody s__law_prose) (defScope s__law_prose) .none kV21 dc21 pm21 an21 cd21 ct21), sl21⟩) (c21 : PySem.W.codeIn K cd21 "_law_prose" = true) (k21 : PySem.W.keepIn K (.ref f21) = true)
    {f22 : Addr} {od22 an22 : Option Addr} {sl22 : Array (Option Value)} {oc22 kV22 dc22 pm22 cd22 ct22 : Value}
    (a22 : PySem.W.nsIn K mainGlobals "_law_text" = some (some (.ref f22))) (l22 : K.lookup f22 = some ⟨oc22, od22, .func (PySem.W.fnOf "_law_text" "_law_text" (defArgs s__law_text) (defBody s__law_text) (defScope s__law_text) .none kV22 dc22 pm22 an22 cd22 ct22), sl22⟩) (c22 : PySem.W.codeIn K cd22 "_law_text" = true) (k22 : PySem.W.keepIn K (.ref f22) = true)
    {f23 : Addr} {od23 an23 : Option Addr} {sl23 : Array (Option Value)} {oc23 kV23 dc23 pm23 cd23 ct23 : Value}
    (a23 : PySem.W.nsIn K mainGlobals "_law_item" = some (some (.ref f23))) (l23 : K.lookup f23 = some ⟨oc23, od23, .func (PySem.W.fnOf "_law_item" "_law_item" (defArgs s__law_item) (defBody s__law_item) (defScope s__law_item) .none kV23 dc23 pm23 an23 cd23 ct23), sl23⟩) (c23 : PySem.W.codeIn K cd23 "_law_item" = true) (k23 : PySem.W.keepIn K (.ref f23) = true)
    {f24 : Addr} {od24 an24 : Option Addr} {sl24 : Array (Option Value)} {oc24 kV24 dc24 pm24 cd24 ct24 : Value}
    (a24 : PySem.W.nsIn K mainGlobals "_law_part" = some (some (.ref f24))) (l24 : K.lookup f24 = some ⟨oc24, od24, .func (PySem.W.fnOf "_law_part" "_law_part" (defArgs s__law_part) (defBody s__law_part) (defScope s__law_part) .none kV24 dc24 pm24 an24 cd24 ct24), sl24⟩) (c24 : PySem.W.codeIn K cd24 "_law_part" = true) (k24 : PySem.W.keepIn K (.ref f24) = true)
    {f25 : Addr} {od25 an25 : Option Addr} {sl25 : Array (Option Value)} {oc25 kV25 dc25 pm25 cd25 ct25 : Value}
    (a25 : PySem.W.nsIn K mainGlobals "_law_wrapped" = some (some (.ref f25))) (l25 : K.lookup f25 = some ⟨oc25, od25, .func (PySem.W.fnOf "_law_wrapped" "_law_wrapped" (defArgs s__law_wrapped) (defBody s__law_wrapped) (defScope s__law_wrapped) .none kV25 dc25 pm25 an25 cd25 ct25), sl25⟩) (c25 : PySem.W.codeIn K cd25 "_law_wrapped" = true) (k25 : PySem.W.keepIn K (.ref f25) = true)
    {f26 : Addr} {od26 an26 : Option Addr} {sl26 : Array (Option Value)} {oc26 kV26 dc26 pm26 cd26 ct26 : Value}
    (a26 : PySem.W.nsIn K mainGlobals "_law_leaf" = some (some (.ref f26))) (l26 : K.lookup f26 = some ⟨oc26, od26, .func (PySem.W.fnOf "_law_leaf" "_law_leaf" (defArgs s__law_leaf) (defBody s__law_leaf) (defScope s__law_leaf) .none kV26 dc26 pm26 an26 cd26 ct26), sl26⟩) (c26 : PySem.W.codeIn K cd26 "_law_leaf" = true) (k26 : PySem.W.keepIn K (.ref f26) = true)
    {f27 : Addr} {od27 an27 : Option Addr} {sl27 : Array (Option Value)} {oc27 kV27 dc27 pm27 cd27 ct27 : Value}
    (a27 : PySem.W.nsIn K mainGlobals "_law_full_row" = some (some (.ref f27))) (l27 : K.lookup f27 = some ⟨oc27, od27, .func (PySem.W.fnOf "_law_full_row" "_law_full_row" (defArgs s__law_full_row) (defBody s__law_full_row) (defScope s__law_full_row) .none kV27 dc27 pm27 an27 cd27 ct27), sl27⟩) (c27 : PySem.W.codeIn K cd27 "_law_full_row" = true) (k27 : PySem.W.keepIn K (.ref f27) = true)
    {f28 : Addr} {od28 an28 : Option Addr} {sl28 : Array (Option Value)} {oc28 kV28 dc28 pm28 cd28 ct28 : Value}
    (a28 : PySem.W.nsIn K mainGlobals "_law_full_count" = some (some (.ref f28))) (l28 : K.lookup f28 = some ⟨oc28, od28, .func (PySem.W.fnOf "_law_full_count" "_law_full_count" (defArgs s__law_full_count) (defBody s__law_full_count) (defScope s__law_full_count) .none kV28 dc28 pm28 an28 cd28 ct28), sl28⟩) (c28 : PySem.W.codeIn K cd28 "_law_full_count" = true) (k28 : PySem.W.keepIn K (.ref f28) = true)
    {f29 : Addr} {od29 an29 : Option Addr} {sl29 : Array (Option Value)} {oc29 kV29 dc29 pm29 cd29 ct29 : Value}
    (a29 : PySem.W.nsIn K mainGlobals "_law_full_prose" = some (some (.ref f29))) (l29 : K.lookup f29 = some ⟨oc29, od29, .func (PySem.W.fnOf "_law_full_prose" "_law_full_prose" (defArgs s__law_full_prose) (defBody s__law_full_prose) (defScope s__law_full_prose) .none kV29 dc29 pm29 an29 cd29 ct29), sl29⟩) (c29 : PySem.W.codeIn K cd29 "_law_full_prose" = true) (k29 : PySem.W.keepIn K (.ref f29) = true)
    {f30 : Addr} {od30 an30 : Option Addr} {sl30 : Array (Option Value)} {oc30 kV30 dc30 pm30 cd30 ct30 : Value}
    (a30 : PySem.W.nsIn K mainGlobals "_law_full_depth" = some (some (.ref f30))) (l30 : K.lookup f30 = some ⟨oc30, od30, .func (PySem.W.fnOf "_law_full_depth" "_law_full_depth" (defArgs s__law_full_depth) (defBody s__law_full_depth) (defScope s__law_full_depth) .none kV30 dc30 pm30 an30 cd30 ct30), sl30⟩) (c30 : PySem.W.codeIn K cd30 "_law_full_depth" = true) (k30 : PySem.W.keepIn K (.ref f30) = true)
    {f31 : Addr} {od31 an31 : Option Addr} {sl31 : Array (Option Value)} {oc31 kV31 dc31 pm31 cd31 ct31 : Value}
    (a31 : PySem.W.nsIn K mainGlobals "_law_full_refs" = some (some (.ref f31))) (l31 : K.lookup f31 = some ⟨oc31, od31, .func (PySem.W.fnOf "_law_full_refs" "_law_full_refs" (defArgs s__law_full_refs) (defBody s__law_full_refs) (defScope s__law_full_refs) .none kV31 dc31 pm31 an31 cd31 ct31), sl31⟩) (c31 : PySem.W.codeIn K cd31 "_law_full_refs" = true) (k31 : PySem.W.keepIn K (.ref f31) = true)
    {f32 : Addr} {od32 an32 : Option Addr} {sl32 : Array (Option Value)} {oc32 kV32 dc32 pm32 cd32 ct32 : Value}
    (a32 : PySem.W.nsIn K mainGlobals "_law_edge" = some (some (.ref f32))) (l32 : K.lookup f32 = some ⟨oc32, od32, .func (PySem.W.fnOf "_law_edge" "_law_edge" (defArgs s__law_edge) (defBody s__law_edge) (defScope s__law_edge) .none kV32 dc32 pm32 an32 cd32 ct32), sl32⟩) (c32 : PySem.W.codeIn K cd32 "_law_edge" = true) (k32 : PySem.W.keepIn K (.ref f32) = true)
    {f33 : Addr} {od33 an33 : Option Addr} {sl33 : Array (Option Value)} {oc33 kV33 dc33 pm33 cd33 ct33 : Value}
    (a33 : PySem.W.nsIn K mainGlobals "_law_paths" = some (some (.ref f33))) (l33 : K.lookup f33 = some ⟨oc33, od33, .func (PySem.W.fnOf "_law_paths" "_law_paths" (defArgs s__law_paths) (defBody s__law_paths) (defScope s__law_paths) .none kV33 dc33 pm33 an33 cd33 ct33), sl33⟩) (c33 : PySem.W.codeIn K cd33 "_law_paths" = true) (k33 : PySem.W.keepIn K (.ref f33) = true)
    {f34 : Addr} {od34 an34 : Option Addr} {sl34 : Array (Option Value)} {oc34 kV34 dc34 pm34 cd34 ct34 : Value}
    (a34 : PySem.W.nsIn K mainGlobals "_law_sizes" = some (some (.ref f34))) (l34 : K.lookup f34 = some ⟨oc34, od34, .func (PySem.W.fnOf "_law_sizes" "_law_sizes" (defArgs s__law_sizes) (defBody s__law_sizes) (defScope s__law_sizes) .none kV34 dc34 pm34 an34 cd34 ct34), sl34⟩) (c34 : PySem.W.codeIn K cd34 "_law_sizes" = true) (k34 : PySem.W.keepIn K (.ref f34) = true)
    {f35 : Addr} {od35 an35 : Option Addr} {sl35 : Array (Option Value)} {oc35 kV35 dc35 pm35 cd35 ct35 : Value}
    (a35 : PySem.W.nsIn K mainGlobals "_law_let" = some (some (.ref f35))) (l35 : K.lookup f35 = some ⟨oc35, od35, .func (PySem.W.fnOf "_law_let" "_law_let" (defArgs s__law_let) (defBody s__law_let) (defScope s__law_let) .none kV35 dc35 pm35 an35 cd35 ct35), sl35⟩) (c35 : PySem.W.codeIn K cd35 "_law_let" = true) (k35 : PySem.W.keepIn K (.ref f35) = true)
    {f36 : Addr} {od36 an36 : Option Addr} {sl36 : Array (Option Value)} {oc36 kV36 dc36 pm36 cd36 ct36 : Value}
    (a36 : PySem.W.nsIn K mainGlobals "_law_written" = some (some (.ref f36))) (l36 : K.lookup f36 = some ⟨oc36, od36, .func (PySem.W.fnOf "_law_written" "_law_written" (defArgs s__law_written) (defBody s__law_written) (defScope s__law_written) .none kV36 dc36 pm36 an36 cd36 ct36), sl36⟩) (c36 : PySem.W.codeIn K cd36 "_law_written" = true) (k36 : PySem.W.keepIn K (.ref f36) = true)
    {f37 : Addr} {od37 an37 : Option Addr} {sl37 : Array (Option Value)} {oc37 kV37 dc37 pm37 cd37 ct37 : Value}
    (a37 : PySem.W.nsIn K mainGlobals "_law_read" = some (some (.ref f37))) (l37 : K.lookup f37 = some ⟨oc37, od37, .func (PySem.W.fnOf "_law_read" "_law_read" (defArgs s__law_read) (defBody s__law_read) (defScope s__law_read) .none kV37 dc37 pm37 an37 cd37 ct37), sl37⟩) (c37 : PySem.W.codeIn K cd37 "_law_read" = true) (k37 : PySem.W.keepIn K (.ref f37) = true)
    {f38 : Addr} {od38 an38 : Option Addr} {sl38 : Array (Option Value)} {oc38 kV38 dc38 pm38 cd38 ct38 : Value}
    (a38 : PySem.W.nsIn K mainGlobals "law" = some (some (.ref f38))) (l38 : K.lookup f38 = some ⟨oc38, od38, .func (PySem.W.fnOf "law" "law" (defArgs s_law) (defBody s_law) (defScope s_law) .none kV38 dc38 pm38 an38 cd38 ct38), sl38⟩) (c38 : PySem.W.codeIn K cd38 "law" = true) (k38 : PySem.W.keepIn K (.ref f38) = true)
    (z_abs : PySem.W.nsIn K mainGlobals "abs" = some none)
    (z_all : PySem.W.nsIn K mainGlobals "all" = some none)
    (z_bool : PySem.W.nsIn K mainGlobals "bool" = some none)
    (z_enumerate : PySem.W.nsIn K mainGlobals "enumerate" = some none)
    (z_int : PySem.W.nsIn K mainGlobals "int" = some none)
    (z_isinstance : PySem.W.nsIn K mainGlobals "isinstance" = some none)
    (z_len : PySem.W.nsIn K mainGlobals "len" = some none)
    (z_list : PySem.W.nsIn K mainGlobals "list" = some none)
    (z_max : PySem.W.nsIn K mainGlobals "max" = some none)
    (z_min : PySem.W.nsIn K mainGlobals "min" = some none)
    (z_range : PySem.W.nsIn K mainGlobals "range" = some none)
    (z_str : PySem.W.nsIn K mainGlobals "str" = some none)
    (z_tuple : PySem.W.nsIn K mainGlobals "tuple" = some none)
    {c_BadDocument : Addr} (a_BadDocument : PySem.W.nsIn K mainGlobals "BadDocument" = some (some (.ref c_BadDocument))) (bs_BadDocument : PySem.W.subIn K (.ref c_BadDocument) (.type "BaseException") = some true) (tx_BadDocument : PySem.W.typeIn K (.ref c_BadDocument) = some (.type "type")) (hd_BadDocument : PySem.W.hasDictIn K c_BadDocument = true)
    (hnO : PySem.W.specialIn K (.builtin "object.__class__") "__get__" = some (some (.builtin "getset_descriptor.__get__"))) (htO : PySem.W.takesIn K (.builtin "object.__class__") = some true)
    (x_BadDocument : PySem.W.excIn K c_BadDocument [.type "ValueError", .type "Exception", .type "BaseException", .type "object"] "ValueError.__new__" = true) (kx_BadDocument : PySem.W.keepIn K (.ref c_BadDocument) = true)
    (ga_BadDocument : PySem.W.findIn K (.ref c_BadDocument) "__getattribute__" = some (some (.builtin "BaseException.__getattribute__"))) (gg_BadDocument : PySem.W.findIn K (.ref c_BadDocument) "__getattr__" = some none) (cl_BadDocument : PySem.W.findIn K (.ref c_BadDocument) "__class__" = some (some (.builtin "object.__class__"))) (mo_BadDocument : PySem.W.mroIn K c_BadDocument (.type "object") = some true) (sv_BadDocument : PySem.W.subIn K (.ref c_BadDocument) (.type "ValueError") = some true)
    (sb_BadDocument_BadDocument : PySem.W.subIn K (.ref c_BadDocument) (.ref c_BadDocument) = some true)
    {ts_NAME_LETTERS : Tok} (as_NAME_LETTERS : PySem.W.nsIn K mainGlobals "NAME_LETTERS" = some (some (.str "abcdefghijklmnopqrstuvwxyz" ts_NAME_LETTERS)))
    {ts_TEXT_CHARACTERS : Tok} (as_TEXT_CHARACTERS : PySem.W.nsIn K mainGlobals "TEXT_CHARACTERS" = some (some (.str " abcdefghijklmnopqrstuvwxyzABCDEFGHIJKLMNOPQRSTUVWXYZ0123456789.,;:!?'()|" ts_TEXT_CHARACTERS)))
    {ti_MOST_NAME_LETTERS : Tok} (ai_MOST_NAME_LETTERS : PySem.W.nsIn K mainGlobals "MOST_NAME_LETTERS" = some (some (.int 8 ti_MOST_NAME_LETTERS)))
    {ti_MOST_TEXT_CHARACTERS : Tok} (ai_MOST_TEXT_CHARACTERS : PySem.W.nsIn K mainGlobals "MOST_TEXT_CHARACTERS" = some (some (.int 60 ti_MOST_TEXT_CHARACTERS)))
    {ti_MOST_MARKS : Tok} (ai_MOST_MARKS : PySem.W.nsIn K mainGlobals "MOST_MARKS" = some (some (.int 3 ti_MOST_MARKS)))
    {ti_MOST_ITEMS_OF_A_PART : Tok} (ai_MOST_ITEMS_OF_A_PART : PySem.W.nsIn K mainGlobals "MOST_ITEMS_OF_A_PART" = some (some (.int 12 ti_MOST_ITEMS_OF_A_PART)))
    {ti_MOST_DEPTH : Tok} (ai_MOST_DEPTH : PySem.W.nsIn K mainGlobals "MOST_DEPTH" = some (some (.int 6 ti_MOST_DEPTH)))
    {ti_MOST_ITEMS : Tok} (ai_MOST_ITEMS : PySem.W.nsIn K mainGlobals "MOST_ITEMS" = some (some (.int 60 ti_MOST_ITEMS)))
    {ti_MOST_CHARACTERS : Tok} (ai_MOST_CHARACTERS : PySem.W.nsIn K mainGlobals "MOST_CHARACTERS" = some (some (.int 400 ti_MOST_CHARACTERS)))
    {ti_MOST_REFERENCES : Tok} (ai_MOST_REFERENCES : PySem.W.nsIn K mainGlobals "MOST_REFERENCES" = some (some (.int 3 ti_MOST_REFERENCES)))
    : ∃ fd : FuncData, (∀ (s : Shared) (v : Value), BindsTo s fd ⟨[v], []⟩ [("_law_script", v)]) ∧ ∀ base : Heap, K.In base → base.Ns mainGlobals mg → FnOk l.prog w K mg base CX0 61 fa fd ["_law_script"] (toSp K ap_law) := by
  obtain ⟨T, e, hb⟩ := txt_mk X G a0 l0 c0 k0 a1 l1 c1 k1 a2 l2 c2 k2 a3 l3 c3 k3 a4 l4 c4 k4 a5 l5 c5 k5 a6 l6 c6 k6 a7 l7 c7 k7 a8 l8 c8 k8 a9 l9 c9 k9 a10 l10 c10 k10 a11 l11 c11 k11 a12 l12 c12 k12 a13 l13 c13 k13 a14 l14 c14 k14 a15 l15 c15 k15 a16 l16 c16 k16 a17 l17 c17 k17 a18 l18 c18 k18 a19 l19 c19 k19 a20 l20 c20 k20 a21 l21 c21 k21 a22 l22 c22 k22 a23 l23 c23 k23 a24 l24 c24 k24 a25 l25 c25 k25 a26 l26 c26 k26 a27 l27 c27 k27 a28 l28 c28 k28 a29 l29 c29 k29 a30 l30 c30 k30 a31 l31 c31 k31 a32 l32 c32 k32 a33 l33 c33 k33 a34 l34 c34 k34 a35 l35 c35 k35 a36 l36 c36 k36 a37 l37 c37 k37 a38 l38 c38 k38 z_abs z_all z_bool z_enumerate z_int z_isinstance z_len z_list z_max z_min z_range z_str z_tuple a_BadDocument bs_BadDocument tx_BadDocument hd_BadDocument hnO htO x_BadDocument kx_BadDocument ga_BadDocument gg_BadDocument cl_BadDocument mo_BadDocument sv_BadDocument sb_BadDocument_BadDocument as_NAME_LETTERS as_TEXT_CHARACTERS ai_MOST_NAME_LETTERS ai_MOST_TEXT_CHARACTERS ai_MOST_MARKS ai_MOST_ITEMS_OF_A_PART ai_MOST_DEPTH ai_MOST_ITEMS ai_MOST_CHARACTERS ai_MOST_REFERENCES
  have e2 : T.f_law = fa := by
    have := T.g_law
    rw [hfa] at this
    cases this
    rfl
  exact ⟨T.fd_law, hb, fun base _ _ => by rw [← e2]; exact ok_law T⟩
end Lk10

end Doc
open PySem PySem.W PyProof.Rows
set_option maxRecDepth 100000 in
set_option maxHeartbeats 0 in
theorem PySem.Challenge.cw_stylepages_k10_whole_written_form_there_holds : PySem.Challenge.rw_stylepages_k10_whole_written_form_there.Holds := by
  w_on; refine Doc.Lk10.early0 (fun said => ?_); k_head; (case hw => w_witness2)
  k_fill
  refine L2.walk_of (l := PySem.Challenge.rw_stylepages_k10_whole_written_form_there) (n := 63) (k := 61) (x := "_law_script") (CX := fun _ => L2.CX0) (sp := fun w => Ab.toSp _ Doc.Lk10.ap_law) rfl (by decide) rfl ⟨rfl, by decide, by decide⟩ (fun w h Y => PySem.W.kIn_of Y) ?F (fun _ _ a ns hl _ hS => Ab.law_sp hS (fun Post hp => Doc.Lk10.law_pre hl hp)) (fun _ _ _ _ _ h => h)
  case F =>
    intro w mg fa h KX G hmg
    refine' Doc.Lk10.fin_mk KX G hmg ?a0 ?l0 ?c0 ?k0 ?a1 ?l1 ?c1 ?k1 ?a2 ?l2 ?c2 ?k2 ?a3 ?l3 ?c3 ?k3 ?a4 ?l4 ?c4 ?k4 ?a5 ?l5 ?c5 ?k5 ?a6 ?l6 ?c6 ?k6 ?a7 ?l7 ?c7 ?k7 ?a8 ?l8 ?c8 ?k8 ?a9 ?l9 ?c9 ?k9 ?a10 ?l10 ?c10 ?k10 ?a11 ?l11 ?c11 ?k11 ?a12 ?l12 ?c12 ?k12 ?a13 ?l13 ?c13 ?k13 ?a14 ?l14 ?c14 ?k14 ?a15 ?l15 ?c15 ?k15 ?a16 ?l16 ?c16 ?k16 ?a17 ?l17 ?c17 ?k17 ?a18 ?l18 ?c18 ?k18 ?a19 ?l19 ?c19 ?k19 ?a20 ?l20 ?c20 ?k20 ?a21 ?l21 ?c21 ?k21 ?a22 ?l22 ?c22 ?k22 ?a23 ?l23 ?c23 ?k23 ?a24 ?l24 ?c24 ?k24 ?a25 ?l25 ?c25 ?k25 ?a26 ?l26 ?c26 ?k26 ?a27 ?l27 ?c27 ?k27 ?a28 ?l28 ?c28 ?k28 ?a29 ?l29 ?c29 ?k29 ?a30 ?l30 ?c30 ?k30 ?a31 ?l31 ?c31 ?k31 ?a32 ?l32 ?c32 ?k32 ?a33 ?l33 ?c33 ?k33 ?a34 ?l34 ?c34 ?k34 ?a35 ?l35 ?c35 ?k35 ?a36 ?l36 ?c36 ?k36 ?a37 ?l37 ?c37 ?k37 ?a38 ?l38 ?c38 ?k38 ?z_abs ?z_all ?z_bool ?z_enumerate ?z_int ?z_isinstance ?z_len ?z_list ?z_max ?z_min ?z_range ?z_str ?z_tuple ?a_BadDocument ?bs_BadDocument ?tx_BadDocument ?hd_BadDocument ?hnO ?htO ?x_BadDocument ?kx_BadDocument ?ga_BadDocument ?gg_BadDocument ?cl_BadDocument ?mo_BadDocument ?sv_BadDocument ?sb_BadDocument_BadDocument ?as_NAME_LETTERS ?as_TEXT_CHARACTERS ?ai_MOST_NAME_LETTERS ?ai_MOST_TEXT_CHARACTERS ?ai_MOST_MARKS ?ai_MOST_ITEMS_OF_A_PART ?ai_MOST_DEPTH ?ai_MOST_ITEMS ?ai_MOST_CHARACTERS ?ai_MOST_REFERENCES
    (case a0 => k_is); (case l0 => k_is); (case c0 => k_is); (case k0 => k_is); (case a1 => k_is); (case l1 => k_is); (case c1 => k_is); (case k1 => k_is); (case a2 => k_is); (case l2 => k_is); (case c2 => k_is); (case k2 => k_is); (case a3 => k_is); (case l3 => k_is); (case c3 => k_is); (case k3 => k_is); (case a4 => k_is); (case l4 => k_is); (case c4 => k_is); (case k4 => k_is); (case a5 => k_is); (case l5 => k_is); (case c5 => k_is); (case k5 => k_is); (case a6 => k_is); (case l6 => k_is); (case c6 => k_is); (case k6 => k_is); (case a7 => k_is); (case l7 => k_is); (case c7 => k_is); (case k7 => k_is); (case a8 => k_is); (case l8 => k_is); (case c8 => k_is); (case k8 => k_is); (case a9 => k_is); (case l9 => k_is); (case c9 => k_is); (case k9 => k_is); (case a10 => k_is); (case l10 => k_is); (case c10 => k_is); (case k10 => k_is); (case a11 => k_is); (case l11 => k_is); (case c11 => k_is); (case k11 => k_is); (case a12 => k_is); (case l12 => k_is); (case c12 => k_is); (case k12 => k_is); (case a13 => k_is); (case l13 => k_is); (case c13 => k_is); (case k13 => k_is); (case a14 => k_is); (case l14 => k_is); (case c14 => k_is); (case k14 => k_is); (case a15 => k_is); (case l15 => k_is); (case c15 => k_is); (case k15 => k_is); (case a16 => k_is); (case l16 => k_is); (case c16 => k_is); (case k16 => k_is); (case a17 => k_is); (case l17 => k_is); (case c17 => k_is); (case k17 => k_is); (case a18 => k_is); (case l18 => k_is); (case c18 => k_is); (case k18 => k_is); (case a19 => k_is); (case l19 => k_is); (case c19 => k_is); (case k19 => k_is); (case a20 => k_is); (case l20 => k_is); (case c20 => k_is); (case k20 => k_is); (case a21 => k_is); (case l21 => k_is); (case c21 => k_is); (case k21 => k_is); (case a22 => k_is); (case l22 => k_is); (case c22 => k_is); (case k22 => k_is); (case a23 => k_is); (case l23 => k_is); (case c23 => k_is); (case k23 => k_is); (case a24 => k_is); (case l24 => k_is); (case c24 => k_is); (case k24 => k_is); (case a25 => k_is); (case l25 => k_is); (case c25 => k_is); (case k25 => k_is); (case a26 => k_is); (case l26 => k_is); (case c26 => k_is); (case k26 => k_is); (case a27 => k_is); (case l27 => k_is); (case c27 => k_is); (case k27 => k_is); (case a28 => k_is); (case l28 => k_is); (case c28 => k_is); (case k28 => k_is); (case a29 => k_is); (case l29 => k_is); (case c29 => k_is); (case k29 => k_is); (case a30 => k_is); (case l30 => k_is); (case c30 => k_is); (case k30 => k_is); (case a31 => k_is); (case l31 => k_is); (case c31 => k_is); (case k31 => k_is); (case a32 => k_is); (case l32 => k_is); (case c32 => k_is); (case k32 => k_is); (case a33 => k_is); (case l33 => k_is); (case c33 => k_is); (case k33 => k_is); (case a34 => k_is); (case l34 => k_is); (case c34 => k_is); (case k34 => k_is); (case a35 => k_is); (case l35 => k_is); (case c35 => k_is); (case k35 => k_is); (case a36 => k_is); (case l36 => k_is); (case c36 => k_is); (case k36 => k_is); (case a37 => k_is); (case l37 => k_is); (case c37 => k_is); (case k37 => k_is); (case a38 => k_is); (case l38 => k_is); (case c38 => k_is); (case k38 => k_is); (case z_abs => k_is); (case z_all => k_is); (case z_bool => k_is); (case z_enumerate => k_is); (case z_int => k_is); (case z_isinstance => k_is); (case z_len => k_is); (case z_list => k_is); (case z_max => k_is); (case z_min => k_is); (case z_range => k_is); (case z_str => k_is); (case z_tuple => k_is); (case a_BadDocument => k_is); (case bs_BadDocument => k_is); (case tx_BadDocument => k_is); (case hd_BadDocument => k_is); (case hnO => k_is); (case htO => k_is); (case x_BadDocument => k_exc); (case kx_BadDocument => k_is); (case ga_BadDocument => k_is); (case gg_BadDocument => k_is); (case cl_BadDocument => k_is); (case mo_BadDocument => k_is); (case sv_BadDocument => k_is); (case sb_BadDocument_BadDocument => k_is); (case as_NAME_LETTERS => k_is); (case as_TEXT_CHARACTERS => k_is); (case ai_MOST_NAME_LETTERS => k_is); (case ai_MOST_TEXT_CHARACTERS => k_is); (case ai_MOST_MARKS => k_is); (case ai_MOST_ITEMS_OF_A_PART => k_is); (case ai_MOST_DEPTH => k_is); (case ai_MOST_ITEMS => k_is); (case ai_MOST_CHARACTERS => k_is); (case ai_MOST_REFERENCES => k_is)
