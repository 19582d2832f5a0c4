import PyProof.Rows.All
import Wide.All
import OpenK.AllK
import Wide.FinOn
import HandS.ForMost
import HandS.IsInst
import HandS.TupAny
import HandS.Wide
import HandS.Flow
import PySem.Challenge.RW_stylepages_k27_corners_of_outlines
set_option Elab.async false
set_option linter.all false
set_option maxRecDepth 100000
set_option maxHeartbeats 4000000
/-! An own layer over HandS: environments of pure data, owned lists, symbolic runs. -/
namespace Ab
open PySem L2

/-! ### data -/
inductive Dt where
  | raw (v : V)
  | tup (ds : List Dt)
  | lst (ds : List Dt)
  | obj (C : Addr) (fs : List (Str × Dt))
  | scr (ns : List Int)
abbrev Dt.int (i : Int) : Dt := .raw (.int i)
abbrev Dt.bl (b : Bool) : Dt := .raw (.bl b)
abbrev Dt.str (s : Str) : Dt := .raw (.str s)
abbrev Dt.non : Dt := .raw .non

inductive Is (K : PySem.W.Frag) (B : Hp) : V → Dt → Prop where
  | raw (v : V) : Is K B v (.raw v)
  | tup {a : Addr} {xs : List V} {ds : List Dt} (h : SqT K B a xs) (hl : xs.length = ds.length) (hi : ∀ (i : Nat) v d, xs[i]? = some v → ds[i]? = some d → Is K B v d) : Is K B (.ref a) (.tup ds)
  | lst {a : Addr} {xs : List V} {ds : List Dt} (h : B a = some (.lst xs)) (hl : xs.length = ds.length) (hi : ∀ (i : Nat) v d, xs[i]? = some v → ds[i]? = some d → Is K B v d) : Is K B (.ref a) (.lst ds)
  | obj {a dx C : Addr} {fs : List (Str × V)} {gs : List (Str × Dt)} (h : B a = some (.ins C dx fs)) (hk : ∀ f : Str, (fs.lookup f).isSome = (gs.lookup f).isSome) (hi : ∀ (f : Str) v d, fs.lookup f = some v → gs.lookup f = some d → Is K B v d) : Is K B (.ref a) (.obj C gs)
  | scr {a : Addr} {ns : List Int} (h : SqL K B a (ns.map V.int)) : Is K B (.ref a) (.scr ns)
/-- items -/
structure IsA (K : PySem.W.Frag) (B : Hp) (vs : List V) (ds : List Dt) : Prop where
  len : vs.length = ds.length
  at_ : ∀ (i : Nat) v d, vs[i]? = some v → ds[i]? = some d → Is K B v d

section
variable {K : PySem.W.Frag} {B B' H H' : Hp} {v : V} {d : Dt} {vs : List V} {ds : List Dt}
theorem sqT_mono {a : Addr} {xs : List V} (e : Same B B') (h : SqT K B a xs) : SqT K B' a xs := by
  rcases h with (h | ⟨o, h⟩) | h
  · exact .inl (.inl (e _ _ h))
  · exact .inl (.inr ⟨o, e _ _ h⟩)
  · exact .inr h
theorem Is.mono (e : Same B B') (h : Is K B v d) : Is K B' v d := by
  induction h with
  | raw v => exact .raw v
  | tup h hl hi ih => exact .tup (sqT_mono e h) hl ih
  | lst h hl hi ih => exact .lst (e _ _ h) hl ih
  | obj h hk hi ih => exact .obj (e _ _ h) hk ih
  | scr h => exact .scr (e.seq h)
theorem IsA.mono (e : Same B B') (h : IsA K B vs ds) : IsA K B' vs ds := ⟨h.len, fun i v d a b => (h.at_ i v d a b).mono e⟩
theorem Is.rawI (h : Is K B v (.raw u)) : v = u := by cases h; rfl
theorem IsA.nil : IsA K B [] [] := ⟨rfl, fun i v d a => by simp at a⟩
theorem IsA.snoc (h : IsA K B vs ds) (hv : Is K B v d) : IsA K B (vs ++ [v]) (ds ++ [d]) := by
  refine ⟨by simp [h.len], fun i w e a b => ?_⟩
  by_cases hi : i < vs.length
  · rw [List.getElem?_append_left hi] at a
    rw [List.getElem?_append_left (by rw [← h.len]; exact hi)] at b
    exact h.at_ i w e a b
  · rw [List.getElem?_append_right (by omega)] at a
    rw [List.getElem?_append_right (by rw [← h.len]; omega)] at b
    rw [← h.len] at b
    generalize i - vs.length = j at a b
    cases j with
    | zero => simp at a b; subst a b; exact hv
    | succ j => simp at a
theorem IsA.cons (hv : Is K B v d) (h : IsA K B vs ds) : IsA K B (v :: vs) (d :: ds) := by
  refine ⟨by simp [h.len], fun i w e a b => ?_⟩
  cases i with
  | zero => simp at a b; subst a b; exact hv
  | succ j => simp at a b; exact h.at_ j w e a b
theorem IsA.append {us : List V} {es : List Dt} (h : IsA K B vs ds) (h' : IsA K B us es) : IsA K B (vs ++ us) (ds ++ es) := by
  refine ⟨by simp [h.len, h'.len], fun i w e a b => ?_⟩
  by_cases hi : i < vs.length
  · rw [List.getElem?_append_left hi] at a
    rw [List.getElem?_append_left (by rw [← h.len]; exact hi)] at b
    exact h.at_ i w e a b
  · rw [List.getElem?_append_right (by omega)] at a
    rw [List.getElem?_append_right (by rw [← h.len]; omega)] at b
    rw [← h.len] at b
    exact h'.at_ _ w e a b
theorem IsA.get {i : Nat} (h : IsA K B vs ds) (e : ds[i]? = some d) : ∃ v, vs[i]? = some v ∧ Is K B v d := by
  have hi : i < ds.length := (List.getElem?_eq_some_iff.mp e).1
  have hv : i < vs.length := by rw [h.len]; exact hi
  exact ⟨vs[i], List.getElem?_eq_getElem hv, h.at_ i _ d (List.getElem?_eq_getElem hv) e⟩
theorem IsA.set {j : Nat} (h : IsA K B vs ds) (hv : Is K B v d) : IsA K B (vs.set j v) (ds.set j d) := by
  refine ⟨by simp [h.len], fun i w e a b => ?_⟩
  by_cases hij : j = i
  · subst hij
    have h1 : j < (vs.set j v).length := (List.getElem?_eq_some_iff.mp a).1
    rw [List.length_set] at h1
    rw [List.getElem?_set_self h1] at a
    rw [List.getElem?_set_self (by rw [← h.len]; exact h1)] at b
    cases a; cases b; exact hv
  · rw [List.getElem?_set_ne hij] at a b
    exact h.at_ i w e a b
theorem IsA.drop (n : Nat) (h : IsA K B vs ds) : IsA K B (vs.drop n) (ds.drop n) := by
  refine ⟨by simp [h.len], fun i w e a b => ?_⟩
  rw [List.getElem?_drop] at a b
  exact h.at_ _ w e a b
theorem IsA.take (n : Nat) (h : IsA K B vs ds) : IsA K B (vs.take n) (ds.take n) := by
  refine ⟨by simp [h.len], fun i w e a b => ?_⟩
  rw [List.getElem?_take] at a b
  split at a
  · rename_i hi
    rw [if_pos hi] at b
    exact h.at_ _ w e a b
  · cases a
theorem IsA.reverse (h : IsA K B vs ds) : IsA K B vs.reverse ds.reverse := by
  refine ⟨by simp [h.len], fun i w e a b => ?_⟩
  have hi : i < vs.length := by
    have := (List.getElem?_eq_some_iff.mp a).1
    simpa using this
  rw [List.getElem?_reverse hi] at a
  rw [List.getElem?_reverse (by rw [← h.len]; exact hi)] at b
  rw [← h.len] at b
  exact h.at_ _ w e a b
theorem IsA.eraseIdx (j : Nat) (h : IsA K B vs ds) : IsA K B (vs.eraseIdx j) (ds.eraseIdx j) := by
  refine ⟨by simp [List.length_eraseIdx, h.len], fun i w e a b => ?_⟩
  rw [List.getElem?_eraseIdx] at a b
  split at a
  · rename_i hi; rw [if_pos hi] at b; exact h.at_ _ w e a b
  · rename_i hi; rw [if_neg hi] at b; exact h.at_ _ w e a b
theorem IsA.tupI {a : Addr} (h : Is K B (.ref a) (.tup ds)) : ∃ xs, SqT K B a xs ∧ IsA K B xs ds := by
  cases h with
  | tup h hl hi => exact ⟨_, h, hl, hi⟩
theorem IsA.lstI {a : Addr} (h : Is K B (.ref a) (.lst ds)) : ∃ xs, B a = some (.lst xs) ∧ IsA K B xs ds := by
  cases h with
  | lst h hl hi => exact ⟨_, h, hl, hi⟩
theorem Is.tupR (h : Is K B v (.tup ds)) : ∃ a xs, v = .ref a ∧ SqT K B a xs ∧ IsA K B xs ds := by
  cases h with
  | tup h hl hi => exact ⟨_, _, rfl, h, hl, hi⟩
theorem Is.lstR (h : Is K B v (.lst ds)) : ∃ a xs, v = .ref a ∧ B a = some (.lst xs) ∧ IsA K B xs ds := by
  cases h with
  | lst h hl hi => exact ⟨_, _, rfl, h, hl, hi⟩
theorem IsA.atI {i : Int} {d : Dt} (h : IsA K B vs ds) (e : L2.atI ds i = some d) : ∃ v, L2.atI vs i = some v ∧ Is K B v d := by
  unfold L2.atI at e ⊢
  rw [h.len]
  cases q : ixN ds.length i with
  | none => rw [q] at e; cases e
  | some j =>
    rw [q] at e
    exact h.get e
theorem IsA.raws : ∀ {xs : List V}, IsA K B xs (xs.map Dt.raw)
  | [] => .nil
  | x :: r => .cons (.raw x) IsA.raws
theorem IsA.rawsI : ∀ {us xs : List V}, IsA K B us (xs.map Dt.raw) → us = xs
  | [], [], _ => rfl
  | [], _ :: _, h => by have := h.len; simp at this
  | _ :: _, [], h => by have := h.len; simp at this
  | u :: us, x :: xs, h => by
    have h0 := h.at_ 0 u (.raw x) rfl rfl
    have ht : IsA K B us (xs.map Dt.raw) := ⟨by have := h.len; simpa using this, fun i v d a b => h.at_ (i + 1) v d (by simpa using a) (by simpa using b)⟩
    rw [h0.rawI, ht.rawsI]
end

/-! ### environments -/
inductive Sl where
  | un
  | val (d : Dt)
  | acc (ds : List Dt)
def Own (σ : L2.St) (Γ : List Sl) (a : Addr) : Prop := ∃ (i : Nat) (ds : List Dt), Γ[i]? = some (.acc ds) ∧ σ[i]? = some (some (.ref a))
structure Env (K : PySem.W.Frag) (B H : Hp) (σ : L2.St) (Γ : List Sl) : Prop where
  len : σ.length = Γ.length
  bh : Same B H
  val : ∀ (i : Nat) d, Γ[i]? = some (.val d) → ∃ v, σ[i]? = some (some v) ∧ Is K B v d
  acc : ∀ (i : Nat) ds, Γ[i]? = some (.acc ds) → ∃ l vs, σ[i]? = some (some (.ref l)) ∧ H l = some (.lst vs) ∧ B l = none ∧ IsA K B vs ds
  sep : ∀ (i j : Nat) ds es l, Γ[i]? = some (.acc ds) → Γ[j]? = some (.acc es) → σ[i]? = some (some (.ref l)) → σ[j]? = some (some (.ref l)) → i = j
/-- from (B, H) to (B', H'): what is not owned (m) stays -/
structure Mv (m : Addr → Prop) (B H B' H' : Hp) : Prop where
  kp : ∀ a o, ¬ m a → H a = some o → H' a = some o
  bb : Same B B'
  off : ∀ a, ¬ m a → H a ≠ none → B a = none → B' a = none
theorem Mv.refl (m : Addr → Prop) (B H : Hp) : Mv m B H B H := ⟨fun _ _ _ h => h, Same.refl B, fun _ _ _ h => h⟩
theorem Mv.trans {m m1 : Addr → Prop} {B H B1 H1 B2 H2 : Hp} (x : Mv m B H B1 H1) (hm : ∀ a, m1 a → m a ∨ H a = none) (y : Mv m1 B1 H1 B2 H2) : Mv m B H B2 H2 := by
  have nm : ∀ a, ¬ m a → H a ≠ none → ¬ m1 a := fun a na ha z => (hm a z).elim na ha
  refine ⟨fun a o na e => ?_, x.bb.trans y.bb, fun a na ha hb => ?_⟩
  · exact y.kp a o (nm a na (by rw [e]; exact fun z => nomatch z)) (x.kp a o na e)
  · refine y.off a (nm a na ha) ?_ (x.off a na ha hb)
    cases q : H a with
    | none => exact absurd q ha
    | some o => rw [x.kp a o na q]; exact fun z => nomatch z
theorem Mv.back {m : Addr → Prop} {B H B1 H1 : Hp} (x : Mv m B H B1 H1) {a : Addr} (h : H1 a = none) : m a ∨ H a = none := by
  by_cases hm : m a
  · exact .inl hm
  · refine .inr ?_
    cases q : H a with
    | none => rfl
    | some o => rw [x.kp a o hm q] at h; cases h
/-- results: data, a new list, or the owned list of a slot (borrowed) -/
inductive Re where
  | val (d : Dt)
  | new (ds : List Dt)
  | own (i : Nat)
def Re.dt? : Re → Option Dt
  | .val d => some d
  | .new ds => some (.lst ds)
  | .own _ => none
def ReOk (K : PySem.W.Frag) (σ : L2.St) (m m' : Addr → Prop) (B' H H' : Hp) (v : V) : Re → Prop
  | .val d => Is K B' v d
  | .new ds => ∃ l vs, v = .ref l ∧ (m l ∨ H l = none) ∧ ¬ m' l ∧ H' l = some (.lst vs) ∧ B' l = none ∧ IsA K B' vs ds
  | .own i => ∃ l, v = .ref l ∧ σ[i]? = some (some (.ref l))
/-- an expression went from (B, H, Γ) to (B', H', Γ') -/
structure Go (K : PySem.W.Frag) (σ : L2.St) (B H : Hp) (Γ : List Sl) (B' H' : Hp) (Γ' : List Sl) : Prop where
  mv : Mv (Own σ Γ) B H B' H'
  ac : ∀ (i : Nat) ds, Γ'[i]? = some (.acc ds) → ∃ es, Γ[i]? = some (.acc es)
  env : Env K B' H' σ Γ'
theorem Go.sub {K : PySem.W.Frag} {σ : L2.St} {B H B' H' : Hp} {Γ Γ' : List Sl} (g : Go K σ B H Γ B' H' Γ') : ∀ a, Own σ Γ' a → Own σ Γ a := fun a ⟨i, ds, h1, h2⟩ => by
  obtain ⟨es, h⟩ := g.ac i ds h1
  exact ⟨i, es, h, h2⟩
section
variable {K : PySem.W.Frag} {σ : L2.St} {B H B1 H1 B2 H2 : Hp} {Γ Γ1 Γ2 : List Sl} {v : V} {r : Re}
theorem Go.refl (E : Env K B H σ Γ) : Go K σ B H Γ B H Γ := ⟨Mv.refl _ _ _, fun _ ds h => ⟨ds, h⟩, E⟩
theorem Go.trans (x : Go K σ B H Γ B1 H1 Γ1) (y : Go K σ B1 H1 Γ1 B2 H2 Γ2) : Go K σ B H Γ B2 H2 Γ2 :=
  ⟨x.mv.trans (fun a h => .inl (x.sub a h)) y.mv, fun i ds h => by
    obtain ⟨es, h1⟩ := y.ac i ds h
    exact x.ac i es h1, y.env⟩
theorem Env.tracked (E : Env K B H σ Γ) {a : Addr} (h : Own σ Γ a) : ∃ vs, H a = some (.lst vs) ∧ B a = none := by
  obtain ⟨i, ds, h1, h2⟩ := h
  obtain ⟨l, vs, e1, e2, e3, _⟩ := E.acc i ds h1
  rw [h2] at e1
  cases e1
  exact ⟨vs, e2, e3⟩
theorem ReOk.raw {m m' : Addr → Prop} (v : V) : ReOk K σ m m' B1 H H1 v (.val (.raw v)) := Is.raw v
/-- a result stays while later parts run -/
theorem ReOk.step {m m1 m2 : Addr → Prop} (h : ReOk K σ m m1 B1 H H1 v r) (y : Mv m1 B1 H1 B2 H2) (hs : ∀ a, m2 a → m1 a) : ReOk K σ m m2 B2 H H2 v r := by
  cases r with
  | val d => exact Is.mono y.bb h
  | new ds =>
    obtain ⟨l, vs, e, h1, h2, h3, h4, h5⟩ := h
    exact ⟨l, vs, e, h1, fun z => h2 (hs l z), y.kp l _ h2 h3, y.off l h2 (by rw [h3]; exact fun z => nomatch z) h4, h5.mono y.bb⟩
  | own i => exact h
/-- seen from an earlier start -/
theorem ReOk.earlier {m m1 m2 : Addr → Prop} (h : ReOk K σ m1 m2 B2 H1 H2 v r) (x : Mv m B H B1 H1) (hm : ∀ a, m1 a → m a ∨ H a = none) : ReOk K σ m m2 B2 H H2 v r := by
  cases r with
  | val d => exact h
  | new ds =>
    obtain ⟨l, vs, e, h1, h2, h3⟩ := h
    refine ⟨l, vs, e, ?_, h2, h3⟩
    rcases h1 with h1 | h1
    · exact hm l h1
    · exact x.back h1
  | own i => exact h
/-- new data are laid on the base -/
theorem Env.laid (E : Env K B H σ Γ) {p : Addr} {o : HO} (hp : H p = none) : Env K (upd B p o) (upd H p o) σ Γ := by
  have hb : B p = none := by
    cases q : B p with
    | none => rfl
    | some u => rw [E.bh p u q] at hp; cases hp
  have sB : Same B (upd B p o) := fun a u e => by rw [upd_ne (ne_of_none e hb)]; exact e
  refine ⟨E.len, fun a u e => ?_, fun i d h => ?_, fun i ds h => ?_, E.sep⟩
  · by_cases ha : a = p
    · subst ha; rw [upd_same] at e ⊢; exact e
    · rw [upd_ne ha] at e ⊢; exact E.bh a u e
  · obtain ⟨v, e, q⟩ := E.val i d h
    exact ⟨v, e, q.mono sB⟩
  · obtain ⟨l, vs, e, e1, e2, q⟩ := E.acc i ds h
    have hl : l ≠ p := ne_of_none e1 hp
    exact ⟨l, vs, e, by rw [upd_ne hl]; exact e1, by rw [upd_ne hl]; exact e2, q.mono sB⟩
theorem Go.laid (E : Env K B H σ Γ) {p : Addr} {o : HO} (hp : H p = none) : Go K σ B H Γ (upd B p o) (upd H p o) Γ := by
  have hb : B p = none := by
    cases q : B p with
    | none => rfl
    | some u => rw [E.bh p u q] at hp; cases hp
  refine ⟨⟨fun a u _ e => by rw [upd_ne (ne_of_none e hp)]; exact e, fun a u e => by rw [upd_ne (ne_of_none e hb)]; exact e, fun a _ ha hb' => ?_⟩, fun _ ds h => ⟨ds, h⟩, E.laid hp⟩
  have : a ≠ p := fun z => by subst z; exact ha hp
  rw [upd_ne this]; exact hb'
/-- a new object beside the base -/
theorem Env.beside (E : Env K B H σ Γ) {p : Addr} {o : HO} (hp : H p = none) : Env K B (upd H p o) σ Γ := by
  refine ⟨E.len, fun a u e => ?_, E.val, fun i ds h => ?_, E.sep⟩
  · have h := E.bh a u e
    rw [upd_ne (ne_of_none h hp)]; exact h
  · obtain ⟨l, vs, e, e1, e2, q⟩ := E.acc i ds h
    exact ⟨l, vs, e, by rw [upd_ne (ne_of_none e1 hp)]; exact e1, e2, q⟩
theorem Go.beside (E : Env K B H σ Γ) {p : Addr} {o : HO} (hp : H p = none) : Go K σ B H Γ B (upd H p o) Γ :=
  ⟨⟨fun a u _ e => by rw [upd_ne (ne_of_none e hp)]; exact e, Same.refl B, fun _ _ _ h => h⟩, fun _ ds h => ⟨ds, h⟩, E.beside hp⟩
theorem Env.base_none (E : Env K B H σ Γ) {p : Addr} (hp : H p = none) : B p = none := by
  cases q : B p with
  | none => rfl
  | some u => rw [E.bh p u q] at hp; cases hp
theorem Env.not_own (E : Env K B H σ Γ) {p : Addr} (hp : H p = none) : ¬ Own σ Γ p := fun z => by
  obtain ⟨vs, h, _⟩ := E.tracked z
  rw [hp] at h; cases h
end

/-! ### expressions, tests, arguments -/
def WE (K : PySem.W.Frag) (te : TE) (Γ : List Sl) (Post : Re → List Sl → Prop) : Prop := ∀ σ B H, Env K B H σ Γ → ∀ Q : VK,
  (∀ v B' H' r Γ', Go K σ B H Γ B' H' Γ' → ReOk K σ (Own σ Γ) (Own σ Γ') B' H H' v r → Post r Γ' → Q v H') → te σ H Q
def WT (K : PySem.W.Frag) (tt : TT) (Γ : List Sl) (Post : Bool → List Sl → Prop) : Prop := ∀ σ B H, Env K B H σ Γ → ∀ Q : Bool → Hp → Prop,
  (∀ b B' H' Γ', Go K σ B H Γ B' H' Γ' → Post b Γ' → Q b H') → tt σ H Q
/-- a list of data (what is new is laid on the base) -/
def WD (K : PySem.W.Frag) (ta : TA) (Γ : List Sl) (Post : List Dt → List Sl → Prop) : Prop := ∀ σ B H, Env K B H σ Γ → ∀ Q : List V → Hp → Prop,
  (∀ vs B' H' ds Γ', Go K σ B H Γ B' H' Γ' → IsA K B' vs ds → Post ds Γ' → Q vs H') → ta σ H Q
section
variable {K : PySem.W.Frag} {Γ : List Sl} {Post : Re → List Sl → Prop} {ta tb tc te : TE} {t u : TT}
theorem we_mono {Post' : Re → List Sl → Prop} (h : WE K te Γ Post) (hp : ∀ r Γ', Post r Γ' → Post' r Γ') : WE K te Γ Post' := fun σ B H E Q q => h σ B H E Q fun v B' H' r Γ' g k p => q v B' H' r Γ' g k (hp r Γ' p)
theorem we_var {i : Nat} {d : Dt} (h : Γ[i]? = some (.val d)) (p : Post (.val d) Γ) : WE K (tVar i) Γ Post := fun σ B H E Q q => by
  obtain ⟨v, e, k⟩ := E.val i d h
  exact ⟨v, e, q v B H (.val d) Γ (.refl E) k p⟩
theorem we_c {v : V} (p : Post (.val (.raw v)) Γ) : WE K (tC v) Γ Post := fun σ B H E Q q => q v B H (.val (.raw v)) Γ (.refl E) (.raw v) p
/-- an owned list is read -/
theorem we_own {i : Nat} {ds : List Dt} (h : Γ[i]? = some (.acc ds)) (p : Post (.own i) Γ) : WE K (tVar i) Γ Post := fun σ B H E Q q => by
  obtain ⟨l, vs, e, e1, e2, k⟩ := E.acc i ds h
  exact ⟨.ref l, e, q (.ref l) B H (.own i) Γ (.refl E) ⟨l, rfl, e⟩ p⟩
/-- an owned list becomes data from now on -/
theorem go_frz {σ : L2.St} {B H : Hp} {i : Nat} {ds : List Dt} (h : Γ[i]? = some (.acc ds)) (E : Env K B H σ Γ) : ∃ B', Go K σ B H Γ B' H (Γ.set i (.val (.lst ds))) := by
  obtain ⟨l, vs, e, e1, e2, k⟩ := E.acc i ds h
  have hl : i < Γ.length := (List.getElem?_eq_some_iff.mp h).1
  have sB : Same B (upd B l (.lst vs)) := fun a u e => by rw [upd_ne (ne_of_none e e2)]; exact e
  have sub : ∀ {j : Nat} {s : Sl}, (Γ.set i (.val (.lst ds)))[j]? = some s → j ≠ i → Γ[j]? = some s := fun {j s} hj hn => by
    rw [List.getElem?_set_ne (fun z => hn z.symm)] at hj
    exact hj
  have acc : ∀ {j : Nat} {es : List Dt}, (Γ.set i (.val (.lst ds)))[j]? = some (.acc es) → j ≠ i := fun {j es} hj z => by
    subst z
    rw [List.getElem?_set_self hl] at hj
    cases hj
  refine ⟨upd B l (.lst vs), ⟨fun a o _ q => q, sB, fun a na ha hb => ?_⟩, fun j es h1 => ⟨es, sub h1 (acc h1)⟩, by rw [List.length_set]; exact E.len, fun a u q => ?_, fun j d hj => ?_, fun j es hj => ?_, fun j k ds es l h1 h2 => E.sep j k ds es l (sub h1 (acc h1)) (sub h2 (acc h2))⟩
  · have : a ≠ l := fun z => by
      subst z
      exact na ⟨i, ds, h, e⟩
    rw [upd_ne this]; exact hb
  · by_cases ha : a = l
    · subst ha; rw [upd_same] at q; cases q; exact e1
    · rw [upd_ne ha] at q; exact E.bh a u q
  · by_cases hji : j = i
    · subst hji
      rw [List.getElem?_set_self hl] at hj
      cases hj
      have k2 := k.mono sB
      exact ⟨.ref l, e, .lst upd_same k2.len k2.at_⟩
    · obtain ⟨w, q1, q2⟩ := E.val j d (sub hj hji)
      exact ⟨w, q1, q2.mono sB⟩
  · obtain ⟨c, us, q1, q2, q3, q4⟩ := E.acc j es (sub hj (acc hj))
    have hc : c ≠ l := fun z => by
      subst z
      exact acc hj (E.sep j i es ds c (sub hj (acc hj)) h q1 e)
    exact ⟨c, us, q1, q2, by rw [upd_ne hc]; exact q3, q4.mono sB⟩
theorem we_frz {i : Nat} {ds : List Dt} (h : Γ[i]? = some (.acc ds)) (k : WE K te (Γ.set i (.val (.lst ds))) Post) : WE K te Γ Post := fun σ B H E Q q => by
  obtain ⟨B', g⟩ := go_frz h E
  exact k σ B' H g.env Q fun v B2 H2 r Γ2 g2 k2 p => q v B2 H2 r Γ2 (g.trans g2) (ReOk.earlier k2 g.mv fun a h => .inl (g.sub a h)) p
/-- an owned list is handed on: its slot is empty from now on -/
theorem we_move {i : Nat} {ds : List Dt} (h : Γ[i]? = some (.acc ds)) (p : Post (.new ds) (Γ.set i .un)) : WE K (tVar i) Γ Post := fun σ B H E Q q => by
  obtain ⟨l, vs, e, e1, e2, k⟩ := E.acc i ds h
  have hl : i < Γ.length := (List.getElem?_eq_some_iff.mp h).1
  have ne : ∀ {j : Nat} {s : Sl}, (Γ.set i .un)[j]? = some s → s ≠ .un → j ≠ i := fun {j s} hj hs z => by
    subst z
    rw [List.getElem?_set_self hl] at hj
    cases hj; exact hs rfl
  have sub : ∀ {j : Nat} {s : Sl}, (Γ.set i .un)[j]? = some s → s ≠ .un → Γ[j]? = some s := fun {j s} hj hs => by
    have := ne hj hs
    rw [List.getElem?_set_ne (fun z => this z.symm)] at hj
    exact hj
  have E' : Env K B H σ (Γ.set i .un) := ⟨by rw [List.length_set]; exact E.len, E.bh, fun j d hj => E.val j d (sub hj (fun z => nomatch z)), fun j es hj => E.acc j es (sub hj (fun z => nomatch z)),
    fun j k ds es l h1 h2 => E.sep j k ds es l (sub h1 (fun z => nomatch z)) (sub h2 (fun z => nomatch z))⟩
  have sb : ∀ (j : Nat) es, (Γ.set i .un)[j]? = some (.acc es) → ∃ es', Γ[j]? = some (.acc es') := fun j es h1 => ⟨es, sub h1 (fun z => nomatch z)⟩
  refine ⟨.ref l, e, q (.ref l) B H (.new ds) _ ⟨Mv.refl _ _ _, sb, E'⟩ ⟨l, vs, rfl, .inl ⟨i, ds, h, e⟩, ?_, e1, e2, k⟩ p⟩
  rintro ⟨j, es, h1, h2⟩
  exact ne h1 (fun z => nomatch z) (E.sep j i es ds l (sub h1 (fun z => nomatch z)) h h2 e)
/-- a new list becomes data -/
theorem we_freeze (h : WE K te Γ fun r Γ1 => ∃ d, r.dt? = some d ∧ Post (.val d) Γ1) : WE K te Γ Post := fun σ B H E Q q => by
  refine h σ B H E Q fun v B1 H1 r Γ1 g k p => ?_
  obtain ⟨d, hd, p⟩ := p
  cases r with
  | own i => cases hd
  | val d =>
    cases hd
    exact q v B1 H1 (.val d) Γ1 g k p
  | new ds =>
    cases hd
    obtain ⟨l, vs, rfl, h1, h2, h3, h4, h5⟩ := k
    have sB : Same B1 (upd B1 l (.lst vs)) := fun a u e => by rw [upd_ne (ne_of_none e h4)]; exact e
    refine q (.ref l) (upd B1 l (.lst vs)) H1 (.val (.lst ds)) Γ1 ⟨⟨g.mv.kp, g.mv.bb.trans sB, fun a na ha hb => ?_⟩, g.ac, ?_⟩ ?_ p
    · have hal : a ≠ l := fun z => by
        subst z
        exact h1.elim na ha
      rw [upd_ne hal]; exact g.mv.off a na ha hb
    · refine ⟨g.env.len, fun a u e => ?_, fun i d hi => ?_, fun i es hi => ?_, g.env.sep⟩
      · by_cases ha : a = l
        · subst ha; rw [upd_same] at e; cases e; exact h3
        · rw [upd_ne ha] at e; exact g.env.bh a u e
      · obtain ⟨w, e, k⟩ := g.env.val i d hi
        exact ⟨w, e, k.mono sB⟩
      · obtain ⟨c, us, e, e1, e2, k⟩ := g.env.acc i es hi
        have hc : c ≠ l := fun z => by
          subst z
          exact h2 ⟨i, es, hi, e⟩
        exact ⟨c, us, e, e1, by rw [upd_ne hc]; exact e2, k.mono sB⟩
    · have h5' := h5.mono sB
      exact .lst upd_same h5'.len h5'.at_
/-! operations on ints -/
theorem we_opI {C : Int → Int → Prop} {g : Int → Int → V} (h : WE K ta Γ fun ra Γ1 => ∃ i, ra = .val (.int i) ∧ WE K tb Γ1 fun rb Γ2 => ∃ j, rb = .val (.int j) ∧ C i j ∧ Post (.val (.raw (g i j))) Γ2) : WE K (tOp (rI C g) ta tb) Γ Post := fun σ B H E Q q => by
  refine h σ B H E _ fun x B1 H1 ra Γ1 g1 k1 p1 => ?_
  obtain ⟨i, rfl, p1⟩ := p1
  refine p1 σ B1 H1 g1.env _ fun y B2 H2 rb Γ2 g2 k2 p2 => ?_
  obtain ⟨j, rfl, hc, p⟩ := p2
  cases Is.rawI k1
  cases Is.rawI k2
  exact ⟨i, j, rfl, rfl, hc, q _ B2 H2 _ Γ2 (g1.trans g2) (.raw _) p⟩
theorem we_opI0 {g : Int → Int → V} (h : WE K ta Γ fun ra Γ1 => ∃ i, ra = .val (.int i) ∧ WE K tb Γ1 fun rb Γ2 => ∃ j, rb = .val (.int j) ∧ Post (.val (.raw (g i j))) Γ2) : WE K (tOp (rI0 g) ta tb) Γ Post := fun σ B H E Q q => by
  refine h σ B H E _ fun x B1 H1 ra Γ1 g1 k1 p1 => ?_
  obtain ⟨i, rfl, p1⟩ := p1
  refine p1 σ B1 H1 g1.env _ fun y B2 H2 rb Γ2 g2 k2 p2 => ?_
  obtain ⟨j, rfl, p⟩ := p2
  cases Is.rawI k1
  cases Is.rawI k2
  exact ⟨i, j, rfl, rfl, q _ B2 H2 _ Γ2 (g1.trans g2) (.raw _) p⟩
theorem we_neg (h : WE K ta Γ fun ra Γ1 => ∃ i, ra = .val (.int i) ∧ Post (.val (.int (-i))) Γ1) : WE K (tUn (rU fun i => .int (-i)) ta) Γ Post := fun σ B H E Q q => by
  refine h σ B H E _ fun x B1 H1 ra Γ1 g1 k1 p1 => ?_
  obtain ⟨i, rfl, p⟩ := p1
  cases Is.rawI k1
  exact ⟨i, rfl, q _ B1 H1 _ Γ1 g1 (.raw _) p⟩
/-- two values in order; both are data then -/
theorem we_two {r : R2} (h : WE K ta Γ fun ra Γ1 => WE K tb Γ1 fun rb Γ2 => ∃ d e : Dt, ra = .val d ∧ rb = .val e ∧
      ∀ σ B H x y, Env K B H σ Γ2 → Is K B x d → Is K B y e → ∀ Q : VK, (∀ v B' H' z Γ', Go K σ B H Γ2 B' H' Γ' → ReOk K σ (Own σ Γ2) (Own σ Γ') B' H H' v z → Post z Γ' → Q v H') → r x y H Q) : WE K (tOp r ta tb) Γ Post := fun σ B H E Q q => by
  refine h σ B H E _ fun x B1 H1 ra Γ1 g1 k1 p1 => ?_
  refine p1 σ B1 H1 g1.env _ fun y B2 H2 rb Γ2 g2 k2 p2 => ?_
  obtain ⟨d, e, rfl, rfl, p⟩ := p2
  exact p σ B2 H2 x y g2.env (Is.mono g2.mv.bb k1) k2 Q fun v B' H' z Γ' g3 k3 p3 => q v B' H' z Γ' ((g1.trans g2).trans g3) (ReOk.earlier k3 (g1.trans g2).mv fun a h => .inl ((g1.trans g2).sub a h)) p3
/-- == of scalars -/
theorem we_eqS (h : WE K ta Γ fun ra Γ1 => WE K tb Γ1 fun rb Γ2 => ∃ x y : V, ra = .val (.raw x) ∧ rb = .val (.raw y) ∧ scal x y = true ∧ Post (.val (.bl (decide (x = y)))) Γ2) : WE K (tOp rEq ta tb) Γ Post :=
  we_two (we_mono h fun ra Γ1 h1 => we_mono h1 fun rb Γ2 ⟨x, y, e1, e2, hs, p⟩ => ⟨_, _, e1, e2, fun σ B H u w E ku kw Q q => by
    cases ku.rawI; cases kw.rawI
    exact ⟨hs, q _ B H _ Γ2 (.refl E) (.raw _) p⟩⟩)
theorem we_neS (h : WE K ta Γ fun ra Γ1 => WE K tb Γ1 fun rb Γ2 => ∃ x y : V, ra = .val (.raw x) ∧ rb = .val (.raw y) ∧ scal x y = true ∧ Post (.val (.bl (!decide (x = y)))) Γ2) : WE K (tOp rNe ta tb) Γ Post :=
  we_two (we_mono h fun ra Γ1 h1 => we_mono h1 fun rb Γ2 ⟨x, y, e1, e2, hs, p⟩ => ⟨_, _, e1, e2, fun σ B H u w E ku kw Q q => by
    cases ku.rawI; cases kw.rawI
    exact ⟨hs, q _ B H _ Γ2 (.refl E) (.raw _) p⟩⟩)
/-! tests -/
theorem wt_mono {P P' : Bool → List Sl → Prop} (h : WT K t Γ P) (hp : ∀ b Γ', P b Γ' → P' b Γ') : WT K t Γ P' := fun σ B H E Q q => h σ B H E Q fun b B' H' Γ' g p => q b B' H' Γ' g (hp b Γ' p)
theorem wt_test {P : Bool → List Sl → Prop} (h : WE K te Γ fun r Γ1 => ∃ b, r = .val (.bl b) ∧ P b Γ1) : WT K (tTest te) Γ P := fun σ B H E Q q => by
  refine h σ B H E _ fun x B1 H1 r Γ1 g k p => ?_
  obtain ⟨b, rfl, p⟩ := p
  cases Is.rawI k
  exact ⟨b, rfl, q b B1 H1 Γ1 g p⟩
theorem wt_B {P : Bool → List Sl → Prop} (h : WE K te Γ fun r Γ1 => ∃ b, r = .val (.bl b) ∧ P b Γ1) : WT K (tB te) Γ P := wt_test h
theorem wt_and {P : Bool → List Sl → Prop} (h : WT K t Γ fun b Γ1 => (b = true → WT K u Γ1 P) ∧ (b = false → P false Γ1)) : WT K (tAnd t u) Γ P := fun σ B H E Q q => by
  refine h σ B H E _ fun b B1 H1 Γ1 g p => ?_
  cases b with
  | true =>
    show u σ H1 Q
    exact p.1 rfl σ B1 H1 g.env Q fun b B' H' Γ' g' p' => q b B' H' Γ' (g.trans g') p'
  | false =>
    show Q false H1
    exact q false B1 H1 Γ1 g (p.2 rfl)
theorem wt_or {P : Bool → List Sl → Prop} (h : WT K t Γ fun b Γ1 => (b = false → WT K u Γ1 P) ∧ (b = true → P true Γ1)) : WT K (tOr t u) Γ P := fun σ B H E Q q => by
  refine h σ B H E _ fun b B1 H1 Γ1 g p => ?_
  cases b with
  | false =>
    show u σ H1 Q
    exact p.1 rfl σ B1 H1 g.env Q fun b B' H' Γ' g' p' => q b B' H' Γ' (g.trans g') p'
  | true =>
    show Q true H1
    exact q true B1 H1 Γ1 g (p.2 rfl)
theorem wt_not {P : Bool → List Sl → Prop} (h : WT K t Γ fun b Γ1 => P (!b) Γ1) : WT K (tNot t) Γ P := fun σ B H E Q q => h σ B H E _ fun b B1 H1 Γ1 g p => q (!b) B1 H1 Γ1 g p
theorem we_andV (h : WE K ta Γ fun ra Γ1 => ∃ b, ra = .val (.bl b) ∧ (b = true → WE K tb Γ1 Post) ∧ (b = false → Post (.val (.bl false)) Γ1)) : WE K (tAndV ta tb) Γ Post := fun σ B H E Q q => by
  refine h σ B H E _ fun x B1 H1 ra Γ1 g k p => ?_
  obtain ⟨b, rfl, p1, p2⟩ := p
  cases Is.rawI k
  refine ⟨b, rfl, ?_⟩
  cases b with
  | true =>
    show tb σ H1 Q
    exact p1 rfl σ B1 H1 g.env Q fun v B' H' r Γ' g' k' p' => q v B' H' r Γ' (g.trans g') (ReOk.earlier k' g.mv fun a h => .inl (g.sub a h)) p'
  | false =>
    show Q (.bl false) H1
    exact q _ B1 H1 _ Γ1 g (.raw _) (p2 rfl)
theorem we_orV (h : WE K ta Γ fun ra Γ1 => ∃ b, ra = .val (.bl b) ∧ (b = false → WE K tb Γ1 Post) ∧ (b = true → Post (.val (.bl true)) Γ1)) : WE K (tOrV ta tb) Γ Post := fun σ B H E Q q => by
  refine h σ B H E _ fun x B1 H1 ra Γ1 g k p => ?_
  obtain ⟨b, rfl, p1, p2⟩ := p
  cases Is.rawI k
  refine ⟨b, rfl, ?_⟩
  cases b with
  | false =>
    show tb σ H1 Q
    exact p1 rfl σ B1 H1 g.env Q fun v B' H' r Γ' g' k' p' => q v B' H' r Γ' (g.trans g') (ReOk.earlier k' g.mv fun a h => .inl (g.sub a h)) p'
  | true =>
    show Q (.bl true) H1
    exact q _ B1 H1 _ Γ1 g (.raw _) (p2 rfl)
theorem we_notV (h : WE K ta Γ fun ra Γ1 => ∃ b, ra = .val (.bl b) ∧ Post (.val (.bl (!b))) Γ1) : WE K (tNotV ta) Γ Post := fun σ B H E Q q => by
  refine h σ B H E _ fun x B1 H1 ra Γ1 g k p => ?_
  obtain ⟨b, rfl, p⟩ := p
  cases Is.rawI k
  exact ⟨b, rfl, q _ B1 H1 _ Γ1 g (.raw _) p⟩
theorem we_if (h : WT K t Γ fun b Γ1 => (b = true → WE K ta Γ1 Post) ∧ (b = false → WE K tb Γ1 Post)) : WE K (tIf t ta tb) Γ Post := fun σ B H E Q q => by
  refine h σ B H E _ fun b B1 H1 Γ1 g p => ?_
  cases b with
  | true =>
    show ta σ H1 Q
    exact p.1 rfl σ B1 H1 g.env Q fun v B' H' r Γ' g' k' p' => q v B' H' r Γ' (g.trans g') (ReOk.earlier k' g.mv fun a h => .inl (g.sub a h)) p'
  | false =>
    show tb σ H1 Q
    exact p.2 rfl σ B1 H1 g.env Q fun v B' H' r Γ' g' k' p' => q v B' H' r Γ' (g.trans g') (ReOk.earlier k' g.mv fun a h => .inl (g.sub a h)) p'
/-! lists of data -/
theorem wd_nil {P : List Dt → List Sl → Prop} (p : P [] Γ) : WD K tNil Γ P := fun σ B H E Q q => q [] B H [] Γ (.refl E) .nil p
theorem wd_cons {P : List Dt → List Sl → Prop} {tr : TA} (h : WE K te Γ fun r Γ1 => ∃ d, r.dt? = some d ∧ WD K tr Γ1 fun ds Γ2 => P (d :: ds) Γ2) : WD K (tCons te tr) Γ P := fun σ B H E Q q => by
  have h' : WE K te Γ fun r Γ1 => ∃ d, r = .val d ∧ WD K tr Γ1 fun ds Γ2 => P (d :: ds) Γ2 := we_freeze (we_mono h fun r Γ1 ⟨d, hd, k⟩ => ⟨d, hd, d, rfl, k⟩)
  refine h' σ B H E _ fun x B1 H1 ra Γ1 g1 k1 p1 => ?_
  obtain ⟨d, rfl, p1⟩ := p1
  refine p1 σ B1 H1 g1.env _ fun vs B2 H2 ds Γ2 g2 k2 p2 => ?_
  exact q (x :: vs) B2 H2 (d :: ds) Γ2 (g1.trans g2) (.cons (Is.mono g2.mv.bb k1) k2) p2
theorem we_tup {t : TA} (h : WD K t Γ fun ds Γ1 => ds.length ≤ 1000000 ∧ Post (.val (.tup ds)) Γ1) : WE K (tTup t) Γ Post := fun σ B H E Q q => by
  refine h σ B H E _ fun vs B1 H1 ds Γ1 g k p => ?_
  refine ⟨Nat.le_trans (by rw [k.len]; exact p.1) (by decide), fun a ha => ?_⟩
  have g2 := Go.laid (o := .tup vs) g.env ha
  have k2 := k.mono g2.mv.bb
  exact q (.ref a) _ _ (.val (.tup ds)) Γ1 (g.trans g2) (.tup (.inl (.inl upd_same)) k2.len k2.at_) p.2
theorem we_lst {t : TA} (h : WD K t Γ fun ds Γ1 => ds.length ≤ 1000000 ∧ Post (.new ds) Γ1) : WE K (tLst t) Γ Post := fun σ B H E Q q => by
  refine h σ B H E _ fun vs B1 H1 ds Γ1 g k p => ?_
  refine ⟨Nat.le_trans (by rw [k.len]; exact p.1) (by decide), fun a ha => ?_⟩
  have g2 := Go.beside (o := .lst vs) g.env ha
  refine q (.ref a) _ _ (.new ds) Γ1 (g.trans g2) ⟨a, vs, rfl, g.mv.back ha, g.env.not_own ha, upd_same, g.env.base_none ha, k⟩ p.2
/-- a call of a builtin on data -/
theorem we_cb {r : List V → Hp → VK → Prop} {t : TA} (h : WD K t Γ fun ds Γ1 => ∀ σ B H vs, Env K B H σ Γ1 → IsA K B vs ds → ∀ Q : VK, (∀ v B' H' z Γ', Go K σ B H Γ1 B' H' Γ' → ReOk K σ (Own σ Γ1) (Own σ Γ') B' H H' v z → Post z Γ' → Q v H') → r vs H Q) : WE K (tCB r t) Γ Post := fun σ B H E Q q => by
  refine h σ B H E _ fun vs B1 H1 ds Γ1 g k p => ?_
  exact p σ B1 H1 vs g.env k Q fun v B' H' z Γ' g' k' p' => q v B' H' z Γ' (g.trans g') (ReOk.earlier k' g.mv fun a h => .inl (g.sub a h)) p'
end
end Ab
namespace Ab
open PySem L2
/-! ### values at hand -/
def RvOk (K : PySem.W.Frag) (σ : L2.St) (B H : Hp) (Γ : List Sl) (v : V) : Re → Prop
  | .val d => Is K B v d
  | .new ds => ∃ l vs, v = .ref l ∧ ¬ Own σ Γ l ∧ H l = some (.lst vs) ∧ B l = none ∧ IsA K B vs ds
  | .own i => ∃ l, v = .ref l ∧ σ[i]? = some (some (.ref l))
/-- the items of a result -/
def seqOf (Γ : List Sl) : Re → Option (List Dt)
  | .val (.tup ds) => some ds
  | .val (.lst ds) => some ds
  | .val (.scr ns) => some (ns.map Dt.int)
  | .val _ => none
  | .new ds => some ds
  | .own i => match Γ[i]? with
    | some (.acc ds) => some ds
    | _ => none
/-- the items of a list -/
def lstOf (Γ : List Sl) : Re → Option (List Dt)
  | .val (.lst ds) => some ds
  | .val (.scr ns) => some (ns.map Dt.int)
  | .val _ => none
  | .new ds => some ds
  | .own i => match Γ[i]? with
    | some (.acc ds) => some ds
    | _ => none
def tyOf : Re → Option String
  | .val (.raw .non) => some "NoneType"
  | .val (.raw (.bl _)) => some "bool"
  | .val (.raw (.int _)) => some "int"
  | .val (.raw (.str _)) => some "str"
  | .val (.tup _) => some "tuple"
  | .val (.lst _) => some "list"
  | .new _ => some "list"
  | .own _ => some "list"
  | _ => none
section
variable {K : PySem.W.Frag} {σ : L2.St} {B H B1 H1 B2 H2 : Hp} {Γ Γ1 Γ2 : List Sl} {v : V} {r : Re} {ds : List Dt} {m m' : Addr → Prop}
theorem ReOk.rv (h : ReOk K σ m (Own σ Γ) B H1 H v r) : RvOk K σ B H Γ v r := by
  cases r with
  | val d => exact h
  | new ds => obtain ⟨l, vs, e, _, h2, h3⟩ := h; exact ⟨l, vs, e, h2, h3⟩
  | own i => exact h
theorem rv_lst (E : Env K B H σ Γ) (h : RvOk K σ B H Γ v r) (e : lstOf Γ r = some ds) : ∃ a vs, v = .ref a ∧ SqL K H a vs ∧ IsA K B vs ds := by
  cases r with
  | val d =>
    cases d with
    | lst es => cases e; obtain ⟨a, xs, rfl, h1, h2⟩ := Is.lstR h; exact ⟨a, xs, rfl, .inl (.inl (E.bh _ _ h1)), h2⟩
    | scr ns =>
      cases e
      cases h with
      | scr h => exact ⟨_, _, rfl, E.bh.seq h, by
          have := IsA.raws (K := K) (B := B) (xs := ns.map V.int)
          rwa [List.map_map] at this⟩
    | raw u => cases e
    | tup es => cases e
    | obj C fs => cases e
  | new es => cases e; obtain ⟨l, vs, rfl, _, h1, _, h2⟩ := h; exact ⟨l, vs, rfl, .inl (.inl h1), h2⟩
  | own i =>
    obtain ⟨l, rfl, hl⟩ := h
    have e' : (match Γ[i]? with
      | some (Sl.acc ds) => some ds
      | _ => none) = some ds := e
    split at e'
    · rename_i es hi
      cases e'
      obtain ⟨c, us, q1, q2, q3, q4⟩ := E.acc i _ hi
      rw [hl] at q1; cases q1
      exact ⟨l, us, rfl, .inl (.inl q2), q4⟩
    · cases e'
theorem rv_seq (E : Env K B H σ Γ) (h : RvOk K σ B H Γ v r) (e : seqOf Γ r = some ds) : ∃ a vs, v = .ref a ∧ (SqL K H a vs ∨ SqT K H a vs) ∧ IsA K B vs ds := by
  cases r with
  | val d =>
    cases d with
    | tup es => cases e; obtain ⟨a, xs, rfl, h1, h2⟩ := Is.tupR h; exact ⟨a, xs, rfl, .inr (sqT_mono E.bh h1), h2⟩
    | lst es => obtain ⟨a, xs, rfl, h1, h2⟩ := rv_lst E h e; exact ⟨a, xs, rfl, .inl h1, h2⟩
    | scr es => obtain ⟨a, xs, rfl, h1, h2⟩ := rv_lst E h e; exact ⟨a, xs, rfl, .inl h1, h2⟩
    | raw u => cases e
    | obj C fs => cases e
  | new es => obtain ⟨a, xs, rfl, h1, h2⟩ := rv_lst E h e; exact ⟨a, xs, rfl, .inl h1, h2⟩
  | own i => obtain ⟨a, xs, rfl, h1, h2⟩ := rv_lst E h e; exact ⟨a, xs, rfl, .inl h1, h2⟩
theorem ty_sqL {a : Addr} {xs : List V} (h : SqL K H a xs) : TyX K H (.ref a) (.type "list") := by
  rcases h with (h | ⟨o, h⟩) | ⟨o, its, n, h1, h2, _⟩
  · exact .base (.lst h)
  · exact .base (.frz h)
  · exact .kList h1 h2
theorem ty_sqT {a : Addr} {xs : List V} (h : SqT K H a xs) : TyX K H (.ref a) (.type "tuple") := by
  rcases h with (h | ⟨o, h⟩) | ⟨o, its, n, h1, h2, _⟩
  · exact .base (.tup h)
  · exact .fTuple h
  · exact .kTuple h1 h2
theorem rv_ty {T : String} (E : Env K B H σ Γ) (hi : ∀ i, r = .own i → ∃ ds, Γ[i]? = some (.acc ds)) (h : RvOk K σ B H Γ v r) (e : tyOf r = some T) : TyX K H v (.type T) := by
  cases r with
  | val d =>
    cases d with
    | raw u =>
      have hv : v = u := Is.rawI h
      subst hv
      cases v <;> first | (cases e; first | exact .base .non | exact .base (.bl _) | exact .base (.int _) | exact .base (.str _)) | cases e
    | tup es => cases e; obtain ⟨a, xs, rfl, h1, h2⟩ := Is.tupR h; exact ty_sqT (sqT_mono E.bh h1)
    | lst es => cases e; obtain ⟨a, xs, rfl, h1, h2⟩ := Is.lstR h; exact .base (.lst (E.bh _ _ h1))
    | scr es => cases e
    | obj C fs => cases e
  | new es => cases e; obtain ⟨l, vs, rfl, _, h1, _⟩ := h; exact .base (.lst h1)
  | own i =>
    cases e
    obtain ⟨l, rfl, hl⟩ := h
    obtain ⟨ds, hd⟩ := hi i rfl
    obtain ⟨c, us, q1, q2, _⟩ := E.acc i _ hd
    rw [hl] at q1; cases q1
    exact .base (.lst q2)
end
section
variable {K : PySem.W.Frag} {Γ : List Sl} {Post : Re → List Sl → Prop} {ta tb tc te : TE} {t u : TT}
/-- two parts, then an operation on the values at hand -/
theorem we_two' {r : R2} (h : WE K ta Γ fun ra Γ1 => WE K tb Γ1 fun rb Γ2 =>
      ∀ σ B H x y, Env K B H σ Γ2 → RvOk K σ B H Γ2 x ra → RvOk K σ B H Γ2 y rb → ∀ Q : VK, (∀ v B' H' z Γ', Go K σ B H Γ2 B' H' Γ' → ReOk K σ (Own σ Γ2) (Own σ Γ') B' H H' v z → Post z Γ' → Q v H') → r x y H Q) : WE K (tOp r ta tb) Γ Post := fun σ B H E Q q => by
  refine h σ B H E _ fun x B1 H1 ra Γ1 g1 k1 p1 => ?_
  refine p1 σ B1 H1 g1.env _ fun y B2 H2 rb Γ2 g2 k2 p2 => ?_
  exact p2 σ B2 H2 x y g2.env (ReOk.rv (ReOk.step k1 g2.mv g2.sub)) k2.rv Q fun v B' H' z Γ' g3 k3 p3 => q v B' H' z Γ' ((g1.trans g2).trans g3) (ReOk.earlier k3 (g1.trans g2).mv fun a h => .inl ((g1.trans g2).sub a h)) p3
/-- one part, then an operation on the value at hand -/
theorem we_one' {r : V → Hp → VK → Prop} (h : WE K ta Γ fun ra Γ1 => ∀ σ B H x, Env K B H σ Γ1 → RvOk K σ B H Γ1 x ra → ∀ Q : VK, (∀ v B' H' z Γ', Go K σ B H Γ1 B' H' Γ' → ReOk K σ (Own σ Γ1) (Own σ Γ') B' H H' v z → Post z Γ' → Q v H') → r x H Q) :
    ∀ σ B H, Env K B H σ Γ → ∀ Q : VK, (∀ v B' H' r Γ', Go K σ B H Γ B' H' Γ' → ReOk K σ (Own σ Γ) (Own σ Γ') B' H H' v r → Post r Γ' → Q v H') → ta σ H (fun x H1 => r x H1 Q) := fun σ B H E Q q => by
  refine h σ B H E _ fun x B1 H1 ra Γ1 g1 k1 p1 => ?_
  exact p1 σ B1 H1 x g1.env k1.rv Q fun v B' H' z Γ' g3 k3 p3 => q v B' H' z Γ' (g1.trans g3) (ReOk.earlier k3 g1.mv fun a h => .inl (g1.sub a h)) p3
/-- x[i] of a list, a tuple -/
theorem we_ix (h : WE K ta Γ fun ra Γ1 => WE K tb Γ1 fun rb Γ2 => ∃ ds k d, seqOf Γ2 ra = some ds ∧ rb = .val (.int k) ∧ atI ds k = some d ∧ Post (.val d) Γ2) : WE K (tOp (rIx K) ta tb) Γ Post :=
  we_two' (we_mono h fun ra Γ1 h1 => we_mono h1 fun rb Γ2 ⟨ds, k, d, hs, e, hd, p⟩ => fun σ B H x y E kx ky Q q => by
    subst e
    cases Is.rawI ky
    obtain ⟨a, vs, rfl, hq, ha⟩ := rv_seq E kx hs
    obtain ⟨v, hv, hi⟩ := ha.atI hd
    have fin := q v B H (.val d) Γ2 (.refl E) hi p
    rcases hq with hq | hq
    · exact .inl ⟨a, vs, k, v, rfl, rfl, hq, hv, fin⟩
    · exact .inr (.inl ⟨a, vs, k, v, rfl, rfl, hq, hv, fin⟩))
/-- s[i] of a text -/
theorem we_ixS (h : WE K ta Γ fun ra Γ1 => WE K tb Γ1 fun rb Γ2 => ∃ z k c, ra = .val (.str z) ∧ rb = .val (.int k) ∧ z.length ≤ 1000000 ∧ atI z.cps.toList k = some c ∧ Post (.val (.str ⟨#[c]⟩)) Γ2) : WE K (tOp (rIx K) ta tb) Γ Post :=
  we_two' (we_mono h fun ra Γ1 h1 => we_mono h1 fun rb Γ2 ⟨z, k, c, e1, e, hz, hd, p⟩ => fun σ B H x y E kx ky Q q => by
    subst e e1
    cases Is.rawI ky
    cases Is.rawI kx
    exact .inr (.inr ⟨z, k, c, rfl, rfl, Nat.le_trans hz (by decide), hd, q _ B H _ Γ2 (.refl E) (.raw _) p⟩))
/-! calls of built-ins with one argument -/
theorem we_cb1 {r : List V → Hp → VK → Prop} (h : WE K te Γ fun ra Γ1 => ∀ σ B H x, Env K B H σ Γ1 → RvOk K σ B H Γ1 x ra → ∀ Q : VK, (∀ v B' H' z Γ', Go K σ B H Γ1 B' H' Γ' → ReOk K σ (Own σ Γ1) (Own σ Γ') B' H H' v z → Post z Γ' → Q v H') → r [x] H Q) : WE K (tCB r (tCons te tNil)) Γ Post :=
  we_one' (r := fun x H Q => r [x] H Q) h
def rLenV (K : PySem.W.Frag) : List V → Hp → VK → Prop := fun xs H Q => ∃ x n, xs = [x] ∧ LenV K x H n ∧ Q (.int n) H
theorem we_len (h : WE K te Γ fun r Γ1 => ∃ ds, seqOf Γ1 r = some ds ∧ Post (.val (.int ds.length)) Γ1) : WE K (tCB (rLenV K) (tCons te tNil)) Γ Post :=
  we_cb1 (we_mono h fun r Γ1 ⟨ds, hs, p⟩ => fun σ B H x E kx Q q => by
    obtain ⟨a, vs, rfl, hq, ha⟩ := rv_seq E kx hs
    have e : (ds.length : Int) = (vs.length : Int) := by rw [ha.len]
    rw [e] at p
    refine ⟨_, vs.length, rfl, ?_, q _ B H _ Γ1 (.refl E) (.raw _) p⟩
    rcases hq with hq | hq
    · exact .inl ⟨vs, hq, rfl⟩
    · exact .inr ⟨vs, hq, rfl⟩)
theorem we_lenS (h : WE K te Γ fun r Γ1 => ∃ z, r = .val (.str z) ∧ z.length ≤ 1000000 ∧ Post (.val (.int z.length)) Γ1) : WE K (tCB (rLenV K) (tCons te tNil)) Γ Post :=
  we_cb1 (we_mono h fun r Γ1 ⟨z, e, hz, p⟩ => fun σ B H x E kx Q q => by
    subst e
    cases Is.rawI kx
    exact ⟨_, z.length, rfl, ⟨Nat.le_trans hz (by decide), rfl⟩, q _ B H _ Γ1 (.refl E) (.raw _) p⟩)
def rAbs : List V → Hp → VK → Prop := fun xs H Q => ∃ i, xs = [.int i] ∧ Q (.int (if i < 0 then -i else i)) H
theorem we_abs (h : WE K te Γ fun r Γ1 => ∃ i, r = .val (.int i) ∧ Post (.val (.int (if i < 0 then -i else i))) Γ1) : WE K (tCB rAbs (tCons te tNil)) Γ Post :=
  we_cb1 (we_mono h fun r Γ1 ⟨i, e, p⟩ => fun σ B H x E kx Q q => by
    subst e
    cases Is.rawI kx
    exact ⟨i, rfl, q _ B H _ Γ1 (.refl E) (.raw _) p⟩)
def rInt1 : List V → Hp → VK → Prop := fun xs H Q => (∃ i, xs = [.int i] ∧ Q (.int i) H) ∨ ∃ k, xs = [.bl k] ∧ Q (.int (if k then 1 else 0)) H
theorem we_int (h : WE K te Γ fun r Γ1 => ∃ i, r = .val (.int i) ∧ Post (.val (.int i)) Γ1) : WE K (tCB rInt1 (tCons te tNil)) Γ Post :=
  we_cb1 (we_mono h fun r Γ1 ⟨i, e, p⟩ => fun σ B H x E kx Q q => by
    subst e
    cases Is.rawI kx
    exact .inl ⟨i, rfl, q _ B H _ Γ1 (.refl E) (.raw _) p⟩)
theorem we_intB (h : WE K te Γ fun r Γ1 => ∃ k, r = .val (.bl k) ∧ Post (.val (.int (if k then 1 else 0))) Γ1) : WE K (tCB rInt1 (tCons te tNil)) Γ Post :=
  we_cb1 (we_mono h fun r Γ1 ⟨i, e, p⟩ => fun σ B H x E kx Q q => by
    subst e
    cases Is.rawI kx
    exact .inr ⟨i, rfl, q _ B H _ Γ1 (.refl E) (.raw _) p⟩)
def rTupleOf (K : PySem.W.Frag) : List V → Hp → VK → Prop := fun xs H Q => ∃ p ys, xs = [.ref p] ∧ ((SqL K H p ys ∧ ∀ l, H l = none → Q (.ref l) (upd H l (.tup ys))) ∨ (SqT K H p ys ∧ Q (.ref p) H))
def rListOf (K : PySem.W.Frag) : List V → Hp → VK → Prop := fun xs H Q => ∃ p ys, xs = [.ref p] ∧ (SqL K H p ys ∨ SqT K H p ys) ∧ ∀ l, H l = none → Q (.ref l) (upd H l (.lst ys))
theorem re_laidT {σ : L2.St} {B H : Hp} {vs : List V} {ds : List Dt} {a : Addr} (E : Env K B H σ Γ) (k : IsA K B vs ds) (ha : H a = none) : ReOk K σ (Own σ Γ) (Own σ Γ) (upd B a (.tup vs)) H (upd H a (.tup vs)) (.ref a) (.val (.tup ds)) := by
  have k2 := k.mono (Go.laid (o := .tup vs) E ha).mv.bb
  exact Is.tup (.inl (.inl upd_same)) k2.len k2.at_
theorem re_newL {σ : L2.St} {B H : Hp} {vs : List V} {ds : List Dt} {a : Addr} (E : Env K B H σ Γ) (k : IsA K B vs ds) (ha : H a = none) : ReOk K σ (Own σ Γ) (Own σ Γ) B H (upd H a (.lst vs)) (.ref a) (.new ds) :=
  ⟨a, vs, rfl, .inr ha, E.not_own ha, upd_same, E.base_none ha, k⟩
theorem we_tuple (h : WE K te Γ fun r Γ1 => ∃ ds, seqOf Γ1 r = some ds ∧ Post (.val (.tup ds)) Γ1) : WE K (tCB (rTupleOf K) (tCons te tNil)) Γ Post :=
  we_cb1 (we_mono h fun r Γ1 ⟨ds, hs, p⟩ => fun σ B H x E kx Q q => by
    obtain ⟨a, vs, rfl, hq, ha⟩ := rv_seq E kx hs
    rcases hq with hq | hq
    · exact ⟨a, vs, rfl, .inl ⟨hq, fun l hl => q _ _ _ _ Γ1 (Go.laid E hl) (re_laidT E ha hl) p⟩⟩
    · cases r with
      | val d =>
        cases d with
        | tup es =>
          cases hs
          exact ⟨a, vs, rfl, .inr ⟨hq, q _ B H (.val (.tup ds)) Γ1 (.refl E) kx p⟩⟩
        | lst es =>
          obtain ⟨c, us, e, h1, h2⟩ := rv_lst (ds := ds) E kx hs
          cases e
          exact ⟨a, us, rfl, .inl ⟨h1, fun l hl => q _ _ _ _ Γ1 (Go.laid E hl) (re_laidT E h2 hl) p⟩⟩
        | raw u => cases hs
        | scr es =>
          obtain ⟨c, us, e, h1, h2⟩ := rv_lst (ds := ds) E kx hs
          cases e
          exact ⟨a, us, rfl, .inl ⟨h1, fun l hl => q _ _ _ _ Γ1 (Go.laid E hl) (re_laidT E h2 hl) p⟩⟩
        | obj C fs => cases hs
      | new es =>
        obtain ⟨c, us, e, h1, h2⟩ := rv_lst (ds := ds) E kx hs
        cases e
        exact ⟨a, us, rfl, .inl ⟨h1, fun l hl => q _ _ _ _ Γ1 (Go.laid E hl) (re_laidT E h2 hl) p⟩⟩
      | own i =>
        obtain ⟨c, us, e, h1, h2⟩ := rv_lst (ds := ds) E kx hs
        cases e
        exact ⟨a, us, rfl, .inl ⟨h1, fun l hl => q _ _ _ _ Γ1 (Go.laid E hl) (re_laidT E h2 hl) p⟩⟩)
theorem we_list (h : WE K te Γ fun r Γ1 => ∃ ds, seqOf Γ1 r = some ds ∧ Post (.new ds) Γ1) : WE K (tCB (rListOf K) (tCons te tNil)) Γ Post :=
  we_cb1 (we_mono h fun r Γ1 ⟨ds, hs, p⟩ => fun σ B H x E kx Q q => by
    obtain ⟨a, vs, rfl, hq, ha⟩ := rv_seq E kx hs
    exact ⟨a, vs, rfl, hq, fun l hl => q _ _ _ _ Γ1 (Go.beside E hl) (re_newL E ha hl) p⟩)
/-- isinstance(x, T), T a built-in type -/
theorem we_isi {c : String} (h : WE K te Γ fun r Γ1 => (∀ i, r = .own i → ∃ ds, Γ1[i]? = some (.acc ds)) ∧ ∃ T b, tyOf r = some T ∧ kitB T c = some b ∧ Post (.val (.bl b)) Γ1) : WE K (tCB (rIsi K) (tCons te (tCons (tC (.ty c)) tNil))) Γ Post :=
  we_one' (r := fun x H Q => rIsi K [x, .ty c] H Q) (we_mono h fun r Γ1 ⟨ho, T, b, ht, hk, p⟩ => fun σ B H x E kx Q q =>
    ⟨x, .ty c, .type T, .type c, b, rfl, .ty c, rv_ty E ho kx ht, kit_ty hk, q _ B H _ Γ1 (.refl E) (.raw _) p⟩)
/-- min, max of two ints -/
def rMx2 : List V → Hp → VK → Prop := fun xs H Q => ∃ i j, xs = [.int i, .int j] ∧ Q (.int (if j > i then j else i)) H
def rMn2 : List V → Hp → VK → Prop := fun xs H Q => ∃ i j, xs = [.int i, .int j] ∧ Q (.int (if j < i then j else i)) H
theorem we_max2 (h : WE K ta Γ fun ra Γ1 => ∃ i, ra = .val (.int i) ∧ WE K tb Γ1 fun rb Γ2 => ∃ j, rb = .val (.int j) ∧ Post (.val (.int (if j > i then j else i))) Γ2) : WE K (tCB rMx2 (tCons ta (tCons tb tNil))) Γ Post :=
  we_two' (r := fun x y H Q => rMx2 [x, y] H Q) (we_mono h fun ra Γ1 ⟨i, ei, h1⟩ => we_mono h1 fun rb Γ2 ⟨j, ej, p⟩ => fun σ B H x y E kx ky Q q => by
    subst ei ej
    cases Is.rawI kx; cases Is.rawI ky
    exact ⟨i, j, rfl, q _ B H _ Γ2 (.refl E) (.raw _) p⟩)
theorem we_min2 (h : WE K ta Γ fun ra Γ1 => ∃ i, ra = .val (.int i) ∧ WE K tb Γ1 fun rb Γ2 => ∃ j, rb = .val (.int j) ∧ Post (.val (.int (if j < i then j else i))) Γ2) : WE K (tCB rMn2 (tCons ta (tCons tb tNil))) Γ Post :=
  we_two' (r := fun x y H Q => rMn2 [x, y] H Q) (we_mono h fun ra Γ1 ⟨i, ei, h1⟩ => we_mono h1 fun rb Γ2 ⟨j, ej, p⟩ => fun σ B H x y E kx ky Q q => by
    subst ei ej
    cases Is.rawI kx; cases Is.rawI ky
    exact ⟨i, j, rfl, q _ B H _ Γ2 (.refl E) (.raw _) p⟩)
/-- a op b op' c over ints -/
theorem we_chainI {g g' : Int → Int → Bool} (h : WE K ta Γ fun ra Γ1 => ∃ i, ra = .val (.int i) ∧ WE K tb Γ1 fun rb Γ2 => ∃ j, rb = .val (.int j) ∧
      (g i j = true → WE K tc Γ2 fun rc Γ3 => ∃ k, rc = .val (.int k) ∧ Post (.val (.bl (g' j k))) Γ3) ∧ (g i j = false → Post (.val (.bl false)) Γ2)) :
    WE K (tChain (rI0 fun i j => .bl (g i j)) (rI0 fun i j => .bl (g' i j)) ta tb tc) Γ Post := fun σ B H E Q q => by
  refine h σ B H E _ fun x B1 H1 ra Γ1 g1 k1 p1 => ?_
  obtain ⟨i, rfl, p1⟩ := p1
  refine p1 σ B1 H1 g1.env _ fun y B2 H2 rb Γ2 g2 k2 p2 => ?_
  obtain ⟨j, rfl, p2, p3⟩ := p2
  cases Is.rawI k1; cases Is.rawI k2
  refine ⟨i, j, rfl, rfl, g i j, rfl, ?_⟩
  cases hg : g i j with
  | true =>
    show tc σ H2 fun w' H4 => rI0 (fun i j => .bl (g' i j)) (.int j) w' H4 Q
    refine p2 hg σ B2 H2 g2.env _ fun z B3 H3 rc Γ3 g3 k3 p3 => ?_
    obtain ⟨k, rfl, p⟩ := p3
    cases Is.rawI k3
    exact ⟨j, k, rfl, rfl, q _ B3 H3 _ Γ3 ((g1.trans g2).trans g3) (.raw _) p⟩
  | false =>
    show Q (.bl false) H2
    exact q _ B2 H2 _ Γ2 (g1.trans g2) (.raw _) (p3 hg)
/-- x in xs, x not in xs: flat things -/
def rawV : Dt → Option V
  | .raw v => some v
  | _ => none
theorem raws_of {B : Hp} : ∀ {vs : List V} {ds : List Dt} {us : List V}, IsA K B vs ds → ds = us.map Dt.raw → vs = us := fun h e => by subst e; exact h.rawsI
theorem we_in {neg : Bool} (h : WE K ta Γ fun ra Γ1 => WE K tb Γ1 fun rb Γ2 => ∃ (x : V) (us : List V), ra = .val (.raw x) ∧ seqOf Γ2 rb = some (us.map Dt.raw) ∧ flatV x = true ∧ us.all flatV = true ∧ Post (.val (.bl (if neg then !inV x us else inV x us))) Γ2) : WE K (tOp (rIn K neg) ta tb) Γ Post :=
  we_two' (we_mono h fun ra Γ1 h1 => we_mono h1 fun rb Γ2 ⟨x, us, e, hs, hx, hu, p⟩ => fun σ B H y z E ky kz Q q => by
    subst e
    cases Is.rawI ky
    obtain ⟨a, vs, rfl, hq, ha⟩ := rv_seq E kz hs
    cases ha.rawsI
    exact ⟨a, _, rfl, hq, hx, hu, q _ B H _ Γ2 (.refl E) (.raw _) p⟩)
end
end Ab
namespace Ab
open PySem L2
/-! ### statements -/
structure GoS (K : PySem.W.Frag) (pin : List Nat) (σ : L2.St) (B H : Hp) (Γ : List Sl) (σ' : L2.St) (B' H' : Hp) (Γ' : List Sl) : Prop where
  mv : Mv (Own σ Γ) B H B' H'
  new : ∀ a, Own σ' Γ' a → Own σ Γ a ∨ H a = none
  env : Env K B' H' σ' Γ'
  pin : ∀ i, i ∈ pin → σ'[i]? = σ[i]?
structure Ps where
  nx : List Sl → Prop
  rt : Re → List Sl → Prop
  bk : List Sl → Prop := fun _ => False
  ct : List Sl → Prop := fun _ => False
def Re.free : Re → Bool
  | .own _ => false
  | _ => true
def WS (K : PySem.W.Frag) (pin : List Nat) (ts : TS) (Γ : List Sl) (P : Ps) : Prop := ∀ σ B H (D : Ends), Env K B H σ Γ →
  (∀ σ' B' H' Γ', GoS K pin σ B H Γ σ' B' H' Γ' → P.nx Γ' → D.nx σ' H') →
  (∀ v σ' B' H' r Γ', GoS K pin σ B H Γ σ' B' H' Γ' → ReOk K [] (Own σ Γ) (Own σ' Γ') B' H H' v r → P.rt r Γ' → D.rt v H') →
  (∀ σ' B' H' Γ', GoS K pin σ B H Γ σ' B' H' Γ' → P.bk Γ' → D.bk σ' H') →
  (∀ σ' B' H' Γ', GoS K pin σ B H Γ σ' B' H' Γ' → P.ct Γ' → D.ct σ' H') → ts D σ H
/-- a target -/
def WG (K : PySem.W.Frag) (pin : List Nat) (g : TG) (d : Dt) (Γ : List Sl) (P : List Sl → Prop) : Prop := ∀ σ B H x, Env K B H σ Γ → Is K B x d → ∀ Q : L2.St → Hp → Prop,
  (∀ σ' Γ', GoS K pin σ B H Γ σ' B H Γ' → P Γ' → Q σ' H) → g x σ H Q
section
variable {K : PySem.W.Frag} {pin : List Nat} {σ σ1 σ2 : L2.St} {B H B1 H1 B2 H2 : Hp} {Γ Γ1 Γ2 : List Sl} {v : V} {r : Re} {P : Ps}
theorem GoS.refl (E : Env K B H σ Γ) : GoS K pin σ B H Γ σ B H Γ := ⟨Mv.refl _ _ _, fun _ h => .inl h, E, fun _ _ => rfl⟩
theorem GoS.trans (x : GoS K pin σ B H Γ σ1 B1 H1 Γ1) (y : GoS K pin σ1 B1 H1 Γ1 σ2 B2 H2 Γ2) : GoS K pin σ B H Γ σ2 B2 H2 Γ2 :=
  ⟨x.mv.trans x.new y.mv, fun a h => (y.new a h).elim (fun z => x.new a z) fun z => x.mv.back z, y.env, fun i hi => (y.pin i hi).trans (x.pin i hi)⟩
theorem Go.s (x : Go K σ B H Γ B1 H1 Γ1) : GoS K pin σ B H Γ σ B1 H1 Γ1 := ⟨x.mv, fun a h => .inl (x.sub a h), x.env, fun _ _ => rfl⟩
theorem ReOk.off {m m' : Addr → Prop} (h : ReOk K σ m m' B1 H H1 v r) (hf : r.free = true) : ReOk K [] m m' B1 H H1 v r := by
  cases r with
  | val d => exact h
  | new ds => exact h
  | own i => cases hf
theorem Own.set_ne {i : Nat} {x : Option V} {s : Sl} {a : Addr} (h : Own (σ.set i x) (Γ.set i s) a) (hs : ∀ ds, s = .acc ds → x ≠ some (.ref a)) : Own σ Γ a := by
  obtain ⟨j, ds, h1, h2⟩ := h
  by_cases hij : i = j
  · subst hij
    have hi : i < Γ.length := by
      have := (List.getElem?_eq_some_iff.mp h1).1
      simpa using this
    have hi2 : i < σ.length := by
      have := (List.getElem?_eq_some_iff.mp h2).1
      simpa using this
    rw [List.getElem?_set_self hi] at h1
    rw [List.getElem?_set_self hi2] at h2
    exact absurd (Option.some.inj h2) (hs ds (Option.some.inj h1))
  · rw [List.getElem?_set_ne hij] at h1 h2
    exact ⟨j, ds, h1, h2⟩
/-- a slot gets a result -/
def slOf : Re → Sl
  | .val d => .val d
  | .new ds => .acc ds
  | .own _ => .un
theorem Env.setV (E : Env K B H σ Γ) {i : Nat} {d : Dt} (hi : i < Γ.length) (hv : Is K B v d) : Env K B H (σ.set i (some v)) (Γ.set i (.val d)) := by
  have hi2 : i < σ.length := by rw [E.len]; exact hi
  have nac : ∀ {j : Nat} {es : List Dt}, (Γ.set i (.val d))[j]? = some (.acc es) → i ≠ j := fun {j es} h z => by
    subst z
    rw [List.getElem?_set_self hi] at h; cases h
  refine ⟨by simp [E.len], E.bh, fun j e h => ?_, fun j es h => ?_, fun j k ds es l h1 h2 h3 h4 => ?_⟩
  · by_cases hij : i = j
    · subst hij
      rw [List.getElem?_set_self hi] at h
      cases h
      exact ⟨v, List.getElem?_set_self hi2, hv⟩
    · rw [List.getElem?_set_ne hij] at h ⊢
      exact E.val j e h
  · have hij := nac h
    rw [List.getElem?_set_ne hij] at h ⊢
    exact E.acc j es h
  · have a1 := nac h1
    have a2 := nac h2
    rw [List.getElem?_set_ne a1] at h1 h3
    rw [List.getElem?_set_ne a2] at h2 h4
    exact E.sep j k ds es l h1 h2 h3 h4
theorem Env.setU (E : Env K B H σ Γ) {i : Nat} (x : Option V) (hi : i < Γ.length) : Env K B H (σ.set i x) (Γ.set i .un) := by
  have nac : ∀ {j : Nat} {s : Sl}, (Γ.set i .un)[j]? = some s → s ≠ .un → i ≠ j := fun {j s} h hs z => by
    subst z
    rw [List.getElem?_set_self hi] at h; cases h; exact hs rfl
  refine ⟨by simp [E.len], E.bh, fun j e h => ?_, fun j es h => ?_, fun j k ds es l h1 h2 h3 h4 => ?_⟩
  · have hij := nac h (fun z => nomatch z)
    rw [List.getElem?_set_ne hij] at h ⊢
    exact E.val j e h
  · have hij := nac h (fun z => nomatch z)
    rw [List.getElem?_set_ne hij] at h ⊢
    exact E.acc j es h
  · have a1 := nac h1 (fun z => nomatch z)
    have a2 := nac h2 (fun z => nomatch z)
    rw [List.getElem?_set_ne a1] at h1 h3
    rw [List.getElem?_set_ne a2] at h2 h4
    exact E.sep j k ds es l h1 h2 h3 h4
theorem Env.setA (E : Env K B H σ Γ) {i : Nat} {l : Addr} {vs : List V} {ds : List Dt} (hi : i < Γ.length) (hn : ¬ Own σ Γ l) (hl : H l = some (.lst vs)) (hb : B l = none) (ha : IsA K B vs ds) : Env K B H (σ.set i (some (.ref l))) (Γ.set i (.acc ds)) := by
  have hi2 : i < σ.length := by rw [E.len]; exact hi
  refine ⟨by simp [E.len], E.bh, fun j e h => ?_, fun j es h => ?_, fun j k ds' es l' h1 h2 h3 h4 => ?_⟩
  · by_cases hij : i = j
    · subst hij
      rw [List.getElem?_set_self hi] at h
      cases h
    · rw [List.getElem?_set_ne hij] at h ⊢
      exact E.val j e h
  · by_cases hij : i = j
    · subst hij
      rw [List.getElem?_set_self hi] at h
      cases h
      exact ⟨l, vs, List.getElem?_set_self hi2, hl, hb, ha⟩
    · rw [List.getElem?_set_ne hij] at h ⊢
      exact E.acc j es h
  · by_cases h1i : i = j
    · by_cases h2i : i = k
      · exact h1i.symm.trans h2i
      · subst h1i
        rw [List.getElem?_set_self hi2] at h3
        rw [List.getElem?_set_ne h2i] at h2 h4
        cases h3
        exact absurd ⟨k, es, h2, h4⟩ hn
    · by_cases h2i : i = k
      · subst h2i
        rw [List.getElem?_set_self hi2] at h4
        rw [List.getElem?_set_ne h1i] at h1 h3
        cases h4
        exact absurd ⟨j, ds', h1, h3⟩ hn
      · rw [List.getElem?_set_ne h1i] at h1 h3
        rw [List.getElem?_set_ne h2i] at h2 h4
        exact E.sep j k ds' es l' h1 h2 h3 h4
theorem pin_set {i : Nat} {x : Option V} (hp : pin.contains i = false) : ∀ j, j ∈ pin → (σ.set i x)[j]? = σ[j]? := fun j hj => by
  have : i ≠ j := fun z => by
    subst z
    have := List.contains_iff_mem.mpr hj
    rw [hp] at this; cases this
  exact List.getElem?_set_ne this
/-- a result goes to slot i -/
theorem goS_set (g : Go K σ B H Γ B1 H1 Γ1) (k : ReOk K σ (Own σ Γ) (Own σ Γ1) B1 H H1 v r) {i : Nat} (hp : pin.contains i = false) (hi : i < Γ1.length) : GoS K pin σ B H Γ (σ.set i (some v)) B1 H1 (Γ1.set i (slOf r)) := by
  cases r with
  | val d => exact ⟨g.mv, fun a h => .inl (g.sub a (h.set_ne fun ds z => nomatch z)), g.env.setV hi k, pin_set hp⟩
  | own j => exact ⟨g.mv, fun a h => .inl (g.sub a (h.set_ne fun ds z => nomatch z)), g.env.setU _ hi, pin_set hp⟩
  | new ds =>
    obtain ⟨l, vs, rfl, h1, h2, h3, h4, h5⟩ := k
    refine ⟨g.mv, fun a h => ?_, g.env.setA hi h2 h3 h4 h5, pin_set hp⟩
    by_cases ha : a = l
    · subst ha; exact h1
    · exact .inl (g.sub a (h.set_ne fun ds _ z => ha (by cases z; rfl)))
end
section
variable {K : PySem.W.Frag} {pin : List Nat} {Γ : List Sl} {P : Ps} {te ta tb : TE} {tt : TT} {t u tb' : TS} {g : TG}
theorem ws_mono {P' : Ps} (h : WS K pin t Γ P) (h1 : ∀ G, P.nx G → P'.nx G) (h2 : ∀ r G, P.rt r G → P'.rt r G) (h3 : ∀ G, P.bk G → P'.bk G) (h4 : ∀ G, P.ct G → P'.ct G) : WS K pin t Γ P' := fun σ B H D E n r b c =>
  h σ B H D E (fun σ' B' H' Γ' g p => n σ' B' H' Γ' g (h1 _ p)) (fun v σ' B' H' z Γ' g k p => r v σ' B' H' z Γ' g k (h2 _ _ p)) (fun σ' B' H' Γ' g p => b σ' B' H' Γ' g (h3 _ p)) (fun σ' B' H' Γ' g p => c σ' B' H' Γ' g (h4 _ p))
/-- from a later state -/
theorem ws_from {σ σ1 : L2.St} {B H B1 H1 : Hp} {Γ1 : List Sl} {D : Ends} (h : WS K pin t Γ1 P) (g : GoS K pin σ B H Γ σ1 B1 H1 Γ1)
    (n : ∀ σ' B' H' Γ', GoS K pin σ B H Γ σ' B' H' Γ' → P.nx Γ' → D.nx σ' H')
    (r : ∀ v σ' B' H' r Γ', GoS K pin σ B H Γ σ' B' H' Γ' → ReOk K [] (Own σ Γ) (Own σ' Γ') B' H H' v r → P.rt r Γ' → D.rt v H')
    (b : ∀ σ' B' H' Γ', GoS K pin σ B H Γ σ' B' H' Γ' → P.bk Γ' → D.bk σ' H')
    (c : ∀ σ' B' H' Γ', GoS K pin σ B H Γ σ' B' H' Γ' → P.ct Γ' → D.ct σ' H') : t D σ1 H1 :=
  h σ1 B1 H1 D g.env (fun σ' B' H' Γ' g' p => n σ' B' H' Γ' (g.trans g') p) (fun v σ' B' H' z Γ' g' k p => r v σ' B' H' z Γ' (g.trans g') (ReOk.earlier k g.mv g.new) p)
    (fun σ' B' H' Γ' g' p => b σ' B' H' Γ' (g.trans g') p) (fun σ' B' H' Γ' g' p => c σ' B' H' Γ' (g.trans g') p)
theorem ws_seq (h : WS K pin t Γ { P with nx := fun Γ1 => WS K pin u Γ1 P }) : WS K pin (tSeq t u) Γ P := fun σ B H D E n r b c =>
  h σ B H { D with nx := u D } E (fun σ' B' H' Γ' g p => ws_from (t := u) (D := D) p g n r b c) r b c
theorem ws_nil (p : P.nx Γ) : WS K pin tNext Γ P := fun σ B H D E n r b c => n σ B H Γ (.refl E) p
theorem ws_brk (p : P.bk Γ) : WS K pin tBreak Γ P := fun σ B H D E n r b c => b σ B H Γ (.refl E) p
theorem ws_cont (p : P.ct Γ) : WS K pin tCont Γ P := fun σ B H D E n r b c => c σ B H Γ (.refl E) p
theorem ws_expr (h : WE K te Γ fun _ Γ1 => P.nx Γ1) : WS K pin (tDrop te) Γ P := fun σ B H D E n r b c =>
  h σ B H E _ fun v B1 H1 z Γ1 g k p => n σ B1 H1 Γ1 g.s p
theorem ws_ret (h : WE K te Γ fun z Γ1 => z.free = true ∧ P.rt z Γ1) : WS K pin (tRet te) Γ P := fun σ B H D E n r b c =>
  h σ B H E _ fun v B1 H1 z Γ1 g k ⟨hf, p⟩ => r v σ B1 H1 z Γ1 g.s (k.off hf) p
theorem ws_retN (p : P.rt (.val .non) Γ) : WS K pin tRetN Γ P := fun σ B H D E n r b c => r .non σ B H (.val .non) Γ (.refl E) (Is.raw _) p
/-- return of an owned list -/
theorem ws_retA {i : Nat} {ds : List Dt} (h : Γ[i]? = some (.acc ds)) (p : P.rt (.new ds) (Γ.set i .un)) : WS K pin (tRet (tVar i)) Γ P := ws_ret (we_move h ⟨rfl, p⟩)
theorem ws_if (h : WT K tt Γ fun b Γ1 => (b = true → WS K pin t Γ1 P) ∧ (b = false → WS K pin u Γ1 P)) : WS K pin (tIfS tt t u) Γ P := fun σ B H D E n r b c =>
  h σ B H E _ fun z B1 H1 Γ1 g p => by
    cases z with
    | true =>
      show t D σ H1
      exact ws_from (p.1 rfl) g.s n r b c
    | false =>
      show u D σ H1
      exact ws_from (p.2 rfl) g.s n r b c
theorem ws_asg {i : Nat} (hp : pin.contains i = false) (hi : decide (i < Γ.length) = true) (h : WE K te Γ fun z Γ1 => P.nx (Γ1.set i (slOf z))) : WS K pin (tAsg te (gName i)) Γ P := fun σ B H D E n r b c =>
  h σ B H E _ fun v B1 H1 z Γ1 g k p => n _ B1 H1 _ (goS_set g k hp (by rw [← g.env.len, E.len]; exact of_decide_eq_true hi)) p
/-- the whole of a frozen list, a tuple .. to a target -/
theorem ws_asgG (h : WE K te Γ fun z Γ1 => ∃ d, z = .val d ∧ WG K pin g d Γ1 P.nx) : WS K pin (tAsg te g) Γ P := fun σ B H D E n r b c =>
  h σ B H E _ fun v B1 H1 z Γ1 g1 k p => by
    obtain ⟨d, rfl, p⟩ := p
    exact p σ B1 H1 v g1.env k _ fun σ' Γ' g2 p2 => n σ' B1 H1 Γ' (g1.s.trans g2) p2
theorem wg_name {i : Nat} {d : Dt} {Q : List Sl → Prop} (hp : pin.contains i = false) (hi : decide (i < Γ.length) = true) (p : Q (Γ.set i (.val d))) : WG K pin (gName i) d Γ Q := fun σ B H x E k R q =>
  q _ _ (goS_set (r := .val d) (.refl E) k hp (of_decide_eq_true hi)) p
def WGs (K : PySem.W.Frag) (pin : List Nat) (g : TGs) (ds : List Dt) (Γ : List Sl) (P : List Sl → Prop) : Prop := ∀ σ B H xs, Env K B H σ Γ → IsA K B xs ds → ∀ Q : L2.St → Hp → Prop,
  (∀ σ' Γ', GoS K pin σ B H Γ σ' B H Γ' → P Γ' → Q σ' H) → g xs σ H Q
theorem wgs_nil {Q : List Sl → Prop} (p : Q Γ) : WGs K pin gNil [] Γ Q := fun σ B H xs E k R q => by
  have : xs = [] := List.eq_nil_of_length_eq_zero (by rw [k.len]; rfl)
  exact ⟨this, q σ Γ (.refl E) p⟩
theorem wgs_cons {g1 : TG} {g2 : TGs} {d : Dt} {ds : List Dt} {Q : List Sl → Prop} (h : WG K pin g1 d Γ fun Γ1 => WGs K pin g2 ds Γ1 Q) : WGs K pin (gCons g1 g2) (d :: ds) Γ Q := fun σ B H xs E k R q => by
  cases xs with
  | nil => have := k.len; simp at this
  | cons x r =>
    refine ⟨x, r, rfl, h σ B H x E (k.at_ 0 x d rfl rfl) _ fun σ1 Γ1 e1 p1 => ?_⟩
    exact p1 σ1 B H r e1.env ⟨by have := k.len; simpa using this, fun i v d a b => k.at_ (i + 1) v d (by simpa using a) (by simpa using b)⟩ R fun σ2 Γ2 e2 p2 => q σ2 Γ2 (e1.trans e2) p2
theorem wg_tup {n : Nat} {g2 : TGs} {ds : List Dt} {Q : List Sl → Prop} (hn : ds.length = n) (h : WGs K pin g2 ds Γ Q) : WG K pin (gTup K n g2) (.tup ds) Γ Q := fun σ B H x E k R q => by
  obtain ⟨a, xs, rfl, h1, h2⟩ := Is.tupR k
  exact ⟨a, xs, rfl, sqT_mono E.bh h1, by rw [h2.len]; exact hn, h σ B H xs E h2 R q⟩
/-- x op= e on ints -/
theorem ws_aug {i : Nat} {f : Int → Int → Int} {a : Int} (hx : Γ[i]? = some (.val (.int a))) (hp : pin.contains i = false) (h : WE K te Γ fun z Γ1 => ∃ b, z = .val (.int b) ∧ P.nx (Γ1.set i (.val (.int (f a b))))) : WS K pin (tAug i te (ipI f)) Γ P := fun σ B H D E n r b c => by
  obtain ⟨v, hv, hk⟩ := E.val i _ hx
  cases hk.rawI
  refine ⟨_, hv, h σ B H E _ fun y B1 H1 z Γ1 g k p => ?_⟩
  obtain ⟨b, rfl, p⟩ := p
  cases Is.rawI k
  exact ⟨a, b, rfl, rfl, n _ B1 H1 _ (goS_set (r := .val (.int (f a b))) g (Is.raw _) hp (by rw [← g.env.len, E.len]; exact (List.getElem?_eq_some_iff.mp hx).1)) p⟩
/-- an owned list is changed -/
theorem Env.put {σ : L2.St} {B H : Hp} {i : Nat} {ds es : List Dt} {l : Addr} {ys : List V} (E : Env K B H σ Γ) (h : Γ[i]? = some (.acc ds)) (hl : σ[i]? = some (some (.ref l))) (ha : IsA K B ys es) : Env K B (upd H l (.lst ys)) σ (Γ.set i (.acc es)) := by
  have hi : i < Γ.length := (List.getElem?_eq_some_iff.mp h).1
  obtain ⟨l', vs, q1, q2, q3, q4⟩ := E.acc i ds h
  rw [hl] at q1; cases q1
  have up : ∀ {j : Nat} {es' : List Dt}, (Γ.set i (.acc es))[j]? = some (.acc es') → ∃ ds', Γ[j]? = some (.acc ds') := fun {j es'} hj => by
    by_cases hij : i = j
    · subst hij; exact ⟨ds, h⟩
    · rw [List.getElem?_set_ne hij] at hj; exact ⟨es', hj⟩
  refine ⟨by simp [E.len], fun a u e => ?_, fun j e hj => ?_, fun j es' hj => ?_, fun j k ds' es' l' h1 h2 h3 h4 => ?_⟩
  · rw [upd_ne (ne_of_none e q3)]; exact E.bh a u e
  · by_cases hij : i = j
    · subst hij; rw [List.getElem?_set_self hi] at hj; cases hj
    · rw [List.getElem?_set_ne hij] at hj; exact E.val j e hj
  · by_cases hij : i = j
    · subst hij; rw [List.getElem?_set_self hi] at hj; cases hj
      exact ⟨l, ys, hl, upd_same, q3, ha⟩
    · rw [List.getElem?_set_ne hij] at hj
      obtain ⟨c, us, e1, e2, e3, e4⟩ := E.acc j es' hj
      have hc : c ≠ l := fun z => by
        subst z
        exact hij (E.sep i j ds es' c h hj hl e1)
      exact ⟨c, us, e1, by rw [upd_ne hc]; exact e2, e3, e4⟩
  · obtain ⟨d1, g1⟩ := up h1
    obtain ⟨d2, g2⟩ := up h2
    exact E.sep j k d1 d2 l' g1 g2 h3 h4
theorem Own.put {σ : L2.St} {i : Nat} {ds es : List Dt} {a : Addr} (h : Γ[i]? = some (.acc ds)) (o : Own σ (Γ.set i (.acc es)) a) : Own σ Γ a := by
  obtain ⟨j, es', h1, h2⟩ := o
  by_cases hij : i = j
  · subst hij; exact ⟨i, ds, h, h2⟩
  · rw [List.getElem?_set_ne hij] at h1; exact ⟨j, es', h1, h2⟩
theorem Go.put {σ : L2.St} {B H : Hp} {i : Nat} {ds es : List Dt} {l : Addr} {ys : List V} (E : Env K B H σ Γ) (h : Γ[i]? = some (.acc ds)) (hl : σ[i]? = some (some (.ref l))) (ha : IsA K B ys es) : Go K σ B H Γ B (upd H l (.lst ys)) (Γ.set i (.acc es)) :=
  ⟨⟨fun a o na e => by rw [upd_ne (fun z => na (by subst z; exact ⟨i, ds, h, hl⟩))]; exact e, Same.refl B, fun _ _ _ e => e⟩, fun j es' hj => by
    by_cases hij : i = j
    · subst hij; exact ⟨ds, h⟩
    · rw [List.getElem?_set_ne hij] at hj; exact ⟨es', hj⟩, E.put h hl ha⟩
/-- xs.append(e) -/
theorem we_append {i : Nat} {ds0 : List Dt} {Post : Re → List Sl → Prop} (h0 : Γ[i]? = some (.acc ds0)) (h : WE K te Γ fun z Γ1 => ∃ d ds, z.dt? = some d ∧ Γ1[i]? = some (.acc ds) ∧ ds.length < 1000000 ∧ Post (.val .non) (Γ1.set i (.acc (ds ++ [d])))) :
    WE K (tBM K "list" rAppend (tVar i) (tCons te tNil)) Γ Post := fun σ B H E Q q => by
  obtain ⟨l, vs, e0, e1, e2, k0⟩ := E.acc i ds0 h0
  refine ⟨.ref l, e0, .inl ⟨rfl, vs, .inl (.inl e1)⟩, ?_⟩
  have h' : WE K te Γ fun z Γ1 => ∃ d ds, z = .val d ∧ Γ1[i]? = some (.acc ds) ∧ ds.length < 1000000 ∧ Post (.val .non) (Γ1.set i (.acc (ds ++ [d]))) := we_freeze (we_mono h fun z Γ1 ⟨d, ds, hd, r⟩ => ⟨d, hd, d, ds, rfl, r⟩)
  refine h' σ B H E _ fun y B1 H1 z Γ1 g k p => ?_
  obtain ⟨d, ds, rfl, hi, hz, p⟩ := p
  obtain ⟨l', us, f0, f1, f2, k1⟩ := g.env.acc i ds hi
  rw [e0] at f0; cases f0
  refine ⟨l, us, y, rfl, rfl, f1, Nat.lt_trans (by rw [k1.len]; exact hz) (by decide), ?_⟩
  have g2 := Go.put g.env hi e0 (k1.snoc k)
  exact q .non B1 _ (.val .non) _ (g.trans g2) (Is.raw _) p
/-- xs[j] = e -/
theorem ws_setA {i : Nat} {tj : TE} (h : WE K te Γ fun z Γ1 => ∃ d, z = .val d ∧ (∃ ds1, Γ1[i]? = some (.acc ds1)) ∧ WE K tj Γ1 fun y Γ2 => ∃ ds k j, y = .val (.int k) ∧ Γ2[i]? = some (.acc ds) ∧ ixN ds.length k = some j ∧ P.nx (Γ2.set i (.acc (ds.set j d)))) :
    WS K pin (tAsg te (gSub (tVar i) tj rSetL)) Γ P := fun σ B H D E n r b c => by
  refine h σ B H E _ fun v B1 H1 z Γ1 g1 k1 p1 => ?_
  obtain ⟨d, rfl, ⟨ds1, h1⟩, p1⟩ := p1
  obtain ⟨l, vs, e0, e1, e2, k0⟩ := g1.env.acc i ds1 h1
  refine ⟨.ref l, e0, p1 σ B1 H1 g1.env _ fun y B2 H2 w Γ2 g2 k2 p2 => ?_⟩
  obtain ⟨ds, k, j, rfl, hi, hj, p⟩ := p2
  cases Is.rawI k2
  obtain ⟨l', us, f0, f1, f2, k3⟩ := g2.env.acc i ds hi
  rw [e0] at f0; cases f0
  refine ⟨l, us, k, j, rfl, rfl, f1, by rw [k3.len]; exact hj, ?_⟩
  exact n _ B2 _ _ ((g1.trans g2).trans (Go.put g2.env hi e0 (k3.set (Is.mono g2.mv.bb k1)))).s p
theorem we_reverse {i : Nat} {ds : List Dt} {Post : Re → List Sl → Prop} (h0 : Γ[i]? = some (.acc ds)) (p : Post (.val .non) (Γ.set i (.acc ds.reverse))) : WE K (tBM0 K "list" rReverse (tVar i)) Γ Post := fun σ B H E Q q => by
  obtain ⟨l, vs, e0, e1, e2, k0⟩ := E.acc i ds h0
  exact ⟨.ref l, e0, .inl ⟨rfl, vs, .inl (.inl e1)⟩, l, vs, rfl, rfl, e1, q .non B _ (.val .non) _ (Go.put E h0 e0 k0.reverse) (Is.raw _) p⟩
/-- xs.pop(k) -/
theorem we_popAt {i : Nat} {ds0 : List Dt} {Post : Re → List Sl → Prop} (h0 : Γ[i]? = some (.acc ds0)) (h : WE K te Γ fun z Γ1 => ∃ ds k j d, z = .val (.int k) ∧ Γ1[i]? = some (.acc ds) ∧ -(2 ^ 63) ≤ k ∧ k < 2 ^ 63 ∧ seqIndex? k ds.length = some j ∧ ds[j]? = some d ∧ Post (.val d) (Γ1.set i (.acc (ds.eraseIdx j)))) :
    WE K (tBM K "list" rPopAt (tVar i) (tCons te tNil)) Γ Post := fun σ B H E Q q => by
  obtain ⟨l, vs, e0, e1, e2, k0⟩ := E.acc i ds0 h0
  refine ⟨.ref l, e0, .inl ⟨rfl, vs, .inl (.inl e1)⟩, ?_⟩
  refine h σ B H E _ fun y B1 H1 z Γ1 g k p => ?_
  obtain ⟨ds, m, j, d, rfl, hi, hz, hz2, hj, hd, p⟩ := p
  cases Is.rawI k
  obtain ⟨l', us, f0, f1, f2, k1⟩ := g.env.acc i ds hi
  rw [e0] at f0; cases f0
  obtain ⟨w, hw, kw⟩ := k1.get hd
  refine ⟨l, us, m, j, w, rfl, rfl, f1, hz, hz2, by rw [k1.len]; exact hj, hw, ?_⟩
  have g2 := Go.put g.env hi e0 (k1.eraseIdx j)
  exact q w B1 _ (.val d) _ (g.trans g2) kw p
/-! ### loops -/
theorem ws_for1 {t1 : TA} (h : WD K t1 Γ fun ds Γ1 => ∃ n : Int, ds = [.int n] ∧ -(2 ^ 62) ≤ n ∧ n < 2 ^ 62 ∧ ∃ Inv : Nat → List Sl → Prop, Inv 0 Γ1 ∧
      (∀ (i : Nat) Γ', (i : Int) < n → Inv i Γ' → WG K pin g (.int i) Γ' fun Γ2 => WS K pin tb' Γ2 ⟨Inv (i + 1), P.rt, P.nx, Inv (i + 1)⟩) ∧ ∀ Γ', Inv n.toNat Γ' → P.nx Γ') : WS K pin (tFor (iRng1 t1) g tb') Γ P := fun σ B H D E n r b c => by
  refine h σ B H E _ fun vs B1 H1 ds Γ1 g1 k p => ?_
  obtain ⟨m, rfl, hlo, hhi, Inv, i0, turn, done⟩ := p
  have ev : vs = [.int m] := IsA.rawsI (xs := [.int m]) k
  refine ⟨m, ev, hlo, hhi, ?_⟩
  refine for_range (lo := 0) (n := m.toNat) (fun i σ' H' => ∃ B' Γ', GoS K pin σ B H Γ σ' B' H' Γ' ∧ Inv i Γ') ⟨B1, Γ1, g1.s, i0⟩ ?_ ?_
  · rintro i σ' H' hi ⟨B', Γ', g2, inv⟩
    have e0 : (0 : Int) + (i : Int) = (i : Int) := Int.zero_add _
    rw [e0]
    refine turn i Γ' (by omega) inv σ' B' H' _ g2.env (.raw _) _ fun σ2 Γ2 g3 w => ?_
    exact ws_from w (g2.trans g3) (fun σ3 B3 H3 Γ3 g4 p => ⟨B3, Γ3, g4, p⟩) r (fun σ3 B3 H3 Γ3 g4 p => n σ3 B3 H3 Γ3 g4 p) (fun σ3 B3 H3 Γ3 g4 p => ⟨B3, Γ3, g4, p⟩)
  · rintro σ' H' ⟨B', Γ', g2, inv⟩
    exact n σ' B' H' Γ' g2 (done Γ' inv)
theorem ws_for2 {t1 : TA} (h : WD K t1 Γ fun ds Γ1 => ∃ lo m : Int, ds = [.int lo, .int m] ∧ (-(2 ^ 62) ≤ lo ∧ lo < 2 ^ 62 ∧ -(2 ^ 62) ≤ m ∧ m < 2 ^ 62) ∧ ∃ Inv : Nat → List Sl → Prop, Inv 0 Γ1 ∧
      (∀ (i : Nat) Γ', lo + (i : Int) < m → Inv i Γ' → WG K pin g (.int (lo + i)) Γ' fun Γ2 => WS K pin tb' Γ2 ⟨Inv (i + 1), P.rt, P.nx, Inv (i + 1)⟩) ∧ ∀ Γ', Inv (m - lo).toNat Γ' → P.nx Γ') : WS K pin (tFor (iRng2 t1) g tb') Γ P := fun σ B H D E n r b c => by
  refine h σ B H E _ fun vs B1 H1 ds Γ1 g1 k p => ?_
  obtain ⟨lo, m, rfl, hb, Inv, i0, turn, done⟩ := p
  have ev : vs = [.int lo, .int m] := IsA.rawsI (xs := [.int lo, .int m]) k
  refine ⟨lo, m, ev, hb, ?_⟩
  refine for_range (lo := lo) (n := (m - lo).toNat) (fun i σ' H' => ∃ B' Γ', GoS K pin σ B H Γ σ' B' H' Γ' ∧ Inv i Γ') ⟨B1, Γ1, g1.s, i0⟩ ?_ ?_
  · rintro i σ' H' hi ⟨B', Γ', g2, inv⟩
    refine turn i Γ' (by omega) inv σ' B' H' _ g2.env (.raw _) _ fun σ2 Γ2 g3 w => ?_
    exact ws_from w (g2.trans g3) (fun σ3 B3 H3 Γ3 g4 p => ⟨B3, Γ3, g4, p⟩) r (fun σ3 B3 H3 Γ3 g4 p => n σ3 B3 H3 Γ3 g4 p) (fun σ3 B3 H3 Γ3 g4 p => ⟨B3, Γ3, g4, p⟩)
  · rintro σ' H' ⟨B', Γ', g2, inv⟩
    exact n σ' B' H' Γ' g2 (done Γ' inv)
/-- over a tuple -/
theorem ws_forT (h : WE K te Γ fun z Γ1 => ∃ ds, z = .val (.tup ds) ∧ ∃ Inv : Nat → List Sl → Prop, Inv 0 Γ1 ∧
      (∀ (i : Nat) d Γ', ds[i]? = some d → Inv i Γ' → WG K pin g d Γ' fun Γ2 => WS K pin tb' Γ2 ⟨Inv (i + 1), P.rt, P.nx, Inv (i + 1)⟩) ∧ ∀ Γ', Inv ds.length Γ' → P.nx Γ') : WS K pin (tFor (iTup K te) g tb') Γ P := fun σ B H D E n r b c => by
  refine h σ B H E _ fun v B1 H1 z Γ1 g1 k p => ?_
  obtain ⟨ds, rfl, Inv, i0, turn, done⟩ := p
  obtain ⟨a, xs, rfl, ha, hx⟩ := Is.tupR k
  refine ⟨a, rfl, ⟨xs, sqT_mono g1.env.bh ha⟩, for_tup (xs := xs) (fun i σ' H' => ∃ B' Γ', Same B1 B' ∧ GoS K pin σ B H Γ σ' B' H' Γ' ∧ Inv i Γ') ⟨B1, Γ1, Same.refl _, g1.s, i0⟩ ?_ ?_ ?_⟩
  · rintro i σ' H' _ ⟨B', Γ', sb, g2, _⟩
    exact sqT_mono (sb.trans g2.env.bh) ha
  · rintro i x σ' H' hi ⟨B', Γ', sb, g2, inv⟩
    have hlt : i < ds.length := by rw [← hx.len]; exact (List.getElem?_eq_some_iff.mp hi).1
    refine turn i ds[i] Γ' (List.getElem?_eq_getElem hlt) inv σ' B' H' x g2.env ((hx.at_ i x _ hi (List.getElem?_eq_getElem hlt)).mono sb) _ fun σ2 Γ2 g3 w => ?_
    have g23 := g2.trans g3
    refine w σ2 B' H' _ g23.env (fun σ3 B3 H3 Γ3 g4 p => ⟨B3, Γ3, sb.trans g4.mv.bb, g23.trans g4, p⟩) (fun v σ3 B3 H3 z Γ3 g4 k4 p => r v σ3 B3 H3 z Γ3 (g23.trans g4) (ReOk.earlier k4 g23.mv g23.new) p)
      (fun σ3 B3 H3 Γ3 g4 p => n σ3 B3 H3 Γ3 (g23.trans g4) p) (fun σ3 B3 H3 Γ3 g4 p => ⟨B3, Γ3, sb.trans g4.mv.bb, g23.trans g4, p⟩)
  · rintro σ' H' ⟨B', Γ', sb, g2, inv⟩
    rw [hx.len] at inv
    exact n σ' B' H' Γ' g2 (done Γ' inv)
/-- over a list that is data, or new -/
theorem ws_forL (h : WE K te Γ fun z Γ1 => ∃ d ds, z.dt? = some d ∧ d = .lst ds ∧ ∃ Inv : Nat → List Sl → Prop, Inv 0 Γ1 ∧
      (∀ (i : Nat) d Γ', ds[i]? = some d → Inv i Γ' → WG K pin g d Γ' fun Γ2 => WS K pin tb' Γ2 ⟨Inv (i + 1), P.rt, P.nx, Inv (i + 1)⟩) ∧ ∀ Γ', Inv ds.length Γ' → P.nx Γ') : WS K pin (tFor (iList K te) g tb') Γ P := fun σ B H D E n r b c => by
  have h' : WE K te Γ fun z Γ1 => ∃ ds, z = .val (.lst ds) ∧ ∃ Inv : Nat → List Sl → Prop, Inv 0 Γ1 ∧
      (∀ (i : Nat) d Γ', ds[i]? = some d → Inv i Γ' → WG K pin g d Γ' fun Γ2 => WS K pin tb' Γ2 ⟨Inv (i + 1), P.rt, P.nx, Inv (i + 1)⟩) ∧ ∀ Γ', Inv ds.length Γ' → P.nx Γ' :=
    we_freeze (we_mono h fun z Γ1 ⟨d, ds, hd, e, r⟩ => ⟨d, hd, ds, by rw [e], r⟩)
  refine h' σ B H E _ fun v B1 H1 z Γ1 g1 k p => ?_
  obtain ⟨ds, rfl, Inv, i0, turn, done⟩ := p
  obtain ⟨a, xs, rfl, ha, hx⟩ := Is.lstR k
  refine ⟨a, rfl, ⟨xs, .inl (.inl (g1.env.bh _ _ ha))⟩, for_list (xs := xs) (fun i σ' H' => ∃ B' Γ', Same B1 B' ∧ GoS K pin σ B H Γ σ' B' H' Γ' ∧ Inv i Γ') ⟨B1, Γ1, Same.refl _, g1.s, i0⟩ ?_ ?_ ?_⟩
  · rintro i σ' H' _ ⟨B', Γ', sb, g2, _⟩
    exact .inl (.inl ((sb.trans g2.env.bh) _ _ ha))
  · rintro i x σ' H' hi ⟨B', Γ', sb, g2, inv⟩
    have hlt : i < ds.length := by rw [← hx.len]; exact (List.getElem?_eq_some_iff.mp hi).1
    refine turn i ds[i] Γ' (List.getElem?_eq_getElem hlt) inv σ' B' H' x g2.env ((hx.at_ i x _ hi (List.getElem?_eq_getElem hlt)).mono sb) _ fun σ2 Γ2 g3 w => ?_
    have g23 := g2.trans g3
    refine w σ2 B' H' _ g23.env (fun σ3 B3 H3 Γ3 g4 p => ⟨B3, Γ3, sb.trans g4.mv.bb, g23.trans g4, p⟩) (fun v σ3 B3 H3 z Γ3 g4 k4 p => r v σ3 B3 H3 z Γ3 (g23.trans g4) (ReOk.earlier k4 g23.mv g23.new) p)
      (fun σ3 B3 H3 Γ3 g4 p => n σ3 B3 H3 Γ3 (g23.trans g4) p) (fun σ3 B3 H3 Γ3 g4 p => ⟨B3, Γ3, sb.trans g4.mv.bb, g23.trans g4, p⟩)
  · rintro σ' H' ⟨B', Γ', sb, g2, inv⟩
    rw [hx.len] at inv
    exact n σ' B' H' Γ' g2 (done Γ' inv)
/-- over an owned list that the body leaves as it is -/
theorem ws_forA {k : Nat} {ds : List Dt} (h0 : Γ[k]? = some (.acc ds)) (Inv : Nat → List Sl → Prop) (i0 : Inv 0 Γ) (hk : ∀ i Γ', Inv i Γ' → Γ'[k]? = some (.acc ds))
      (turn : ∀ (i : Nat) d Γ', ds[i]? = some d → Inv i Γ' → WG K (k :: pin) g d Γ' fun Γ2 => WS K (k :: pin) tb' Γ2 ⟨Inv (i + 1), P.rt, P.nx, Inv (i + 1)⟩) (done : ∀ Γ', Inv ds.length Γ' → P.nx Γ') : WS K pin (tFor (iList K (tVar k)) g tb') Γ P := fun σ B H D E n r b c => by
  obtain ⟨l, xs, e0, e1, e2, hx⟩ := E.acc k ds h0
  have off : ∀ {σ' B' H' Γ'}, GoS K (k :: pin) σ B H Γ σ' B' H' Γ' → GoS K pin σ B H Γ σ' B' H' Γ' := fun g => ⟨g.mv, g.new, g.env, fun i hi => g.pin i (List.mem_cons_of_mem _ hi)⟩
  have items : ∀ {i σ' B' H' Γ'}, GoS K (k :: pin) σ B H Γ σ' B' H' Γ' → Inv i Γ' → ∃ ys, H' l = some (.lst ys) ∧ IsA K B' ys ds := fun {i σ' B' H' Γ'} g inv => by
    obtain ⟨c, ys, q1, q2, q3, q4⟩ := g.env.acc k ds (hk i Γ' inv)
    rw [g.pin k (List.mem_cons_self), e0] at q1
    cases q1
    exact ⟨ys, q2, q4⟩
  refine ⟨.ref l, e0, l, rfl, ⟨xs, .inl (.inl e1)⟩, fun i m σ' H' => m = ds.length - i ∧ i ≤ ds.length ∧ ∃ B' Γ', GoS K (k :: pin) σ B H Γ σ' B' H' Γ' ∧ Inv i Γ', ⟨ds.length, by simp, Nat.zero_le _, B, Γ, .refl E, i0⟩, ?_⟩
  rintro i m σ' H' ⟨rfl, hi, B', Γ', g2, inv⟩
  obtain ⟨ys, hy, hya⟩ := items g2 inv
  by_cases hlt : i < ds.length
  · obtain ⟨x, hx1, hx2⟩ := hya.get (List.getElem?_eq_getElem hlt)
    refine .inr ⟨⟨ys, x, .inl (.inl hy), hx1⟩, fun σ2 H2 => ∃ B' Γ', GoS K (k :: pin) σ B H Γ σ2 B' H2 Γ' ∧ Inv (i + 1) Γ', fun σ2 H2 ⟨B2, Γ2, q⟩ => ⟨ds.length - (i + 1), by omega, rfl, hlt, B2, Γ2, q⟩, fun x' H2 hyl => ?_⟩
    obtain ⟨e, hyl⟩ := hyl
    subst e
    have ex : x' = x := by
      have := hyl ys (.inl (.inl hy))
      rw [hx1] at this; cases this; rfl
    subst ex
    refine turn i ds[i] Γ' (List.getElem?_eq_getElem hlt) inv σ' B' _ x' g2.env hx2 _ fun σ2 Γ2 g3 w => ?_
    have g23 := g2.trans g3
    exact w σ2 B' _ _ g23.env (fun σ3 B3 H3 Γ3 g4 p => ⟨B3, Γ3, g23.trans g4, p⟩) (fun v σ3 B3 H3 z Γ3 g4 k4 p => r v σ3 B3 H3 z Γ3 (off (g23.trans g4)) (ReOk.earlier k4 g23.mv g23.new) p)
      (fun σ3 B3 H3 Γ3 g4 p => n σ3 B3 H3 Γ3 (off (g23.trans g4)) p) (fun σ3 B3 H3 Γ3 g4 p => ⟨B3, Γ3, g23.trans g4, p⟩)
  · have e : i = ds.length := by omega
    subst e
    exact .inl ⟨⟨ys, .inl (.inl hy), by rw [hya.len]; exact Nat.le_refl _⟩, n σ' B' H' Γ' (off g2) (done Γ' inv)⟩
/-- while, by an invariant with a measure -/
theorem ws_while (Inv : Nat → List Sl → Prop) (m0 : Nat) (i0 : Inv m0 Γ)
      (turn : ∀ m Γ', Inv m Γ' → WT K tt Γ' fun z Γ1 => (z = true → WS K pin tb' Γ1 ⟨fun G => ∃ m', m' < m ∧ Inv m' G, P.rt, P.nx, fun G => ∃ m', m' < m ∧ Inv m' G⟩) ∧ (z = false → P.nx Γ1)) : WS K pin (tWhile tt tb') Γ P := fun σ B H D E n r b c => by
  refine ⟨fun m σ' H' => ∃ B' Γ', GoS K pin σ B H Γ σ' B' H' Γ' ∧ Inv m Γ', ⟨m0, B, Γ, .refl E, i0⟩, ?_⟩
  rintro m σ' H' ⟨B', Γ', g, inv⟩
  refine turn m Γ' inv σ' B' H' g.env _ fun z B1 H1 Γ1 g1 p => ?_
  have gg := g.trans g1.s
  cases z with
  | true =>
    refine (show ∃ N : L2.St → Hp → Prop, _ from ⟨fun σ2 H2 => ∃ B2 Γ2, GoS K pin σ B H Γ σ2 B2 H2 Γ2 ∧ ∃ m', m' < m ∧ Inv m' Γ2, fun σ2 H2 ⟨B2, Γ2, g2, m', hm, inv'⟩ => ⟨m', hm, B2, Γ2, g2, inv'⟩, ?_⟩)
    exact ws_from (p.1 rfl) gg (fun σ3 B3 H3 Γ3 g4 p => ⟨B3, Γ3, g4, p⟩) r (fun σ3 B3 H3 Γ3 g4 p => n σ3 B3 H3 Γ3 g4 p) (fun σ3 B3 H3 Γ3 g4 p => ⟨B3, Γ3, g4, p⟩)
  | false => exact n σ' B1 H1 Γ1 gg (p.2 rfl)
end
end Ab
namespace Ab
open PySem L2
/-! ### promises over data -/
abbrev AP := List Sl → (Re → List Sl → Prop) → Prop
def toSp (K : PySem.W.Frag) (ap : AP) : Sp := fun vs H Q _ => ∃ B as Post, Env K B H (vs.map some) as ∧ ap as Post ∧
  ∀ v B' H' r as', Go K (vs.map some) B H as B' H' as' → ReOk K [] (Own (vs.map some) as) (Own (vs.map some) as') B' H H' v r → Post r as' → Q v H'
/-- the arguments as they stand at the end -/
def exitSl (pin : List Nat) (Γ : List Sl) (i : Nat) : Sl → Sl
  | .val d => .val d
  | .un => .un
  | .acc _ => if pin.contains i then (Γ[i]?).getD .un else .un
def exitFrom (pin : List Nat) (Γ : List Sl) : Nat → List Sl → List Sl
  | _, [] => []
  | k, s :: r => exitSl pin Γ k s :: exitFrom pin Γ (k + 1) r
def exitArgs (pin : List Nat) (Γ as : List Sl) : List Sl := exitFrom pin Γ 0 as
theorem exitFrom_get (pin : List Nat) (Γ : List Sl) : ∀ (as : List Sl) (k i : Nat), (exitFrom pin Γ k as)[i]? = (as[i]?).map (exitSl pin Γ (k + i))
  | [], k, i => by simp [exitFrom]
  | s :: r, k, 0 => by simp [exitFrom]
  | s :: r, k, i + 1 => by
    rw [exitFrom]
    simp only [List.getElem?_cons_succ]
    rw [exitFrom_get pin Γ r (k + 1) i]
    rw [show k + 1 + i = k + (i + 1) by omega]
theorem exitArgs_get {pin : List Nat} {Γ as : List Sl} {i : Nat} {s : Sl} (h : (exitArgs pin Γ as)[i]? = some s) : ∃ s0, as[i]? = some s0 ∧ s = exitSl pin Γ i s0 := by
  unfold exitArgs at h
  rw [exitFrom_get] at h
  cases q : as[i]? with
  | none => rw [q] at h; cases h
  | some s0 =>
    rw [q] at h
    simp at h
    exact ⟨s0, rfl, h.symm⟩
theorem exitFrom_len (pin : List Nat) (Γ : List Sl) : ∀ (as : List Sl) (k : Nat), (exitFrom pin Γ k as).length = as.length
  | [], _ => rfl
  | s :: r, k => by rw [exitFrom, List.length_cons, List.length_cons, exitFrom_len pin Γ r (k + 1)]
section
variable {K : PySem.W.Frag}
theorem start_get {N : List Str} {vs : List V} {i : Nat} (h : i < vs.length) : (L2.start N vs)[i]? = (vs.map some)[i]? := by
  unfold L2.start
  rw [List.getElem?_append_left (by rw [List.length_map]; exact h)]
theorem env_start {B H : Hp} {N : List Str} {vs : List V} {as : List Sl} (E : Env K B H (vs.map some) as) (hn : as.length ≤ N.length) : Env K B H (L2.start N vs) (as ++ List.replicate (N.length - as.length) .un) := by
  have hl : vs.length = as.length := by have := E.len; simpa using this
  have lt : ∀ {i : Nat} {s : Sl}, (as ++ List.replicate (N.length - as.length) Sl.un)[i]? = some s → s ≠ .un → i < as.length ∧ as[i]? = some s := fun {i s} h hs => by
    by_cases hi : i < as.length
    · rw [List.getElem?_append_left hi] at h; exact ⟨hi, h⟩
    · rw [List.getElem?_append_right (by omega)] at h
      have := List.mem_of_getElem? h
      rw [List.mem_replicate] at this
      exact absurd this.2 hs
  refine ⟨?_, E.bh, fun i d h => ?_, fun i ds h => ?_, fun i j ds es l h1 h2 h3 h4 => ?_⟩
  · unfold L2.start
    rw [List.length_append, List.length_map, List.length_replicate, List.length_append, List.length_replicate, hl]
  · obtain ⟨hi, h⟩ := lt h (fun z => nomatch z)
    rw [start_get (by omega)]
    exact E.val i d h
  · obtain ⟨hi, h⟩ := lt h (fun z => nomatch z)
    rw [start_get (by omega)]
    exact E.acc i ds h
  · obtain ⟨hi, h1⟩ := lt h1 (fun z => nomatch z)
    obtain ⟨hj, h2⟩ := lt h2 (fun z => nomatch z)
    rw [start_get (by omega)] at h3 h4
    exact E.sep i j ds es l h1 h2 h3 h4
theorem own_start {N : List Str} {vs : List V} {as : List Sl} (hl : vs.length = as.length) {a : Addr} : Own (L2.start N vs) (as ++ List.replicate (N.length - as.length) .un) a ↔ Own (vs.map some) as a := by
  constructor
  · rintro ⟨i, ds, h1, h2⟩
    by_cases hi : i < as.length
    · rw [List.getElem?_append_left hi] at h1
      rw [start_get (by omega)] at h2
      exact ⟨i, ds, h1, h2⟩
    · rw [List.getElem?_append_right (by omega)] at h1
      have := List.mem_of_getElem? h1
      rw [List.mem_replicate] at this
      cases this.2
  · rintro ⟨i, ds, h1, h2⟩
    have hi : i < as.length := (List.getElem?_eq_some_iff.mp h1).1
    refine ⟨i, ds, ?_, ?_⟩
    · rw [List.getElem?_append_left hi]; exact h1
    · rw [start_get (by omega)]; exact h2
variable {P : Program} {w : World} {mg : Str → Option Value} {base : Heap}
/-- a def by its body's run over data -/
theorem fn_ab {x qual : Str} {st : Stmt} {f : Addr} {fd : FuncData} {N ps : List Str} {k : Nat} {ap : AP} (pin : List Nat) (F : Fun K x qual st f fd) (S : FnScope N ps (defScope st))
    (hlen : ∀ as Post, ap as Post → as.length = ps.length) (hN : decide (ps.length ≤ N.length) = true)
    (body : ∀ (cdv : Value) (A : Around) (outer : List PySem.Env) (s : Shared) (H : Hp) (E : XK), Room k (A.deeper (PyProof.Rows.envOfC qual (defScope st) s.heap.objs.size f cdv)) →
      ∃ t, PSs (cxOf CX0 P w K mg base N qual (defScope st) f cdv A outer s H E).nox (defBody st) t ∧
        ∀ as Post, ap as Post → WS K pin t (as ++ List.replicate (N.length - as.length) .un) ⟨fun G => Post (.val .non) (exitArgs pin G as), fun r G => Post r (exitArgs pin G as), fun _ => False, fun _ => False⟩) :
    FnOk P w K mg base CX0 (k + 1) f fd ps (toSp K ap) := by
  refine F.ok S (fun vs H Q E h => ?_) (fun cdv A outer s H vs Q E hr h => ?_)
  · obtain ⟨B, as, Post, E1, ha, _⟩ := h
    have := E1.len
    rw [List.length_map] at this
    rw [this]; exact hlen as Post ha
  · obtain ⟨B, as, Post, E1, ha, q⟩ := h
    obtain ⟨t, ht, hw⟩ := body cdv A outer s H E hr
    refine ⟨t, ht, ?_⟩
    have hl : vs.length = as.length := by have := E1.len; simpa using this
    have hps : as.length ≤ N.length := by rw [hlen as Post ha]; exact of_decide_eq_true hN
    have E0 := env_start E1 hps
    -- the way out
    have fin : ∀ v σ' B' H' r Γ', GoS K pin (L2.start N vs) B H (as ++ List.replicate (N.length - as.length) .un) σ' B' H' Γ' → ReOk K [] (Own (L2.start N vs) (as ++ List.replicate (N.length - as.length) .un)) (Own σ' Γ') B' H H' v r → Post r (exitArgs pin Γ' as) → Q v H' := by
      intro v σ' B' H' r Γ' g kk p
      have hpinv : ∀ i, i < vs.length → i ∈ pin → σ'[i]? = (vs.map some)[i]? := fun i hi hp => by rw [g.pin i hp, start_get hi]
      have acc : ∀ {i : Nat} {ds : List Dt}, (exitArgs pin Γ' as)[i]? = some (.acc ds) → i ∈ pin ∧ Γ'[i]? = some (.acc ds) ∧ ∃ ds0, as[i]? = some (.acc ds0) := fun {i ds} h => by
        obtain ⟨s0, h0, e⟩ := exitArgs_get h
        cases s0 with
        | un => cases e
        | val d => cases e
        | acc es =>
          unfold exitSl at e
          simp only at e
          split at e
          · rename_i hc
            refine ⟨List.contains_iff_mem.mp hc, ?_, es, h0⟩
            cases q : Γ'[i]? with
            | none => rw [q] at e; cases e
            | some s => rw [q] at e; simp at e; rw [← e]
          · cases e
      have own' : ∀ {a}, Own (vs.map some) (exitArgs pin Γ' as) a → Own σ' Γ' a := fun {a} ⟨i, ds, h1, h2⟩ => by
        obtain ⟨hp, h3, _, _⟩ := acc h1
        have hi : i < vs.length := by
          have := (List.getElem?_eq_some_iff.mp h2).1
          simpa using this
        exact ⟨i, ds, h3, by rw [hpinv i hi hp]; exact h2⟩
      have E' : Env K B' H' (vs.map some) (exitArgs pin Γ' as) := by
        refine ⟨by unfold exitArgs; rw [exitFrom_len, List.length_map, hl], g.env.bh, fun i d h => ?_, fun i ds h => ?_, fun i j ds es l h1 h2 h3 h4 => ?_⟩
        · obtain ⟨s0, h0, e⟩ := exitArgs_get h
          cases s0 with
          | un => cases e
          | val d' =>
            cases e
            obtain ⟨v, e1, e2⟩ := E1.val i d h0
            exact ⟨v, e1, e2.mono g.mv.bb⟩
          | acc es =>
            unfold exitSl at e
            simp only at e
            split at e
            · rename_i hc
              have hp := List.contains_iff_mem.mp hc
              have hi : i < vs.length := by rw [hl]; exact (List.getElem?_eq_some_iff.mp h0).1
              cases q : Γ'[i]? with
              | none => rw [q] at e; cases e
              | some s =>
                rw [q] at e
                simp at e
                subst e
                rw [← hpinv i hi hp]
                exact g.env.val i d q
            · cases e
        · obtain ⟨hp, h3, _, h4⟩ := acc h
          have hi : i < vs.length := by rw [hl]; exact (List.getElem?_eq_some_iff.mp h4).1
          rw [← hpinv i hi hp]
          exact g.env.acc i ds h3
        · obtain ⟨hp, g1, _, _⟩ := acc h1
          obtain ⟨hp2, g2, _, _⟩ := acc h2
          have hi : i < vs.length := by have := (List.getElem?_eq_some_iff.mp h3).1; simpa using this
          have hj : j < vs.length := by have := (List.getElem?_eq_some_iff.mp h4).1; simpa using this
          exact g.env.sep i j ds es l g1 g2 (by rw [hpinv i hi hp]; exact h3) (by rw [hpinv j hj hp2]; exact h4)
      have hm : ∀ a, Own (L2.start N vs) (as ++ List.replicate (N.length - as.length) .un) a ↔ Own (vs.map some) as a := fun a => own_start hl
      refine q v B' H' r _ ⟨⟨fun a o na e => g.mv.kp a o (fun z => na ((hm a).mp z)) e, g.mv.bb, fun a na ha hb => g.mv.off a (fun z => na ((hm a).mp z)) ha hb⟩, fun i ds h1 => ?_, E'⟩ ?_ p
      · obtain ⟨_, _, ds0, h3⟩ := acc h1
        exact ⟨ds0, h3⟩
      · cases r with
        | val d => exact kk
        | own i => exact kk
        | new ds =>
          obtain ⟨l, us, e, h1, h2, h3⟩ := kk
          exact ⟨l, us, e, h1.imp (fun z => (hm l).mp z) id, fun z => h2 (own' z), h3⟩
    exact hw as Post ha (L2.start N vs) B H _ E0 (fun σ' B' H' Γ' g p => fin .non σ' B' H' (.val .non) Γ' g (Is.raw _) p) (fun v σ' B' H' r Γ' g kk p => fin v σ' B' H' r Γ' g kk p) (fun _ _ _ _ _ p => p.elim) (fun _ _ _ _ _ p => p.elim)
end
/-! ### arguments of own defs -/
structure AsOk (K : PySem.W.Frag) (σ : L2.St) (m m' : Addr → Prop) (B' H H' : Hp) (vs : List V) (rs : List Re) : Prop where
  len : vs.length = rs.length
  at_ : ∀ (i : Nat) v r, vs[i]? = some v → rs[i]? = some r → ReOk K σ m m' B' H H' v r
  sep : ∀ (i j : Nat) ds es l, rs[i]? = some (.new ds) → rs[j]? = some (.new es) → vs[i]? = some (.ref l) → vs[j]? = some (.ref l) → i = j
def WA (K : PySem.W.Frag) (ta : TA) (Γ : List Sl) (Post : List Re → List Sl → Prop) : Prop := ∀ σ B H, Env K B H σ Γ → ∀ Q : List V → Hp → Prop,
  (∀ vs B' H' rs Γ', Go K σ B H Γ B' H' Γ' → AsOk K σ (Own σ Γ) (Own σ Γ') B' H H' vs rs → Post rs Γ' → Q vs H') → ta σ H Q
section
variable {K : PySem.W.Frag} {Γ : List Sl} {te : TE} {tr : TA}
theorem wa_nil {P : List Re → List Sl → Prop} (p : P [] Γ) : WA K tNil Γ P := fun σ B H E Q q => q [] B H [] Γ (.refl E) ⟨rfl, fun i v r a => by simp at a, fun i j ds es l a => by simp at a⟩ p
theorem wa_cons {P : List Re → List Sl → Prop} (h : WE K te Γ fun r Γ1 => WA K tr Γ1 fun rs Γ2 => P (r :: rs) Γ2) : WA K (tCons te tr) Γ P := fun σ B H E Q q => by
  refine h σ B H E _ fun x B1 H1 r Γ1 g1 k1 p1 => ?_
  refine p1 σ B1 H1 g1.env _ fun vs B2 H2 rs Γ2 g2 k2 p2 => ?_
  have k1' := ReOk.step k1 g2.mv g2.sub
  refine q (x :: vs) B2 H2 (r :: rs) Γ2 (g1.trans g2) ⟨by simp [k2.len], fun i v z a b => ?_, fun i j ds es l a b c d => ?_⟩ p2
  · cases i with
    | zero => simp at a b; subst a b; exact k1'
    | succ i => simp at a b; exact ReOk.earlier (k2.at_ i v z a b) g1.mv fun a h => .inl (g1.sub a h)
  · -- two new lists are apart
    have apart : ∀ (j : Nat) es, r = .new ds → rs[j]? = some (.new es) → x = .ref l → vs[j]? = some (.ref l) → False := fun j es hr hj hx hv => by
      subst hr
      obtain ⟨l1, us, e, _, n1, t1, _⟩ := k1
      rw [hx] at e; cases e
      obtain ⟨l2, us2, e2, f2, _⟩ := k2.at_ j _ _ hv hj
      cases e2
      rcases f2 with f2 | f2
      · exact n1 f2
      · rw [t1] at f2; cases f2
    cases i with
    | zero =>
      cases j with
      | zero => rfl
      | succ j => simp at a b c d; exact (apart j es a b c d).elim
    | succ i =>
      cases j with
      | zero =>
        simp at a b c d
        have : ∀ es', r = .new es' → False := fun es' hr => by
          subst hr
          obtain ⟨l1, us, e, _, n1, t1, _⟩ := k1
          rw [d] at e; cases e
          obtain ⟨l2, us2, e2, f2, _⟩ := k2.at_ i _ _ c a
          cases e2
          rcases f2 with f2 | f2
          · exact n1 f2
          · rw [t1] at f2; cases f2
        exact (this es b).elim
      | succ j =>
        simp at a b c d
        rw [k2.sep i j ds es l a b c d]
end
/-- what the callee gets -/
def argSl (Γ : List Sl) : Re → Sl
  | .val d => .val d
  | .new ds => .acc ds
  | .own i => match Γ[i]? with
    | some (.acc ds) => .acc ds
    | _ => .un
/-- what is put back -/
def putBack : List Re → List Sl → List Sl → List Sl
  | .own i :: rs, s :: as, Γ => putBack rs as (Γ.set i s)
  | _ :: rs, _ :: as, Γ => putBack rs as Γ
  | _, _, Γ => Γ
def ownsOf : List Re → List Nat
  | .own i :: rs => i :: ownsOf rs
  | _ :: rs => ownsOf rs
  | [] => []
def nodupB : List Nat → Bool
  | [] => true
  | x :: r => !r.contains x && nodupB r
theorem ownsOf_mem {i : Nat} : ∀ {rs : List Re}, i ∈ ownsOf rs ↔ ∃ j : Nat, rs[j]? = some (.own i)
  | [] => by simp [ownsOf]
  | r :: rs => by
    have ih := ownsOf_mem (i := i) (rs := rs)
    have split : (∃ j : Nat, (r :: rs)[j]? = some (.own i)) ↔ r = .own i ∨ ∃ j : Nat, rs[j]? = some (.own i) := by
      constructor
      · rintro ⟨j, h⟩
        cases j with
        | zero => simp at h; exact .inl h
        | succ j => simp at h; exact .inr ⟨j, h⟩
      · rintro (h | ⟨j, h⟩)
        · exact ⟨0, by simp [h]⟩
        · exact ⟨j + 1, by simp [h]⟩
    rw [split]
    cases r with
    | own k => simp only [ownsOf, List.mem_cons, ih, Re.own.injEq]; constructor <;> rintro (h | h) <;> first | exact .inl h.symm | exact .inr h
    | val d => simp [ownsOf, ih]
    | new ds => simp [ownsOf, ih]
theorem putBack_len : ∀ (rs : List Re) (as Γ : List Sl), (putBack rs as Γ).length = Γ.length
  | [], _, _ => by simp [putBack]
  | .own i :: rs, [], Γ => by simp [putBack]
  | .own i :: rs, s :: as, Γ => by rw [putBack, putBack_len]; simp
  | .val d :: rs, [], Γ => by simp [putBack]
  | .val d :: rs, s :: as, Γ => by rw [putBack, putBack_len]; simp
  | .new d :: rs, [], Γ => by simp [putBack]
  | .new d :: rs, s :: as, Γ => by rw [putBack, putBack_len]; simp
theorem putBack_other {i : Nat} : ∀ (rs : List Re) (as Γ : List Sl), i ∉ ownsOf rs → (putBack rs as Γ)[i]? = Γ[i]?
  | [], _, _, _ => by simp [putBack]
  | .own k :: rs, [], Γ, _ => by simp [putBack]
  | .own k :: rs, s :: as, Γ, h => by
    rw [ownsOf, List.mem_cons, not_or] at h
    rw [putBack, putBack_other rs as _ h.2, List.getElem?_set_ne (fun z => h.1 z.symm)]
  | .val d :: rs, [], Γ, _ => by simp [putBack]
  | .val d :: rs, s :: as, Γ, h => by rw [putBack]; exact putBack_other rs as _ h; all_goals simp
  | .new d :: rs, [], Γ, _ => by simp [putBack]
  | .new d :: rs, s :: as, Γ, h => by rw [putBack]; exact putBack_other rs as _ h; all_goals simp
theorem putBack_own {i : Nat} : ∀ (rs : List Re) (as Γ : List Sl) (j : Nat), nodupB (ownsOf rs) = true → rs[j]? = some (.own i) → j < as.length → i < Γ.length → (putBack rs as Γ)[i]? = as[j]?
  | [], _, _, _, _, h, _, _ => by simp at h
  | r :: rs, [], Γ, j, _, _, hj, _ => by simp at hj
  | .own k :: rs, s :: as, Γ, 0, nd, h, _, hi => by
    simp at h
    subst h
    rw [ownsOf, nodupB, Bool.and_eq_true] at nd
    have : k ∉ ownsOf rs := fun z => by
      have := List.contains_iff_mem.mpr z
      rw [this] at nd; exact absurd nd.1 (by decide)
    rw [putBack, putBack_other rs as _ this, List.getElem?_set_self hi]; rfl
  | .own k :: rs, s :: as, Γ, j + 1, nd, h, hj, hi => by
    simp at h hj
    rw [ownsOf, nodupB, Bool.and_eq_true] at nd
    rw [putBack, putBack_own rs as _ j nd.2 h hj (by simpa using hi)]; simp
  | .val d :: rs, s :: as, Γ, 0, nd, h, _, hi => by simp at h
  | .val d :: rs, s :: as, Γ, j + 1, nd, h, hj, hi => by
    simp at h hj
    rw [putBack, putBack_own rs as _ j nd h hj hi]; simp
    all_goals simp
  | .new d :: rs, s :: as, Γ, 0, nd, h, _, hi => by simp at h
  | .new d :: rs, s :: as, Γ, j + 1, nd, h, hj, hi => by
    simp at h hj
    rw [putBack, putBack_own rs as _ j nd h hj hi]; simp
    all_goals simp
theorem nodupB_ix {rs : List Re} {i : Nat} : ∀ {j k : Nat}, nodupB (ownsOf rs) = true → rs[j]? = some (.own i) → rs[k]? = some (.own i) → j = k := by
  induction rs with
  | nil => intro j k _ h; simp at h
  | cons r rs ih =>
    intro j k nd h1 h2
    have tail : nodupB (ownsOf rs) = true := by
      cases r with
      | own i => rw [ownsOf, nodupB, Bool.and_eq_true] at nd; exact nd.2
      | val d => exact nd
      | new d => exact nd
    have head : r = .own i → ∀ n : Nat, rs[n]? = some (.own i) → False := fun e n hn => by
      subst e
      rw [ownsOf, nodupB, Bool.and_eq_true] at nd
      have : i ∈ ownsOf rs := ownsOf_mem.mpr ⟨n, hn⟩
      rw [List.contains_iff_mem.mpr this] at nd
      exact absurd nd.1 (by decide)
    cases j with
    | zero =>
      cases k with
      | zero => rfl
      | succ k => simp at h1 h2; exact (head h1 k h2).elim
    | succ j =>
      cases k with
      | zero => simp at h1 h2; exact (head h2 j h1).elim
      | succ k => simp at h1 h2; rw [ih tail h1 h2]
theorem we_call {K : PySem.W.Frag} {Γ : List Sl} {Post : Re → List Sl → Prop} {ap : AP} {E0 : XK} {ta : TA} (h : WA K ta Γ fun rs Γ1 => nodupB (ownsOf rs) = true ∧ ap (rs.map (argSl Γ1)) fun r as' => Post r (putBack rs as' Γ1)) : WE K (tCall (toSp K ap) [] E0 ta) Γ Post := fun σ B H E Q q => by
  refine h σ B H E _ fun vs B1 H1 rs Γ1 g1 k1 p1 => ?_
  obtain ⟨nd, hap⟩ := p1
  rw [List.append_nil]
  have hl := k1.len
  have aget : ∀ {i : Nat} {s : Sl}, (rs.map (argSl Γ1))[i]? = some s → ∃ r, rs[i]? = some r ∧ s = argSl Γ1 r := fun {i s} h => by
    rw [List.getElem?_map] at h
    cases q : rs[i]? with
    | none => rw [q] at h; cases h
    | some r => rw [q] at h; simp at h; exact ⟨r, rfl, h.symm⟩
  have vget : ∀ {i : Nat} {r : Re}, rs[i]? = some r → ∃ v, vs[i]? = some v ∧ (vs.map some)[i]? = some (some v) ∧ ReOk K σ (Own σ Γ) (Own σ Γ1) B1 H H1 v r := fun {i r} h => by
    have hi : i < vs.length := by rw [hl]; exact (List.getElem?_eq_some_iff.mp h).1
    refine ⟨vs[i], List.getElem?_eq_getElem hi, by rw [List.getElem?_map, List.getElem?_eq_getElem hi]; rfl, k1.at_ i _ _ (List.getElem?_eq_getElem hi) h⟩
  -- an owned argument: new or a slot's
  have accArg : ∀ {i : Nat} {ds : List Dt}, (rs.map (argSl Γ1))[i]? = some (.acc ds) → (rs[i]? = some (.new ds)) ∨ ∃ k, rs[i]? = some (.own k) ∧ Γ1[k]? = some (.acc ds) := fun {i ds} h => by
    obtain ⟨r, h1, h2⟩ := aget h
    cases r with
    | val d => cases h2
    | new es => cases h2; exact .inl h1
    | own k =>
      have h2' : Sl.acc ds = (match Γ1[k]? with
        | some (.acc ds) => .acc ds
        | _ => .un) := h2
      split at h2'
      · rename_i es he
        cases h2'
        exact .inr ⟨k, h1, he⟩
      · cases h2'
  -- who is owned on the callee's side
  have ownArg : ∀ {a}, Own (vs.map some) (rs.map (argSl Γ1)) a → ((∃ (i : Nat) (ds : List Dt), rs[i]? = some (Re.new ds) ∧ vs[i]? = some (V.ref a)) ∨ ∃ (i k : Nat) (ds : List Dt), rs[i]? = some (Re.own k) ∧ Γ1[k]? = some (.acc ds) ∧ vs[i]? = some (.ref a) ∧ σ[k]? = some (some (.ref a))) := fun {a} ⟨i, ds, h1, h2⟩ => by
    rw [List.getElem?_map] at h2
    cases hv : vs[i]? with
    | none => rw [hv] at h2; cases h2
    | some v =>
      rw [hv] at h2
      simp at h2
      subst h2
      rcases accArg h1 with h | ⟨k, h, hk⟩
      · exact .inl ⟨i, ds, h, hv⟩
      · obtain ⟨v', e1, _, l, e2, e3⟩ := vget h
        rw [hv] at e1; cases e1; cases e2
        exact .inr ⟨i, k, ds, h, hk, hv, e3⟩
  have newOff : ∀ {i : Nat} {ds a}, rs[i]? = some (.new ds) → vs[i]? = some (.ref a) → (Own σ Γ a ∨ H a = none) ∧ ¬ Own σ Γ1 a := fun {i ds a} h1 h2 => by
    obtain ⟨v', e1, _, l, us, e2, e3, e4, _⟩ := vget h1
    rw [h2] at e1; cases e1; cases e2
    exact ⟨e3, e4⟩
  have ownBack : ∀ {a}, Own (vs.map some) (rs.map (argSl Γ1)) a → Own σ Γ a ∨ H a = none := fun {a} o => by
    rcases ownArg o with ⟨i, ds, h1, h2⟩ | ⟨i, k, ds, h1, h2, h3, h4⟩
    · exact (newOff h1 h2).1
    · exact .inl (g1.sub a ⟨k, ds, h2, h4⟩)
  have E2 : Env K B1 H1 (vs.map some) (rs.map (argSl Γ1)) := by
    refine ⟨by simp [hl], g1.env.bh, fun i d h => ?_, fun i ds h => ?_, fun i j ds es l h1 h2 h3 h4 => ?_⟩
    · obtain ⟨r, h1, h2⟩ := aget h
      cases r with
      | val d' => cases h2; obtain ⟨v, _, e1, e2⟩ := vget h1; exact ⟨v, e1, e2⟩
      | new es => cases h2
      | own k =>
        have h2' : Sl.val d = (match Γ1[k]? with
          | some (.acc ds) => .acc ds
          | _ => .un) := h2
        split at h2' <;> cases h2'
    · rcases accArg h with h1 | ⟨k, h1, hk⟩
      · obtain ⟨v, _, e1, l, us, e2, _, _, e3, e4, e5⟩ := vget h1
        subst e2
        exact ⟨l, us, e1, e3, e4, e5⟩
      · obtain ⟨v, _, e1, l, e2, e3⟩ := vget h1
        subst e2
        obtain ⟨c, us, f1, f2, f3, f4⟩ := g1.env.acc k ds hk
        rw [e3] at f1; cases f1
        exact ⟨l, us, e1, f2, f3, f4⟩
    · have v3 : vs[i]? = some (.ref l) := by
        rw [List.getElem?_map] at h3
        cases q : vs[i]? with
        | none => rw [q] at h3; cases h3
        | some v => rw [q] at h3; simp at h3; rw [h3]
      have v4 : vs[j]? = some (.ref l) := by
        rw [List.getElem?_map] at h4
        cases q : vs[j]? with
        | none => rw [q] at h4; cases h4
        | some v => rw [q] at h4; simp at h4; rw [h4]
      rcases accArg h1 with a1 | ⟨k, a1, b1⟩
      · rcases accArg h2 with a2 | ⟨k2, a2, b2⟩
        · exact k1.sep i j ds es l a1 a2 v3 v4
        · obtain ⟨v', e1, _, l2, e2, e3⟩ := vget a2
          rw [v4] at e1; cases e1; cases e2
          exact absurd ⟨k2, es, b2, e3⟩ (newOff a1 v3).2
      · obtain ⟨v', e1, _, l2, e2, e3⟩ := vget a1
        rw [v3] at e1; cases e1; cases e2
        rcases accArg h2 with a2 | ⟨k2, a2, b2⟩
        · exact absurd ⟨k, ds, b1, e3⟩ (newOff a2 v4).2
        · obtain ⟨v', f1, _, l2, f2, f3⟩ := vget a2
          rw [v4] at f1; cases f1; cases f2
          have := g1.env.sep k k2 ds es l b1 b2 e3 f3
          subst this
          exact nodupB_ix nd a1 a2
  refine ⟨B1, rs.map (argSl Γ1), _, E2, hap, fun v B2 H2 r as' g2 k2 p => ?_⟩
  have hal : as'.length = rs.length := by
    have := g2.env.len
    rw [List.length_map] at this
    omega
  -- slot i of the caller afterwards
  have slot : ∀ {i : Nat} {s : Sl}, (putBack rs as' Γ1)[i]? = some s → (∃ j : Nat, rs[j]? = some (.own i) ∧ as'[j]? = some s ∧ ∃ v, (vs.map some)[j]? = some (some v) ∧ σ[i]? = some (some v)) ∨ (i ∉ ownsOf rs ∧ Γ1[i]? = some s) := fun {i s} h => by
    by_cases hi : i ∈ ownsOf rs
    · obtain ⟨j, hj⟩ := ownsOf_mem.mp hi
      have hil : i < Γ1.length := by
        have := (List.getElem?_eq_some_iff.mp h).1
        rw [putBack_len] at this; exact this
      rw [putBack_own rs as' Γ1 j nd hj (by rw [hal]; exact (List.getElem?_eq_some_iff.mp hj).1) hil] at h
      obtain ⟨v, _, e1, l, e2, e3⟩ := vget hj
      exact .inl ⟨j, hj, h, v, e1, by rw [e2]; exact e3⟩
    · rw [putBack_other rs as' Γ1 hi] at h
      exact .inr ⟨hi, h⟩
  -- a slot's list that was not handed over
  have kept : ∀ {i : Nat} {ds : List Dt} {l : Addr}, i ∉ ownsOf rs → Γ1[i]? = some (.acc ds) → σ[i]? = some (some (.ref l)) → ¬ Own (vs.map some) (rs.map (argSl Γ1)) l := fun {i ds l} hi h1 h2 o => by
    rcases ownArg o with ⟨j, es, a1, a2⟩ | ⟨j, k, es, a1, a2, a3, a4⟩
    · exact (newOff a1 a2).2 ⟨i, ds, h1, h2⟩
    · have := g1.env.sep i k ds es l h1 a2 h2 a4
      subst this
      exact hi (ownsOf_mem.mpr ⟨j, a1⟩)
  have ac2 : ∀ (i : Nat) ds, (putBack rs as' Γ1)[i]? = some (.acc ds) → ∃ es, Γ1[i]? = some (.acc es) := fun i ds h1 => by
    rcases slot h1 with ⟨j, hj, ha, v, e1, e2⟩ | ⟨_, h⟩
    · obtain ⟨es, h⟩ := g2.ac j ds ha
      rcases accArg h with h | ⟨k, h, hk⟩
      · rw [hj] at h; cases h
      · rw [hj] at h; cases h; exact ⟨es, hk⟩
    · exact ⟨ds, h⟩
  have kOff : ∀ {a}, ¬ Own σ Γ a → H a ≠ none → ¬ Own (vs.map some) (rs.map (argSl Γ1)) a := fun {a} na ha o => (ownBack o).elim na ha
  have E3 : Env K B2 H2 σ (putBack rs as' Γ1) := by
    refine ⟨by rw [putBack_len]; exact g1.env.len, g2.env.bh, fun i d h => ?_, fun i ds h => ?_, fun i j ds es l h1 h2 h3 h4 => ?_⟩
    · rcases slot h with ⟨j, hj, ha, v, e1, e2⟩ | ⟨hi, h⟩
      · obtain ⟨v', f1, f2⟩ := g2.env.val j d ha
        rw [e1] at f1; cases f1
        exact ⟨v, e2, f2⟩
      · obtain ⟨v, f1, f2⟩ := g1.env.val i d h
        exact ⟨v, f1, f2.mono g2.mv.bb⟩
    · rcases slot h with ⟨j, hj, ha, v, e1, e2⟩ | ⟨hi, h⟩
      · obtain ⟨l, us, f1, f2⟩ := g2.env.acc j ds ha
        rw [e1] at f1; cases f1
        exact ⟨l, us, e2, f2⟩
      · obtain ⟨l, us, f1, f2, f3, f4⟩ := g1.env.acc i ds h
        have nk := kept hi h f1
        exact ⟨l, us, f1, g2.mv.kp l _ nk f2, g2.mv.off l nk (by rw [f2]; exact fun z => nomatch z) f3, f4.mono g2.mv.bb⟩
    · obtain ⟨d1, b1⟩ := ac2 i ds h1
      obtain ⟨d2, b2⟩ := ac2 j es h2
      exact g1.env.sep i j d1 d2 l b1 b2 h3 h4
  refine q v B2 H2 r _ ⟨⟨fun a o na e => ?_, g1.mv.bb.trans g2.mv.bb, fun a na ha hb => ?_⟩, fun i ds h => ?_, E3⟩ ?_ p
  · exact g2.mv.kp a o (kOff na (by rw [e]; exact fun z => nomatch z)) (g1.mv.kp a o na e)
  · refine g2.mv.off a (kOff na ha) ?_ (g1.mv.off a na ha hb)
    cases q : H a with
    | none => exact absurd q ha
    | some o => rw [g1.mv.kp a o na q]; exact fun z => nomatch z
  · obtain ⟨es, h1⟩ := ac2 i ds h
    exact g1.ac i es h1
  · cases r with
    | val d => exact k2
    | own i => obtain ⟨l, _, e⟩ := k2; simp at e
    | new ds =>
      obtain ⟨l, us, e, f1, f2, f3, f4, f5⟩ := k2
      refine ⟨l, us, e, ?_, ?_, f3, f4, f5⟩
      · rcases f1 with f1 | f1
        · exact ownBack f1
        · exact g1.mv.back f1
      · rintro ⟨i, es, h1, h2⟩
        rcases slot h1 with ⟨j, hj, ha, w, e1, e2⟩ | ⟨hi, h⟩
        · rw [h2] at e2; cases e2
          exact f2 ⟨j, es, ha, e1⟩
        · have nk := kept hi h h2
          rcases f1 with f1 | f1
          · exact nk f1
          · obtain ⟨us', t1, _⟩ := g1.env.tracked ⟨i, es, h, h2⟩
            rw [t1] at f1; cases f1
end Ab
namespace Ab
open PySem L2
/-! ### list comprehensions -/
def keepV : Option Sl → Sl
  | some (.val d) => .val d
  | _ => .un
section
variable {K : PySem.W.Frag} {σ : L2.St} {B H : Hp} {Γ : List Sl}
theorem keepV_acc {o : Option Sl} {ds : List Dt} (h : keepV o = .acc ds) : False := by
  unfold keepV at h
  split at h <;> cases h
/-- a list beside base and owner may change -/
theorem Env.updOff {D : Addr} {o : HO} (E : Env K B H σ Γ) (hb : B D = none) (hn : ¬ Own σ Γ D) : Env K B (upd H D o) σ Γ := by
  refine ⟨E.len, fun a u e => ?_, E.val, fun i ds h => ?_, E.sep⟩
  · rw [upd_ne (ne_of_none e hb)]; exact E.bh a u e
  · obtain ⟨l, vs, e, e1, e2, q⟩ := E.acc i ds h
    have : l ≠ D := fun z => by subst z; exact hn ⟨i, ds, h, e⟩
    exact ⟨l, vs, e, by rw [upd_ne this]; exact e1, e2, q⟩
theorem env_back {j : Nat} {x : Option V} {Γ0 : List Sl} {B0 H0 : Hp} (E0 : Env K B0 H0 σ Γ0) (bb : Same B0 B) (E : Env K B H (σ.set j x) Γ) (hj : j < Γ.length) : Env K B H σ (Γ.set j (keepV Γ0[j]?)) := by
  have ne : ∀ {k : Nat} {ds : List Dt}, (Γ.set j (keepV Γ0[j]?))[k]? = some (.acc ds) → j ≠ k := fun {k ds} h z => by
    subst z
    rw [List.getElem?_set_self hj] at h
    exact keepV_acc (Option.some.inj h)
  refine ⟨?_, E.bh, fun k d h => ?_, fun k ds h => ?_, fun i k ds es l h1 h2 h3 h4 => ?_⟩
  · have := E.len
    rw [List.length_set] at this ⊢
    exact this
  · by_cases hk : j = k
    · subst hk
      rw [List.getElem?_set_self hj] at h
      cases q : Γ0[j]? with
      | none => rw [q] at h; cases h
      | some s =>
        rw [q] at h
        cases s with
        | un => cases h
        | acc ds => cases h
        | val d' =>
          cases h
          obtain ⟨v, e1, e2⟩ := E0.val j d q
          exact ⟨v, e1, e2.mono bb⟩
    · rw [List.getElem?_set_ne hk] at h
      obtain ⟨v, e1, e2⟩ := E.val k d h
      rw [List.getElem?_set_ne hk] at e1
      exact ⟨v, e1, e2⟩
  · have hk := ne h
    rw [List.getElem?_set_ne hk] at h
    obtain ⟨l, vs, e1, e2⟩ := E.acc k ds h
    rw [List.getElem?_set_ne hk] at e1
    exact ⟨l, vs, e1, e2⟩
  · have a1 := ne h1
    have a2 := ne h2
    rw [List.getElem?_set_ne a1] at h1
    rw [List.getElem?_set_ne a2] at h2
    exact E.sep i k ds es l h1 h2 (by rw [List.getElem?_set_ne a1]; exact h3) (by rw [List.getElem?_set_ne a2]; exact h4)
theorem own_back {j : Nat} {x : Option V} {s : Sl} {a : Addr} (hs : ∀ ds, s ≠ .acc ds) (h : Own σ (Γ.set j s) a) : Own (σ.set j x) Γ a := by
  obtain ⟨k, ds, h1, h2⟩ := h
  by_cases hk : j = k
  · subst hk
    have hj : j < Γ.length := by
      have := (List.getElem?_eq_some_iff.mp h1).1
      simpa using this
    rw [List.getElem?_set_self hj] at h1
    exact absurd (Option.some.inj h1) (hs ds)
  · rw [List.getElem?_set_ne hk] at h1
    exact ⟨k, ds, h1, by rw [List.getElem?_set_ne hk]; exact h2⟩
theorem Mv.iff {m m1 : Addr → Prop} {B' H' : Hp} (h : ∀ a, m1 a → m a) (x : Mv m1 B H B' H') : Mv m B H B' H' := ⟨fun a o na e => x.kp a o (fun z => na (h a z)) e, x.bb, fun a na ha hb => x.off a (fun z => na (h a z)) ha hb⟩
structure LcSt (K : PySem.W.Frag) (σ : L2.St) (B H : Hp) (Γ : List Sl) (j : Nat) (D : Addr) (Inv : Nat → List Dt → List Sl → Prop) (i : Nat) (H' : Hp) (B' : Hp) (Γ' : List Sl) (vs : List V) (es : List Dt) : Prop where
  mv : Mv (Own σ Γ) B H B' H'
  ac : ∀ (k : Nat) ds, Γ'[k]? = some (.acc ds) → ∃ es, Γ[k]? = some (.acc es)
  env : Env K B' H' σ Γ'
  hD : H' D = some (.lst vs)
  bD : B' D = none
  oD : ¬ Own σ Γ' D
  its : IsA K B' vs es
  len : es.length ≤ i
  inv : Inv i es Γ'
theorem lc_run {j n : Nat} {J : It} {dt : Nat → Dt} {tt : TT} {te : TE} {Post : Re → List Sl → Prop} {Q : VK} (E : Env K B H σ Γ) (hj : j < Γ.length) (hja : ∀ ds, Γ[j]? ≠ some (.acc ds)) (hn : n ≤ 1000000)
    (Inv : Nat → List Dt → List Sl → Prop)
    (go : ∀ i B' H' es Γ', i < n → Same B B' → Env K B' H' σ Γ' → Inv i es Γ' → J.go i H') (yl : ∀ i H' x H'' B' es Γ', i < n → Same B B' → Env K B' H' σ Γ' → Inv i es Γ' → J.yld i H' x H'' → H'' = H' ∧ Is K B' x (dt i)) (stop : ∀ B' H' es Γ', Same B B' → Env K B' H' σ Γ' → Inv n es Γ' → J.stop n H')
    (i0 : Inv 0 [] Γ)
    (turn : ∀ i es Γ', i < n → Inv i es Γ' → WT K tt (Γ'.set j (.val (dt i))) fun b Γ2 => (b = true → WE K te Γ2 fun r Γ3 => ∃ d, r.dt? = some d ∧ Inv (i + 1) (es ++ [d]) (Γ3.set j (keepV Γ[j]?))) ∧ (b = false → Inv (i + 1) es (Γ2.set j (keepV Γ[j]?))))
    (done : ∀ es Γ', Inv n es Γ' → Post (.new es) Γ') (q : ∀ v B' H' r Γ', Go K σ B H Γ B' H' Γ' → ReOk K σ (Own σ Γ) (Own σ Γ') B' H H' v r → Post r Γ' → Q v H') :
    ∀ D, H D = none → ∃ W : Nat → Nat → Hp → Prop, (∃ m, W 0 m (upd H D (.lst []))) ∧ ∀ i m H, W i m H →
      (J.stop i H ∧ Q (.ref D) H) ∨ (J.go i H ∧ ∃ Nx : Hp → Prop, (∀ H', Nx H' → ∃ m', m' < m ∧ W (i + 1) m' H') ∧ ∀ x H', J.yld i H x H' → gName j x (wipe σ [j]) H' fun σ2 H2 => wipe σ2 [j] = wipe σ [j] ∧ tt σ2 H2 fun b H3 =>
        if b = true then te σ2 H3 fun y H4 => ∃ acc, H4 D = some (.lst acc) ∧ acc.length < sizeLine ∧ Nx (upd H4 D (.lst (acc ++ [y]))) else Nx H3) := by
  intro D hD
  have hjs : j < σ.length := by rw [E.len]; exact hj
  refine ⟨fun i m H' => m = n - i ∧ i ≤ n ∧ ∃ B' Γ' vs es, LcSt K σ B H Γ j D Inv i H' B' Γ' vs es, ⟨n, by simp, Nat.zero_le _, B, Γ, [], [], ⟨(Go.beside E hD).mv, fun k ds h => ⟨ds, h⟩, E.beside hD, upd_same, E.base_none hD, E.not_own hD, .nil, Nat.le_refl _, i0⟩⟩, ?_⟩
  rintro i m H' ⟨rfl, hi, B', Γ', vs, es, S⟩
  by_cases hlt : i < n
  · refine .inr ⟨go i B' H' es Γ' hlt S.mv.bb S.env S.inv, fun H2 => ∃ B' Γ' vs es, LcSt K σ B H Γ j D Inv (i + 1) H2 B' Γ' vs es, fun H2 ⟨B2, Γ2, vs2, es2, S2⟩ => ⟨n - (i + 1), by omega, rfl, hlt, B2, Γ2, vs2, es2, S2⟩, fun x H2 hy => ?_⟩
    obtain ⟨e, hx⟩ := yl i H' x H2 B' es Γ' hlt S.mv.bb S.env S.inv hy
    subst e
    have hj' : j < Γ'.length := by rw [← S.env.len]; exact hjs
    have es2 : (wipe σ [j]).set j (some x) = σ.set j (some x) := by
      show (σ.set j none).set j (some x) = _
      rw [List.set_set]
    show wipe ((wipe σ [j]).set j (some x)) [j] = wipe σ [j] ∧ _
    rw [es2]
    refine ⟨by show (σ.set j (some x)).set j none = σ.set j none; rw [List.set_set], ?_⟩
    have E2 := S.env.setV hj' hx
    -- owners within and without
    have ow1 : ∀ a, Own (σ.set j (some x)) (Γ'.set j (.val (dt i))) a → Own σ Γ' a := fun a h => h.set_ne fun ds z => nomatch z
    have nA : ¬ Own (σ.set j (some x)) (Γ'.set j (.val (dt i))) D := fun z => S.oD (ow1 D z)
    have tD : H2 D ≠ none := by rw [S.hD]; exact fun z => nomatch z
    -- what a turn comes to
    have fin : ∀ {B3 H3 : Hp} {Γ3 : List Sl}, Go K (σ.set j (some x)) B' H2 (Γ'.set j (.val (dt i))) B3 H3 Γ3 →
        Mv (Own σ Γ) B H B3 H3 ∧ (∀ (k : Nat) ds, (Γ3.set j (keepV Γ[j]?))[k]? = some (.acc ds) → ∃ es, Γ[k]? = some (.acc es)) ∧ Env K B3 H3 σ (Γ3.set j (keepV Γ[j]?)) ∧ H3 D = some (.lst vs) ∧ B3 D = none ∧ ¬ Own σ (Γ3.set j (keepV Γ[j]?)) D ∧ IsA K B3 vs es := by
      intro B3 H3 Γ3 g
      have hj3 : j < Γ3.length := by
        have h1 := g.env.len
        rw [List.length_set] at h1
        omega
      have subO : ∀ a, Own σ (Γ3.set j (keepV Γ[j]?)) a → Own (σ.set j (some x)) Γ3 a := fun a h => own_back (fun ds z => keepV_acc z) h
      refine ⟨S.mv.trans (m1 := Own σ Γ') (fun a ⟨k, ds, h1, h2⟩ => .inl (by obtain ⟨es, h⟩ := S.ac k ds h1; exact ⟨k, es, h, h2⟩)) (g.mv.iff ow1), fun k ds h => ?_, env_back E (S.mv.bb.trans g.mv.bb) g.env hj3, g.mv.kp D _ nA S.hD, g.mv.off D nA tD S.bD, fun z => nA (g.sub D (subO D z)), S.its.mono g.mv.bb⟩
      by_cases hk : j = k
      · subst hk
        rw [List.getElem?_set_self hj3] at h
        exact (keepV_acc (Option.some.inj h)).elim
      · rw [List.getElem?_set_ne hk] at h
        obtain ⟨es', h1⟩ := g.ac k ds h
        rw [List.getElem?_set_ne hk] at h1
        exact S.ac k es' h1
    refine turn i es Γ' hlt S.inv (σ.set j (some x)) B' H2 E2 _ fun b B3 H3 Γ3 g3 p => ?_
    cases b with
    | true =>
      show te (σ.set j (some x)) H3 _
      have p1 : WE K te Γ3 fun r Γ4 => ∃ d, r = .val d ∧ Inv (i + 1) (es ++ [d]) (Γ4.set j (keepV Γ[j]?)) := we_freeze (we_mono (p.1 rfl) fun r Γ4 ⟨d, hd, k⟩ => ⟨d, hd, d, rfl, k⟩)
      refine p1 (σ.set j (some x)) B3 H3 g3.env _ fun y B4 H4 r Γ4 g4 k4 p4 => ?_
      obtain ⟨d, rfl, inv⟩ := p4
      obtain ⟨f1, f2, f3, f4, f5, f6, f7⟩ := fin (g3.trans g4)
      refine ⟨vs, f4, ?_, B4, Γ4.set j (keepV Γ[j]?), vs ++ [y], es ++ [d], ?_⟩
      · rw [S.its.len]
        have := S.len
        exact Nat.lt_of_le_of_lt this (Nat.lt_of_lt_of_le hlt (Nat.le_trans hn (by decide)))
      · refine ⟨⟨fun a o na e => ?_, f1.bb, f1.off⟩, f2, f3.updOff f5 f6, upd_same, f5, f6, f7.snoc k4, by rw [List.length_append]; have := S.len; simp; omega, inv⟩
        rw [upd_ne (ne_of_none e hD)]
        exact f1.kp a o na e
    | false =>
      show ∃ B' Γ' vs es, _
      obtain ⟨f1, f2, f3, f4, f5, f6, f7⟩ := fin g3
      exact ⟨B3, Γ3.set j (keepV Γ[j]?), vs, es, ⟨f1, f2, f3, f4, f5, f6, f7, Nat.le_trans S.len (Nat.le_succ i), p.2 rfl⟩⟩
  · have e : i = n := by omega
    subst e
    exact .inl ⟨stop B' H' es Γ' S.mv.bb S.env S.inv, q (.ref D) B' H' (.new es) Γ' ⟨S.mv, S.ac, S.env⟩ ⟨D, vs, rfl, .inr hD, S.oD, S.hD, S.bD, S.its⟩ (done es Γ' S.inv)⟩
end
section
variable {K : PySem.W.Frag} {Γ : List Sl} {Post : Re → List Sl → Prop} {te tl : TE} {tt : TT} {j : Nat}
def notAcc : Option Sl → Bool
  | some (.acc _) => false
  | _ => true
theorem notAcc_ne {o : Option Sl} (h : notAcc o = true) (ds : List Dt) : o ≠ some (.acc ds) := fun z => by subst z; cases h
theorem we_lc1 {t1 : TA} (h : WD K t1 Γ fun ds Γ1 => ∃ n : Nat, ds = [.int n] ∧ n ≤ 1000000 ∧ decide (j < Γ1.length) = true ∧ notAcc Γ1[j]? = true ∧ ∃ Inv : Nat → List Dt → List Sl → Prop, Inv 0 [] Γ1 ∧
      (∀ i es Γ', i < n → Inv i es Γ' → WT K tt (Γ'.set j (.val (.int i))) fun b Γ2 => (b = true → WE K te Γ2 fun r Γ3 => ∃ d, r.dt? = some d ∧ Inv (i + 1) (es ++ [d]) (Γ3.set j (keepV Γ1[j]?))) ∧ (b = false → Inv (i + 1) es (Γ2.set j (keepV Γ1[j]?)))) ∧
      ∀ es Γ', Inv n es Γ' → Post (.new es) Γ') : WE K (tLc (iRng1 t1) (gName j) tt te [j]) Γ Post := fun σ B H E Q q => by
  refine h σ B H E _ fun vs B1 H1 ds Γ1 g1 k p => ?_
  obtain ⟨n, rfl, hn, hj, hja, Inv, i0, turn, done⟩ := p
  have ev : vs = [.int n] := IsA.rawsI (xs := [.int n]) k
  refine ⟨n, ev, by omega, by omega, ?_⟩
  have e0 : ((n : Int)).toNat = n := by omega
  rw [e0]
  refine lc_run (n := n) (dt := fun i => .int i) (J := Itr 0 n) g1.env (of_decide_eq_true hj) (notAcc_ne hja) hn Inv (fun i B' H' _ _ hi _ _ _ => hi) (fun i H' x H'' B' _ _ hi _ _ _ hy => ?_) (fun B' H' _ _ _ _ _ => Nat.le_refl _) i0 turn done fun v B2 H2 r Γ2 g2 k2 p2 => q v B2 H2 r Γ2 (g1.trans g2) (ReOk.earlier k2 g1.mv fun a h => .inl (g1.sub a h)) p2
  obtain ⟨e1, e2⟩ := hy
  subst e1 e2
  rw [Int.zero_add]
  exact ⟨rfl, .raw _⟩
theorem we_lc2 {t1 : TA} (h : WD K t1 Γ fun ds Γ1 => ∃ lo hi : Int, ds = [.int lo, .int hi] ∧ (-(2 ^ 62) ≤ lo ∧ lo < 2 ^ 62 ∧ -(2 ^ 62) ≤ hi ∧ hi < 2 ^ 62) ∧ (hi - lo).toNat ≤ 1000000 ∧ decide (j < Γ1.length) = true ∧ notAcc Γ1[j]? = true ∧ ∃ Inv : Nat → List Dt → List Sl → Prop, Inv 0 [] Γ1 ∧
      (∀ (i : Nat) es Γ', lo + i < hi → Inv i es Γ' → WT K tt (Γ'.set j (.val (.int (lo + i)))) fun b Γ2 => (b = true → WE K te Γ2 fun r Γ3 => ∃ d, r.dt? = some d ∧ Inv (i + 1) (es ++ [d]) (Γ3.set j (keepV Γ1[j]?))) ∧ (b = false → Inv (i + 1) es (Γ2.set j (keepV Γ1[j]?)))) ∧
      ∀ es Γ', Inv (hi - lo).toNat es Γ' → Post (.new es) Γ') : WE K (tLc (iRng2 t1) (gName j) tt te [j]) Γ Post := fun σ B H E Q q => by
  refine h σ B H E _ fun vs B1 H1 ds Γ1 g1 k p => ?_
  obtain ⟨lo, hi, rfl, hb, hn, hj, hja, Inv, i0, turn, done⟩ := p
  have ev : vs = [.int lo, .int hi] := IsA.rawsI (xs := [.int lo, .int hi]) k
  refine ⟨lo, hi, ev, hb, ?_⟩
  refine lc_run (n := (hi - lo).toNat) (dt := fun i => .int (lo + i)) (J := Itr lo (hi - lo).toNat) g1.env (of_decide_eq_true hj) (notAcc_ne hja) hn Inv (fun i B' H' _ _ hi _ _ _ => hi) (fun i H' x H'' B' _ _ hi _ _ _ hy => ?_) (fun B' H' _ _ _ _ _ => Nat.le_refl _) i0 (fun i es Γ' hi' => turn i es Γ' (by omega)) done fun v B2 H2 r Γ2 g2 k2 p2 => q v B2 H2 r Γ2 (g1.trans g2) (ReOk.earlier k2 g1.mv fun a h => .inl (g1.sub a h)) p2
  obtain ⟨e1, e2⟩ := hy
  subst e1 e2
  exact ⟨rfl, .raw _⟩
/-- over a tuple -/
theorem we_lcT (h : WE K tl Γ fun z Γ1 => ∃ ds, z = .val (.tup ds) ∧ ds.length ≤ 1000000 ∧ decide (j < Γ1.length) = true ∧ notAcc Γ1[j]? = true ∧ ∃ Inv : Nat → List Dt → List Sl → Prop, Inv 0 [] Γ1 ∧
      (∀ (i : Nat) d es Γ', ds[i]? = some d → Inv i es Γ' → WT K tt (Γ'.set j (.val d)) fun b Γ2 => (b = true → WE K te Γ2 fun r Γ3 => ∃ d, r.dt? = some d ∧ Inv (i + 1) (es ++ [d]) (Γ3.set j (keepV Γ1[j]?))) ∧ (b = false → Inv (i + 1) es (Γ2.set j (keepV Γ1[j]?)))) ∧
      ∀ es Γ', Inv ds.length es Γ' → Post (.new es) Γ') : WE K (tLc (iTup K tl) (gName j) tt te [j]) Γ Post := fun σ B H E Q q => by
  refine h σ B H E _ fun v B1 H1 z Γ1 g1 k p => ?_
  obtain ⟨ds, rfl, hn, hj, hja, Inv, i0, turn, done⟩ := p
  obtain ⟨a, xs, rfl, ha, hx⟩ := Is.tupR k
  refine ⟨a, rfl, ⟨xs, sqT_mono g1.env.bh ha⟩, ?_⟩
  have at_ : ∀ i, i < ds.length → ds[i]? = some (ds.getD i .non) := fun i hi => by rw [List.getD_eq_getElem?_getD, List.getElem?_eq_getElem hi]; rfl
  refine lc_run (n := ds.length) (dt := fun i => ds.getD i .non) (J := Itt K a) g1.env (of_decide_eq_true hj) (notAcc_ne hja) hn Inv (fun i B' H' _ _ hi b1 b2 _ => ?_) (fun i H' x H'' B' _ _ hi b1 b2 _ hy => ?_) (fun B' H' _ _ b1 b2 _ => ?_) i0 (fun i es Γ' hi' => turn i _ es Γ' (at_ i hi')) done fun v B2 H2 r Γ2 g2 k2 p2 => q v B2 H2 r Γ2 (g1.trans g2) (ReOk.earlier k2 g1.mv fun a h => .inl (g1.sub a h)) p2
  · obtain ⟨x, h1, _⟩ := hx.get (at_ i hi)
    exact ⟨xs, x, sqT_mono (b1.trans b2.bh) ha, h1⟩
  · obtain ⟨e1, e2⟩ := hy
    subst e1
    exact ⟨rfl, (hx.at_ i x _ (e2 xs (sqT_mono (b1.trans b2.bh) ha)) (at_ i hi)).mono b1⟩
  · exact ⟨xs, sqT_mono (b1.trans b2.bh) ha, by rw [hx.len]; exact Nat.le_refl _⟩
/-- over a list that is data or new -/
theorem we_lcL (h : WE K tl Γ fun z Γ1 => ∃ d ds, z.dt? = some d ∧ d = .lst ds ∧ ds.length ≤ 1000000 ∧ decide (j < Γ1.length) = true ∧ notAcc Γ1[j]? = true ∧ ∃ Inv : Nat → List Dt → List Sl → Prop, Inv 0 [] Γ1 ∧
      (∀ (i : Nat) d es Γ', ds[i]? = some d → Inv i es Γ' → WT K tt (Γ'.set j (.val d)) fun b Γ2 => (b = true → WE K te Γ2 fun r Γ3 => ∃ d, r.dt? = some d ∧ Inv (i + 1) (es ++ [d]) (Γ3.set j (keepV Γ1[j]?))) ∧ (b = false → Inv (i + 1) es (Γ2.set j (keepV Γ1[j]?)))) ∧
      ∀ es Γ', Inv ds.length es Γ' → Post (.new es) Γ') : WE K (tLc (iList K tl) (gName j) tt te [j]) Γ Post := fun σ B H E Q q => by
  have h' := we_freeze (Post := fun z Γ1 => ∃ ds, z = .val (.lst ds) ∧ ds.length ≤ 1000000 ∧ decide (j < Γ1.length) = true ∧ notAcc Γ1[j]? = true ∧ ∃ Inv : Nat → List Dt → List Sl → Prop, Inv 0 [] Γ1 ∧
      (∀ (i : Nat) d es Γ', ds[i]? = some d → Inv i es Γ' → WT K tt (Γ'.set j (.val d)) fun b Γ2 => (b = true → WE K te Γ2 fun r Γ3 => ∃ d, r.dt? = some d ∧ Inv (i + 1) (es ++ [d]) (Γ3.set j (keepV Γ1[j]?))) ∧ (b = false → Inv (i + 1) es (Γ2.set j (keepV Γ1[j]?)))) ∧
      ∀ es Γ', Inv ds.length es Γ' → Post (.new es) Γ') (we_mono h fun z Γ1 ⟨d, ds, hd, e, r⟩ => ⟨d, hd, ds, by rw [e], r⟩)
  refine h' σ B H E _ fun v B1 H1 z Γ1 g1 k p => ?_
  obtain ⟨ds, rfl, hn, hj, hja, Inv, i0, turn, done⟩ := p
  obtain ⟨a, xs, rfl, ha, hx⟩ := Is.lstR k
  refine ⟨a, rfl, ⟨xs, .inl (.inl (g1.env.bh _ _ ha))⟩, ?_⟩
  have at_ : ∀ i, i < ds.length → ds[i]? = some (ds.getD i .non) := fun i hi => by rw [List.getD_eq_getElem?_getD, List.getElem?_eq_getElem hi]; rfl
  refine lc_run (n := ds.length) (dt := fun i => ds.getD i .non) (J := Itl K a) g1.env (of_decide_eq_true hj) (notAcc_ne hja) hn Inv (fun i B' H' _ _ hi b1 b2 _ => ?_) (fun i H' x H'' B' _ _ hi b1 b2 _ hy => ?_) (fun B' H' _ _ b1 b2 _ => ?_) i0 (fun i es Γ' hi' => turn i _ es Γ' (at_ i hi')) done fun v B2 H2 r Γ2 g2 k2 p2 => q v B2 H2 r Γ2 (g1.trans g2) (ReOk.earlier k2 g1.mv fun a h => .inl (g1.sub a h)) p2
  · obtain ⟨x, h1, _⟩ := hx.get (at_ i hi)
    exact ⟨xs, x, .inl (.inl ((b1.trans b2.bh) _ _ ha)), h1⟩
  · obtain ⟨e1, e2⟩ := hy
    subst e1
    exact ⟨rfl, (hx.at_ i x _ (e2 xs (.inl (.inl ((b1.trans b2.bh) _ _ ha)))) (at_ i hi)).mono b1⟩
  · exact ⟨xs, .inl (.inl ((b1.trans b2.bh) _ _ ha)), by rw [hx.len]; exact Nat.le_refl _⟩
end
/-- over an owned list that the comprehension leaves as it is -/
theorem we_lcA {K : PySem.W.Frag} {Γ : List Sl} {Post : Re → List Sl → Prop} {te : TE} {tt : TT} {j k : Nat} {ds : List Dt} (h0 : Γ[k]? = some (.acc ds)) (hn : ds.length ≤ 1000000) (hj : decide (j < Γ.length) = true) (hja : notAcc Γ[j]? = true) (Inv : Nat → List Dt → List Sl → Prop) (i0 : Inv 0 [] Γ)
      (hk : ∀ i es Γ', Inv i es Γ' → Γ'[k]? = some (.acc ds))
      (turn : ∀ (i : Nat) d es Γ', ds[i]? = some d → Inv i es Γ' → WT K tt (Γ'.set j (.val d)) fun b Γ2 => (b = true → WE K te Γ2 fun r Γ3 => ∃ d, r.dt? = some d ∧ Inv (i + 1) (es ++ [d]) (Γ3.set j (keepV Γ[j]?))) ∧ (b = false → Inv (i + 1) es (Γ2.set j (keepV Γ[j]?))))
      (done : ∀ es Γ', Inv ds.length es Γ' → Post (.new es) Γ') : WE K (tLc (iList K (tVar k)) (gName j) tt te [j]) Γ Post := fun σ B H E Q q => by
  obtain ⟨l, xs, e0, e1, e2, hx⟩ := E.acc k ds h0
  have at_ : ∀ i, i < ds.length → ds[i]? = some (ds.getD i .non) := fun i hi => by rw [List.getD_eq_getElem?_getD, List.getElem?_eq_getElem hi]; rfl
  have items : ∀ {i es B' H' Γ'}, Env K B' H' σ Γ' → Inv i es Γ' → ∃ ys, H' l = some (.lst ys) ∧ IsA K B' ys ds := fun {i es B' H' Γ'} E' inv => by
    obtain ⟨c, ys, q1, q2, q3, q4⟩ := E'.acc k ds (hk i es Γ' inv)
    rw [e0] at q1
    cases q1
    exact ⟨ys, q2, q4⟩
  refine ⟨.ref l, e0, l, rfl, ⟨xs, .inl (.inl e1)⟩, ?_⟩
  refine lc_run (n := ds.length) (dt := fun i => ds.getD i .non) (J := Itl K l) E (of_decide_eq_true hj) (notAcc_ne hja) hn Inv (fun i B' H' es Γ' hi b1 b2 inv => ?_) (fun i H' x H'' B' es Γ' hi b1 b2 inv hy => ?_) (fun B' H' es Γ' b1 b2 inv => ?_) i0 (fun i es Γ' hi' => turn i _ es Γ' (at_ i hi')) done q
  · obtain ⟨ys, h1, h2⟩ := items b2 inv
    obtain ⟨x, h3, _⟩ := h2.get (at_ i hi)
    exact ⟨ys, x, .inl (.inl h1), h3⟩
  · obtain ⟨ys, h1, h2⟩ := items b2 inv
    obtain ⟨e1, e2⟩ := hy
    subst e1
    exact ⟨rfl, h2.at_ i x _ (e2 ys (.inl (.inl h1))) (at_ i hi)⟩
  · obtain ⟨ys, h1, h2⟩ := items b2 inv
    exact ⟨ys, .inl (.inl h1), by rw [h2.len]; exact Nat.le_refl _⟩
/-! ### == of data at any depth -/
mutual
def Dt.py : Dt → Option PyData
  | .raw .non => some .none
  | .raw (.bl b) => some (.bool b)
  | .raw (.int i) => some (.int i)
  | .raw (.str s) => some (.str s)
  | .raw _ => none
  | .tup ds => (pyAll ds).map .tuple
  | .lst ds => (pyAll ds).map .list
  | .obj _ _ => none
  | .scr ns => none
def pyAll : List Dt → Option (List PyData)
  | [] => some []
  | d :: ds => match Dt.py d, pyAll ds with
    | some p, some ps => some (p :: ps)
    | _, _ => none
end
section
variable {K : PySem.W.Frag} {B H : Hp}
theorem pyAll_dp : ∀ {ds : List Dt} {ps : List PyData} {vs : List V}, (∀ d p v, d ∈ ds → Dt.py d = some p → Is K B v d → Dp K B v p) → pyAll ds = some ps → IsA K B vs ds → DpAll K B vs ps
  | [], ps, vs, _, e, h => by
    rw [pyAll] at e
    cases e
    have : vs = [] := List.eq_nil_of_length_eq_zero (by rw [h.len]; rfl)
    subst this; exact .nil
  | d :: ds, ps, vs, f, e, h => by
    rw [pyAll] at e
    split at e
    · rename_i p qs h1 h2
      cases e
      cases vs with
      | nil => have := h.len; simp at this
      | cons v vs =>
        refine .cons (f d p v (List.mem_cons_self) h1 (h.at_ 0 v d rfl rfl)) (pyAll_dp (fun d p v hd => f d p v (List.mem_cons_of_mem _ hd)) h2 ⟨by have := h.len; simpa using this, fun i v d a b => h.at_ (i + 1) v d (by simpa using a) (by simpa using b)⟩)
    · cases e
theorem is_dp {v : V} {d : Dt} (h : Is K B v d) : ∀ {p : PyData}, d.py = some p → Dp K B v p := by
  induction h with
  | raw v =>
    intro p e
    cases v <;> (simp only [Dt.py] at e; cases e) <;> constructor
  | @tup a xs ds h hl hi ih =>
    intro p e
    rw [Dt.py] at e
    cases q : pyAll ds with
    | none => rw [q] at e; cases e
    | some ps =>
      rw [q] at e
      cases e
      refine .tup h ?_
      clear h
      induction ds generalizing xs ps with
      | nil =>
        rw [pyAll] at q; cases q
        have : xs = [] := List.eq_nil_of_length_eq_zero (by rw [hl]; rfl)
        subst this; exact .nil
      | cons d ds ihd =>
        rw [pyAll] at q
        split at q
        · rename_i p1 qs h1 h2
          cases q
          cases xs with
          | nil => simp at hl
          | cons x xs =>
            exact .cons (ih 0 x d rfl rfl h1) (ihd (by simpa using hl) (fun i v d a b => hi (i + 1) v d (by simpa using a) (by simpa using b)) (fun i v d a b => ih (i + 1) v d (by simpa using a) (by simpa using b)) qs h2)
        · cases q
  | @lst a xs ds h hl hi ih =>
    intro p e
    rw [Dt.py] at e
    cases q : pyAll ds with
    | none => rw [q] at e; cases e
    | some ps =>
      rw [q] at e
      cases e
      refine .lst (.inl (.inl h)) ?_
      clear h
      induction ds generalizing xs ps with
      | nil =>
        rw [pyAll] at q; cases q
        have : xs = [] := List.eq_nil_of_length_eq_zero (by rw [hl]; rfl)
        subst this; exact .nil
      | cons d ds ihd =>
        rw [pyAll] at q
        split at q
        · rename_i p1 qs h1 h2
          cases q
          cases xs with
          | nil => simp at hl
          | cons x xs =>
            exact .cons (ih 0 x d rfl rfl h1) (ihd (by simpa using hl) (fun i v d a b => hi (i + 1) v d (by simpa using a) (by simpa using b)) (fun i v d a b => ih (i + 1) v d (by simpa using a) (by simpa using b)) qs h2)
        · cases q
  | obj h hk hi ih => intro p e; rw [Dt.py] at e; cases e
  | scr h => intro p e; rw [Dt.py] at e; cases e
mutual
theorem dp_mono {B' : Hp} (s : Same B B') {v : V} : ∀ {p : PyData}, Dp K B v p → Dp K B' v p
  | _, .non => .non
  | _, .bl b => .bl b
  | _, .int i => .int i
  | _, .str x => .str x
  | _, .lst h hs => .lst (s.seq h) (dpAll_mono s hs)
  | _, .tup h hs => .tup (sqT_mono s h) (dpAll_mono s hs)
theorem dpAll_mono {B' : Hp} (s : Same B B') : ∀ {vs : List V} {ps : List PyData}, DpAll K B vs ps → DpAll K B' vs ps
  | _, _, .nil => .nil
  | _, _, .cons h hs => .cons (dp_mono s h) (dpAll_mono s hs)
end
end
/-- a result as data to be compared -/
def Re.py (Γ : List Sl) : Re → Option PyData
  | .val d => d.py
  | .new ds => (pyAll ds).map .list
  | .own i => match Γ[i]? with
    | some (.acc ds) => (pyAll ds).map .list
    | _ => none
section
variable {K : PySem.W.Frag} {Γ : List Sl} {Post : Re → List Sl → Prop} {ta tb : TE}
theorem rv_dp {σ : L2.St} {B H : Hp} {v : V} {r : Re} {p : PyData} (E : Env K B H σ Γ) (h : RvOk K σ B H Γ v r) (e : r.py Γ = some p) : Dp K H v p := by
  have lst : ∀ {ds : List Dt}, lstOf Γ r = some ds → (pyAll ds).map PyData.list = some p → Dp K H v p := fun {ds} h1 h2 => by
    obtain ⟨a, vs, rfl, hq, ha⟩ := rv_lst E h h1
    cases q : pyAll ds with
    | none => rw [q] at h2; cases h2
    | some ps =>
      rw [q] at h2
      cases h2
      exact .lst hq (dpAll_mono E.bh (pyAll_dp (fun d p v _ e k => is_dp k e) q ha))
  cases r with
  | val d => exact dp_mono E.bh (is_dp h e)
  | new ds => exact lst rfl e
  | own i =>
    have e' : (match Γ[i]? with
      | some (Sl.acc ds) => (pyAll ds).map PyData.list
      | _ => none) = some p := e
    split at e'
    · rename_i ds hi
      exact lst (by show (match Γ[i]? with | some (Sl.acc ds) => some ds | _ => none) = some ds; rw [hi]) e'
    · cases e'
theorem we_eqD (h : WE K ta Γ fun ra Γ1 => WE K tb Γ1 fun rb Γ2 => ∃ p q : PyData, ra.py Γ2 = some p ∧ rb.py Γ2 = some q ∧ SeqAt.shaped p = true ∧ SeqAt.shaped q = true ∧ Post (.val (.bl (PyData.eqv p q))) Γ2) : WE K (tOp (rEqD K) ta tb) Γ Post :=
  we_two' (we_mono h fun ra Γ1 h1 => we_mono h1 fun rb Γ2 ⟨p, q, e1, e2, s1, s2, pp⟩ => fun σ B H x y E kx ky Q k =>
    ⟨p, q, rv_dp E kx e1, rv_dp E ky e2, s1, s2, k _ B H _ Γ2 (.refl E) (.raw _) pp⟩)
theorem we_neD (h : WE K ta Γ fun ra Γ1 => WE K tb Γ1 fun rb Γ2 => ∃ p q : PyData, ra.py Γ2 = some p ∧ rb.py Γ2 = some q ∧ SeqAt.shaped p = true ∧ SeqAt.shaped q = true ∧ Post (.val (.bl (!PyData.eqv p q))) Γ2) : WE K (tOp (rNeD K) ta tb) Γ Post :=
  we_two' (we_mono h fun ra Γ1 h1 => we_mono h1 fun rb Γ2 ⟨p, q, e1, e2, s1, s2, pp⟩ => fun σ B H x y E kx ky Q k =>
    ⟨p, q, rv_dp E kx e1, rv_dp E ky e2, s1, s2, k _ B H _ Γ2 (.refl E) (.raw _) pp⟩)
end
end Ab
namespace Ab
open PySem L2
/-! ### operators of several kinds, one rule a node -/
abbrev rSubI : R2 := rI0 fun i j => .int (i - j)
abbrev rDivI : R2 := rI CDiv fun i j => .int (i / j)
abbrev rModI : R2 := rI (fun _ j => 0 < j) fun i j => .int (i % j)
abbrev rPowI : R2 := rI CPow fun i j => .int (i ^ j.toNat)
abbrev rLtI : R2 := rI0 fun i j => .bl (decide (i < j))
abbrev rLeI : R2 := rI0 fun i j => .bl (decide (i ≤ j))
abbrev rGtI : R2 := rI0 fun i j => .bl (decide (j < i))
abbrev rGeI : R2 := rI0 fun i j => .bl (decide (j ≤ i))
abbrev rNegI : V → Hp → VK → Prop := rU fun i => .int (-i)
def rAddG (K : PySem.W.Frag) : R2 := fun x y H Q => rI0 (fun i j => .int (i + j)) x y H Q ∨ (∃ i j, x = .str i ∧ y = .str j ∧ i.length + j.length ≤ sizeLine ∧ Q (.str (i ++ j)) H) ∨ rCatA K x y H Q ∨ rCat x y H Q
def rMulG (K : PySem.W.Frag) : R2 := fun x y H Q => rI CMul (fun i j => .int (i * j)) x y H Q ∨ rI CMulW (fun i j => .int (i * j)) x y H Q
def rEqG (K : PySem.W.Frag) : R2 := fun x y H Q => rEq x y H Q ∨ rEqD K x y H Q
def rNeG (K : PySem.W.Frag) : R2 := fun x y H Q => rNe x y H Q ∨ rNeD K x y H Q
def rLtG (K : PySem.W.Frag) : R2 := fun x y H Q => rI0 (fun i j => .bl (decide (i < j))) x y H Q ∨ (∃ i j, x = .str i ∧ y = .str j ∧ Q (.bl (decide (i.cps.toList < j.cps.toList))) H) ∨ rLtT K x y H Q
def rInG (K : PySem.W.Frag) : R2 := fun x y H Q => rIn K false x y H Q ∨ ∃ (c : Nat) (z : Str), x = .str ⟨#[c]⟩ ∧ y = .str z ∧ Q (.bl (decide (c ∈ z.cps.toList))) H
def rSlG (K : PySem.W.Frag) : V → Option Int → Option Int → Hp → VK → Prop := fun x lo hi H Q => rSlL K x lo hi H Q ∨ rSlA K x lo hi H Q ∨ rSlS x lo hi H Q
section
variable {X : Cx}
theorem op_addG : OpR X (binaryOp .Add) (rAddG X.K) := op_add.or (op_add_str.or (op_catA.or op_cat))
theorem op_mulG : OpR X (binaryOp .Mult) (rMulG X.K) := op_mul.or op_mulW
theorem op_eqG (hu : X.A.units + 64 < cLine) : OpR X (compareOp .Eq) (rEqG X.K) := op_eq.or (op_eqD hu)
theorem op_neG (hu : X.A.units + 64 < cLine) : OpR X (compareOp .NotEq) (rNeG X.K) := op_ne.or (op_neD hu)
theorem op_ltG (hu : X.A.units < cLine) : OpR X (compareOp .Lt) (rLtG X.K) := op_lt.or (op_lt_str.or (op_ltT hu))
theorem op_inG : OpR X (compareOp .In) (rInG X.K) := op_in_seq.or op_in_sign
theorem sl_G : SlR X (rSlG X.K) := sl_list.or (sl_tupA.or sl_str)
end
def Re.isScr : Re → Bool
  | .val (.scr _) => true
  | _ => false
def AddP (ra rb : Re) (Γ : List Sl) (Post : Re → List Sl → Prop) : Prop :=
  (∃ i j, ra = .val (.int i) ∧ rb = .val (.int j) ∧ Post (.val (.int (i + j))) Γ) ∨ (∃ s t : Str, ra = .val (.str s) ∧ rb = .val (.str t) ∧ s.length + t.length ≤ 1000000 ∧ Post (.val (.str (s ++ t))) Γ) ∨
  (∃ ds es, ra = .val (.tup ds) ∧ rb = .val (.tup es) ∧ ds.length + es.length ≤ 1000000 ∧ Post (.val (.tup (ds ++ es))) Γ) ∨ (∃ ds es, lstOf Γ ra = some ds ∧ lstOf Γ rb = some es ∧ ra.isScr = false ∧ rb.isScr = false ∧ ds.length + es.length ≤ 1000000 ∧ Post (.new (ds ++ es)) Γ)
def EqP (neg : Bool) (ra rb : Re) (Γ : List Sl) (Post : Re → List Sl → Prop) : Prop :=
  (∃ x y : V, ra = .val (.raw x) ∧ rb = .val (.raw y) ∧ scal x y = true ∧ Post (.val (.bl (neg ^^ decide (x = y)))) Γ) ∨
  (∃ p q : PyData, ra.py Γ = some p ∧ rb.py Γ = some q ∧ SeqAt.shaped p = true ∧ SeqAt.shaped q = true ∧ Post (.val (.bl (neg ^^ PyData.eqv p q))) Γ)
def MulP (ra rb : Re) (Γ : List Sl) (Post : Re → List Sl → Prop) : Prop := ∃ i j, ra = .val (.int i) ∧ rb = .val (.int j) ∧ (CMul i j ∨ CMulW i j) ∧ Post (.val (.int (i * j))) Γ
def IxP (ra rb : Re) (Γ : List Sl) (Post : Re → List Sl → Prop) : Prop :=
  (∃ ds k d, seqOf Γ ra = some ds ∧ rb = .val (.int k) ∧ atI ds k = some d ∧ Post (.val d) Γ) ∨ (∃ z k c, ra = .val (.str z) ∧ rb = .val (.int k) ∧ z.length ≤ 1000000 ∧ atI z.cps.toList k = some c ∧ Post (.val (.str ⟨#[c]⟩)) Γ)
def LenP (r : Re) (Γ : List Sl) (Post : Re → List Sl → Prop) : Prop := (∃ ds, seqOf Γ r = some ds ∧ Post (.val (.int ds.length)) Γ) ∨ (∃ z : Str, r = .val (.str z) ∧ z.length ≤ 1000000 ∧ Post (.val (.int z.length)) Γ)
def IntP (r : Re) (Γ : List Sl) (Post : Re → List Sl → Prop) : Prop := (∃ i, r = .val (.int i) ∧ Post (.val (.int i)) Γ) ∨ (∃ b, r = .val (.bl b) ∧ Post (.val (.int (if b then 1 else 0))) Γ)
section
variable {K : PySem.W.Frag} {Γ : List Sl} {Post : Re → List Sl → Prop} {ta tb tc te : TE}
theorem rv_lstH {σ : L2.St} {B H : Hp} {v : V} {r : Re} {ds : List Dt} (E : Env K B H σ Γ) (h : RvOk K σ B H Γ v r) (e : lstOf Γ r = some ds) (hs : r.isScr = false) : ∃ a vs, v = .ref a ∧ H a = some (.lst vs) ∧ IsA K B vs ds := by
  cases r with
  | val d =>
    cases d with
    | lst es => cases e; obtain ⟨a, xs, rfl, h1, h2⟩ := Is.lstR h; exact ⟨a, xs, rfl, E.bh _ _ h1, h2⟩
    | raw u => cases e
    | tup es => cases e
    | obj C fs => cases e
    | scr ns => cases hs
  | new es => cases e; obtain ⟨l, vs, rfl, _, h1, _, h2⟩ := h; exact ⟨l, vs, rfl, h1, h2⟩
  | own i =>
    obtain ⟨l, rfl, hl⟩ := h
    have e' : (match Γ[i]? with
      | some (Sl.acc ds) => some ds
      | _ => none) = some ds := e
    split at e'
    · rename_i es hi
      cases e'
      obtain ⟨c, us, q1, q2, q3, q4⟩ := E.acc i _ hi
      rw [hl] at q1; cases q1
      exact ⟨l, us, rfl, q2, q4⟩
    · cases e'
theorem we_addG (h : WE K ta Γ fun ra Γ1 => WE K tb Γ1 fun rb Γ2 => AddP ra rb Γ2 Post) : WE K (tOp (rAddG K) ta tb) Γ Post :=
  we_two' (we_mono h fun ra Γ1 h1 => we_mono h1 fun rb Γ2 hp => fun σ B H x y E kx ky Q q => by
    rcases hp with ⟨i, j, rfl, rfl, p⟩ | ⟨s, t, rfl, rfl, hz, p⟩ | ⟨ds, es, rfl, rfl, hz, p⟩ | ⟨ds, es, h1, h2, s1, s2, hz, p⟩
    · cases Is.rawI kx; cases Is.rawI ky
      exact .inl ⟨i, j, rfl, rfl, q _ B H _ Γ2 (.refl E) (.raw _) p⟩
    · cases Is.rawI kx; cases Is.rawI ky
      exact .inr (.inl ⟨s, t, rfl, rfl, Nat.le_trans hz (by decide), q _ B H _ Γ2 (.refl E) (.raw _) p⟩)
    · obtain ⟨a, xs, rfl, h1, h2⟩ := Is.tupR kx
      obtain ⟨b, ys, rfl, g1, g2⟩ := Is.tupR ky
      refine .inr (.inr (.inl ⟨a, b, xs, ys, rfl, rfl, sqT_mono E.bh h1, sqT_mono E.bh g1, Nat.le_trans (by rw [h2.len, g2.len]; exact hz) (by decide), fun e => ?_, fun e1 e => ?_, fun _ _ l hl => ?_⟩))
      · have : ds = [] := List.eq_nil_of_length_eq_zero (by rw [← h2.len, e]; rfl)
        subst this
        exact q _ B H (.val _) Γ2 (.refl E) (show Is K B _ _ from ky) p
      · have : es = [] := List.eq_nil_of_length_eq_zero (by rw [← g2.len, e]; rfl)
        subst this
        rw [List.append_nil] at p
        exact q _ B H (.val _) Γ2 (.refl E) (show Is K B _ _ from kx) p
      · exact q _ _ _ _ Γ2 (Go.laid E hl) (re_laidT E (h2.append g2) hl) p
    · obtain ⟨a, xs, rfl, a1, a2⟩ := rv_lstH E kx h1 s1
      obtain ⟨b, ys, rfl, b1, b2⟩ := rv_lstH E ky h2 s2
      exact .inr (.inr (.inr ⟨a, b, xs, ys, rfl, rfl, a1, b1, Nat.le_trans (by rw [a2.len, b2.len]; exact hz) (by decide), fun l hl => q _ _ _ _ Γ2 (Go.beside E hl) (re_newL E (a2.append b2) hl) p⟩)))
theorem we_mulG (h : WE K ta Γ fun ra Γ1 => WE K tb Γ1 fun rb Γ2 => MulP ra rb Γ2 Post) : WE K (tOp (rMulG K) ta tb) Γ Post :=
  we_two' (we_mono h fun ra Γ1 h1 => we_mono h1 fun rb Γ2 hp => fun σ B H x y E kx ky Q q => by
    obtain ⟨i, j, rfl, rfl, hc, p⟩ := hp
    cases Is.rawI kx; cases Is.rawI ky
    have fin := q _ B H _ Γ2 (.refl E) (.raw _) p
    rcases hc with hc | hc
    · exact .inl ⟨i, j, rfl, rfl, hc, fin⟩
    · exact .inr ⟨i, j, rfl, rfl, hc, fin⟩)
theorem we_eqG (h : WE K ta Γ fun ra Γ1 => WE K tb Γ1 fun rb Γ2 => EqP false ra rb Γ2 Post) : WE K (tOp (rEqG K) ta tb) Γ Post :=
  we_two' (we_mono h fun ra Γ1 h1 => we_mono h1 fun rb Γ2 hp => fun σ B H x y E kx ky Q q => by
    rcases hp with ⟨u, w, rfl, rfl, hs, p⟩ | ⟨a, b, e1, e2, s1, s2, p⟩
    · cases Is.rawI kx; cases Is.rawI ky
      rw [Bool.false_xor] at p
      exact .inl ⟨hs, q _ B H _ Γ2 (.refl E) (.raw _) p⟩
    · rw [Bool.false_xor] at p
      exact .inr ⟨a, b, rv_dp E kx e1, rv_dp E ky e2, s1, s2, q _ B H _ Γ2 (.refl E) (.raw _) p⟩)
theorem we_neG (h : WE K ta Γ fun ra Γ1 => WE K tb Γ1 fun rb Γ2 => EqP true ra rb Γ2 Post) : WE K (tOp (rNeG K) ta tb) Γ Post :=
  we_two' (we_mono h fun ra Γ1 h1 => we_mono h1 fun rb Γ2 hp => fun σ B H x y E kx ky Q q => by
    rcases hp with ⟨u, w, rfl, rfl, hs, p⟩ | ⟨a, b, e1, e2, s1, s2, p⟩
    · cases Is.rawI kx; cases Is.rawI ky
      rw [Bool.true_xor] at p
      exact .inl ⟨hs, q _ B H _ Γ2 (.refl E) (.raw _) p⟩
    · rw [Bool.true_xor] at p
      exact .inr ⟨a, b, rv_dp E kx e1, rv_dp E ky e2, s1, s2, q _ B H _ Γ2 (.refl E) (.raw _) p⟩)
theorem we_ixG (h : WE K ta Γ fun ra Γ1 => WE K tb Γ1 fun rb Γ2 => IxP ra rb Γ2 Post) : WE K (tOp (rIx K) ta tb) Γ Post :=
  we_two' (we_mono h fun ra Γ1 h1 => we_mono h1 fun rb Γ2 hp => fun σ B H x y E kx ky Q q => by
    rcases hp with ⟨ds, k, d, hs, rfl, hd, p⟩ | ⟨z, k, c, rfl, rfl, hz, hd, p⟩
    · cases Is.rawI ky
      obtain ⟨a, vs, rfl, hq, ha⟩ := rv_seq E kx hs
      obtain ⟨v, hv, hi⟩ := ha.atI hd
      have fin := q v B H (.val d) Γ2 (.refl E) hi p
      rcases hq with hq | hq
      · exact .inl ⟨a, vs, k, v, rfl, rfl, hq, hv, fin⟩
      · exact .inr (.inl ⟨a, vs, k, v, rfl, rfl, hq, hv, fin⟩)
    · cases Is.rawI ky
      cases Is.rawI kx
      exact .inr (.inr ⟨z, k, c, rfl, rfl, Nat.le_trans hz (by decide), hd, q _ B H _ Γ2 (.refl E) (.raw _) p⟩))
theorem we_lenG (h : WE K te Γ fun r Γ1 => LenP r Γ1 Post) : WE K (tCB (rLenV K) (tCons te tNil)) Γ Post :=
  we_cb1 (we_mono h fun r Γ1 hp => fun σ B H x E kx Q q => by
    rcases hp with ⟨ds, hs, p⟩ | ⟨z, rfl, hz, p⟩
    · obtain ⟨a, vs, rfl, hq, ha⟩ := rv_seq E kx hs
      have e : (ds.length : Int) = (vs.length : Int) := by rw [ha.len]
      rw [e] at p
      refine ⟨_, vs.length, rfl, ?_, q _ B H _ Γ1 (.refl E) (.raw _) p⟩
      rcases hq with hq | hq
      · exact .inl ⟨vs, hq, rfl⟩
      · exact .inr ⟨vs, hq, rfl⟩
    · cases Is.rawI kx
      exact ⟨_, z.length, rfl, ⟨Nat.le_trans hz (by decide), rfl⟩, q _ B H _ Γ1 (.refl E) (.raw _) p⟩)
theorem we_intG (h : WE K te Γ fun r Γ1 => IntP r Γ1 Post) : WE K (tCB rInt1 (tCons te tNil)) Γ Post :=
  we_cb1 (we_mono h fun r Γ1 hp => fun σ B H x E kx Q q => by
    rcases hp with ⟨i, rfl, p⟩ | ⟨b, rfl, p⟩
    · cases Is.rawI kx; exact .inl ⟨i, rfl, q _ B H _ Γ1 (.refl E) (.raw _) p⟩
    · cases Is.rawI kx; exact .inr ⟨b, rfl, q _ B H _ Γ1 (.refl E) (.raw _) p⟩)
/-! slices -/
def WO (K : PySem.W.Frag) (to : TO) (Γ : List Sl) (Post : Option Int → List Sl → Prop) : Prop := ∀ σ B H, Env K B H σ Γ → ∀ Q : Option Int → Hp → Prop, (∀ o B' H' Γ', Go K σ B H Γ B' H' Γ' → Post o Γ' → Q o H') → to σ H Q
theorem wo_none {P : Option Int → List Sl → Prop} (p : P none Γ) : WO K tNoPart Γ P := fun σ B H E Q q => q none B H Γ (.refl E) p
theorem wo_some {P : Option Int → List Sl → Prop} (h : WE K te Γ fun r Γ1 => ∃ i, r = .val (.int i) ∧ P (some i) Γ1) : WO K (tPart te) Γ P := fun σ B H E Q q => by
  refine h σ B H E _ fun v B1 H1 r Γ1 g k ⟨i, e, p⟩ => ?_
  subst e
  cases Is.rawI k
  exact ⟨i, rfl, q _ B1 H1 Γ1 g p⟩
/-- the items of a slice -/
def cutD (xs : List Dt) (lo hi : Option Int) : List Dt := (xs.drop (HT.sIx xs.length 0 lo)).take (HT.sIx xs.length xs.length hi - HT.sIx xs.length 0 lo)
def SlP (ra : Re) (lo hi : Option Int) (Γ : List Sl) (Post : Re → List Sl → Prop) : Prop :=
  (∃ ds, lstOf Γ ra = some ds ∧ Post (.new (cutD ds lo hi)) Γ) ∨ (∃ ds, ra = .val (.tup ds) ∧ Post (.val (.tup (cutD ds lo hi))) Γ) ∨ (∃ z : Str, ra = .val (.str z) ∧ z.length ≤ 1000000 ∧ Post (.val (.str (cutS z lo hi))) Γ)
theorem cut_is {B : Hp} {vs : List V} {ds : List Dt} (lo hi : Option Int) (h : IsA K B vs ds) : IsA K B (cutV vs lo hi) (cutD ds lo hi) := by
  unfold cutV cutD
  rw [h.len]
  exact (h.drop _).take _
theorem cut_whole {ds : List Dt} {lo hi : Option Int} (h : HT.sIx ds.length 0 lo = 0 ∧ HT.sIx ds.length ds.length hi = ds.length) : cutD ds lo hi = ds := by
  unfold cutD
  rw [h.1, h.2, List.drop_zero, Nat.sub_zero, List.take_length]
theorem we_slG {tl th : TO} (h : WE K ta Γ fun ra Γ1 => WO K tl Γ1 fun lo Γ2 => WO K th Γ2 fun hi Γ3 => SlP ra lo hi Γ3 Post) : WE K (tSl (rSlG K) ta tl th) Γ Post := fun σ B H E Q q => by
  refine h σ B H E _ fun x B1 H1 ra Γ1 g1 k1 p1 => ?_
  refine p1 σ B1 H1 g1.env _ fun lo B2 H2 Γ2 g2 p2 => ?_
  refine p2 σ B2 H2 g2.env _ fun hi B3 H3 Γ3 g3 p3 => ?_
  have g23 := g2.trans g3
  have kx := ReOk.rv (ReOk.step k1 g23.mv g23.sub)
  have g := g1.trans g23
  have fin : ∀ v B' H' z Γ', Go K σ B3 H3 Γ3 B' H' Γ' → ReOk K σ (Own σ Γ3) (Own σ Γ') B' H3 H' v z → Post z Γ' → Q v H' := fun v B' H' z Γ' g4 k4 p4 => q v B' H' z Γ' (g.trans g4) (ReOk.earlier k4 g.mv fun a h => .inl (g.sub a h)) p4
  rcases p3 with ⟨ds, hs, p⟩ | ⟨ds, rfl, p⟩ | ⟨z, rfl, hz, p⟩
  · obtain ⟨a, vs, rfl, hq, ha⟩ := rv_lst g3.env kx hs
    exact .inl ⟨a, vs, rfl, hq, fun l hl => fin _ _ _ _ Γ3 (Go.beside g3.env hl) (re_newL g3.env (cut_is lo hi ha) hl) p⟩
  · obtain ⟨a, vs, rfl, hq, ha⟩ := Is.tupR kx
    refine .inr (.inl ⟨a, vs, rfl, sqT_mono g3.env.bh hq, fun hw => ?_, fun _ l hl => fin _ _ _ _ Γ3 (Go.laid g3.env hl) (re_laidT g3.env (cut_is lo hi ha) hl) p⟩)
    rw [ha.len] at hw
    rw [cut_whole hw] at p
    exact fin _ B3 H3 (.val _) Γ3 (.refl g3.env) (show Is K B3 _ _ from kx) p
  · cases Is.rawI kx
    exact .inr (.inr ⟨z, rfl, Nat.le_trans hz (by decide), fin _ B3 H3 _ Γ3 (.refl g3.env) (.raw _) p⟩)
def InP (neg : Bool) (ra rb : Re) (Γ : List Sl) (Post : Re → List Sl → Prop) : Prop :=
  (∃ (x : V) (us : List V), ra = .val (.raw x) ∧ seqOf Γ rb = some (us.map Dt.raw) ∧ flatV x = true ∧ us.all flatV = true ∧ Post (.val (.bl (if neg then !inV x us else inV x us))) Γ)
theorem we_inG (h : WE K ta Γ fun ra Γ1 => WE K tb Γ1 fun rb Γ2 => InP false ra rb Γ2 Post ∨ ∃ (c : Nat) (z : Str), ra = .val (.str ⟨#[c]⟩) ∧ rb = .val (.str z) ∧ Post (.val (.bl (decide (c ∈ z.cps.toList)))) Γ2) : WE K (tOp (rInG K) ta tb) Γ Post :=
  we_two' (we_mono h fun ra Γ1 h1 => we_mono h1 fun rb Γ2 hp => fun σ B H y z E ky kz Q q => by
    rcases hp with ⟨x, us, rfl, hs, hx, hu, p⟩ | ⟨c, s, rfl, rfl, p⟩
    · cases Is.rawI ky
      obtain ⟨a, vs, rfl, hq, ha⟩ := rv_seq E kz hs
      cases ha.rawsI
      exact .inl ⟨a, _, rfl, hq, hx, hu, q _ B H _ Γ2 (.refl E) (.raw _) p⟩
    · cases Is.rawI ky; cases Is.rawI kz
      exact .inr ⟨c, s, rfl, rfl, q _ B H _ Γ2 (.refl E) (.raw _) p⟩)
theorem we_notInG (h : WE K ta Γ fun ra Γ1 => WE K tb Γ1 fun rb Γ2 => InP true ra rb Γ2 Post) : WE K (tOp (rIn K true) ta tb) Γ Post := we_in h
end
/-- < of ints, of texts, of tuples of ints -/
def LtP (ra rb : Re) (Γ : List Sl) (Post : Re → List Sl → Prop) : Prop :=
  (∃ i j, ra = .val (.int i) ∧ rb = .val (.int j) ∧ Post (.val (.bl (decide (i < j)))) Γ) ∨ (∃ s t : Str, ra = .val (.str s) ∧ rb = .val (.str t) ∧ Post (.val (.bl (decide (s.cps.toList < t.cps.toList)))) Γ) ∨
  (∃ ns ms : List Int, ra = .val (.tup (ns.map Dt.int)) ∧ rb = .val (.tup (ms.map Dt.int)) ∧ Post (.val (.bl (HT.lexLt ns ms))) Γ)
theorem we_ltG {K : PySem.W.Frag} {Γ : List Sl} {Post : Re → List Sl → Prop} {ta tb : TE} (h : WE K ta Γ fun ra Γ1 => WE K tb Γ1 fun rb Γ2 => LtP ra rb Γ2 Post) : WE K (tOp (rLtG K) ta tb) Γ Post :=
  we_two' (we_mono h fun ra Γ1 h1 => we_mono h1 fun rb Γ2 hp => fun σ B H x y E kx ky Q q => by
    rcases hp with ⟨i, j, rfl, rfl, p⟩ | ⟨s, t, rfl, rfl, p⟩ | ⟨ns, ms, rfl, rfl, p⟩
    · cases Is.rawI kx; cases Is.rawI ky
      exact .inl ⟨i, j, rfl, rfl, q _ B H _ Γ2 (.refl E) (.raw _) p⟩
    · cases Is.rawI kx; cases Is.rawI ky
      exact .inr (.inl ⟨s, t, rfl, rfl, q _ B H _ Γ2 (.refl E) (.raw _) p⟩)
    · obtain ⟨a, xs, rfl, h1, h2⟩ := Is.tupR kx
      obtain ⟨b, ys, rfl, g1, g2⟩ := Is.tupR ky
      have e1 : xs = ns.map V.int := IsA.rawsI (xs := ns.map V.int) (by rw [List.map_map]; exact h2)
      have e2 : ys = ms.map V.int := IsA.rawsI (xs := ms.map V.int) (by rw [List.map_map]; exact g2)
      subst e1 e2
      exact .inr (.inr ⟨a, b, ns, ms, rfl, rfl, sqT_mono E.bh h1, sqT_mono E.bh g1, q _ B H _ Γ2 (.refl E) (.raw _) p⟩))
/-- a def that is never called -/
theorem fn_never {P : Program} {w : World} {K : PySem.W.Frag} {mg : Str → Option Value} {base : Heap} {x qual : Str} {st : Stmt} {f : Addr} {fd : FuncData} {N ps : List Str} {k : Nat} (F : Fun K x qual st f fd) (S : FnScope N ps (defScope st)) :
    FnOk P w K mg base CX0 (k + 1) f fd ps (toSp K fun _ _ => False) := by
  refine F.ok S (fun vs H Q E h => ?_) (fun cdv A outer s H vs Q E hr h => ?_)
  · obtain ⟨_, _, _, _, z, _⟩ := h; exact z.elim
  · obtain ⟨_, _, _, _, z, _⟩ := h; exact z.elim
/-- the law's own start: the script -/
theorem law_sp {K : PySem.W.Frag} {ap : AP} {H : Hp} {a : Addr} {ns : List Int} {E : XK} (hS : SqL K H a (ns.map V.int)) (h : ∀ Post : Re → List Sl → Prop, (∀ as, Post (.val (.bl true)) as) → ap [.val (.scr ns)] Post) : toSp K ap [.ref a] H (fun v _ => v = .bl true) E := by
  refine ⟨H, [.val (.scr ns)], fun r _ => r = .val (.bl true), ⟨rfl, Same.refl H, fun i d hi => ?_, fun i ds hi => ?_, fun i j ds es l hi => ?_⟩, h _ (fun _ => rfl), fun v B' H' r as' g k p => ?_⟩
  · cases i with
    | zero => simp at hi; subst hi; exact ⟨.ref a, rfl, .scr hS⟩
    | succ i => simp at hi
  · cases i with
    | zero => simp at hi
    | succ i => simp at hi
  · cases i with
    | zero => simp at hi
    | succ i => simp at hi
  · subst p; exact Is.rawI k
/-! ### builtins' names -/
theorem bi_int : bootBuiltins "int" = some (.type "int") := by decide +kernel
theorem bi_bool : bootBuiltins "bool" = some (.type "bool") := by decide +kernel
theorem bi_str : bootBuiltins "str" = some (.type "str") := by decide +kernel
theorem bi_list : bootBuiltins "list" = some (.type "list") := by decide +kernel
theorem bi_tuple : bootBuiltins "tuple" = some (.type "tuple") := by decide +kernel
theorem bi_dict : bootBuiltins "dict" = some (.type "dict") := by decide +kernel
theorem bi_range : bootBuiltins "range" = some (.type "range") := by decide +kernel
theorem bi_len : bootBuiltins "len" = some (.builtin "len") := by decide +kernel
theorem bi_abs : bootBuiltins "abs" = some (.builtin "abs") := by decide +kernel
theorem bi_min : bootBuiltins "min" = some (.builtin "min") := by decide +kernel
theorem bi_max : bootBuiltins "max" = some (.builtin "max") := by decide +kernel
theorem bi_sum : bootBuiltins "sum" = some (.builtin "sum") := by decide +kernel
theorem bi_isinstance : bootBuiltins "isinstance" = some (.builtin "isinstance") := by decide +kernel
end Ab
namespace Ab
open PySem L2
section
variable {Γ : List Sl} {Post : Re → List Sl → Prop}
theorem addp_i {i j : Int} (p : Post (.val (.int (i + j))) Γ) : AddP (.val (.int i)) (.val (.int j)) Γ Post := .inl ⟨i, j, rfl, rfl, p⟩
theorem addp_s {s t : Str} (hz : s.length + t.length ≤ 1000000) (p : Post (.val (.str (s ++ t))) Γ) : AddP (.val (.str s)) (.val (.str t)) Γ Post := .inr (.inl ⟨s, t, rfl, rfl, hz, p⟩)
theorem addp_t {ds es : List Dt} (hz : ds.length + es.length ≤ 1000000) (p : Post (.val (.tup (ds ++ es))) Γ) : AddP (.val (.tup ds)) (.val (.tup es)) Γ Post := .inr (.inr (.inl ⟨ds, es, rfl, rfl, hz, p⟩))
theorem addp_l {ra rb : Re} {ds es : List Dt} (h1 : lstOf Γ ra = some ds) (h2 : lstOf Γ rb = some es) (s1 : ra.isScr = false) (s2 : rb.isScr = false) (hz : ds.length + es.length ≤ 1000000) (p : Post (.new (ds ++ es)) Γ) : AddP ra rb Γ Post := .inr (.inr (.inr ⟨ds, es, h1, h2, s1, s2, hz, p⟩))
theorem mulp_l {i j : Int} (hc : -(2 ^ 64) < i ∧ i < 2 ^ 64) (p : Post (.val (.int (i * j))) Γ) : MulP (.val (.int i)) (.val (.int j)) Γ Post := ⟨i, j, rfl, rfl, .inl (.inl hc), p⟩
theorem mulp_r {i j : Int} (hc : -(2 ^ 64) < j ∧ j < 2 ^ 64) (p : Post (.val (.int (i * j))) Γ) : MulP (.val (.int i)) (.val (.int j)) Γ Post := ⟨i, j, rfl, rfl, .inl (.inr hc), p⟩
theorem eqp_s {neg : Bool} {x y : V} (hs : scal x y = true) (p : Post (.val (.bl (neg ^^ decide (x = y)))) Γ) : EqP neg (.val (.raw x)) (.val (.raw y)) Γ Post := .inl ⟨x, y, rfl, rfl, hs, p⟩
theorem dec_i {i j : Int} : decide (V.int i = V.int j) = decide (i = j) := by
  by_cases h : i = j
  · subst h; simp
  · have : ¬ V.int i = V.int j := fun z => h (V.int.inj z)
    rw [decide_eq_false this, decide_eq_false h]
/-- == of ints -/
theorem eqp_i {i j : Int} (p : Post (.val (.bl (decide (i = j)))) Γ) : EqP false (.val (.int i)) (.val (.int j)) Γ Post := eqp_s rfl (by rw [dec_i, Bool.false_xor]; exact p)
theorem nep_i {i j : Int} (p : Post (.val (.bl (!decide (i = j)))) Γ) : EqP true (.val (.int i)) (.val (.int j)) Γ Post := eqp_s rfl (by rw [dec_i, Bool.true_xor]; exact p)
theorem eqp_d {neg : Bool} {ra rb : Re} {p q : PyData} (h1 : ra.py Γ = some p) (h2 : rb.py Γ = some q) (s1 : SeqAt.shaped p = true) (s2 : SeqAt.shaped q = true) (k : Post (.val (.bl (neg ^^ PyData.eqv p q))) Γ) : EqP neg ra rb Γ Post := .inr ⟨p, q, h1, h2, s1, s2, k⟩
theorem intp_i {i : Int} (p : Post (.val (.int i)) Γ) : IntP (.val (.int i)) Γ Post := .inl ⟨i, rfl, p⟩
theorem intp_b {b : Bool} (p : Post (.val (.int (if b then 1 else 0))) Γ) : IntP (.val (.bl b)) Γ Post := .inr ⟨b, rfl, p⟩
theorem ltp_i {i j : Int} (p : Post (.val (.bl (decide (i < j)))) Γ) : LtP (.val (.int i)) (.val (.int j)) Γ Post := .inl ⟨i, j, rfl, rfl, p⟩
theorem ixp {ra : Re} {ds : List Dt} {k : Int} {d : Dt} (h1 : seqOf Γ ra = some ds) (h2 : atI ds k = some d) (p : Post (.val d) Γ) : IxP ra (.val (.int k)) Γ Post := .inl ⟨ds, k, d, h1, rfl, h2, p⟩
theorem ixp_s {z : Str} {k : Int} {c : Nat} (hz : z.length ≤ 1000000) (h2 : atI z.cps.toList k = some c) (p : Post (.val (.str ⟨#[c]⟩)) Γ) : IxP (.val (.str z)) (.val (.int k)) Γ Post := .inr ⟨z, k, c, rfl, rfl, hz, h2, p⟩
theorem lenp {r : Re} {ds : List Dt} (h : seqOf Γ r = some ds) (p : Post (.val (.int ds.length)) Γ) : LenP r Γ Post := .inl ⟨ds, h, p⟩
theorem lenp_s {z : Str} (hz : z.length ≤ 1000000) (p : Post (.val (.int z.length)) Γ) : LenP (.val (.str z)) Γ Post := .inr ⟨z, rfl, hz, p⟩
theorem slp_t {ds : List Dt} {lo hi : Option Int} (p : Post (.val (.tup (cutD ds lo hi))) Γ) : SlP (.val (.tup ds)) lo hi Γ Post := .inr (.inl ⟨ds, rfl, p⟩)
theorem slp_s {z : Str} {lo hi : Option Int} (hz : z.length ≤ 1000000) (p : Post (.val (.str (cutS z lo hi))) Γ) : SlP (.val (.str z)) lo hi Γ Post := .inr (.inr ⟨z, rfl, hz, p⟩)
theorem slp_l {ra : Re} {ds : List Dt} {lo hi : Option Int} (h : lstOf Γ ra = some ds) (p : Post (.new (cutD ds lo hi)) Γ) : SlP ra lo hi Γ Post := .inl ⟨ds, h, p⟩
theorem atI_of {α : Type} {xs : List α} {k : Int} {j : Nat} {x : α} (e : k = (j : Int)) (h : xs[j]? = some x) : atI xs k = some x := by
  subst e
  have hj : j < xs.length := (List.getElem?_eq_some_iff.mp h).1
  unfold atI ixN
  rw [if_pos (by omega), if_pos (by omega)]
  simpa using h
end
section
variable {K : PySem.W.Frag} {Γ : List Sl} {Post : Re → List Sl → Prop} {te : TE}
def IsiP (c : String) (r : Re) (Γ : List Sl) (Post : Re → List Sl → Prop) : Prop := (∀ i, r = .own i → ∃ ds, Γ[i]? = some (.acc ds)) ∧ ∃ T b, tyOf r = some T ∧ kitB T c = some b ∧ Post (.val (.bl b)) Γ
theorem we_isiG {c : String} (h : WE K te Γ fun r Γ1 => IsiP c r Γ1 Post) : WE K (tCB (rIsi K) (tCons te (tCons (tC (.ty c)) tNil))) Γ Post := we_isi h
/-- isinstance of a borrowed list -/
theorem isi_own {i : Nat} {ds : List Dt} {c : String} {b : Bool} (h : Γ[i]? = some (.acc ds)) (hk : kitB "list" c = some b) (p : Post (.val (.bl b)) Γ) : IsiP c (.own i) Γ Post :=
  ⟨fun j e => by cases e; exact ⟨ds, h⟩, "list", b, rfl, hk, p⟩
theorem isi_val {d : Dt} {T c : String} {b : Bool} (ht : tyOf (.val d) = some T) (hk : kitB T c = some b) (p : Post (.val (.bl b)) Γ) : IsiP c (.val d) Γ Post :=
  ⟨(fun j e => nomatch e), T, b, ht, hk, p⟩
theorem isi_new {ds : List Dt} {c : String} {b : Bool} (hk : kitB "list" c = some b) (p : Post (.val (.bl b)) Γ) : IsiP c (.new ds) Γ Post :=
  ⟨(fun j e => nomatch e), "list", b, rfl, hk, p⟩
theorem kb_tt : kitB "tuple" "tuple" = some true := by decide +kernel
theorem kb_ll : kitB "list" "list" = some true := by decide +kernel
theorem kb_ii : kitB "int" "int" = some true := by decide +kernel
theorem kb_ib : kitB "int" "bool" = some false := by decide +kernel
theorem kb_bb : kitB "bool" "bool" = some true := by decide +kernel
theorem kb_bi : kitB "bool" "int" = some true := by decide +kernel
theorem kb_ss : kitB "str" "str" = some true := by decide +kernel
theorem kb_sb : kitB "str" "bool" = some false := by decide +kernel
theorem kb_si : kitB "str" "int" = some false := by decide +kernel
theorem kb_tb : kitB "tuple" "bool" = some false := by decide +kernel
theorem kb_ti : kitB "tuple" "int" = some false := by decide +kernel
theorem kb_ts : kitB "tuple" "str" = some false := by decide +kernel
theorem kb_tl : kitB "tuple" "list" = some false := by decide +kernel
theorem kb_lb : kitB "list" "bool" = some false := by decide +kernel
theorem kb_li : kitB "list" "int" = some false := by decide +kernel
theorem kb_ls : kitB "list" "str" = some false := by decide +kernel
theorem kb_lt : kitB "list" "tuple" = some false := by decide +kernel
theorem kb_is : kitB "int" "str" = some false := by decide +kernel
theorem kb_it : kitB "int" "tuple" = some false := by decide +kernel
theorem kb_il : kitB "int" "list" = some false := by decide +kernel
theorem kb_st : kitB "str" "tuple" = some false := by decide +kernel
theorem kb_sl : kitB "str" "list" = some false := by decide +kernel
theorem kb_nb : kitB "NoneType" "bool" = some false := by decide +kernel
theorem kb_ni : kitB "NoneType" "int" = some false := by decide +kernel
theorem kb_ns : kitB "NoneType" "str" = some false := by decide +kernel
theorem kb_nt : kitB "NoneType" "tuple" = some false := by decide +kernel
theorem kb_nl : kitB "NoneType" "list" = some false := by decide +kernel
theorem kb_bs : kitB "bool" "str" = some false := by decide +kernel
theorem kb_bt : kitB "bool" "tuple" = some false := by decide +kernel
theorem kb_bl : kitB "bool" "list" = some false := by decide +kernel
end
/-- a goal of one's own, at which the walk stops -/
inductive Hold (p : Prop) : Prop where
  | a (h : p)
  | b (h : p) (_ : True)
theorem Hold.get {p : Prop} (h : Hold p) : p := by
  cases h with
  | a h => exact h
  | b h _ => exact h
/-- a block behind what its first part comes to -/
theorem ws_cut {K : PySem.W.Frag} {pin : List Nat} {Γ : List Sl} {P : Ps} {t u : TS} (M : List Sl → Prop) (h : WS K pin t Γ { P with nx := fun G => Hold (M G) }) (k : ∀ G, M G → WS K pin u G P) : WS K pin (tSeq t u) Γ P := ws_seq (ws_mono h (fun G hG => k G hG.get) (fun _ _ h => h) (fun _ h => h) (fun _ h => h))
section
variable {K : PySem.W.Frag} {pin : List Nat} {Γ : List Sl} {P : Ps} {te tl : TE} {tt : TT} {tb : TS} {g : TG} {j : Nat} {Post : Re → List Sl → Prop}
theorem for_range1 {t1 : TA} (n : Int) (Inv : Nat → List Sl → Prop) (h : WD K t1 Γ fun ds Γ1 => Hold (ds = [.int n] ∧ -(2 ^ 62) ≤ n ∧ n < 2 ^ 62 ∧ Inv 0 Γ1))
    (turn : ∀ (i : Nat) G, (i : Int) < n → Inv i G → WG K pin g (.int i) G fun G2 => WS K pin tb G2 ⟨fun G => Hold (Inv (i + 1) G), P.rt, P.nx, fun G => Hold (Inv (i + 1) G)⟩) (done : ∀ G, Inv n.toNat G → P.nx G) : WS K pin (tFor (iRng1 t1) g tb) Γ P :=
  ws_for1 fun σ B H E Q q => h σ B H E Q fun vs B' H' ds Γ' g k p => q vs B' H' ds Γ' g k (by
    obtain ⟨e, h1, h2, h3⟩ := p.get
    exact ⟨n, e, h1, h2, fun i G => Hold (Inv i G), .a h3, fun i G hi hG => turn i G hi hG.get, fun G hG => done G hG.get⟩)
theorem for_range2 {t1 : TA} (lo m : Int) (Inv : Nat → List Sl → Prop) (h : WD K t1 Γ fun ds Γ1 => Hold (ds = [.int lo, .int m] ∧ (-(2 ^ 62) ≤ lo ∧ lo < 2 ^ 62 ∧ -(2 ^ 62) ≤ m ∧ m < 2 ^ 62) ∧ Inv 0 Γ1))
    (turn : ∀ (i : Nat) G, lo + (i : Int) < m → Inv i G → WG K pin g (.int (lo + i)) G fun G2 => WS K pin tb G2 ⟨fun G => Hold (Inv (i + 1) G), P.rt, P.nx, fun G => Hold (Inv (i + 1) G)⟩) (done : ∀ G, Inv (m - lo).toNat G → P.nx G) : WS K pin (tFor (iRng2 t1) g tb) Γ P :=
  ws_for2 fun σ B H E Q q => h σ B H E Q fun vs B' H' ds Γ' g k p => q vs B' H' ds Γ' g k (by
    obtain ⟨e, h1, h3⟩ := p.get
    exact ⟨lo, m, e, h1, fun i G => Hold (Inv i G), .a h3, fun i G hi hG => turn i G hi hG.get, fun G hG => done G hG.get⟩)
theorem for_tuple (ds : List Dt) (Inv : Nat → List Sl → Prop) (h : WE K te Γ fun z Γ1 => Hold (z = .val (.tup ds) ∧ Inv 0 Γ1))
    (turn : ∀ (i : Nat) d G, ds[i]? = some d → Inv i G → WG K pin g d G fun G2 => WS K pin tb G2 ⟨fun G => Hold (Inv (i + 1) G), P.rt, P.nx, fun G => Hold (Inv (i + 1) G)⟩) (done : ∀ G, Inv ds.length G → P.nx G) : WS K pin (tFor (iTup K te) g tb) Γ P :=
  ws_forT (we_mono h fun z Γ1 p => by
    obtain ⟨e, h3⟩ := p.get
    exact ⟨ds, e, fun i G => Hold (Inv i G), .a h3, fun i d G hd hG => turn i d G hd hG.get, fun G hG => done G hG.get⟩)
theorem for_lst (ds : List Dt) (Inv : Nat → List Sl → Prop) (h : WE K te Γ fun z Γ1 => Hold (z.dt? = some (.lst ds) ∧ Inv 0 Γ1))
    (turn : ∀ (i : Nat) d G, ds[i]? = some d → Inv i G → WG K pin g d G fun G2 => WS K pin tb G2 ⟨fun G => Hold (Inv (i + 1) G), P.rt, P.nx, fun G => Hold (Inv (i + 1) G)⟩) (done : ∀ G, Inv ds.length G → P.nx G) : WS K pin (tFor (iList K te) g tb) Γ P :=
  ws_forL (we_mono h fun z Γ1 p => by
    obtain ⟨e, h3⟩ := p.get
    exact ⟨_, ds, e, rfl, fun i G => Hold (Inv i G), .a h3, fun i d G hd hG => turn i d G hd hG.get, fun G hG => done G hG.get⟩)
theorem for_acc {k : Nat} (ds : List Dt) (Inv : Nat → List Sl → Prop) (h0 : Γ[k]? = some (.acc ds)) (i0 : Inv 0 Γ) (hk : ∀ i G, Inv i G → G[k]? = some (.acc ds))
    (turn : ∀ (i : Nat) d G, ds[i]? = some d → Inv i G → WG K (k :: pin) g d G fun G2 => WS K (k :: pin) tb G2 ⟨fun G => Hold (Inv (i + 1) G), P.rt, P.nx, fun G => Hold (Inv (i + 1) G)⟩) (done : ∀ G, Inv ds.length G → P.nx G) : WS K pin (tFor (iList K (tVar k)) g tb) Γ P :=
  ws_forA h0 (fun i G => Hold (Inv i G)) (.a i0) (fun i G hG => hk i G hG.get) (fun i d G hd hG => turn i d G hd hG.get) fun G hG => done G hG.get
theorem while_ab (Inv : Nat → List Sl → Prop) (m0 : Nat) (i0 : Inv m0 Γ)
    (turn : ∀ m G, Inv m G → WT K tt G fun z G1 => (z = true → WS K pin tb G1 ⟨fun G => Hold (∃ m', m' < m ∧ Inv m' G), P.rt, P.nx, fun G => Hold (∃ m', m' < m ∧ Inv m' G)⟩) ∧ (z = false → P.nx G1)) : WS K pin (tWhile tt tb) Γ P :=
  ws_while Inv m0 i0 fun m G hG => wt_mono (turn m G hG) fun b G1 ⟨h1, h2⟩ => ⟨fun e => ws_mono (h1 e) (fun G h => h.get) (fun _ _ h => h) (fun _ h => h) (fun G h => h.get), h2⟩
/-- comprehensions, by what is made so far -/
theorem lc_range1 {t1 : TA} (n : Nat) (Inv : Nat → List Dt → List Sl → Prop) (h : WD K t1 Γ fun ds Γ1 => Hold (ds = [.int n] ∧ n ≤ 1000000 ∧ decide (j < Γ1.length) = true ∧ notAcc Γ1[j]? = true ∧ keepV Γ1[j]? = keepV Γ[j]? ∧ Inv 0 [] Γ1))
    (turn : ∀ i es G, i < n → Inv i es G → WT K tt (G.set j (.val (.int i))) fun b G2 => (b = true → WE K te G2 fun r G3 => ∃ d, r.dt? = some d ∧ Hold (Inv (i + 1) (es ++ [d]) (G3.set j (keepV Γ[j]?)))) ∧ (b = false → Hold (Inv (i + 1) es (G2.set j (keepV Γ[j]?)))))
    (done : ∀ es G, Inv n es G → Post (.new es) G) : WE K (tLc (iRng1 t1) (gName j) tt te [j]) Γ Post :=
  we_lc1 fun σ B H E Q q => h σ B H E Q fun vs B' H' ds Γ1 g k p => q vs B' H' ds Γ1 g k (by
    obtain ⟨e, h1, h2, h3, h4, h5⟩ := p.get
    refine ⟨n, e, h1, h2, h3, fun i es G => Hold (Inv i es G), .a h5, fun i es G hi hG => ?_, fun es G hG => done es G hG.get⟩
    rw [h4]
    exact turn i es G hi hG.get)
theorem lc_range2 {t1 : TA} (lo hi : Int) (Inv : Nat → List Dt → List Sl → Prop) (h : WD K t1 Γ fun ds Γ1 => Hold (ds = [.int lo, .int hi] ∧ (-(2 ^ 62) ≤ lo ∧ lo < 2 ^ 62 ∧ -(2 ^ 62) ≤ hi ∧ hi < 2 ^ 62) ∧ (hi - lo).toNat ≤ 1000000 ∧ decide (j < Γ1.length) = true ∧ notAcc Γ1[j]? = true ∧ keepV Γ1[j]? = keepV Γ[j]? ∧ Inv 0 [] Γ1))
    (turn : ∀ (i : Nat) es G, lo + i < hi → Inv i es G → WT K tt (G.set j (.val (.int (lo + i)))) fun b G2 => (b = true → WE K te G2 fun r G3 => ∃ d, r.dt? = some d ∧ Hold (Inv (i + 1) (es ++ [d]) (G3.set j (keepV Γ[j]?)))) ∧ (b = false → Hold (Inv (i + 1) es (G2.set j (keepV Γ[j]?)))))
    (done : ∀ es G, Inv (hi - lo).toNat es G → Post (.new es) G) : WE K (tLc (iRng2 t1) (gName j) tt te [j]) Γ Post :=
  we_lc2 fun σ B H E Q q => h σ B H E Q fun vs B' H' ds Γ1 g k p => q vs B' H' ds Γ1 g k (by
    obtain ⟨e, h0, h1, h2, h3, h4, h5⟩ := p.get
    refine ⟨lo, hi, e, h0, h1, h2, h3, fun i es G => Hold (Inv i es G), .a h5, fun i es G hi hG => ?_, fun es G hG => done es G hG.get⟩
    rw [h4]
    exact turn i es G hi hG.get)
theorem lc_tuple (ds : List Dt) (Inv : Nat → List Dt → List Sl → Prop) (h : WE K tl Γ fun z Γ1 => Hold (z = .val (.tup ds) ∧ ds.length ≤ 1000000 ∧ decide (j < Γ1.length) = true ∧ notAcc Γ1[j]? = true ∧ keepV Γ1[j]? = keepV Γ[j]? ∧ Inv 0 [] Γ1))
    (turn : ∀ (i : Nat) d es G, ds[i]? = some d → Inv i es G → WT K tt (G.set j (.val d)) fun b G2 => (b = true → WE K te G2 fun r G3 => ∃ d, r.dt? = some d ∧ Hold (Inv (i + 1) (es ++ [d]) (G3.set j (keepV Γ[j]?)))) ∧ (b = false → Hold (Inv (i + 1) es (G2.set j (keepV Γ[j]?)))))
    (done : ∀ es G, Inv ds.length es G → Post (.new es) G) : WE K (tLc (iTup K tl) (gName j) tt te [j]) Γ Post :=
  we_lcT (we_mono h fun z Γ1 p => by
    obtain ⟨e, h1, h2, h3, h4, h5⟩ := p.get
    refine ⟨ds, e, h1, h2, h3, fun i es G => Hold (Inv i es G), .a h5, fun i d es G hi hG => ?_, fun es G hG => done es G hG.get⟩
    rw [h4]
    exact turn i d es G hi hG.get)
theorem lc_lst (ds : List Dt) (Inv : Nat → List Dt → List Sl → Prop) (h : WE K tl Γ fun z Γ1 => Hold (z.dt? = some (.lst ds) ∧ ds.length ≤ 1000000 ∧ decide (j < Γ1.length) = true ∧ notAcc Γ1[j]? = true ∧ keepV Γ1[j]? = keepV Γ[j]? ∧ Inv 0 [] Γ1))
    (turn : ∀ (i : Nat) d es G, ds[i]? = some d → Inv i es G → WT K tt (G.set j (.val d)) fun b G2 => (b = true → WE K te G2 fun r G3 => ∃ d, r.dt? = some d ∧ Hold (Inv (i + 1) (es ++ [d]) (G3.set j (keepV Γ[j]?)))) ∧ (b = false → Hold (Inv (i + 1) es (G2.set j (keepV Γ[j]?)))))
    (done : ∀ es G, Inv ds.length es G → Post (.new es) G) : WE K (tLc (iList K tl) (gName j) tt te [j]) Γ Post :=
  we_lcL (we_mono h fun z Γ1 p => by
    obtain ⟨e, h1, h2, h3, h4, h5⟩ := p.get
    refine ⟨_, ds, e, rfl, h1, h2, h3, fun i es G => Hold (Inv i es G), .a h5, fun i d es G hi hG => ?_, fun es G hG => done es G hG.get⟩
    rw [h4]
    exact turn i d es G hi hG.get)
theorem lc_acc {k : Nat} (ds : List Dt) (Inv : Nat → List Dt → List Sl → Prop) (h0 : Γ[k]? = some (.acc ds)) (hn : ds.length ≤ 1000000) (hj : decide (j < Γ.length) = true) (hja : notAcc Γ[j]? = true) (i0 : Inv 0 [] Γ) (hk : ∀ i es G, Inv i es G → G[k]? = some (.acc ds))
    (turn : ∀ (i : Nat) d es G, ds[i]? = some d → Inv i es G → WT K tt (G.set j (.val d)) fun b G2 => (b = true → WE K te G2 fun r G3 => ∃ d, r.dt? = some d ∧ Hold (Inv (i + 1) (es ++ [d]) (G3.set j (keepV Γ[j]?)))) ∧ (b = false → Hold (Inv (i + 1) es (G2.set j (keepV Γ[j]?)))))
    (done : ∀ es G, Inv ds.length es G → Post (.new es) G) : WE K (tLc (iList K (tVar k)) (gName j) tt te [j]) Γ Post :=
  we_lcA h0 hn hj hja (fun i es G => Hold (Inv i es G)) (.a i0) (fun i es G hG => hk i es G hG.get) (fun i d es G hi hG => turn i d es G hi hG.get) fun es G hG => done es G hG.get
/-- .. where the source is told by its evaluation -/
theorem lc_lstH (h : WE K tl Γ fun z Γ1 => Hold (∃ ds, z.dt? = some (.lst ds) ∧ ds.length ≤ 1000000 ∧ decide (j < Γ1.length) = true ∧ notAcc Γ1[j]? = true ∧ ∃ Inv : Nat → List Dt → List Sl → Prop, Inv 0 [] Γ1 ∧
      (∀ (i : Nat) d es Γ', ds[i]? = some d → Inv i es Γ' → WT K tt (Γ'.set j (.val d)) fun b Γ2 => (b = true → WE K te Γ2 fun r Γ3 => ∃ d, r.dt? = some d ∧ Hold (Inv (i + 1) (es ++ [d]) (Γ3.set j (keepV Γ1[j]?)))) ∧ (b = false → Hold (Inv (i + 1) es (Γ2.set j (keepV Γ1[j]?))))) ∧
      ∀ es Γ', Inv ds.length es Γ' → Post (.new es) Γ')) : WE K (tLc (iList K tl) (gName j) tt te [j]) Γ Post :=
  we_lcL (we_mono h fun z Γ1 p => by
    obtain ⟨ds, e, h1, h2, h3, Inv, i0, turn, done⟩ := p.get
    exact ⟨_, ds, e, rfl, h1, h2, h3, fun i es G => Hold (Inv i es G), .a i0, fun i d es G hi hG => turn i d es G hi hG.get, fun es G hG => done es G hG.get⟩)
theorem for_lstH (h : WE K te Γ fun z Γ1 => Hold (∃ ds, z.dt? = some (.lst ds) ∧ ∃ Inv : Nat → List Sl → Prop, Inv 0 Γ1 ∧
      (∀ (i : Nat) d Γ', ds[i]? = some d → Inv i Γ' → WG K pin g d Γ' fun Γ2 => WS K pin tb Γ2 ⟨fun G => Hold (Inv (i + 1) G), P.rt, P.nx, fun G => Hold (Inv (i + 1) G)⟩) ∧ ∀ Γ', Inv ds.length Γ' → P.nx Γ')) : WS K pin (tFor (iList K te) g tb) Γ P :=
  ws_forL (we_mono h fun z Γ1 p => by
    obtain ⟨ds, e, Inv, i0, turn, done⟩ := p.get
    exact ⟨_, ds, e, rfl, fun i G => Hold (Inv i G), .a i0, fun i d G hi hG => turn i d G hi hG.get, fun G hG => done G hG.get⟩)
theorem for_range1H {t1 : TA} (h : WD K t1 Γ fun ds Γ1 => Hold (∃ n : Int, ds = [.int n] ∧ -(2 ^ 62) ≤ n ∧ n < 2 ^ 62 ∧ ∃ Inv : Nat → List Sl → Prop, Inv 0 Γ1 ∧
      (∀ (i : Nat) Γ', (i : Int) < n → Inv i Γ' → WG K pin g (.int i) Γ' fun Γ2 => WS K pin tb Γ2 ⟨fun G => Hold (Inv (i + 1) G), P.rt, P.nx, fun G => Hold (Inv (i + 1) G)⟩) ∧ ∀ Γ', Inv n.toNat Γ' → P.nx Γ')) : WS K pin (tFor (iRng1 t1) g tb) Γ P :=
  ws_for1 fun σ B H E Q q => h σ B H E Q fun vs B' H' ds Γ' g k p => q vs B' H' ds Γ' g k (by
    obtain ⟨n, e, h1, h2, Inv, i0, turn, done⟩ := p.get
    exact ⟨n, e, h1, h2, fun i G => Hold (Inv i G), .a i0, fun i G hi hG => turn i G hi hG.get, fun G hG => done G hG.get⟩)
theorem lc_range1H {t1 : TA} (h : WD K t1 Γ fun ds Γ1 => Hold (∃ n : Nat, ds = [.int n] ∧ n ≤ 1000000 ∧ decide (j < Γ1.length) = true ∧ notAcc Γ1[j]? = true ∧ ∃ Inv : Nat → List Dt → List Sl → Prop, Inv 0 [] Γ1 ∧
      (∀ i es Γ', i < n → Inv i es Γ' → WT K tt (Γ'.set j (.val (.int i))) fun b Γ2 => (b = true → WE K te Γ2 fun r Γ3 => ∃ d, r.dt? = some d ∧ Hold (Inv (i + 1) (es ++ [d]) (Γ3.set j (keepV Γ1[j]?)))) ∧ (b = false → Hold (Inv (i + 1) es (Γ2.set j (keepV Γ1[j]?))))) ∧
      ∀ es Γ', Inv n es Γ' → Post (.new es) Γ')) : WE K (tLc (iRng1 t1) (gName j) tt te [j]) Γ Post :=
  we_lc1 fun σ B H E Q q => h σ B H E Q fun vs B' H' ds Γ1 g k p => q vs B' H' ds Γ1 g k (by
    obtain ⟨n, e, h1, h2, h3, Inv, i0, turn, done⟩ := p.get
    exact ⟨n, e, h1, h2, h3, fun i es G => Hold (Inv i es G), .a i0, fun i es G hi hG => turn i es G hi hG.get, fun es G hG => done es G hG.get⟩)
theorem wt_yes {Q : Bool → List Sl → Prop} (p : Q true Γ) : WT K tYes Γ Q := fun σ B H E R q => q true B H Γ (.refl E) p
end
/-- an owned list is data from now on -/
theorem ws_frz {K : PySem.W.Frag} {pin : List Nat} {Γ : List Sl} {P : Ps} {t : TS} (i : Nat) {ds : List Dt} (h : Γ[i]? = some (.acc ds)) (k : WS K pin t (Γ.set i (.val (.lst ds))) P) : WS K pin t Γ P := fun σ B H D E n r b c => by
  obtain ⟨B', g⟩ := go_frz h E
  exact ws_from k g.s n r b c
/-- sum of a list of ints -/
theorem we_sum {K : PySem.W.Frag} {Γ : List Sl} {Post : Re → List Sl → Prop} {te : TE} (h : WE K te Γ fun r Γ1 => Hold (∃ ns : List Int, lstOf Γ1 r = some (ns.map Dt.int) ∧ Post (.val (.int ns.sum)) Γ1)) : WE K (tCB (rSum K) (tCons te tNil)) Γ Post :=
  we_cb1 (we_mono h fun r Γ1 hp => fun σ B H x E kx Q q => by
    obtain ⟨ns, hs, p⟩ := hp.get
    obtain ⟨a, vs, rfl, hq, ha⟩ := rv_lst E kx hs
    have e : vs = ns.map V.int := IsA.rawsI (xs := ns.map V.int) (by rw [List.map_map]; exact ha)
    subst e
    exact ⟨a, ns, rfl, hq, q _ B H _ Γ1 (.refl E) (.raw _) p⟩)
/-! environments written out -/
def NormP (Γ : List Sl) (Q : List Sl → Prop) : Prop := Q Γ
theorem norm_intro {Γ Γ' : List Sl} {Q : List Sl → Prop} (e : Γ = Γ') (h : Q Γ') : NormP Γ Q := by
  subst e
  exact h
theorem norm_cons {a a' : Sl} {Γ Γt Γt' : List Sl} (e : Γ = a :: Γt) (ea : a = a') (et : Γt = Γt') : Γ = a' :: Γt' := by
  subst ea et
  exact e
theorem norm_v {d : Dt} : slOf (.val d) = .val d := rfl
theorem norm_n {ds : List Dt} : slOf (.new ds) = .acc ds := rfl
theorem norm_o {i : Nat} : slOf (.own i) = .un := rfl
theorem ws_asgN {K : PySem.W.Frag} {pin : List Nat} {Γ : List Sl} {P : Ps} {te : TE} {i : Nat} (hp : pin.contains i = false) (hi : decide (i < Γ.length) = true) (h : WE K te Γ fun z Γ1 => NormP (Γ1.set i (slOf z)) P.nx) : WS K pin (tAsg te (gName i)) Γ P := ws_asg hp hi h
theorem wg_nameN {K : PySem.W.Frag} {pin : List Nat} {Γ : List Sl} {i : Nat} {d : Dt} {Q : List Sl → Prop} (hp : pin.contains i = false) (hi : decide (i < Γ.length) = true) (p : NormP (Γ.set i (.val d)) Q) : WG K pin (gName i) d Γ Q := wg_name hp hi p
theorem we_appendN {K : PySem.W.Frag} {Γ : List Sl} {te : TE} {i : Nat} {ds0 : List Dt} {Post : Re → List Sl → Prop} (h0 : Γ[i]? = some (.acc ds0)) (h : WE K te Γ fun z Γ1 => ∃ d ds, z.dt? = some d ∧ Γ1[i]? = some (.acc ds) ∧ ds.length < 1000000 ∧ NormP (Γ1.set i (.acc (ds ++ [d]))) (Post (.val .non))) :
    WE K (tBM K "list" rAppend (tVar i) (tCons te tNil)) Γ Post := we_append h0 h
theorem ws_setN {K : PySem.W.Frag} {pin : List Nat} {Γ : List Sl} {P : Ps} {te tj : TE} {i : Nat} (h : WE K te Γ fun z Γ1 => ∃ d, z = .val d ∧ (∃ ds1, Γ1[i]? = some (.acc ds1)) ∧ WE K tj Γ1 fun y Γ2 => ∃ ds k j, y = .val (.int k) ∧ Γ2[i]? = some (.acc ds) ∧ ixN ds.length k = some j ∧ NormP (Γ2.set i (.acc (ds.set j d))) P.nx) :
    WS K pin (tAsg te (gSub (tVar i) tj rSetL)) Γ P := ws_setA h
theorem we_reverseN {K : PySem.W.Frag} {Γ : List Sl} {i : Nat} {ds : List Dt} {Post : Re → List Sl → Prop} (h0 : Γ[i]? = some (.acc ds)) (p : NormP (Γ.set i (.acc ds.reverse)) (Post (.val .non))) : WE K (tBM0 K "list" rReverse (tVar i)) Γ Post := we_reverse h0 p
theorem ws_augN {K : PySem.W.Frag} {pin : List Nat} {Γ : List Sl} {P : Ps} {te : TE} {i : Nat} {f : Int → Int → Int} {a : Int} (hx : Γ[i]? = some (.val (.int a))) (hp : pin.contains i = false) (h : WE K te Γ fun z Γ1 => ∃ b, z = .val (.int b) ∧ NormP (Γ1.set i (.val (.int (f a b)))) P.nx) : WS K pin (tAug i te (ipI f)) Γ P := ws_aug hx hp h
theorem we_popAtN {K : PySem.W.Frag} {Γ : List Sl} {te : TE} {i : Nat} {ds0 : List Dt} {Post : Re → List Sl → Prop} (h0 : Γ[i]? = some (.acc ds0)) (h : WE K te Γ fun z Γ1 => ∃ ds k j d, z = .val (.int k) ∧ Γ1[i]? = some (.acc ds) ∧ -(2 ^ 63) ≤ k ∧ k < 2 ^ 63 ∧ seqIndex? k ds.length = some j ∧ ds[j]? = some d ∧ NormP (Γ1.set i (.acc (ds.eraseIdx j))) (Post (.val d))) :
    WE K (tBM K "list" rPopAt (tVar i) (tCons te tNil)) Γ Post := we_popAt h0 h
theorem we_callH {K : PySem.W.Frag} {Γ : List Sl} {Post : Re → List Sl → Prop} {ap : AP} {E0 : XK} {ta : TA} (h : WA K ta Γ fun rs Γ1 => nodupB (ownsOf rs) = true ∧ Hold (ap (rs.map (argSl Γ1)) fun r as' => NormP (putBack rs as' Γ1) (Post r))) : WE K (tCall (toSp K ap) [] E0 ta) Γ Post :=
  we_call fun σ B H E Q q => h σ B H E Q fun vs B' H' rs Γ1 g k p => q vs B' H' rs Γ1 g k ⟨p.1, p.2.get⟩
theorem nd_t {c : Prop} [Decidable c] (h : (!decide c) = true) : ¬ c := by
  intro hc
  rw [decide_eq_true hc] at h
  cases h
theorem nd_f {c : Prop} [Decidable c] (h : (!decide c) = false) : c := by
  by_cases hc : c
  · exact hc
  · rw [decide_eq_false hc] at h; cases h
theorem len_map {α β : Type} (f : α → β) (xs : List α) : ((xs.map f).length : Int) = (xs.length : Int) := by rw [List.length_map]
theorem at_map {α β : Type} {f : α → β} {xs : List α} {k : Int} (h0 : 0 ≤ k) (h1 : k < xs.length) (d : α) : atI (xs.map f) k = some (f (xs.getD k.toNat d)) := by
  refine atI_of (j := k.toNat) (by omega) ?_
  rw [List.getElem?_map, List.getD_eq_getElem?_getD, List.getElem?_eq_getElem (by omega)]
  rfl
/-! ### == of plain data: ints, texts, None, tuples and lists of them; no bools -/
mutual
def plain : Dt → Bool
  | .raw .non => true
  | .raw (.int _) => true
  | .raw (.str s) => PyData.canLay0 (.str s)
  | .raw _ => false
  | .tup ds => plainAll ds
  | .lst ds => plainAll ds
  | .obj _ _ => false
  | .scr _ => false
def plainAll : List Dt → Bool
  | [] => true
  | d :: ds => plain d && plainAll ds
end
theorem eqv_pair {a b c d : Int} : PyData.eqv (.tuple [.int a, .int b]) (.tuple [.int c, .int d]) = decide (a = c ∧ b = d) := by
  simp only [PyData.eqv, PyData.eqvAll, Bool.and_true]
  rw [Bool.eq_iff_iff]
  simp
theorem shaped_pair {a b : Int} : SeqAt.shaped (.tuple [.int a, .int b]) = true := by
  simp [SeqAt.shaped, PyData.canLay0, PyData.canLayAll0, PyData.depth, PyData.depthAll]
theorem py_pair {Γ : List Sl} {a b : Int} : Re.py Γ (.val (.tup [.int a, .int b])) = some (.tuple [.int a, .int b]) := by
  simp [Re.py, Dt.py, pyAll]
theorem eqp_pair {Γ : List Sl} {Post : Re → List Sl → Prop} {neg : Bool} {a b c d : Int} (k : Post (.val (.bl (neg ^^ decide (a = c ∧ b = d)))) Γ) : EqP neg (.val (.tup [.int a, .int b])) (.val (.tup [.int c, .int d])) Γ Post :=
  eqp_d py_pair py_pair shaped_pair shaped_pair (by rw [eqv_pair]; exact k)
end Ab
namespace Ab
open PySem L2
local macro_rules | `(tactic| walk_at "no") => `(tactic| first
  | exact fun h => Bool.noConfusion (show true = false from h)
  | exact fun h => Bool.noConfusion (show false = true from h)
  | exact fun h => absurd (of_decide_eq_true h) (by omega)
  | exact fun h => absurd (by omega) (of_decide_eq_false h)
  | exact fun h => absurd (by omega) (nd_t h)
  | exact fun h => absurd (nd_f h) (by omega)
  | fail "no")
local macro_rules | `(tactic| walk_at "kb") => `(tactic| first | exact kb_tt | exact kb_ll | exact kb_ii | exact kb_ib | exact kb_ss | exact kb_sb | exact kb_si | exact kb_tb | exact kb_ti | exact kb_ts | exact kb_tl | exact kb_lb | exact kb_li | exact kb_ls | exact kb_lt | exact kb_is | exact kb_it | exact kb_il | exact kb_st | exact kb_sl | exact kb_bb | exact kb_bi | exact kb_nb | exact kb_ni | exact kb_ns | exact kb_nt | exact kb_nl | exact kb_bs | exact kb_bt | exact kb_bl | fail "kb")
local macro_rules | `(tactic| walk_at "norm") => `(tactic| first
  | exact (rfl : _ = ([] : List Sl))
  | ((refine' norm_cons (rfl : _ = _ :: _) ?ea ?et); (case ea => first | exact norm_v | exact norm_n | exact norm_o | exact rfl | fail "norm"); (case et => walk_at "norm"))
  | fail "norm")
local macro_rules | `(tactic| walk_at "e") => `(tactic| first
  | ((with_reducible refine' norm_intro ?hn ?_); (case hn => walk_at "norm"))
  | ((with_reducible refine' we_var ?hh ?_); (case hh => exact rfl))
  | ((with_reducible refine' we_own ?hh ?_); (case hh => exact rfl))
  | with_reducible refine we_c ?_
  | with_reducible refine we_addG ?_
  | with_reducible refine addp_i ?_
  | with_reducible refine we_opI0 ?_
  | with_reducible refine we_opI ?_
  | with_reducible refine we_mulG ?_
  | ((with_reducible refine' mulp_r ?h1 ?_); (case h1 => first | decide | omega | fail "m"))
  | ((with_reducible refine' mulp_l ?h1 ?_); (case h1 => first | decide | omega | fail "m"))
  | with_reducible refine we_neg ?_
  | with_reducible refine we_ltG ?_
  | with_reducible refine ltp_i ?_
  | with_reducible refine we_eqG ?_
  | with_reducible refine we_neG ?_
  | with_reducible refine eqp_i ?_
  | with_reducible refine nep_i ?_
  | with_reducible refine we_ixG ?_
  | ((with_reducible refine' ixp ?h1 ?h2 ?_); (case h1 => exact rfl); (case h2 => exact rfl))
  | with_reducible refine we_lenG ?_
  | ((with_reducible refine' lenp ?hh ?_); (case hh => exact rfl))
  | with_reducible refine we_intG ?_
  | with_reducible refine intp_i ?_
  | with_reducible refine intp_b ?_
  | with_reducible refine we_abs ?_
  | with_reducible refine we_tup ?_
  | with_reducible refine we_lst ?_
  | with_reducible refine we_tuple ?_
  | with_reducible refine we_list ?_
  | with_reducible refine we_sum ?_
  | with_reducible refine we_max2 ?_
  | with_reducible refine we_min2 ?_
  | with_reducible refine wd_cons ?_
  | with_reducible refine wd_nil ?_
  | with_reducible refine wa_cons ?_
  | with_reducible refine wa_nil ?_
  | with_reducible refine we_callH ?_
  | with_reducible refine we_isiG ?_
  | ((with_reducible refine' isi_own ?h1 ?h2 ?_); (case h1 => exact rfl); (case h2 => walk_at "kb"))
  | ((with_reducible refine' isi_val ?h1 ?h2 ?_); (case h1 => exact rfl); (case h2 => walk_at "kb"))
  | ((with_reducible refine' isi_new ?h2 ?_); (case h2 => walk_at "kb"))
  | with_reducible refine we_chainI ?_
  | with_reducible refine we_andV ?_
  | with_reducible refine we_orV ?_
  | with_reducible refine we_notV ?_
  | with_reducible refine wt_test ?_
  | with_reducible refine wt_B ?_
  | with_reducible refine wt_yes ?_
  | with_reducible refine wt_and ?_
  | with_reducible refine wt_or ?_
  | with_reducible refine wt_not ?_
  | with_reducible refine ws_seq ?_
  | ((with_reducible refine' ws_retA ?hh ?_); (case hh => exact rfl))
  | with_reducible refine ws_ret ?_
  | with_reducible refine ws_if ?_
  | with_reducible refine ws_nil ?_
  | with_reducible refine ws_expr ?_
  | with_reducible refine ws_asgN rfl rfl ?_
  | with_reducible refine ws_setN ?_
  | with_reducible refine ws_asgG ?_
  | ((with_reducible refine' wg_tup ?hh ?_); (case hh => exact rfl))
  | with_reducible refine wgs_cons ?_
  | with_reducible refine wgs_nil ?_
  | with_reducible refine wg_nameN rfl rfl ?_
  | ((with_reducible refine' we_appendN ?hh ?_); (case hh => exact rfl))
  | ((with_reducible refine' we_reverseN ?hh ?_); (case hh => exact rfl))
  | ((with_reducible refine' ws_augN ?h1 ?h2 ?_); (case h1 => exact rfl); (case h2 => exact rfl))
  | (refine ⟨_, rfl, ⟨_, rfl⟩, ?_⟩)
  | (refine ⟨_, rfl, ?_⟩)
  | (refine ⟨_, _, _, rfl, rfl, rfl, ?_⟩)
  | (refine ⟨_, _, rfl, rfl, (Nat.le_of_ble_eq_true rfl : _ ≤ _), ?_⟩)
  | (refine ⟨_, _, rfl, rfl, ?_⟩)
  | (refine ⟨(Nat.le_of_ble_eq_true rfl : _ ≤ _), ?_⟩)
  | (refine ⟨(rfl : _ = true), ?_⟩)
  | ((refine' ⟨fun _ => ?_, fun hY => absurd hY ?k2⟩); (case k2 => walk_at "no"))
  | ((refine' ⟨fun hY => absurd hY ?k2, fun _ => ?_⟩); (case k2 => walk_at "no"))
  | (refine ⟨⟨(by omega), (by omega)⟩, ?_⟩)
  | (refine ⟨⟨(by decide), (by decide), (by decide)⟩, ?_⟩)
  | (refine ⟨(by first | decide | omega | fail "c"), ?_⟩)
  | fail "stop")
local macro_rules | `(tactic| walk_at "es") => `(tactic| repeat' walk_at "e")
/-! ### the laws' pools: five numbers (PoolIs) or four (Pool4) -/
def PoolIs (c : Int) (ds : List Dt) : Prop := ∃ cell flag seed : Int, ds = [.int cell, .int c, .int flag, .int seed, .int 3] ∧ 0 ≤ cell ∧ 0 ≤ seed ∧ seed < 2147483647
def Pool4 (c : Int) (ds : List Dt) : Prop := ∃ cell flag seed : Int, ds = [.int cell, .int c, .int flag, .int seed] ∧ 0 ≤ cell ∧ 0 ≤ seed ∧ seed < 2147483647
def ap_pool : AP := fun as Post => ∃ (ns : List Int) (k : Int), as = [.val (.scr ns), .val (.int k)] ∧ 0 ≤ k ∧ k < 1000000 ∧ ∀ ds, PoolIs 0 ds → Post (.new ds) as
def ap_pool4 : AP := fun as Post => ∃ (ns : List Int) (k : Int), as = [.val (.scr ns), .val (.int k)] ∧ 0 ≤ k ∧ k < 1000000 ∧ ∀ ds, Pool4 0 ds → Post (.new ds) as
def ap_take : AP := fun as Post => ∃ ds c n, as = [.acc ds, .val (.int n)] ∧ PoolIs c ds ∧ 0 ≤ c ∧ c < 1000000000 ∧ 0 < n ∧ n < 1073741824 ∧ ∀ ds' g, PoolIs (c + 1) ds' → 0 ≤ g → g < n → Post (.val (.int g)) [.acc ds', .val (.int n)]
def ap_take4 : AP := fun as Post => ∃ ds c n, as = [.acc ds, .val (.int n)] ∧ Pool4 c ds ∧ 0 ≤ c ∧ c < 1000000000 ∧ 0 < n ∧ n < 1073741824 ∧ ∀ ds' g, Pool4 (c + 1) ds' → 0 ≤ g → g < n → Post (.val (.int g)) [.acc ds', .val (.int n)]
theorem len_pool (as : List Sl) (Post : Re → List Sl → Prop) (h : ap_pool as Post) : as.length = 2 := by obtain ⟨ns, k, rfl, _⟩ := h; rfl
theorem len_pool4 (as : List Sl) (Post : Re → List Sl → Prop) (h : ap_pool4 as Post) : as.length = 2 := by obtain ⟨ns, k, rfl, _⟩ := h; rfl
theorem len_take (as : List Sl) (Post : Re → List Sl → Prop) (h : ap_take as Post) : as.length = 2 := by obtain ⟨ds, c, n, rfl, _⟩ := h; rfl
theorem len_take4 (as : List Sl) (Post : Re → List Sl → Prop) (h : ap_take4 as Post) : as.length = 2 := by obtain ⟨ds, c, n, rfl, _⟩ := h; rfl
def tPool (K : PySem.W.Frag) : TS :=
    (tSeq (tAsg (tC (.int 0)) (gName 2))
    (tSeq (tIfS (tTest (tOp (rLtG K) (tVar 1) (tCB (rLenV K) (tCons (tVar 0) tNil)))) (tAsg (tCB rAbs (tCons (tCB rInt1 (tCons (tOp (rIx K) (tVar 0) (tVar 1)) tNil)) tNil)) (gName 2)) tNext)
    (tRet (tLst (tCons (tVar 2) (tCons (tC (.int 0)) (tCons (tCB rInt1 (tCons (tOp rGeI (tVar 2) (tOp rPowI (tC (.int 10)) (tC (.int 18)))) tNil)) (tCons (tOp rModI (tCB rInt1 (tCons (tOp (rAddG K) (tVar 2) (tOp (rMulG K) (tVar 1) (tC (.int 7919)))) tNil)) (tC (.int 2147483647))) (tCons (tC (.int 3)) tNil)))))))))
def tPool4 (K : PySem.W.Frag) : TS :=
    (tSeq (tAsg (tC (.int 0)) (gName 2))
    (tSeq (tIfS (tTest (tOp (rLtG K) (tVar 1) (tCB (rLenV K) (tCons (tVar 0) tNil)))) (tAsg (tCB rAbs (tCons (tCB rInt1 (tCons (tOp (rIx K) (tVar 0) (tVar 1)) tNil)) tNil)) (gName 2)) tNext)
    (tRet (tLst (tCons (tVar 2) (tCons (tC (.int 0)) (tCons (tCB rInt1 (tCons (tOp rGeI (tVar 2) (tOp rPowI (tC (.int 10)) (tC (.int 18)))) tNil)) (tCons (tOp rModI (tCB rInt1 (tCons (tOp (rAddG K) (tVar 2) (tOp (rMulG K) (tVar 1) (tC (.int 7919)))) tNil)) (tC (.int 2147483647))) tNil))))))))
def tTakeA (K : PySem.W.Frag) : TS :=
    (tSeq (tAsg (tOp (rAddG K) (tOp (rIx K) (tVar 0) (tC (.int 1))) (tC (.int 1))) (gSub (tVar 0) (tC (.int 1)) rSetL))
    (tSeq (tIfS (tTest (tOp (rEqG K) (tOp (rIx K) (tVar 0) (tC (.int 2))) (tC (.int 1)))) (tSeq (tAsg (tOp rModI (tCB rInt1 (tCons (tOp (rIx K) (tVar 0) (tC (.int 0))) tNil)) (tVar 1)) (gName 2))
    (tSeq (tAsg (tOp rDivI (tOp (rIx K) (tVar 0) (tC (.int 0))) (tVar 1)) (gSub (tVar 0) (tC (.int 0)) rSetL))
    (tRet (tVar 2)))) tNext)
    (tSeq (tAsg (tOp rModI (tCB rInt1 (tCons (tOp (rAddG K) (tOp (rAddG K) (tOp (rMulG K) (tOp (rIx K) (tVar 0) (tC (.int 3))) (tC (.int 48271))) (tOp (rMulG K) (tOp (rIx K) (tVar 0) (tC (.int 1))) (tC (.int 69621)))) (tC (.int 11))) tNil)) (tC (.int 2147483647))) (gName 3))
    (tSeq (tAsg (tOp rModI (tCB rInt1 (tCons (tOp (rAddG K) (tOp (rAddG K) (tOp (rMulG K) (tVar 3) (tC (.int 16807))) (tOp rDivI (tVar 3) (tC (.int 65536)))) (tOp (rMulG K) (tOp (rMulG K) (tOp (rIx K) (tVar 0) (tC (.int 1))) (tOp (rIx K) (tVar 0) (tC (.int 1)))) (tC (.int 40692)))) tNil)) (tC (.int 2147483399))) (gName 4))
    (tRet (tOp rModI (tCB rInt1 (tCons (tOp rDivI (tVar 4) (tOp (rAddG K) (tOp (rIx K) (tVar 0) (tC (.int 1))) (tC (.int 6)))) tNil)) (tVar 1)))))))
def tTakeB (K : PySem.W.Frag) : TS :=
    (tSeq (tAsg (tOp (rAddG K) (tOp (rIx K) (tVar 0) (tC (.int 1))) (tC (.int 1))) (gSub (tVar 0) (tC (.int 1)) rSetL))
    (tSeq (tIfS (tAnd (tTest (tOp (rEqG K) (tOp (rIx K) (tVar 0) (tC (.int 2))) (tC (.int 1)))) (tTest (tOp rGtI (tOp (rIx K) (tVar 0) (tC (.int 0))) (tC (.int 0))))) (tSeq (tAsg (tOp rModI (tCB rInt1 (tCons (tOp (rIx K) (tVar 0) (tC (.int 0))) tNil)) (tVar 1)) (gName 2))
    (tSeq (tAsg (tOp rDivI (tOp (rIx K) (tVar 0) (tC (.int 0))) (tVar 1)) (gSub (tVar 0) (tC (.int 0)) rSetL))
    (tRet (tVar 2)))) tNext)
    (tSeq (tAsg (tOp rModI (tCB rInt1 (tCons (tOp (rAddG K) (tOp (rAddG K) (tOp (rMulG K) (tOp (rIx K) (tVar 0) (tC (.int 3))) (tC (.int 48271))) (tOp (rMulG K) (tOp (rIx K) (tVar 0) (tC (.int 1))) (tC (.int 69621)))) (tC (.int 11))) tNil)) (tC (.int 2147483647))) (gName 3))
    (tSeq (tAsg (tOp rModI (tCB rInt1 (tCons (tOp (rAddG K) (tOp (rAddG K) (tOp (rMulG K) (tVar 3) (tC (.int 16807))) (tOp rDivI (tVar 3) (tC (.int 65536)))) (tOp (rMulG K) (tOp (rMulG K) (tOp (rIx K) (tVar 0) (tC (.int 1))) (tOp (rIx K) (tVar 0) (tC (.int 1)))) (tC (.int 40692)))) tNil)) (tC (.int 2147483399))) (gName 4))
    (tRet (tOp rModI (tCB rInt1 (tCons (tOp rDivI (tVar 4) (tOp (rAddG K) (tOp (rIx K) (tVar 0) (tC (.int 1))) (tC (.int 6)))) tNil)) (tVar 1)))))))
def tTakeC (K : PySem.W.Frag) : TS :=
    (tSeq (tAsg (tOp (rAddG K) (tOp (rIx K) (tVar 0) (tC (.int 1))) (tC (.int 1))) (gSub (tVar 0) (tC (.int 1)) rSetL))
    (tSeq (tIfS (tTest (tOp (rEqG K) (tOp (rIx K) (tVar 0) (tC (.int 2))) (tC (.int 1)))) (tSeq (tAsg (tOp rModI (tCB rInt1 (tCons (tOp (rIx K) (tVar 0) (tC (.int 0))) tNil)) (tVar 1)) (gName 2))
    (tSeq (tAsg (tOp rDivI (tOp (rIx K) (tVar 0) (tC (.int 0))) (tVar 1)) (gSub (tVar 0) (tC (.int 0)) rSetL))
    (tRet (tVar 2)))) tNext)
    (tSeq (tAsg (tOp rModI (tCB rInt1 (tCons (tOp (rAddG K) (tOp (rAddG K) (tOp (rMulG K) (tOp (rIx K) (tVar 0) (tC (.int 3))) (tC (.int 48271))) (tOp (rMulG K) (tOp (rIx K) (tVar 0) (tC (.int 1))) (tC (.int 69621)))) (tC (.int 11))) tNil)) (tC (.int 2147483647))) (gName 3))
    (tSeq (tAsg (tOp rModI (tCB rInt1 (tCons (tOp (rAddG K) (tOp (rAddG K) (tOp (rMulG K) (tVar 3) (tC (.int 16807))) (tOp rDivI (tVar 3) (tC (.int 65536)))) (tOp (rMulG K) (tOp (rMulG K) (tOp (rIx K) (tVar 0) (tC (.int 1))) (tOp (rIx K) (tVar 0) (tC (.int 1)))) (tC (.int 40692)))) tNil)) (tC (.int 2147483399))) (gName 4))
    (tRet (tOp rModI (tCB rInt1 (tCons (tVar 4) tNil)) (tVar 1)))))))
def tTakeD (K : PySem.W.Frag) : TS :=
    (tSeq (tAsg (tOp (rAddG K) (tOp (rIx K) (tVar 0) (tC (.int 1))) (tC (.int 1))) (gSub (tVar 0) (tC (.int 1)) rSetL))
    (tSeq (tIfS (tAnd (tTest (tOp (rEqG K) (tOp (rIx K) (tVar 0) (tC (.int 2))) (tC (.int 1)))) (tTest (tOp rGtI (tOp (rIx K) (tVar 0) (tC (.int 0))) (tC (.int 0))))) (tSeq (tAsg (tOp rModI (tCB rInt1 (tCons (tOp (rIx K) (tVar 0) (tC (.int 0))) tNil)) (tVar 1)) (gName 2))
    (tSeq (tAsg (tOp rDivI (tOp (rIx K) (tVar 0) (tC (.int 0))) (tVar 1)) (gSub (tVar 0) (tC (.int 0)) rSetL))
    (tRet (tVar 2)))) tNext)
    (tSeq (tAsg (tOp rModI (tCB rInt1 (tCons (tOp (rAddG K) (tOp (rAddG K) (tOp (rMulG K) (tOp (rIx K) (tVar 0) (tC (.int 3))) (tC (.int 48271))) (tOp (rMulG K) (tOp (rIx K) (tVar 0) (tC (.int 1))) (tC (.int 69621)))) (tC (.int 11))) tNil)) (tC (.int 2147483647))) (gName 3))
    (tSeq (tAsg (tOp rModI (tCB rInt1 (tCons (tOp (rAddG K) (tOp (rAddG K) (tOp (rMulG K) (tVar 3) (tC (.int 16807))) (tOp rDivI (tVar 3) (tC (.int 65536)))) (tOp (rMulG K) (tOp (rMulG K) (tOp (rIx K) (tVar 0) (tC (.int 1))) (tOp (rIx K) (tVar 0) (tC (.int 1)))) (tC (.int 40692)))) tNil)) (tC (.int 2147483399))) (gName 4))
    (tRet (tOp rModI (tCB rInt1 (tCons (tVar 4) tNil)) (tVar 1)))))))
theorem run_tPool {K : PySem.W.Frag} (as : List Sl) (Post : Re → List Sl → Prop) (h : ap_pool as Post) : WS K [] (tPool K) (as ++ List.replicate (3 - as.length) .un) ⟨fun G => Post (.val .non) (exitArgs [] G as), fun r G => Post r (exitArgs [] G as), fun _ => False, fun _ => False⟩ := by
  obtain ⟨ns, k, rfl, h0, hk, p⟩ := h
  unfold tPool
  show WS K [] _ [.val (.scr ns), .val (.int k), .un] _
  walk_at "e"; walk_at "e"; walk_at "e"
  refine ws_cut (fun G => ∃ c : Int, 0 ≤ c ∧ G = [.val (.scr ns), .val (.int k), .val (.int c)]) ?_ ?_
  · walk_at "es"
    refine ⟨fun h1 => ?_, fun h1 => ?_⟩
    · have h1' := of_decide_eq_true h1
      rw [len_map] at h1'
      walk_at "es"
      refine ixp rfl (at_map h0 h1' 0) ?_
      walk_at "es"
      refine .a ⟨_, ?_, rfl⟩
      split <;> omega
    · walk_at "es"
      exact .a ⟨0, Int.le_refl _, rfl⟩
  · rintro G ⟨c, hc, rfl⟩
    walk_at "es"
    exact p _ ⟨_, _, _, rfl, hc, Int.emod_nonneg _ (by decide), Int.emod_lt_of_pos _ (by decide)⟩
theorem run_tPool4 {K : PySem.W.Frag} (as : List Sl) (Post : Re → List Sl → Prop) (h : ap_pool4 as Post) : WS K [] (tPool4 K) (as ++ List.replicate (3 - as.length) .un) ⟨fun G => Post (.val .non) (exitArgs [] G as), fun r G => Post r (exitArgs [] G as), fun _ => False, fun _ => False⟩ := by
  obtain ⟨ns, k, rfl, h0, hk, p⟩ := h
  unfold tPool4
  show WS K [] _ [.val (.scr ns), .val (.int k), .un] _
  walk_at "e"; walk_at "e"; walk_at "e"
  refine ws_cut (fun G => ∃ c : Int, 0 ≤ c ∧ G = [.val (.scr ns), .val (.int k), .val (.int c)]) ?_ ?_
  · walk_at "es"
    refine ⟨fun h1 => ?_, fun h1 => ?_⟩
    · have h1' := of_decide_eq_true h1
      rw [len_map] at h1'
      walk_at "es"
      refine ixp rfl (at_map h0 h1' 0) ?_
      walk_at "es"
      refine .a ⟨_, ?_, rfl⟩
      split <;> omega
    · walk_at "es"
      exact .a ⟨0, Int.le_refl _, rfl⟩
  · rintro G ⟨c, hc, rfl⟩
    walk_at "es"
    exact p _ ⟨_, _, _, rfl, hc, Int.emod_nonneg _ (by decide), Int.emod_lt_of_pos _ (by decide)⟩
theorem run_tTakeA {K : PySem.W.Frag} (as : List Sl) (Post : Re → List Sl → Prop) (h : ap_take as Post) : WS K [0] (tTakeA K) (as ++ List.replicate (5 - as.length) .un) ⟨fun G => Post (.val .non) (exitArgs [0] G as), fun r G => Post r (exitArgs [0] G as), fun _ => False, fun _ => False⟩ := by
  obtain ⟨ds, c, n, rfl, ⟨cell, flag, seed, rfl, hc, hs, hs2⟩, hc0, hc1, hn, hn2, p⟩ := h
  unfold tTakeA
  show WS K [0] _ [.acc _, .val (.int n), .un, .un, .un] _
  walk_at "es"
  refine ⟨fun h1 => ?_, fun h1 => ?_⟩
  · walk_at "es"
    exact p _ _ ⟨_, _, _, rfl, Int.ediv_nonneg hc (by omega), hs, hs2⟩ (Int.emod_nonneg _ (by omega)) (Int.emod_lt_of_pos _ hn)
  · walk_at "es"
    exact p _ _ ⟨_, _, _, rfl, hc, hs, hs2⟩ (Int.emod_nonneg _ (by omega)) (Int.emod_lt_of_pos _ hn)
theorem run_tTakeB {K : PySem.W.Frag} (as : List Sl) (Post : Re → List Sl → Prop) (h : ap_take as Post) : WS K [0] (tTakeB K) (as ++ List.replicate (5 - as.length) .un) ⟨fun G => Post (.val .non) (exitArgs [0] G as), fun r G => Post r (exitArgs [0] G as), fun _ => False, fun _ => False⟩ := by
  obtain ⟨ds, c, n, rfl, ⟨cell, flag, seed, rfl, hc, hs, hs2⟩, hc0, hc1, hn, hn2, p⟩ := h
  unfold tTakeB
  show WS K [0] _ [.acc _, .val (.int n), .un, .un, .un] _
  walk_at "e"; walk_at "e"; walk_at "e"; walk_at "e"; walk_at "e"; walk_at "e"; walk_at "e"; walk_at "e"; walk_at "e"; walk_at "e"; walk_at "e"; walk_at "e"
  refine ws_cut (fun G => G = [.acc [.int cell, .int (c + 1), .int flag, .int seed, .int 3], .val (.int n), .un, .un, .un]) ?_ ?_
  · walk_at "es"
    refine ⟨fun h1 => ?_, fun h1 => ?_⟩
    · walk_at "es"
      refine ⟨fun h2 => ?_, fun h2 => ?_⟩
      · walk_at "es"
        exact p _ _ ⟨_, _, _, rfl, Int.ediv_nonneg hc (by omega), hs, hs2⟩ (Int.emod_nonneg _ (by omega)) (Int.emod_lt_of_pos _ hn)
      · walk_at "es"
        exact .a rfl
    · walk_at "es"
      exact .a rfl
  · rintro G rfl
    walk_at "es"
    exact p _ _ ⟨_, _, _, rfl, hc, hs, hs2⟩ (Int.emod_nonneg _ (by omega)) (Int.emod_lt_of_pos _ hn)
theorem run_tTakeC {K : PySem.W.Frag} (as : List Sl) (Post : Re → List Sl → Prop) (h : ap_take as Post) : WS K [0] (tTakeC K) (as ++ List.replicate (5 - as.length) .un) ⟨fun G => Post (.val .non) (exitArgs [0] G as), fun r G => Post r (exitArgs [0] G as), fun _ => False, fun _ => False⟩ := by
  obtain ⟨ds, c, n, rfl, ⟨cell, flag, seed, rfl, hc, hs, hs2⟩, hc0, hc1, hn, hn2, p⟩ := h
  unfold tTakeC
  show WS K [0] _ [.acc _, .val (.int n), .un, .un, .un] _
  walk_at "es"
  refine ⟨fun h1 => ?_, fun h1 => ?_⟩
  · walk_at "es"
    exact p _ _ ⟨_, _, _, rfl, Int.ediv_nonneg hc (by omega), hs, hs2⟩ (Int.emod_nonneg _ (by omega)) (Int.emod_lt_of_pos _ hn)
  · walk_at "es"
    exact p _ _ ⟨_, _, _, rfl, hc, hs, hs2⟩ (Int.emod_nonneg _ (by omega)) (Int.emod_lt_of_pos _ hn)
theorem run_tTakeD4 {K : PySem.W.Frag} (as : List Sl) (Post : Re → List Sl → Prop) (h : ap_take4 as Post) : WS K [0] (tTakeD K) (as ++ List.replicate (5 - as.length) .un) ⟨fun G => Post (.val .non) (exitArgs [0] G as), fun r G => Post r (exitArgs [0] G as), fun _ => False, fun _ => False⟩ := by
  obtain ⟨ds, c, n, rfl, ⟨cell, flag, seed, rfl, hc, hs, hs2⟩, hc0, hc1, hn, hn2, p⟩ := h
  unfold tTakeD
  show WS K [0] _ [.acc _, .val (.int n), .un, .un, .un] _
  walk_at "e"; walk_at "e"; walk_at "e"; walk_at "e"; walk_at "e"; walk_at "e"; walk_at "e"; walk_at "e"; walk_at "e"; walk_at "e"; walk_at "e"; walk_at "e"
  refine ws_cut (fun G => G = [.acc [.int cell, .int (c + 1), .int flag, .int seed], .val (.int n), .un, .un, .un]) ?_ ?_
  · walk_at "es"
    refine ⟨fun h1 => ?_, fun h1 => ?_⟩
    · walk_at "es"
      refine ⟨fun h2 => ?_, fun h2 => ?_⟩
      · walk_at "es"
        exact p _ _ ⟨_, _, _, rfl, Int.ediv_nonneg hc (by omega), hs, hs2⟩ (Int.emod_nonneg _ (by omega)) (Int.emod_lt_of_pos _ hn)
      · walk_at "es"
        exact .a rfl
    · walk_at "es"
      exact .a rfl
  · rintro G rfl
    walk_at "es"
    exact p _ _ ⟨_, _, _, rfl, hc, hs, hs2⟩ (Int.emod_nonneg _ (by omega)) (Int.emod_lt_of_pos _ hn)
end Ab
namespace Ab
open PySem L2
local macro_rules | `(tactic| walk_at "no") => `(tactic| first
  | exact fun h => Bool.noConfusion (show true = false from h)
  | exact fun h => Bool.noConfusion (show false = true from h)
  | exact fun h => absurd (of_decide_eq_true h) (by omega)
  | exact fun h => absurd (by omega) (of_decide_eq_false h)
  | exact fun h => absurd (by omega) (nd_t h)
  | exact fun h => absurd (nd_f h) (by omega)
  | fail "no")
local macro_rules | `(tactic| walk_at "kb") => `(tactic| first | exact kb_tt | exact kb_ll | exact kb_ii | exact kb_ib | exact kb_ss | exact kb_sb | exact kb_si | exact kb_tb | exact kb_ti | exact kb_ts | exact kb_tl | exact kb_lb | exact kb_li | exact kb_ls | exact kb_lt | exact kb_is | exact kb_it | exact kb_il | exact kb_st | exact kb_sl | exact kb_bb | exact kb_bi | exact kb_nb | exact kb_ni | exact kb_ns | exact kb_nt | exact kb_nl | exact kb_bs | exact kb_bt | exact kb_bl | fail "kb")
local macro_rules | `(tactic| walk_at "norm") => `(tactic| first
  | exact (rfl : _ = ([] : List Sl))
  | ((refine' norm_cons (rfl : _ = _ :: _) ?ea ?et); (case ea => first | exact norm_v | exact norm_n | exact norm_o | exact rfl | fail "norm"); (case et => walk_at "norm"))
  | fail "norm")
local macro_rules | `(tactic| walk_at "e") => `(tactic| first
  | ((with_reducible refine' norm_intro ?hn ?_); (case hn => walk_at "norm"))
  | ((with_reducible refine' we_var ?hh ?_); (case hh => exact rfl))
  | ((with_reducible refine' we_own ?hh ?_); (case hh => exact rfl))
  | with_reducible refine we_c ?_
  | with_reducible refine we_addG ?_
  | with_reducible refine addp_i ?_
  | with_reducible refine we_opI0 ?_
  | with_reducible refine we_opI ?_
  | with_reducible refine we_mulG ?_
  | ((with_reducible refine' mulp_r ?h1 ?_); (case h1 => first | decide | omega | fail "m"))
  | ((with_reducible refine' mulp_l ?h1 ?_); (case h1 => first | decide | omega | fail "m"))
  | with_reducible refine we_neg ?_
  | with_reducible refine we_ltG ?_
  | with_reducible refine ltp_i ?_
  | with_reducible refine we_eqG ?_
  | with_reducible refine we_neG ?_
  | with_reducible refine eqp_i ?_
  | with_reducible refine nep_i ?_
  | with_reducible refine we_ixG ?_
  | ((with_reducible refine' ixp ?h1 ?h2 ?_); (case h1 => exact rfl); (case h2 => exact rfl))
  | with_reducible refine we_lenG ?_
  | ((with_reducible refine' lenp ?hh ?_); (case hh => exact rfl))
  | with_reducible refine we_intG ?_
  | with_reducible refine intp_i ?_
  | with_reducible refine intp_b ?_
  | with_reducible refine we_abs ?_
  | with_reducible refine we_tup ?_
  | with_reducible refine we_lst ?_
  | with_reducible refine we_tuple ?_
  | with_reducible refine we_list ?_
  | with_reducible refine we_sum ?_
  | with_reducible refine we_max2 ?_
  | with_reducible refine we_min2 ?_
  | with_reducible refine wd_cons ?_
  | with_reducible refine wd_nil ?_
  | with_reducible refine wa_cons ?_
  | with_reducible refine wa_nil ?_
  | with_reducible refine we_callH ?_
  | with_reducible refine we_isiG ?_
  | ((with_reducible refine' isi_own ?h1 ?h2 ?_); (case h1 => exact rfl); (case h2 => walk_at "kb"))
  | ((with_reducible refine' isi_val ?h1 ?h2 ?_); (case h1 => exact rfl); (case h2 => walk_at "kb"))
  | ((with_reducible refine' isi_new ?h2 ?_); (case h2 => walk_at "kb"))
  | with_reducible refine we_chainI ?_
  | with_reducible refine we_andV ?_
  | with_reducible refine we_orV ?_
  | with_reducible refine we_notV ?_
  | with_reducible refine wt_test ?_
  | with_reducible refine wt_B ?_
  | with_reducible refine wt_yes ?_
  | with_reducible refine wt_and ?_
  | with_reducible refine wt_or ?_
  | with_reducible refine wt_not ?_
  | with_reducible refine ws_seq ?_
  | ((with_reducible refine' ws_retA ?hh ?_); (case hh => exact rfl))
  | with_reducible refine ws_ret ?_
  | with_reducible refine ws_if ?_
  | with_reducible refine ws_nil ?_
  | with_reducible refine ws_expr ?_
  | with_reducible refine ws_asgN rfl rfl ?_
  | with_reducible refine ws_setN ?_
  | with_reducible refine ws_asgG ?_
  | ((with_reducible refine' wg_tup ?hh ?_); (case hh => exact rfl))
  | with_reducible refine wgs_cons ?_
  | with_reducible refine wgs_nil ?_
  | with_reducible refine wg_nameN rfl rfl ?_
  | ((with_reducible refine' we_appendN ?hh ?_); (case hh => exact rfl))
  | ((with_reducible refine' we_reverseN ?hh ?_); (case hh => exact rfl))
  | ((with_reducible refine' ws_augN ?h1 ?h2 ?_); (case h1 => exact rfl); (case h2 => exact rfl))
  | (refine ⟨_, rfl, ⟨_, rfl⟩, ?_⟩)
  | (refine ⟨_, rfl, ?_⟩)
  | (refine ⟨_, _, _, rfl, rfl, rfl, ?_⟩)
  | (refine ⟨_, _, rfl, rfl, (Nat.le_of_ble_eq_true rfl : _ ≤ _), ?_⟩)
  | (refine ⟨_, _, rfl, rfl, ?_⟩)
  | (refine ⟨(Nat.le_of_ble_eq_true rfl : _ ≤ _), ?_⟩)
  | (refine ⟨(rfl : _ = true), ?_⟩)
  | ((refine' ⟨fun _ => ?_, fun hY => absurd hY ?k2⟩); (case k2 => walk_at "no"))
  | ((refine' ⟨fun hY => absurd hY ?k2, fun _ => ?_⟩); (case k2 => walk_at "no"))
  | (refine ⟨⟨(by omega), (by omega)⟩, ?_⟩)
  | (refine ⟨⟨(by decide), (by decide), (by decide)⟩, ?_⟩)
  | (refine ⟨(by first | decide | omega | fail "c"), ?_⟩)
  | fail "stop")
local macro_rules | `(tactic| walk_at "es") => `(tactic| repeat' walk_at "e")
/-! ### x is None -/
def isNonR : Re → Bool
  | .val (.raw v) => decide (v = .non)
  | _ => false
theorem we_isN {K : PySem.W.Frag} {Γ : List Sl} {Post : Re → List Sl → Prop} {ta : TE} (h : WE K ta Γ fun r Γ1 => Post (.val (.bl (isNonR r))) Γ1) : WE K (tIsN ta) Γ Post := fun σ B H E Q q => by
  refine h σ B H E _ fun x B1 H1 r Γ1 g k p => ?_
  have e : decide (x = V.non) = isNonR r := by
    cases r with
    | val d =>
      cases d with
      | raw v => cases Is.rawI k; rfl
      | tup ds => obtain ⟨a, xs, rfl, _⟩ := Is.tupR k; rfl
      | lst ds => obtain ⟨a, xs, rfl, _⟩ := Is.lstR k; rfl
      | obj C fs => cases k; rfl
      | scr ns => cases k; rfl
    | new ds => obtain ⟨l, vs, rfl, _⟩ := k; rfl
    | own i => obtain ⟨l, rfl, _⟩ := k; rfl
  rw [e]
  exact q _ B1 H1 _ Γ1 g (.raw _) p
theorem we_notN {K : PySem.W.Frag} {Γ : List Sl} {Post : Re → List Sl → Prop} {ta : TE} (h : WE K ta Γ fun r Γ1 => Post (.val (.bl (!isNonR r))) Γ1) : WE K (tNotN ta) Γ Post := fun σ B H E Q q => by
  refine h σ B H E _ fun x B1 H1 r Γ1 g k p => ?_
  have e : decide (x = V.non) = isNonR r := by
    cases r with
    | val d =>
      cases d with
      | raw v => cases Is.rawI k; rfl
      | tup ds => obtain ⟨a, xs, rfl, _⟩ := Is.tupR k; rfl
      | lst ds => obtain ⟨a, xs, rfl, _⟩ := Is.lstR k; rfl
      | obj C fs => cases k; rfl
      | scr ns => cases k; rfl
    | new ds => obtain ⟨l, vs, rfl, _⟩ := k; rfl
    | own i => obtain ⟨l, rfl, _⟩ := k; rfl
  rw [e]
  exact q _ B1 H1 _ Γ1 g (.raw _) p
local macro_rules | `(tactic| walk_at "e") => `(tactic| first | with_reducible refine we_isN ?_ | with_reducible refine we_notN ?_ | fail "is")
/-! ### _law_same: equal data are the same -/
mutual
def okD : Dt → Bool
  | .raw .non => true
  | .raw (.bl _) => true
  | .raw (.int _) => true
  | .raw (.str _) => true
  | .raw _ => false
  | .tup ds => decide (ds.length ≤ 1000000) && okAll ds
  | .lst ds => decide (ds.length ≤ 1000000) && okAll ds
  | .obj _ _ => false
  | .scr _ => false
def okAll : List Dt → Bool
  | [] => true
  | d :: ds => okD d && okAll ds
end
mutual
def depD : Dt → Nat
  | .raw _ => 0
  | .tup ds => depAll ds + 1
  | .lst ds => depAll ds + 1
  | .obj _ _ => 0
  | .scr _ => 0
def depAll : List Dt → Nat
  | [] => 0
  | d :: ds => max (depD d) (depAll ds)
end
theorem okAll_at : ∀ {ds : List Dt} {i : Nat} {d : Dt}, okAll ds = true → ds[i]? = some d → okD d = true
  | [], _, _, _, h => by simp at h
  | x :: r, 0, d, h, e => by
    rw [okAll, Bool.and_eq_true] at h
    simp at e; subst e; exact h.1
  | x :: r, i + 1, d, h, e => by
    rw [okAll, Bool.and_eq_true] at h
    exact okAll_at h.2 (by simpa using e)
theorem depAll_at : ∀ {ds : List Dt} {i : Nat} {d : Dt}, ds[i]? = some d → depD d ≤ depAll ds
  | [], _, _, h => by simp at h
  | x :: r, 0, d, e => by
    simp at e; subst e; rw [depAll]; omega
  | x :: r, i + 1, d, e => by
    have := depAll_at (ds := r) (i := i) (d := d) (by simpa using e)
    rw [depAll]; omega
def slDt : Sl → Option Dt
  | .val d => some d
  | .acc ds => some (.lst ds)
  | .un => none
def ap_same (n : Nat) : AP := fun as Post => ∃ s0 s1 d, as = [s0, s1] ∧ slDt s0 = some d ∧ slDt s1 = some d ∧ okD d = true ∧ depD d ≤ n ∧ Post (.val (.bl true)) [s0, s1]
theorem len_same {n : Nat} (as : List Sl) (Post : Re → List Sl → Prop) (h : ap_same n as Post) : as.length = 2 := by obtain ⟨s0, s1, d, rfl, _⟩ := h; rfl
def tSame (K : PySem.W.Frag) (ap__law_same : AP) : TS :=
    (tSeq (tIfS (tOr (tB (tCB (rIsi K) (tCons (tVar 0) (tCons (tC (.ty "bool")) tNil)))) (tB (tCB (rIsi K) (tCons (tVar 1) (tCons (tC (.ty "bool")) tNil))))) (tRet (tAndV (tCB (rIsi K) (tCons (tVar 0) (tCons (tC (.ty "bool")) tNil))) (tAndV (tCB (rIsi K) (tCons (tVar 1) (tCons (tC (.ty "bool")) tNil))) (tOp (rEqG K) (tVar 0) (tVar 1))))) tNext)
    (tSeq (tIfS (tAnd (tB (tCB (rIsi K) (tCons (tVar 0) (tCons (tC (.ty "int")) tNil)))) (tB (tCB (rIsi K) (tCons (tVar 1) (tCons (tC (.ty "int")) tNil))))) (tRet (tOp (rEqG K) (tVar 0) (tVar 1))) tNext)
    (tSeq (tIfS (tAnd (tB (tCB (rIsi K) (tCons (tVar 0) (tCons (tC (.ty "str")) tNil)))) (tB (tCB (rIsi K) (tCons (tVar 1) (tCons (tC (.ty "str")) tNil))))) (tRet (tOp (rEqG K) (tVar 0) (tVar 1))) tNext)
    (tSeq (tAsg (tAndV (tCB (rIsi K) (tCons (tVar 0) (tCons (tC (.ty "tuple")) tNil))) (tCB (rIsi K) (tCons (tVar 1) (tCons (tC (.ty "tuple")) tNil)))) (gName 2))
    (tSeq (tIfS (tOr (tB (tVar 2)) (tAnd (tB (tCB (rIsi K) (tCons (tVar 0) (tCons (tC (.ty "list")) tNil)))) (tB (tCB (rIsi K) (tCons (tVar 1) (tCons (tC (.ty "list")) tNil)))))) (tSeq (tIfS (tTest (tOp (rNeG K) (tCB (rLenV K) (tCons (tVar 0) tNil)) (tCB (rLenV K) (tCons (tVar 1) tNil)))) (tRet (tC (.bl false))) tNext)
    (tSeq (tFor (iRng1 (tCons (tCB (rLenV K) (tCons (tVar 0) tNil)) tNil)) (gName 3) (tIfS (tNot (tB (tCall (toSp K ap__law_same) [] E0 (tCons (tOp (rIx K) (tVar 0) (tVar 3)) (tCons (tOp (rIx K) (tVar 1) (tVar 3)) tNil))))) (tRet (tC (.bl false))) tNext))
    (tRet (tC (.bl true))))) tNext)
    (tRet (tAndV (tIsN (tVar 0)) (tIsN (tVar 1)))))))))
/-- what is asked of the calls within -/
def SameIn (n : Nat) (ap : AP) : Prop := ∀ d Post, okD d = true → depD d < n → Post (.val (.bl true)) [.val d, .val d] → ap [.val d, .val d] Post
theorem run_tSame {K : PySem.W.Frag} {n : Nat} {ap : AP} (hap : SameIn n ap) (as : List Sl) (Post : Re → List Sl → Prop) (h : ap_same n as Post) : WS K [0, 1] (tSame K ap) (as ++ List.replicate (4 - as.length) .un) ⟨fun G => Post (.val .non) (exitArgs [0, 1] G as), fun r G => Post r (exitArgs [0, 1] G as), fun _ => False, fun _ => False⟩ := by
  obtain ⟨s0, s1, d, rfl, h0, h1, ok, dp, p⟩ := h
  unfold tSame
  show WS K [0, 1] _ [s0, s1, .un, .un] _
  have acc0 : ∀ {s : Sl} {d : Dt}, slDt s = some d → s = .val d ∨ ∃ ds, d = .lst ds ∧ s = .acc ds := fun {s d} h => by
    cases s with
    | un => cases h
    | val e => cases h; exact .inl rfl
    | acc es => cases h; exact .inr ⟨es, rfl, rfl⟩
  have scal : ∀ v : V, d = .raw v → s0 = .val (.raw v) ∧ s1 = .val (.raw v) := fun v e => by
    subst e
    rcases acc0 h0 with rfl | ⟨ds, e, _⟩
    · rcases acc0 h1 with rfl | ⟨ds, e, _⟩
      · exact ⟨rfl, rfl⟩
      · cases e
    · cases e
  cases d with
  | obj C fs => simp [okD] at ok
  | scr ns => simp [okD] at ok
  | raw v =>
    obtain ⟨rfl, rfl⟩ := scal v rfl
    cases v with
    | non => walk_at "es"; exact p
    | bl b =>
      walk_at "es"
      refine eqp_s rfl ?_
      rw [decide_eq_true rfl]
      exact ⟨rfl, p⟩
    | int i =>
      walk_at "es"
      rw [decide_eq_true rfl]
      exact p
    | str x =>
      walk_at "es"
      refine eqp_s rfl ?_
      rw [decide_eq_true rfl]
      exact ⟨rfl, p⟩
    | byt b => simp [okD] at ok
    | flt b => simp [okD] at ok
    | ref a => simp [okD] at ok
    | ty t => simp [okD] at ok
  | tup ds =>
    rw [okD, Bool.and_eq_true, decide_eq_true_eq] at ok
    obtain ⟨hlen, ok⟩ := ok
    rw [depD] at dp
    have e0 : s0 = .val (.tup ds) := by
      rcases acc0 h0 with rfl | ⟨_, e, _⟩
      · rfl
      · cases e
    have e1 : s1 = .val (.tup ds) := by
      rcases acc0 h1 with rfl | ⟨_, e, _⟩
      · rfl
      · cases e
    subst e0 e1
    walk_at "es"
    refine for_range1 ds.length (fun i G => ∃ s3, G = [.val (.tup ds), .val (.tup ds), .val (.bl true), s3]) ?_ ?_ ?_
    · walk_at "es"
      exact .a ⟨rfl, by omega, by omega, _, rfl⟩
    · rintro i G hi ⟨s3, rfl⟩
      have hi' : i < ds.length := by omega
      have g := List.getElem?_eq_getElem hi'
      walk_at "es"
      refine ixp rfl (atI_of (j := i) rfl g) ?_
      walk_at "es"
      refine ixp rfl (atI_of (j := i) rfl g) ?_
      walk_at "es"
      refine .a (hap _ _ (okAll_at ok g) (by have := depAll_at g; omega) ?_)
      walk_at "es"
      exact .a ⟨_, rfl⟩
    · rintro G ⟨s3, rfl⟩
      walk_at "es"
      exact p
  | lst ds =>
    rw [okD, Bool.and_eq_true, decide_eq_true_eq] at ok
    obtain ⟨hlen, ok⟩ := ok
    rw [depD] at dp
    have e0 : s0 = .val (.lst ds) ∨ s0 = .acc ds := by
      rcases acc0 h0 with rfl | ⟨_, e, rfl⟩
      · exact .inl rfl
      · cases e; exact .inr rfl
    have e1 : s1 = .val (.lst ds) ∨ s1 = .acc ds := by
      rcases acc0 h1 with rfl | ⟨_, e, rfl⟩
      · exact .inl rfl
      · cases e; exact .inr rfl
    rcases e0 with rfl | rfl <;> rcases e1 with rfl | rfl
    · walk_at "es"
      refine for_range1 ds.length (fun i G => ∃ s3, G = [.val (.lst ds), .val (.lst ds), .val (.bl false), s3]) ?_ ?_ ?_
      · walk_at "es"
        exact .a ⟨rfl, by omega, by omega, _, rfl⟩
      · rintro i G hi ⟨s3, rfl⟩
        have hi' : i < ds.length := by omega
        have g := List.getElem?_eq_getElem hi'
        walk_at "es"
        refine ixp rfl (atI_of (j := i) rfl g) ?_
        walk_at "es"
        refine ixp rfl (atI_of (j := i) rfl g) ?_
        walk_at "es"
        refine .a (hap _ _ (okAll_at ok g) (by have := depAll_at g; omega) ?_)
        walk_at "es"
        exact .a ⟨_, rfl⟩
      · rintro G ⟨s3, rfl⟩
        walk_at "es"
        exact p
    · walk_at "es"
      refine for_range1 ds.length (fun i G => ∃ s3, G = [.val (.lst ds), .acc ds, .val (.bl false), s3]) ?_ ?_ ?_
      · walk_at "es"
        exact .a ⟨rfl, by omega, by omega, _, rfl⟩
      · rintro i G hi ⟨s3, rfl⟩
        have hi' : i < ds.length := by omega
        have g := List.getElem?_eq_getElem hi'
        walk_at "es"
        refine ixp rfl (atI_of (j := i) rfl g) ?_
        walk_at "es"
        refine ixp rfl (atI_of (j := i) rfl g) ?_
        walk_at "es"
        refine .a (hap _ _ (okAll_at ok g) (by have := depAll_at g; omega) ?_)
        walk_at "es"
        exact .a ⟨_, rfl⟩
      · rintro G ⟨s3, rfl⟩
        walk_at "es"
        exact p
    · walk_at "es"
      refine for_range1 ds.length (fun i G => ∃ s3, G = [.acc ds, .val (.lst ds), .val (.bl false), s3]) ?_ ?_ ?_
      · walk_at "es"
        exact .a ⟨rfl, by omega, by omega, _, rfl⟩
      · rintro i G hi ⟨s3, rfl⟩
        have hi' : i < ds.length := by omega
        have g := List.getElem?_eq_getElem hi'
        walk_at "es"
        refine ixp rfl (atI_of (j := i) rfl g) ?_
        walk_at "es"
        refine ixp rfl (atI_of (j := i) rfl g) ?_
        walk_at "es"
        refine .a (hap _ _ (okAll_at ok g) (by have := depAll_at g; omega) ?_)
        walk_at "es"
        exact .a ⟨_, rfl⟩
      · rintro G ⟨s3, rfl⟩
        walk_at "es"
        exact p
    · walk_at "es"
      refine for_range1 ds.length (fun i G => ∃ s3, G = [.acc ds, .acc ds, .val (.bl false), s3]) ?_ ?_ ?_
      · walk_at "es"
        exact .a ⟨rfl, by omega, by omega, _, rfl⟩
      · rintro i G hi ⟨s3, rfl⟩
        have hi' : i < ds.length := by omega
        have g := List.getElem?_eq_getElem hi'
        walk_at "es"
        refine ixp rfl (atI_of (j := i) rfl g) ?_
        walk_at "es"
        refine ixp rfl (atI_of (j := i) rfl g) ?_
        walk_at "es"
        refine .a (hap _ _ (okAll_at ok g) (by have := depAll_at g; omega) ?_)
        walk_at "es"
        exact .a ⟨_, rfl⟩
      · rintro G ⟨s3, rfl⟩
        walk_at "es"
        exact p
end Ab
/-! The strokes' module: sign, line_steps, takes_first_move, arc_steps, unit_steps. -/
namespace Strokes
open PySem L2 Ab
local macro_rules | `(tactic| walk_at "no") => `(tactic| first
  | exact fun h => Bool.noConfusion (show true = false from h)
  | exact fun h => Bool.noConfusion (show false = true from h)
  | exact fun h => absurd (of_decide_eq_true h) (by omega)
  | exact fun h => absurd (by omega) (of_decide_eq_false h)
  | exact fun h => absurd (by omega) (nd_t h)
  | exact fun h => absurd (nd_f h) (by omega)
  | fail "no")
local macro_rules | `(tactic| walk_at "kb") => `(tactic| first | exact kb_tt | exact kb_ll | exact kb_ii | exact kb_ib | exact kb_ss | exact kb_sb | exact kb_si | exact kb_tb | exact kb_ti | exact kb_ts | exact kb_tl | exact kb_lb | exact kb_li | exact kb_ls | exact kb_lt | exact kb_is | exact kb_it | exact kb_il | exact kb_st | exact kb_sl | exact kb_bb | exact kb_bi | exact kb_nb | exact kb_ni | exact kb_ns | exact kb_nt | exact kb_nl | exact kb_bs | exact kb_bt | exact kb_bl | fail "kb")
local macro_rules | `(tactic| walk_at "norm") => `(tactic| first
  | exact (rfl : _ = ([] : List Sl))
  | ((refine' norm_cons (rfl : _ = _ :: _) ?ea ?et); (case ea => first | exact norm_v | exact norm_n | exact norm_o | exact rfl | fail "norm"); (case et => walk_at "norm"))
  | fail "norm")
local macro_rules | `(tactic| walk_at "e") => `(tactic| first
  | ((with_reducible refine' norm_intro ?hn ?_); (case hn => walk_at "norm"))
  | ((with_reducible refine' we_var ?hh ?_); (case hh => exact rfl))
  | ((with_reducible refine' we_own ?hh ?_); (case hh => exact rfl))
  | with_reducible refine we_c ?_
  | with_reducible refine we_addG ?_
  | with_reducible refine addp_i ?_
  | with_reducible refine we_opI0 ?_
  | with_reducible refine we_opI ?_
  | with_reducible refine we_mulG ?_
  | ((with_reducible refine' mulp_r ?h1 ?_); (case h1 => first | decide | omega | fail "m"))
  | ((with_reducible refine' mulp_l ?h1 ?_); (case h1 => first | decide | omega | fail "m"))
  | with_reducible refine we_neg ?_
  | with_reducible refine we_ltG ?_
  | with_reducible refine ltp_i ?_
  | with_reducible refine we_eqG ?_
  | with_reducible refine we_neG ?_
  | with_reducible refine eqp_i ?_
  | with_reducible refine nep_i ?_
  | with_reducible refine we_ixG ?_
  | ((with_reducible refine' ixp ?h1 ?h2 ?_); (case h1 => exact rfl); (case h2 => exact rfl))
  | with_reducible refine we_lenG ?_
  | ((with_reducible refine' lenp ?hh ?_); (case hh => exact rfl))
  | with_reducible refine we_intG ?_
  | with_reducible refine intp_i ?_
  | with_reducible refine intp_b ?_
  | with_reducible refine we_abs ?_
  | with_reducible refine we_tup ?_
  | with_reducible refine we_lst ?_
  | with_reducible refine we_tuple ?_
  | with_reducible refine we_list ?_
  | with_reducible refine we_sum ?_
  | with_reducible refine we_max2 ?_
  | with_reducible refine we_min2 ?_
  | with_reducible refine wd_cons ?_
  | with_reducible refine wd_nil ?_
  | with_reducible refine wa_cons ?_
  | with_reducible refine wa_nil ?_
  | with_reducible refine we_callH ?_
  | with_reducible refine we_isiG ?_
  | ((with_reducible refine' isi_own ?h1 ?h2 ?_); (case h1 => exact rfl); (case h2 => walk_at "kb"))
  | ((with_reducible refine' isi_val ?h1 ?h2 ?_); (case h1 => exact rfl); (case h2 => walk_at "kb"))
  | ((with_reducible refine' isi_new ?h2 ?_); (case h2 => walk_at "kb"))
  | with_reducible refine we_chainI ?_
  | with_reducible refine we_andV ?_
  | with_reducible refine we_orV ?_
  | with_reducible refine we_notV ?_
  | with_reducible refine wt_test ?_
  | with_reducible refine wt_B ?_
  | with_reducible refine wt_yes ?_
  | with_reducible refine wt_and ?_
  | with_reducible refine wt_or ?_
  | with_reducible refine wt_not ?_
  | with_reducible refine ws_seq ?_
  | ((with_reducible refine' ws_retA ?hh ?_); (case hh => exact rfl))
  | with_reducible refine ws_ret ?_
  | with_reducible refine ws_if ?_
  | with_reducible refine ws_nil ?_
  | with_reducible refine ws_expr ?_
  | with_reducible refine ws_asgN rfl rfl ?_
  | with_reducible refine ws_setN ?_
  | with_reducible refine ws_asgG ?_
  | ((with_reducible refine' wg_tup ?hh ?_); (case hh => exact rfl))
  | with_reducible refine wgs_cons ?_
  | with_reducible refine wgs_nil ?_
  | with_reducible refine wg_nameN rfl rfl ?_
  | ((with_reducible refine' we_appendN ?hh ?_); (case hh => exact rfl))
  | ((with_reducible refine' we_reverseN ?hh ?_); (case hh => exact rfl))
  | ((with_reducible refine' ws_augN ?h1 ?h2 ?_); (case h1 => exact rfl); (case h2 => exact rfl))
  | (refine ⟨_, rfl, ⟨_, rfl⟩, ?_⟩)
  | (refine ⟨_, rfl, ?_⟩)
  | (refine ⟨_, _, _, rfl, rfl, rfl, ?_⟩)
  | (refine ⟨_, _, rfl, rfl, (Nat.le_of_ble_eq_true rfl : _ ≤ _), ?_⟩)
  | (refine ⟨_, _, rfl, rfl, ?_⟩)
  | (refine ⟨(Nat.le_of_ble_eq_true rfl : _ ≤ _), ?_⟩)
  | (refine ⟨(rfl : _ = true), ?_⟩)
  | ((refine' ⟨fun _ => ?_, fun hY => absurd hY ?k2⟩); (case k2 => walk_at "no"))
  | ((refine' ⟨fun hY => absurd hY ?k2, fun _ => ?_⟩); (case k2 => walk_at "no"))
  | (refine ⟨⟨(by omega), (by omega)⟩, ?_⟩)
  | (refine ⟨⟨(by decide), (by decide), (by decide)⟩, ?_⟩)
  | (refine ⟨(by first | decide | omega | fail "c"), ?_⟩)
  | fail "stop")
local macro_rules | `(tactic| walk_at "es") => `(tactic| repeat' walk_at "e")
def sgn (n : Int) : Int := if 0 < n then 1 else if n < 0 then -1 else 0
def ab (n : Int) : Int := if n < 0 then -n else n
theorem ab_nonneg (n : Int) : 0 ≤ ab n := by unfold ab; split <;> omega
theorem ab_lt {n b : Int} (h : -b < n) (h2 : n < b) : ab n < b := by unfold ab; split <;> omega
def pr (x y : Int) : Dt := .tup [.int x, .int y]
def prD (p : Int × Int) : Dt := pr p.1 p.2
/-- level steps among the first k -/
def lv (dx dy : Int) (k : Nat) : Int := (k : Int) * ab dx / (ab dx + ab dy)
def stepI (dx dy : Int) (k : Nat) : Int × Int := if lv dx dy k < lv dx dy (k + 1) then (sgn dx, 0) else (0, sgn dy)
def lineI (dx dy : Int) : List (Int × Int) := (List.range (ab dx + ab dy).toNat).map (stepI dx dy)
def Fair (dx dy : Int) : Prop := -1000 < dx ∧ dx < 1000 ∧ -1000 < dy ∧ dy < 1000 ∧ (dx ≠ 0 ∨ dy ≠ 0)
theorem lv_zero (dx dy : Int) : lv dx dy 0 = 0 := by simp [lv]
theorem lv_end {dx dy : Int} (h : 0 < ab dx + ab dy) : lv dx dy (ab dx + ab dy).toNat = ab dx := by
  unfold lv
  rw [show (((ab dx + ab dy).toNat : Nat) : Int) = ab dx + ab dy by omega, Int.mul_ediv_cancel_left _ (by omega)]
theorem lv_bounds {dx dy : Int} (h : 0 < ab dx + ab dy) (k : Nat) : lv dx dy k * (ab dx + ab dy) ≤ k * ab dx ∧ (k : Int) * ab dx < (lv dx dy k + 1) * (ab dx + ab dy) := by
  unfold lv
  exact ⟨Int.ediv_mul_le _ (by omega), Int.lt_ediv_add_one_mul_self _ h⟩
theorem lv_step {dx dy : Int} (h : 0 < ab dx + ab dy) (k : Nat) : lv dx dy k ≤ lv dx dy (k + 1) ∧ lv dx dy (k + 1) ≤ lv dx dy k + 1 := by
  have a0 := ab_nonneg dx
  have a1 := ab_nonneg dy
  have h1 := lv_bounds h k
  have h2 := lv_bounds h (k + 1)
  generalize lv dx dy k = p at *
  generalize lv dx dy (k + 1) = q at *
  have e : ((k + 1 : Nat) : Int) * ab dx = (k : Int) * ab dx + ab dx := by
    rw [show ((k + 1 : Nat) : Int) = (k : Int) + 1 by omega, Int.add_mul, Int.one_mul]
  rw [e] at h2
  generalize (k : Int) * ab dx = m at *
  constructor
  · apply Int.le_of_lt_add_one
    exact Int.lt_of_mul_lt_mul_right (a := ab dx + ab dy) (by omega) (by omega)
  · apply Int.le_of_lt_add_one
    have : q * (ab dx + ab dy) < (p + 1 + 1) * (ab dx + ab dy) := by
      rw [Int.add_mul (p + 1) 1, Int.one_mul]
      omega
    exact Int.lt_of_mul_lt_mul_right this (by omega)
theorem sgn_ab (n : Int) : sgn n * ab n = n := by
  unfold sgn ab
  by_cases h1 : 0 < n
  · rw [if_pos h1, if_neg (by omega)]; omega
  · by_cases h2 : n < 0
    · rw [if_neg h1, if_pos h2, if_pos h2]; omega
    · rw [if_neg h1, if_neg h2]; omega
theorem sgn_zero {n : Int} (h : sgn n = 0) : n = 0 := by
  unfold sgn at h
  split at h
  · omega
  · split at h <;> omega
/-! ### the arc -/
def tf (r a b : Int) : Bool := if a = 0 then true else if b = r then false else decide (ab (a * a + (b + 1) * (b + 1) - r * r) ≤ ab ((a - 1) * (a - 1) + b * b - r * r))
def stA (r : Int) : Nat → Int × Int
  | 0 => (r, 0)
  | i + 1 => if tf r (stA r i).1 (stA r i).2 then ((stA r i).1, (stA r i).2 + 1) else ((stA r i).1 - 1, (stA r i).2)
def mvA (r : Int) (i : Nat) : Bool := tf r (stA r i).1 (stA r i).2
theorem st_ok {r : Int} (hr : 0 ≤ r) : ∀ i : Nat, (i : Int) ≤ 2 * r → 0 ≤ (stA r i).1 ∧ (stA r i).1 ≤ r ∧ 0 ≤ (stA r i).2 ∧ (stA r i).2 ≤ r ∧ r - (stA r i).1 + (stA r i).2 = i
  | 0, _ => by simp [stA]; omega
  | i + 1, h => by
    have ih := st_ok hr i (by omega)
    rw [stA]
    cases ht : tf r (stA r i).1 (stA r i).2 with
    | true =>
      simp only [if_true]
      have : (stA r i).2 ≠ r ∨ (stA r i).1 = 0 := by
        by_cases h1 : (stA r i).1 = 0
        · exact .inr h1
        · refine .inl fun h2 => ?_
          unfold tf at ht
          rw [if_neg h1, if_pos h2] at ht
          cases ht
      omega
    | false =>
      simp only [Bool.false_eq_true, if_false]
      have : (stA r i).1 ≠ 0 := fun h1 => by
        unfold tf at ht
        rw [if_pos h1] at ht
        cases ht
      omega
/-- how far the corners lie off the circle -/
def offB : Bool := (List.range 13).all fun r => (List.range (2 * r + 1)).all fun i => r == 0 || decide (ab ((stA r i).1 * (stA r i).1 + (stA r i).2 * (stA r i).2 - (r : Int) * r) < 2 * (r : Int))
theorem offB_ok : offB = true := by decide +kernel
theorem off_ok {r : Int} (h0 : 0 < r) (h1 : r ≤ 12) {i : Nat} (hi : (i : Int) ≤ 2 * r) : ab ((stA r i).1 * (stA r i).1 + (stA r i).2 * (stA r i).2 - r * r) < 2 * r := by
  have h := offB_ok
  unfold offB at h
  rw [List.all_eq_true] at h
  have h2 := h r.toNat (List.mem_range.mpr (by omega))
  rw [List.all_eq_true] at h2
  have h3 := h2 i (List.mem_range.mpr (by omega))
  rw [Bool.or_eq_true] at h3
  have e : ((r.toNat : Nat) : Int) = r := by omega
  rcases h3 with h3 | h3
  · have := eq_of_beq h3
    omega
  · have h4 := of_decide_eq_true h3
    rw [e] at h4
    exact h4
def sortS (s : Int) : Str := if s = 0 then "flat" else "steep"
def fst0 (s dx dy : Int) : Int × Int := if s = 0 then (sgn dx, 0) else (0, sgn dy)
def snd0 (s dx dy : Int) : Int × Int := if s = 0 then (0, sgn dy) else (sgn dx, 0)
def pickI (s dx dy : Int) (b : Bool) : Int × Int := if b then fst0 s dx dy else snd0 s dx dy
def arcI (s dx dy r : Int) : List (Int × Int) := (List.range (2 * r).toNat).map fun i => pickI s dx dy (mvA r i)
/-- an arc's ends -/
structure Arc (s dx dy r : Int) : Prop where
  hs : s = 0 ∨ s = 1
  r0 : 0 < r
  r1 : r ≤ 12
  hx : dx = r ∨ dx = -r
  hy : dy = r ∨ dy = -r
theorem sort_cases {s : Int} (h : s = 0 ∨ s = 1) : (s = 0 ∧ sortS s = "flat") ∨ (s = 1 ∧ sortS s = "steep") := by
  rcases h with rfl | rfl
  · exact .inl ⟨rfl, rfl⟩
  · exact .inr ⟨rfl, rfl⟩
theorem ab_arc {s dx dy r : Int} (h : Arc s dx dy r) : ab dx = r ∧ ab dy = r := by
  obtain ⟨_, r0, r1, hx, hy⟩ := h
  unfold ab
  constructor
  · rcases hx with rfl | rfl <;> split <;> omega
  · rcases hy with rfl | rfl <;> split <;> omega
inductive Stk where
  | line (dx dy : Int)
  | arc (s dx dy r : Int)
def Stk.ok : Stk → Prop
  | .line dx dy => Fair dx dy
  | .arc s dx dy r => Arc s dx dy r
def Stk.dt : Stk → Dt
  | .line dx dy => .tup [.str "line", .int dx, .int dy]
  | .arc s dx dy _ => .tup [.str (sortS s), .int dx, .int dy]
def Stk.steps : Stk → List (Int × Int)
  | .line dx dy => lineI dx dy
  | .arc s dx dy r => arcI s dx dy r
def ap_sign : AP := fun as Post => ∃ n, as = [.val (.int n)] ∧ Post (.val (.int (sgn n))) [.val (.int n)]
def ap_line : AP := fun as Post => ∃ dx dy, as = [.val (.int dx), .val (.int dy)] ∧ Fair dx dy ∧ Post (.new ((lineI dx dy).map prD)) [.val (.int dx), .val (.int dy)]
def ap_tf : AP := fun as Post => ∃ a b r, as = [.val (.int a), .val (.int b), .val (.int r)] ∧ 0 ≤ a ∧ a ≤ 12 ∧ 0 ≤ b ∧ b ≤ 12 ∧ 0 ≤ r ∧ r ≤ 12 ∧ Post (.val (.bl (tf r a b))) [.val (.int a), .val (.int b), .val (.int r)]
def ap_arc : AP := fun as Post => ∃ (x y : Int × Int) (r : Int), as = [.val (prD x), .val (prD y), .val (.int r)] ∧ 0 < r ∧ r ≤ 12 ∧ Post (.new ((List.range (2 * r).toNat).map fun i => prD (if mvA r i then x else y))) [.val (prD x), .val (prD y), .val (.int r)]
def ap_unit : AP := fun as Post => ∃ st : Stk, as = [.val st.dt] ∧ st.ok ∧ Post (.new (st.steps.map prD)) [.val st.dt]
theorem len_sign (as : List Sl) (Post : Re → List Sl → Prop) (h : ap_sign as Post) : as.length = 1 := by obtain ⟨n, rfl, _⟩ := h; rfl
theorem len_line (as : List Sl) (Post : Re → List Sl → Prop) (h : ap_line as Post) : as.length = 2 := by obtain ⟨dx, dy, rfl, _⟩ := h; rfl
theorem len_tf (as : List Sl) (Post : Re → List Sl → Prop) (h : ap_tf as Post) : as.length = 3 := by obtain ⟨a, b, r, rfl, _⟩ := h; rfl
theorem len_arc (as : List Sl) (Post : Re → List Sl → Prop) (h : ap_arc as Post) : as.length = 3 := by obtain ⟨x, y, r, rfl, _⟩ := h; rfl
theorem len_unit (as : List Sl) (Post : Re → List Sl → Prop) (h : ap_unit as Post) : as.length = 1 := by obtain ⟨st, rfl, _⟩ := h; rfl
def tSign (K : PySem.W.Frag) : TS :=
    (tSeq (tIfS (tTest (tOp rGtI (tVar 0) (tC (.int 0)))) (tRet (tC (.int 1))) tNext)
    (tSeq (tIfS (tTest (tOp (rLtG K) (tVar 0) (tC (.int 0)))) (tRet (tUn rNegI (tC (.int 1)))) tNext)
    (tRet (tC (.int 0)))))
def tLine (K : PySem.W.Frag) (ap_sign : AP) : TS :=
    (tSeq (tAsg (tCB rAbs (tCons (tVar 0) tNil)) (gName 2))
    (tSeq (tAsg (tOp (rAddG K) (tVar 2) (tCB rAbs (tCons (tVar 1) tNil))) (gName 3))
    (tSeq (tAsg (tLst tNil) (gName 4))
    (tSeq (tFor (iRng1 (tCons (tVar 3) tNil)) (gName 5) (tIfS (tTest (tOp rGtI (tOp rDivI (tOp (rMulG K) (tOp (rAddG K) (tVar 5) (tC (.int 1))) (tVar 2)) (tVar 3)) (tOp rDivI (tOp (rMulG K) (tVar 5) (tVar 2)) (tVar 3)))) (tDrop (tBM K "list" rAppend (tVar 4) (tCons (tTup (tCons (tCall (toSp K ap_sign) [] E0 (tCons (tVar 0) tNil)) (tCons (tC (.int 0)) tNil))) tNil))) (tDrop (tBM K "list" rAppend (tVar 4) (tCons (tTup (tCons (tC (.int 0)) (tCons (tCall (toSp K ap_sign) [] E0 (tCons (tVar 1) tNil)) tNil))) tNil)))))
    (tRet (tVar 4))))))
def tTf (K : PySem.W.Frag) : TS :=
    (tSeq (tIfS (tTest (tOp (rEqG K) (tVar 0) (tC (.int 0)))) (tRet (tC (.bl true))) tNext)
    (tSeq (tIfS (tTest (tOp (rEqG K) (tVar 1) (tVar 2))) (tRet (tC (.bl false))) tNext)
    (tSeq (tAsg (tOp (rMulG K) (tVar 2) (tVar 2)) (gName 3))
    (tSeq (tAsg (tCB rAbs (tCons (tOp rSubI (tOp (rAddG K) (tOp (rMulG K) (tVar 0) (tVar 0)) (tOp (rMulG K) (tOp (rAddG K) (tVar 1) (tC (.int 1))) (tOp (rAddG K) (tVar 1) (tC (.int 1))))) (tVar 3)) tNil)) (gName 4))
    (tSeq (tAsg (tCB rAbs (tCons (tOp rSubI (tOp (rAddG K) (tOp (rMulG K) (tOp rSubI (tVar 0) (tC (.int 1))) (tOp rSubI (tVar 0) (tC (.int 1)))) (tOp (rMulG K) (tVar 1) (tVar 1))) (tVar 3)) tNil)) (gName 5))
    (tRet (tOp rLeI (tVar 4) (tVar 5))))))))
def tArc (K : PySem.W.Frag) (ap_takes_first_move : AP) : TS :=
    (tSeq (tAsg (tVar 2) (gName 3))
    (tSeq (tAsg (tC (.int 0)) (gName 4))
    (tSeq (tAsg (tLst tNil) (gName 5))
    (tSeq (tWhile (tOr (tTest (tOp rGtI (tVar 3) (tC (.int 0)))) (tTest (tOp (rLtG K) (tVar 4) (tVar 2)))) (tIfS (tB (tCall (toSp K ap_takes_first_move) [] E0 (tCons (tVar 3) (tCons (tVar 4) (tCons (tVar 2) tNil))))) (tSeq (tDrop (tBM K "list" rAppend (tVar 5) (tCons (tVar 0) tNil)))
    (tAug 4 (tC (.int 1)) (ipI fun i j => i + j))) (tSeq (tDrop (tBM K "list" rAppend (tVar 5) (tCons (tVar 1) tNil)))
    (tAug 3 (tC (.int 1)) (ipI fun i j => i - j)))))
    (tRet (tVar 5))))))
def tUnit (K : PySem.W.Frag) (ap_line_steps : AP) (ap_sign : AP) (ap_arc_steps : AP) : TS :=
    (tSeq (tAsg (tVar 0) (gTup K 3 (gCons (gName 1) (gCons (gName 2) (gCons (gName 3) gNil)))))
    (tSeq (tIfS (tTest (tOp (rEqG K) (tVar 1) (tC (.str "line")))) (tRet (tCall (toSp K ap_line_steps) [] E0 (tCons (tVar 2) (tCons (tVar 3) tNil)))) tNext)
    (tSeq (tAsg (tTup (tCons (tCall (toSp K ap_sign) [] E0 (tCons (tVar 2) tNil)) (tCons (tC (.int 0)) tNil))) (gName 4))
    (tSeq (tAsg (tTup (tCons (tC (.int 0)) (tCons (tCall (toSp K ap_sign) [] E0 (tCons (tVar 3) tNil)) tNil))) (gName 5))
    (tSeq (tIfS (tTest (tOp (rEqG K) (tVar 1) (tC (.str "flat")))) (tRet (tCall (toSp K ap_arc_steps) [] E0 (tCons (tVar 4) (tCons (tVar 5) (tCons (tCB rAbs (tCons (tVar 2) tNil)) tNil))))) tNext)
    (tRet (tCall (toSp K ap_arc_steps) [] E0 (tCons (tVar 5) (tCons (tVar 4) (tCons (tCB rAbs (tCons (tVar 2) tNil)) tNil))))))))))
theorem run_tSign {K : PySem.W.Frag} (as : List Sl) (Post : Re → List Sl → Prop) (h : ap_sign as Post) : WS K [] (tSign K) (as ++ List.replicate (1 - as.length) .un) ⟨fun G => Post (.val .non) (exitArgs [] G as), fun r G => Post r (exitArgs [] G as), fun _ => False, fun _ => False⟩ := by
  obtain ⟨n, rfl, p⟩ := h
  unfold tSign
  show WS K [] _ [.val (.int n)] _
  walk_at "es"
  refine ⟨fun h1 => ?_, fun h1 => ?_⟩
  · have h1' : 0 < n := of_decide_eq_true h1
    walk_at "es"
    unfold sgn at p
    rw [if_pos h1'] at p
    exact p
  · have h1' := of_decide_eq_false h1
    walk_at "es"
    refine ⟨fun h2 => ?_, fun h2 => ?_⟩
    · have h2' := of_decide_eq_true h2
      walk_at "es"
      unfold sgn at p
      rw [if_neg h1', if_pos h2'] at p
      exact p
    · have h2' := of_decide_eq_false h2
      walk_at "es"
      unfold sgn at p
      rw [if_neg h1', if_neg h2'] at p
      exact p
theorem run_tTf {K : PySem.W.Frag} (as : List Sl) (Post : Re → List Sl → Prop) (h : ap_tf as Post) : WS K [] (tTf K) (as ++ List.replicate (6 - as.length) .un) ⟨fun G => Post (.val .non) (exitArgs [] G as), fun r G => Post r (exitArgs [] G as), fun _ => False, fun _ => False⟩ := by
  obtain ⟨a, b, r, rfl, a0, a1, b0, b1, r0, r1, p⟩ := h
  unfold tTf
  show WS K [] _ [.val (.int a), .val (.int b), .val (.int r), .un, .un, .un] _
  unfold tf at p
  walk_at "es"
  refine ⟨fun h1 => ?_, fun h1 => ?_⟩
  · walk_at "es"
    rw [if_pos (of_decide_eq_true h1)] at p
    exact p
  · rw [if_neg (of_decide_eq_false h1)] at p
    walk_at "es"
    refine ⟨fun h2 => ?_, fun h2 => ?_⟩
    · walk_at "es"
      rw [if_pos (of_decide_eq_true h2)] at p
      exact p
    · rw [if_neg (of_decide_eq_false h2)] at p
      walk_at "es"
      exact p
theorem run_tArc {K : PySem.W.Frag} (as : List Sl) (Post : Re → List Sl → Prop) (h : ap_arc as Post) : WS K [] (tArc K ap_tf) (as ++ List.replicate (6 - as.length) .un) ⟨fun G => Post (.val .non) (exitArgs [] G as), fun r G => Post r (exitArgs [] G as), fun _ => False, fun _ => False⟩ := by
  obtain ⟨x, y, r, rfl, r0, r1, p⟩ := h
  unfold tArc
  show WS K [] _ [.val (prD x), .val (prD y), .val (.int r), .un, .un, .un] _
  walk_at "es"
  refine while_ab (fun m G => ∃ i : Nat, (i : Int) ≤ 2 * r ∧ (m : Int) = 2 * r - i ∧ G = [.val (prD x), .val (prD y), .val (.int r), .val (.int (stA r i).1), .val (.int (stA r i).2), .acc ((List.range i).map fun i => prD (if mvA r i then x else y))]) (2 * r).toNat ⟨0, by omega, by omega, rfl⟩ ?_
  rintro m G ⟨i, hi, hm, rfl⟩
  obtain ⟨a0, a1, b0, b1, hab⟩ := st_ok (by omega) i hi
  have hlen : ((List.range i).map fun i => prD (if mvA r i then x else y)).length < 1000000 := by rw [List.length_map, List.length_range]; omega
  have esn : ∀ z, prD (if mvA r i then x else y) = z → ((List.range i).map fun i => prD (if mvA r i then x else y)) ++ [z] = (List.range (i + 1)).map fun i => prD (if mvA r i then x else y) := fun z hz => by
    rw [List.range_succ, List.map_append, ← hz]; rfl
  refine wt_mono (P := fun b G => Hold (b = decide ((i : Int) < 2 * r) ∧ G = [.val (prD x), .val (prD y), .val (.int r), .val (.int (stA r i).1), .val (.int (stA r i).2), .acc ((List.range i).map fun i => prD (if mvA r i then x else y))])) ?_ ?_
  · walk_at "es"
    refine ⟨fun h1 => ?_, fun h1 => ?_⟩
    · have h1' := of_decide_eq_false h1
      walk_at "es"
      refine .a ⟨?_, rfl⟩
      rw [Bool.eq_iff_iff, decide_eq_true_eq, decide_eq_true_eq]
      omega
    · have h1' := of_decide_eq_true h1
      refine .a ⟨?_, rfl⟩
      rw [eq_comm, decide_eq_true_eq]
      omega
  rintro b G hb
  obtain ⟨rfl, rfl⟩ := hb.get
  refine ⟨fun hlt => ?_, fun hlt => ?_⟩
  · have hlt' := of_decide_eq_true hlt
    walk_at "es"
    refine .a ⟨_, _, _, rfl, a0, by omega, b0, by omega, by omega, r1, ?_⟩
    walk_at "es"
    refine ⟨fun ht => ?_, fun ht => ?_⟩
    · walk_at "es"
      refine .a ⟨m - 1, by omega, i + 1, by omega, by omega, ?_⟩
      rw [← esn (prD x) (by unfold mvA; rw [ht]; rfl), stA, ht]
      rfl
    · walk_at "es"
      refine .a ⟨m - 1, by omega, i + 1, by omega, by omega, ?_⟩
      rw [← esn (prD y) (by unfold mvA; rw [ht]; rfl), stA, ht]
      rfl
  · have hlt' := of_decide_eq_false hlt
    have ei : i = (2 * r).toNat := by omega
    subst ei
    walk_at "es"
    exact p
theorem range_snoc {α : Type} (f : Nat → α) (i : Nat) : (List.range i).map f ++ [f i] = (List.range (i + 1)).map f := by
  rw [List.range_succ, List.map_append]; rfl
def stepAt (dx dy : Int) (k : Nat) : Dt := if lv dx dy k < lv dx dy (k + 1) then .tup [.int (sgn dx), .int 0] else .tup [.int 0, .int (sgn dy)]
theorem step_dt (dx dy : Int) (k : Nat) : prD (stepI dx dy k) = stepAt dx dy k := by
  unfold stepI stepAt
  split <;> rfl
def stepsD (dx dy : Int) : List Dt := (List.range (ab dx + ab dy).toNat).map (stepAt dx dy)
theorem line_dt (dx dy : Int) : (lineI dx dy).map prD = stepsD dx dy := by
  unfold lineI stepsD
  rw [List.map_map]
  congr 1
  funext k
  exact step_dt dx dy k
theorem run_tLine {K : PySem.W.Frag} (as : List Sl) (Post : Re → List Sl → Prop) (h : ap_line as Post) : WS K [] (tLine K ap_sign) (as ++ List.replicate (6 - as.length) .un) ⟨fun G => Post (.val .non) (exitArgs [] G as), fun r G => Post r (exitArgs [] G as), fun _ => False, fun _ => False⟩ := by
  obtain ⟨dx, dy, rfl, ⟨h1, h2, h3, h4, h5⟩, p⟩ := h
  rw [line_dt] at p
  unfold tLine
  show WS K [] _ [.val (.int dx), .val (.int dy), .un, .un, .un, .un] _
  have a0 := ab_nonneg dx
  have a1 := ab_nonneg dy
  have a2 := ab_lt (n := dx) (b := 1000) (by omega) (by omega)
  have a3 := ab_lt (n := dy) (b := 1000) (by omega) (by omega)
  have a4 : 0 < ab dx + ab dy := by unfold ab; split <;> split <;> omega
  refine ws_cut (fun G => G = [.val (.int dx), .val (.int dy), .val (.int (ab dx)), .un, .un, .un]) ?_ ?_
  · walk_at "es"
    exact .a rfl
  rintro G rfl
  refine ws_cut (fun G => G = [.val (.int dx), .val (.int dy), .val (.int (ab dx)), .val (.int (ab dx + ab dy)), .un, .un]) ?_ ?_
  · walk_at "es"
    exact .a rfl
  rintro G rfl
  walk_at "e"; walk_at "e"; walk_at "e"; walk_at "e"; walk_at "e"
  refine ws_cut (fun G => ∃ s, G = [.val (.int dx), .val (.int dy), .val (.int (ab dx)), .val (.int (ab dx + ab dy)), .acc (stepsD dx dy), s]) ?_ ?_
  · refine for_range1 (ab dx + ab dy) (fun i G => ∃ s, G = [.val (.int dx), .val (.int dy), .val (.int (ab dx)), .val (.int (ab dx + ab dy)), .acc ((List.range i).map (stepAt dx dy)), s]) ?_ ?_ ?_
    · walk_at "es"
      exact .a ⟨rfl, by omega, by omega, _, rfl⟩
    · rintro i G hi ⟨s, rfl⟩
      walk_at "es"
      have el : lv dx dy i < lv dx dy (i + 1) ↔ (i : Int) * ab dx / (ab dx + ab dy) < ((i : Int) + 1) * ab dx / (ab dx + ab dy) := by
        unfold lv
        rw [show ((i + 1 : Nat) : Int) = (i : Int) + 1 by omega]
      have hlen : ((List.range i).map (stepAt dx dy)).length < 1000000 := by
        rw [List.length_map, List.length_range]; omega
      refine ⟨fun h => ?_, fun h => ?_⟩
      · have h' := el.mpr (of_decide_eq_true h)
        walk_at "es"
        refine .a ⟨dx, rfl, ?_⟩
        walk_at "es"
        refine .a ⟨.val (.int i), ?_⟩
        rw [← range_snoc, show stepAt dx dy i = .tup [.int (sgn dx), .int 0] by unfold stepAt; rw [if_pos h']]
      · have h' := fun z => (of_decide_eq_false h) (el.mp z)
        walk_at "es"
        refine .a ⟨dy, rfl, ?_⟩
        walk_at "es"
        refine .a ⟨.val (.int i), ?_⟩
        rw [← range_snoc, show stepAt dx dy i = .tup [.int 0, .int (sgn dy)] by unfold stepAt; rw [if_neg h']]
    · rintro G ⟨s, rfl⟩
      exact .a ⟨s, rfl⟩
  · rintro G ⟨s, rfl⟩
    walk_at "es"
    exact p
theorem run_tUnit {K : PySem.W.Frag} (as : List Sl) (Post : Re → List Sl → Prop) (h : ap_unit as Post) : WS K [] (tUnit K ap_line ap_sign ap_arc) (as ++ List.replicate (6 - as.length) .un) ⟨fun G => Post (.val .non) (exitArgs [] G as), fun r G => Post r (exitArgs [] G as), fun _ => False, fun _ => False⟩ := by
  obtain ⟨st, rfl, ha, p⟩ := h
  cases st with
  | line dx dy =>
    unfold tUnit
    show WS K [] _ [.val (.tup [.str "line", .int dx, .int dy]), .un, .un, .un, .un, .un] _
    walk_at "es"
    refine eqp_s rfl ?_
    walk_at "es"
    refine .a ⟨dx, dy, rfl, ha, ?_⟩
    walk_at "es"
    exact p
  | arc s dx dy r =>
    have ha : Arc s dx dy r := ha
    have p : Post (.new ((arcI s dx dy r).map prD)) [.val (.tup [.str (sortS s), .int dx, .int dy])] := p
    show WS K [] _ [.val (.tup [.str (sortS s), .int dx, .int dy]), .un, .un, .un, .un, .un] ⟨fun G => Post (.val .non) (exitArgs [] G [.val (.tup [.str (sortS s), .int dx, .int dy])]), fun r G => Post r (exitArgs [] G [.val (.tup [.str (sortS s), .int dx, .int dy])]), fun _ => False, fun _ => False⟩
    have e1 := (ab_arc ha).1
    have hr0 := ha.r0
    have hr1 := ha.r1
    rcases sort_cases ha.hs with ⟨rfl, es⟩ | ⟨rfl, es⟩
    · rw [es] at p ⊢
      unfold tUnit
      show WS K [] _ [.val (.tup [.str "flat", .int dx, .int dy]), .un, .un, .un, .un, .un] _
      walk_at "es"
      refine eqp_s rfl ?_
      walk_at "es"
      refine .a ⟨dx, rfl, ?_⟩
      walk_at "es"
      refine .a ⟨dy, rfl, ?_⟩
      walk_at "es"
      refine eqp_s rfl ?_
      walk_at "es"
      refine .a ⟨(sgn dx, 0), (0, sgn dy), ab dx, rfl, by omega, by omega, ?_⟩
      walk_at "es"
      rw [e1]
      have : (arcI 0 dx dy r).map prD = (List.range (2 * r).toNat).map fun i => prD (if mvA r i then (sgn dx, 0) else (0, sgn dy)) := by
        unfold arcI
        rw [List.map_map]
        rfl
      rw [this] at p
      exact p
    · rw [es] at p ⊢
      unfold tUnit
      show WS K [] _ [.val (.tup [.str "steep", .int dx, .int dy]), .un, .un, .un, .un, .un] _
      walk_at "es"
      refine eqp_s rfl ?_
      walk_at "es"
      refine .a ⟨dx, rfl, ?_⟩
      walk_at "es"
      refine .a ⟨dy, rfl, ?_⟩
      walk_at "es"
      refine eqp_s rfl ?_
      walk_at "es"
      refine .a ⟨(0, sgn dy), (sgn dx, 0), ab dx, rfl, by omega, by omega, ?_⟩
      walk_at "es"
      rw [e1]
      have : (arcI 1 dx dy r).map prD = (List.range (2 * r).toNat).map fun i => prD (if mvA r i then (0, sgn dy) else (sgn dx, 0)) := by
        unfold arcI
        rw [List.map_map]
        rfl
      rw [this] at p
      exact p
end Strokes
namespace Lk27
open PySem L2 Ab
def topS (i : Nat) : Stmt := PySem.Challenge.pw_stylepages_k27_corners_of_outlines.main.body.getD i (.Pass ⟨0, 0, 0, 0⟩)
abbrev s_sign : Stmt := topS 1
abbrev N_sign : List Str := ["number"]
theorem sc_sign : FnScope ["number"] ["number"] (defScope s_sign) := ⟨rfl, rfl, rfl, by decide +kernel, rfl, by decide +kernel, by decide +kernel⟩
abbrev s_line_steps : Stmt := topS 2
abbrev N_line_steps : List Str := ["dx", "dy", "across", "length", "steps", "k"]
theorem sc_line_steps : FnScope ["dx", "dy", "across", "length", "steps", "k"] ["dx", "dy"] (defScope s_line_steps) := ⟨rfl, rfl, rfl, by decide +kernel, rfl, by decide +kernel, by decide +kernel⟩
abbrev s_takes_first_move : Stmt := topS 3
abbrev N_takes_first_move : List Str := ["a", "b", "radius", "square", "after_first", "after_second"]
theorem sc_takes_first_move : FnScope ["a", "b", "radius", "square", "after_first", "after_second"] ["a", "b", "radius"] (defScope s_takes_first_move) := ⟨rfl, rfl, rfl, by decide +kernel, rfl, by decide +kernel, by decide +kernel⟩
abbrev s_arc_steps : Stmt := topS 4
abbrev N_arc_steps : List Str := ["first", "second", "radius", "a", "b", "steps"]
theorem sc_arc_steps : FnScope ["first", "second", "radius", "a", "b", "steps"] ["first", "second", "radius"] (defScope s_arc_steps) := ⟨rfl, rfl, rfl, by decide +kernel, rfl, by decide +kernel, by decide +kernel⟩
abbrev s_unit_steps : Stmt := topS 5
abbrev N_unit_steps : List Str := ["stroke", "sort", "dx", "dy", "level", "upright"]
theorem sc_unit_steps : FnScope ["stroke", "sort", "dx", "dy", "level", "upright"] ["stroke"] (defScope s_unit_steps) := ⟨rfl, rfl, rfl, by decide +kernel, rfl, by decide +kernel, by decide +kernel⟩
abbrev s_corners : Stmt := topS 6
abbrev N_corners : List Str := ["outline", "x", "y", "strokes", "reached", "stroke", "dx", "dy"]
theorem sc_corners : FnScope ["outline", "x", "y", "strokes", "reached", "stroke", "dx", "dy"] ["outline"] (defScope s_corners) := ⟨rfl, rfl, rfl, by decide +kernel, rfl, by decide +kernel, by decide +kernel⟩
abbrev s__law_pool : Stmt := topS 8
abbrev N__law_pool : List Str := ["_law_script", "_law_at", "_law_cell"]
theorem sc__law_pool : FnScope ["_law_script", "_law_at", "_law_cell"] ["_law_script", "_law_at"] (defScope s__law_pool) := ⟨rfl, rfl, rfl, by decide +kernel, rfl, by decide +kernel, by decide +kernel⟩
abbrev s__law_take : Stmt := topS 9
abbrev N__law_take : List Str := ["_law_pool_here", "_law_many", "_law_got", "_law_one", "_law_two"]
theorem sc__law_take : FnScope ["_law_pool_here", "_law_many", "_law_got", "_law_one", "_law_two"] ["_law_pool_here", "_law_many"] (defScope s__law_take) := ⟨rfl, rfl, rfl, by decide +kernel, rfl, by decide +kernel, by decide +kernel⟩
abbrev s__law_same : Stmt := topS 10
abbrev N__law_same : List Str := ["_law_one", "_law_two", "_law_both", "_law_k"]
theorem sc__law_same : FnScope ["_law_one", "_law_two", "_law_both", "_law_k"] ["_law_one", "_law_two"] (defScope s__law_same) := ⟨rfl, rfl, rfl, by decide +kernel, rfl, by decide +kernel, by decide +kernel⟩
abbrev s__law_stroke : Stmt := topS 11
abbrev N__law_stroke : List Str := ["_law_pool_here", "_law_reach", "_law_sort", "_law_dx", "_law_dy", "_law_bend"]
theorem sc__law_stroke : FnScope ["_law_pool_here", "_law_reach", "_law_sort", "_law_dx", "_law_dy", "_law_bend"] ["_law_pool_here", "_law_reach"] (defScope s__law_stroke) := ⟨rfl, rfl, rfl, by decide +kernel, rfl, by decide +kernel, by decide +kernel⟩
abbrev s__law_outline : Stmt := topS 12
abbrev N__law_outline : List Str := ["_law_pool_here", "_law_shape", "_law_many", "_law_reach", "_law_x", "_law_y", "_law_strokes", "_law_dx", "_law_dy", "_law_k", "_law_stroke_here", "_law_one"]
theorem sc__law_outline : FnScope ["_law_pool_here", "_law_shape", "_law_many", "_law_reach", "_law_x", "_law_y", "_law_strokes", "_law_dx", "_law_dy", "_law_k", "_law_stroke_here", "_law_one"] ["_law_pool_here"] (defScope s__law_outline) := ⟨rfl, rfl, rfl, by decide +kernel, rfl, by decide +kernel, by decide +kernel⟩
abbrev s__law_sign : Stmt := topS 13
abbrev N__law_sign : List Str := ["_law_number"]
theorem sc__law_sign : FnScope ["_law_number"] ["_law_number"] (defScope s__law_sign) := ⟨rfl, rfl, rfl, by decide +kernel, rfl, by decide +kernel, by decide +kernel⟩
abbrev s__law_line_steps : Stmt := topS 14
abbrev N__law_line_steps : List Str := ["_law_dx", "_law_dy", "_law_wide", "_law_many", "_law_account", "_law_steps_here", "_law_k"]
theorem sc__law_line_steps : FnScope ["_law_dx", "_law_dy", "_law_wide", "_law_many", "_law_account", "_law_steps_here", "_law_k"] ["_law_dx", "_law_dy"] (defScope s__law_line_steps) := ⟨rfl, rfl, rfl, by decide +kernel, rfl, by decide +kernel, by decide +kernel⟩
abbrev s__law_steps : Stmt := topS 15
abbrev N__law_steps : List Str := ["_law_stroke_here", "_law_moves", "_law_bend", "_law_a", "_law_b", "_law_off", "_law_steps_here", "_law_k", "_law_along", "_law_inward"]
theorem sc__law_steps : FnScope ["_law_stroke_here", "_law_moves", "_law_bend", "_law_a", "_law_b", "_law_off", "_law_steps_here", "_law_k", "_law_along", "_law_inward"] ["_law_stroke_here"] (defScope s__law_steps) := ⟨rfl, rfl, rfl, by decide +kernel, rfl, by decide +kernel, by decide +kernel⟩
abbrev s__law_walked : Stmt := topS 16
abbrev N__law_walked : List Str := ["_law_outline_here", "_law_x", "_law_y", "_law_reached", "_law_stroke_here", "_law_step"]
theorem sc__law_walked : FnScope ["_law_outline_here", "_law_x", "_law_y", "_law_reached", "_law_stroke_here", "_law_step"] ["_law_outline_here"] (defScope s__law_walked) := ⟨rfl, rfl, rfl, by decide +kernel, rfl, by decide +kernel, by decide +kernel⟩
abbrev s_law : Stmt := topS 17
abbrev N_law : List Str := ["_law_script", "_law_pool_here", "_law_outline_here", "_law_dx", "_law_dy", "_law_due", "_law_told", "_law_x", "_law_y", "_law_moved", "_law_stroke_here", "_law_corner"]
theorem sc_law : FnScope ["_law_script", "_law_pool_here", "_law_outline_here", "_law_dx", "_law_dy", "_law_due", "_law_told", "_law_x", "_law_y", "_law_moved", "_law_stroke_here", "_law_corner"] ["_law_script"] (defScope s_law) := ⟨rfl, rfl, rfl, by decide +kernel, rfl, by decide +kernel, by decide +kernel⟩
/-- what the top has left -/
structure Txt (K : PySem.W.Frag) (mg : Str → Option Value) where
  m_abs : mg "abs" = none
  m_bool : mg "bool" = none
  m_int : mg "int" = none
  m_isinstance : mg "isinstance" = none
  m_len : mg "len" = none
  m_list : mg "list" = none
  m_min : mg "min" = none
  m_range : mg "range" = none
  m_str : mg "str" = none
  m_sum : mg "sum" = none
  m_tuple : mg "tuple" = none
  f_sign : Addr
  fd_sign : FuncData
  F_sign : Fun K "sign" "sign" s_sign f_sign fd_sign
  g_sign : mg "sign" = some (.ref f_sign)
  b_sign : Binds K fd_sign ["number"] []
  f_line_steps : Addr
  fd_line_steps : FuncData
  F_line_steps : Fun K "line_steps" "line_steps" s_line_steps f_line_steps fd_line_steps
  g_line_steps : mg "line_steps" = some (.ref f_line_steps)
  b_line_steps : Binds K fd_line_steps ["dx", "dy"] []
  f_takes_first_move : Addr
  fd_takes_first_move : FuncData
  F_takes_first_move : Fun K "takes_first_move" "takes_first_move" s_takes_first_move f_takes_first_move fd_takes_first_move
  g_takes_first_move : mg "takes_first_move" = some (.ref f_takes_first_move)
  b_takes_first_move : Binds K fd_takes_first_move ["a", "b", "radius"] []
  f_arc_steps : Addr
  fd_arc_steps : FuncData
  F_arc_steps : Fun K "arc_steps" "arc_steps" s_arc_steps f_arc_steps fd_arc_steps
  g_arc_steps : mg "arc_steps" = some (.ref f_arc_steps)
  b_arc_steps : Binds K fd_arc_steps ["first", "second", "radius"] []
  f_unit_steps : Addr
  fd_unit_steps : FuncData
  F_unit_steps : Fun K "unit_steps" "unit_steps" s_unit_steps f_unit_steps fd_unit_steps
  g_unit_steps : mg "unit_steps" = some (.ref f_unit_steps)
  b_unit_steps : Binds K fd_unit_steps ["stroke"] []
  f_corners : Addr
  fd_corners : FuncData
  F_corners : Fun K "corners" "corners" s_corners f_corners fd_corners
  g_corners : mg "corners" = some (.ref f_corners)
  b_corners : Binds K fd_corners ["outline"] []
  f__law_pool : Addr
  fd__law_pool : FuncData
  F__law_pool : Fun K "_law_pool" "_law_pool" s__law_pool f__law_pool fd__law_pool
  g__law_pool : mg "_law_pool" = some (.ref f__law_pool)
  b__law_pool : Binds K fd__law_pool ["_law_script", "_law_at"] []
  f__law_take : Addr
  fd__law_take : FuncData
  F__law_take : Fun K "_law_take" "_law_take" s__law_take f__law_take fd__law_take
  g__law_take : mg "_law_take" = some (.ref f__law_take)
  b__law_take : Binds K fd__law_take ["_law_pool_here", "_law_many"] []
  f__law_same : Addr
  fd__law_same : FuncData
  F__law_same : Fun K "_law_same" "_law_same" s__law_same f__law_same fd__law_same
  g__law_same : mg "_law_same" = some (.ref f__law_same)
  b__law_same : Binds K fd__law_same ["_law_one", "_law_two"] []
  f__law_stroke : Addr
  fd__law_stroke : FuncData
  F__law_stroke : Fun K "_law_stroke" "_law_stroke" s__law_stroke f__law_stroke fd__law_stroke
  g__law_stroke : mg "_law_stroke" = some (.ref f__law_stroke)
  b__law_stroke : Binds K fd__law_stroke ["_law_pool_here", "_law_reach"] []
  f__law_outline : Addr
  fd__law_outline : FuncData
  F__law_outline : Fun K "_law_outline" "_law_outline" s__law_outline f__law_outline fd__law_outline
  g__law_outline : mg "_law_outline" = some (.ref f__law_outline)
  b__law_outline : Binds K fd__law_outline ["_law_pool_here"] []
  f__law_sign : Addr
  fd__law_sign : FuncData
  F__law_sign : Fun K "_law_sign" "_law_sign" s__law_sign f__law_sign fd__law_sign
  g__law_sign : mg "_law_sign" = some (.ref f__law_sign)
  b__law_sign : Binds K fd__law_sign ["_law_number"] []
  f__law_line_steps : Addr
  fd__law_line_steps : FuncData
  F__law_line_steps : Fun K "_law_line_steps" "_law_line_steps" s__law_line_steps f__law_line_steps fd__law_line_steps
  g__law_line_steps : mg "_law_line_steps" = some (.ref f__law_line_steps)
  b__law_line_steps : Binds K fd__law_line_steps ["_law_dx", "_law_dy"] []
  f__law_steps : Addr
  fd__law_steps : FuncData
  F__law_steps : Fun K "_law_steps" "_law_steps" s__law_steps f__law_steps fd__law_steps
  g__law_steps : mg "_law_steps" = some (.ref f__law_steps)
  b__law_steps : Binds K fd__law_steps ["_law_stroke_here"] []
  f__law_walked : Addr
  fd__law_walked : FuncData
  F__law_walked : Fun K "_law_walked" "_law_walked" s__law_walked f__law_walked fd__law_walked
  g__law_walked : mg "_law_walked" = some (.ref f__law_walked)
  b__law_walked : Binds K fd__law_walked ["_law_outline_here"] []
  f_law : Addr
  fd_law : FuncData
  F_law : Fun K "law" "law" s_law f_law fd_law
  g_law : mg "law" = some (.ref f_law)
  b_law : Binds K fd_law ["_law_script"] []
def t_sign (K : PySem.W.Frag) : TS :=
    (tSeq (tIfS (tTest (tOp rGtI (tVar 0) (tC (.int 0)))) (tRet (tC (.int 1))) tNext)
    (tSeq (tIfS (tTest (tOp (rLtG K) (tVar 0) (tC (.int 0)))) (tRet (tUn rNegI (tC (.int 1)))) tNext)
    (tRet (tC (.int 0)))))
def t_line_steps (K : PySem.W.Frag) (ap_sign : AP) : TS :=
    (tSeq (tAsg (tCB rAbs (tCons (tVar 0) tNil)) (gName 2))
    (tSeq (tAsg (tOp (rAddG K) (tVar 2) (tCB rAbs (tCons (tVar 1) tNil))) (gName 3))
    (tSeq (tAsg (tLst tNil) (gName 4))
    (tSeq (tFor (iRng1 (tCons (tVar 3) tNil)) (gName 5) (tIfS (tTest (tOp rGtI (tOp rDivI (tOp (rMulG K) (tOp (rAddG K) (tVar 5) (tC (.int 1))) (tVar 2)) (tVar 3)) (tOp rDivI (tOp (rMulG K) (tVar 5) (tVar 2)) (tVar 3)))) (tDrop (tBM K "list" rAppend (tVar 4) (tCons (tTup (tCons (tCall (toSp K ap_sign) [] E0 (tCons (tVar 0) tNil)) (tCons (tC (.int 0)) tNil))) tNil))) (tDrop (tBM K "list" rAppend (tVar 4) (tCons (tTup (tCons (tC (.int 0)) (tCons (tCall (toSp K ap_sign) [] E0 (tCons (tVar 1) tNil)) tNil))) tNil)))))
    (tRet (tVar 4))))))
def t_takes_first_move (K : PySem.W.Frag) : TS :=
    (tSeq (tIfS (tTest (tOp (rEqG K) (tVar 0) (tC (.int 0)))) (tRet (tC (.bl true))) tNext)
    (tSeq (tIfS (tTest (tOp (rEqG K) (tVar 1) (tVar 2))) (tRet (tC (.bl false))) tNext)
    (tSeq (tAsg (tOp (rMulG K) (tVar 2) (tVar 2)) (gName 3))
    (tSeq (tAsg (tCB rAbs (tCons (tOp rSubI (tOp (rAddG K) (tOp (rMulG K) (tVar 0) (tVar 0)) (tOp (rMulG K) (tOp (rAddG K) (tVar 1) (tC (.int 1))) (tOp (rAddG K) (tVar 1) (tC (.int 1))))) (tVar 3)) tNil)) (gName 4))
    (tSeq (tAsg (tCB rAbs (tCons (tOp rSubI (tOp (rAddG K) (tOp (rMulG K) (tOp rSubI (tVar 0) (tC (.int 1))) (tOp rSubI (tVar 0) (tC (.int 1)))) (tOp (rMulG K) (tVar 1) (tVar 1))) (tVar 3)) tNil)) (gName 5))
    (tRet (tOp rLeI (tVar 4) (tVar 5))))))))
def t_arc_steps (K : PySem.W.Frag) (ap_takes_first_move : AP) : TS :=
    (tSeq (tAsg (tVar 2) (gName 3))
    (tSeq (tAsg (tC (.int 0)) (gName 4))
    (tSeq (tAsg (tLst tNil) (gName 5))
    (tSeq (tWhile (tOr (tTest (tOp rGtI (tVar 3) (tC (.int 0)))) (tTest (tOp (rLtG K) (tVar 4) (tVar 2)))) (tIfS (tB (tCall (toSp K ap_takes_first_move) [] E0 (tCons (tVar 3) (tCons (tVar 4) (tCons (tVar 2) tNil))))) (tSeq (tDrop (tBM K "list" rAppend (tVar 5) (tCons (tVar 0) tNil)))
    (tAug 4 (tC (.int 1)) (ipI fun i j => i + j))) (tSeq (tDrop (tBM K "list" rAppend (tVar 5) (tCons (tVar 1) tNil)))
    (tAug 3 (tC (.int 1)) (ipI fun i j => i - j)))))
    (tRet (tVar 5))))))
def t_unit_steps (K : PySem.W.Frag) (ap_line_steps : AP) (ap_sign : AP) (ap_arc_steps : AP) : TS :=
    (tSeq (tAsg (tVar 0) (gTup K 3 (gCons (gName 1) (gCons (gName 2) (gCons (gName 3) gNil)))))
    (tSeq (tIfS (tTest (tOp (rEqG K) (tVar 1) (tC (.str "line")))) (tRet (tCall (toSp K ap_line_steps) [] E0 (tCons (tVar 2) (tCons (tVar 3) tNil)))) tNext)
    (tSeq (tAsg (tTup (tCons (tCall (toSp K ap_sign) [] E0 (tCons (tVar 2) tNil)) (tCons (tC (.int 0)) tNil))) (gName 4))
    (tSeq (tAsg (tTup (tCons (tC (.int 0)) (tCons (tCall (toSp K ap_sign) [] E0 (tCons (tVar 3) tNil)) tNil))) (gName 5))
    (tSeq (tIfS (tTest (tOp (rEqG K) (tVar 1) (tC (.str "flat")))) (tRet (tCall (toSp K ap_arc_steps) [] E0 (tCons (tVar 4) (tCons (tVar 5) (tCons (tCB rAbs (tCons (tVar 2) tNil)) tNil))))) tNext)
    (tRet (tCall (toSp K ap_arc_steps) [] E0 (tCons (tVar 5) (tCons (tVar 4) (tCons (tCB rAbs (tCons (tVar 2) tNil)) tNil))))))))))
def t_corners (K : PySem.W.Frag) (ap_unit_steps : AP) : TS :=
    (tSeq (tAsg (tVar 0) (gTup K 3 (gCons (gName 1) (gCons (gName 2) (gCons (gName 3) gNil)))))
    (tSeq (tAsg (tLst (tCons (tTup (tCons (tVar 1) (tCons (tVar 2) tNil))) tNil)) (gName 4))
    (tSeq (tFor (iTup K (tVar 3)) (gName 5) (tFor (iList K (tCall (toSp K ap_unit_steps) [] E0 (tCons (tVar 5) tNil))) (gTup K 2 (gCons (gName 6) (gCons (gName 7) gNil))) (tSeq (tAug 1 (tVar 6) (ipI fun i j => i + j))
    (tSeq (tAug 2 (tVar 7) (ipI fun i j => i + j))
    (tDrop (tBM K "list" rAppend (tVar 4) (tCons (tTup (tCons (tVar 1) (tCons (tVar 2) tNil))) tNil)))))))
    (tRet (tVar 4)))))
def t__law_pool (K : PySem.W.Frag) : TS :=
    (tSeq (tAsg (tC (.int 0)) (gName 2))
    (tSeq (tIfS (tTest (tOp (rLtG K) (tVar 1) (tCB (rLenV K) (tCons (tVar 0) tNil)))) (tAsg (tCB rAbs (tCons (tCB rInt1 (tCons (tOp (rIx K) (tVar 0) (tVar 1)) tNil)) tNil)) (gName 2)) tNext)
    (tRet (tLst (tCons (tVar 2) (tCons (tC (.int 0)) (tCons (tCB rInt1 (tCons (tOp rGeI (tVar 2) (tOp rPowI (tC (.int 10)) (tC (.int 18)))) tNil)) (tCons (tOp rModI (tCB rInt1 (tCons (tOp (rAddG K) (tVar 2) (tOp (rMulG K) (tVar 1) (tC (.int 7919)))) tNil)) (tC (.int 2147483647))) (tCons (tC (.int 3)) tNil)))))))))
def t__law_take (K : PySem.W.Frag) : TS :=
    (tSeq (tAsg (tOp (rAddG K) (tOp (rIx K) (tVar 0) (tC (.int 1))) (tC (.int 1))) (gSub (tVar 0) (tC (.int 1)) rSetL))
    (tSeq (tIfS (tTest (tOp (rEqG K) (tOp (rIx K) (tVar 0) (tC (.int 2))) (tC (.int 1)))) (tSeq (tAsg (tOp rModI (tCB rInt1 (tCons (tOp (rIx K) (tVar 0) (tC (.int 0))) tNil)) (tVar 1)) (gName 2))
    (tSeq (tAsg (tOp rDivI (tOp (rIx K) (tVar 0) (tC (.int 0))) (tVar 1)) (gSub (tVar 0) (tC (.int 0)) rSetL))
    (tRet (tVar 2)))) tNext)
    (tSeq (tAsg (tOp rModI (tCB rInt1 (tCons (tOp (rAddG K) (tOp (rAddG K) (tOp (rMulG K) (tOp (rIx K) (tVar 0) (tC (.int 3))) (tC (.int 48271))) (tOp (rMulG K) (tOp (rIx K) (tVar 0) (tC (.int 1))) (tC (.int 69621)))) (tC (.int 11))) tNil)) (tC (.int 2147483647))) (gName 3))
    (tSeq (tAsg (tOp rModI (tCB rInt1 (tCons (tOp (rAddG K) (tOp (rAddG K) (tOp (rMulG K) (tVar 3) (tC (.int 16807))) (tOp rDivI (tVar 3) (tC (.int 65536)))) (tOp (rMulG K) (tOp (rMulG K) (tOp (rIx K) (tVar 0) (tC (.int 1))) (tOp (rIx K) (tVar 0) (tC (.int 1)))) (tC (.int 40692)))) tNil)) (tC (.int 2147483399))) (gName 4))
    (tRet (tOp rModI (tCB rInt1 (tCons (tVar 4) tNil)) (tVar 1)))))))
def t__law_same (K : PySem.W.Frag) (ap__law_same : AP) : TS :=
    (tSeq (tIfS (tOr (tB (tCB (rIsi K) (tCons (tVar 0) (tCons (tC (.ty "bool")) tNil)))) (tB (tCB (rIsi K) (tCons (tVar 1) (tCons (tC (.ty "bool")) tNil))))) (tRet (tAndV (tCB (rIsi K) (tCons (tVar 0) (tCons (tC (.ty "bool")) tNil))) (tAndV (tCB (rIsi K) (tCons (tVar 1) (tCons (tC (.ty "bool")) tNil))) (tOp (rEqG K) (tVar 0) (tVar 1))))) tNext)
    (tSeq (tIfS (tAnd (tB (tCB (rIsi K) (tCons (tVar 0) (tCons (tC (.ty "int")) tNil)))) (tB (tCB (rIsi K) (tCons (tVar 1) (tCons (tC (.ty "int")) tNil))))) (tRet (tOp (rEqG K) (tVar 0) (tVar 1))) tNext)
    (tSeq (tIfS (tAnd (tB (tCB (rIsi K) (tCons (tVar 0) (tCons (tC (.ty "str")) tNil)))) (tB (tCB (rIsi K) (tCons (tVar 1) (tCons (tC (.ty "str")) tNil))))) (tRet (tOp (rEqG K) (tVar 0) (tVar 1))) tNext)
    (tSeq (tAsg (tAndV (tCB (rIsi K) (tCons (tVar 0) (tCons (tC (.ty "tuple")) tNil))) (tCB (rIsi K) (tCons (tVar 1) (tCons (tC (.ty "tuple")) tNil)))) (gName 2))
    (tSeq (tIfS (tOr (tB (tVar 2)) (tAnd (tB (tCB (rIsi K) (tCons (tVar 0) (tCons (tC (.ty "list")) tNil)))) (tB (tCB (rIsi K) (tCons (tVar 1) (tCons (tC (.ty "list")) tNil)))))) (tSeq (tIfS (tTest (tOp (rNeG K) (tCB (rLenV K) (tCons (tVar 0) tNil)) (tCB (rLenV K) (tCons (tVar 1) tNil)))) (tRet (tC (.bl false))) tNext)
    (tSeq (tFor (iRng1 (tCons (tCB (rLenV K) (tCons (tVar 0) tNil)) tNil)) (gName 3) (tIfS (tNot (tB (tCall (toSp K ap__law_same) [] E0 (tCons (tOp (rIx K) (tVar 0) (tVar 3)) (tCons (tOp (rIx K) (tVar 1) (tVar 3)) tNil))))) (tRet (tC (.bl false))) tNext))
    (tRet (tC (.bl true))))) tNext)
    (tRet (tAndV (tIsN (tVar 0)) (tIsN (tVar 1)))))))))
def t__law_stroke (K : PySem.W.Frag) (ap__law_take : AP) : TS :=
    (tSeq (tAsg (tCall (toSp K ap__law_take) [] E0 (tCons (tVar 0) (tCons (tC (.int 3)) tNil))) (gName 2))
    (tSeq (tIfS (tTest (tOp (rEqG K) (tVar 2) (tC (.int 0)))) (tSeq (tAsg (tOp rSubI (tCall (toSp K ap__law_take) [] E0 (tCons (tVar 0) (tCons (tOp (rAddG K) (tOp (rMulG K) (tC (.int 2)) (tVar 1)) (tC (.int 1))) tNil))) (tVar 1)) (gName 3))
    (tSeq (tAsg (tOp rSubI (tCall (toSp K ap__law_take) [] E0 (tCons (tVar 0) (tCons (tOp (rAddG K) (tOp (rMulG K) (tC (.int 2)) (tVar 1)) (tC (.int 1))) tNil))) (tVar 1)) (gName 4))
    (tRet (tTup (tCons (tC (.str "line")) (tCons (tOp (rAddG K) (tVar 3) (tCB rInt1 (tCons (tAndV (tOp (rEqG K) (tVar 3) (tC (.int 0))) (tOp (rEqG K) (tVar 4) (tC (.int 0)))) tNil))) (tCons (tVar 4) tNil))))))) tNext)
    (tSeq (tAsg (tOp (rAddG K) (tC (.int 1)) (tCall (toSp K ap__law_take) [] E0 (tCons (tVar 0) (tCons (tCB rMn2 (tCons (tC (.int 12)) (tCons (tVar 1) tNil))) tNil)))) (gName 5))
    (tSeq (tAsg (tOp (rMulG K) (tVar 5) (tOp rSubI (tC (.int 1)) (tOp (rMulG K) (tC (.int 2)) (tCall (toSp K ap__law_take) [] E0 (tCons (tVar 0) (tCons (tC (.int 2)) tNil)))))) (gName 3))
    (tSeq (tAsg (tOp (rMulG K) (tVar 5) (tOp rSubI (tC (.int 1)) (tOp (rMulG K) (tC (.int 2)) (tCall (toSp K ap__law_take) [] E0 (tCons (tVar 0) (tCons (tC (.int 2)) tNil)))))) (gName 4))
    (tRet (tTup (tCons (tOp (rIx K) (tLst (tCons (tC (.str "flat")) (tCons (tC (.str "steep")) tNil))) (tOp rSubI (tVar 2) (tC (.int 1)))) (tCons (tVar 3) (tCons (tVar 4) tNil))))))))))
def t__law_outline (K : PySem.W.Frag) (ap__law_take : AP) (ap__law_stroke : AP) : TS :=
    (tSeq (tAsg (tCall (toSp K ap__law_take) [] E0 (tCons (tVar 0) (tCons (tC (.int 4)) tNil))) (gName 1))
    (tSeq (tAsg (tOp (rAddG K) (tC (.int 1)) (tCall (toSp K ap__law_take) [] E0 (tCons (tVar 0) (tCons (tC (.int 12)) tNil)))) (gName 2))
    (tSeq (tAsg (tOp (rIx K) (tLst (tCons (tC (.int 20)) (tCons (tC (.int 5)) (tCons (tC (.int 5)) tNil)))) (tCall (toSp K ap__law_take) [] E0 (tCons (tVar 0) (tCons (tC (.int 3)) tNil)))) (gName 3))
    (tSeq (tAsg (tOp rSubI (tCall (toSp K ap__law_take) [] E0 (tCons (tVar 0) (tCons (tC (.int 61)) tNil))) (tC (.int 20))) (gName 4))
    (tSeq (tAsg (tOp rSubI (tCall (toSp K ap__law_take) [] E0 (tCons (tVar 0) (tCons (tC (.int 61)) tNil))) (tC (.int 20))) (gName 5))
    (tSeq (tIfS (tTest (tOp (rEqG K) (tVar 1) (tC (.int 0)))) (tAsg (tCB rMn2 (tCons (tVar 2) (tCons (tC (.int 6)) tNil))) (gName 2)) tNext)
    (tSeq (tIfS (tTest (tOp (rEqG K) (tVar 1) (tC (.int 1)))) (tSeq (tAsg (tCB rMn2 (tCons (tVar 2) (tCons (tC (.int 4)) tNil))) (gName 2))
    (tAsg (tC (.int 5)) (gName 3))) tNext)
    (tSeq (tAsg (tLc (iRng1 (tCons (tVar 2) tNil)) (gName 9) tYes (tCall (toSp K ap__law_stroke) [] E0 (tCons (tVar 0) (tCons (tVar 3) tNil))) [9]) (gName 6))
    (tSeq (tAsg (tCB (rSum K) (tCons (tLc (iList K (tVar 6)) (gName 10) tYes (tOp (rIx K) (tVar 10) (tC (.int 1))) [10]) tNil)) (gName 7))
    (tSeq (tAsg (tCB (rSum K) (tCons (tLc (iList K (tVar 6)) (gName 10) tYes (tOp (rIx K) (tVar 10) (tC (.int 2))) [10]) tNil)) (gName 8))
    (tSeq (tIfS (tTest (tOp (rEqG K) (tVar 1) (tC (.int 0)))) (tAsg (tOp (rAddG K) (tVar 6) (tLc (iList K (tVar 6)) (gName 11) tYes (tTup (tCons (tOp (rIx K) (tVar 11) (tC (.int 0))) (tCons (tUn rNegI (tOp (rIx K) (tVar 11) (tC (.int 1)))) (tCons (tUn rNegI (tOp (rIx K) (tVar 11) (tC (.int 2)))) tNil)))) [11])) (gName 6)) tNext)
    (tSeq (tIfS (tAnd (tTest (tOp (rEqG K) (tVar 1) (tC (.int 1)))) (tOr (tTest (tOp (rNeG K) (tVar 7) (tC (.int 0)))) (tTest (tOp (rNeG K) (tVar 8) (tC (.int 0)))))) (tDrop (tBM K "list" rAppend (tVar 6) (tCons (tTup (tCons (tC (.str "line")) (tCons (tUn rNegI (tVar 7)) (tCons (tUn rNegI (tVar 8)) tNil)))) tNil))) tNext)
    (tRet (tTup (tCons (tVar 4) (tCons (tVar 5) (tCons (tCB (rTupleOf K) (tCons (tVar 6) tNil)) tNil)))))))))))))))))
def t__law_sign (K : PySem.W.Frag) : TS :=
    (tRet (tOp rSubI (tCB rInt1 (tCons (tOp rGtI (tVar 0) (tC (.int 0))) tNil)) (tCB rInt1 (tCons (tOp (rLtG K) (tVar 0) (tC (.int 0))) tNil))))
def t__law_line_steps (K : PySem.W.Frag) (ap__law_sign : AP) : TS :=
    (tSeq (tAsg (tCB rAbs (tCons (tVar 0) tNil)) (gName 2))
    (tSeq (tAsg (tOp (rAddG K) (tVar 2) (tCB rAbs (tCons (tVar 1) tNil))) (gName 3))
    (tSeq (tAsg (tC (.int 0)) (gName 4))
    (tSeq (tAsg (tLst tNil) (gName 5))
    (tSeq (tFor (iRng1 (tCons (tVar 3) tNil)) (gName 6) (tSeq (tAsg (tOp (rAddG K) (tVar 4) (tVar 2)) (gName 4))
    (tIfS (tTest (tOp rGeI (tVar 4) (tVar 3))) (tSeq (tAsg (tOp rSubI (tVar 4) (tVar 3)) (gName 4))
    (tDrop (tBM K "list" rAppend (tVar 5) (tCons (tTup (tCons (tCall (toSp K ap__law_sign) [] E0 (tCons (tVar 0) tNil)) (tCons (tC (.int 0)) tNil))) tNil)))) (tDrop (tBM K "list" rAppend (tVar 5) (tCons (tTup (tCons (tC (.int 0)) (tCons (tCall (toSp K ap__law_sign) [] E0 (tCons (tVar 1) tNil)) tNil))) tNil))))))
    (tRet (tVar 5)))))))
def t__law_steps (K : PySem.W.Frag) (ap__law_line_steps : AP) (ap__law_sign : AP) : TS :=
    (tSeq (tIfS (tTest (tOp (rEqG K) (tOp (rIx K) (tVar 0) (tC (.int 0))) (tC (.str "line")))) (tRet (tCall (toSp K ap__law_line_steps) [] E0 (tCons (tOp (rIx K) (tVar 0) (tC (.int 1))) (tCons (tOp (rIx K) (tVar 0) (tC (.int 2))) tNil)))) tNext)
    (tSeq (tAsg (tLst (tCons (tTup (tCons (tCall (toSp K ap__law_sign) [] E0 (tCons (tOp (rIx K) (tVar 0) (tC (.int 1))) tNil)) (tCons (tC (.int 0)) tNil))) (tCons (tTup (tCons (tC (.int 0)) (tCons (tCall (toSp K ap__law_sign) [] E0 (tCons (tOp (rIx K) (tVar 0) (tC (.int 2))) tNil)) tNil))) tNil))) (gName 1))
    (tSeq (tIfS (tTest (tOp (rEqG K) (tOp (rIx K) (tVar 0) (tC (.int 0))) (tC (.str "steep")))) (tDrop (tBM0 K "list" rReverse (tVar 1))) tNext)
    (tSeq (tAsg (tCB rAbs (tCons (tOp (rIx K) (tVar 0) (tC (.int 1))) tNil)) (gName 2))
    (tSeq (tAsg (tVar 2) (gName 3))
    (tSeq (tAsg (tC (.int 0)) (gName 4))
    (tSeq (tAsg (tC (.int 0)) (gName 5))
    (tSeq (tAsg (tLst tNil) (gName 6))
    (tSeq (tFor (iRng1 (tCons (tOp (rMulG K) (tC (.int 2)) (tVar 2)) tNil)) (gName 7) (tSeq (tAsg (tOp (rAddG K) (tOp (rAddG K) (tVar 5) (tOp (rMulG K) (tC (.int 2)) (tVar 4))) (tC (.int 1))) (gName 8))
    (tSeq (tAsg (tOp (rAddG K) (tOp rSubI (tVar 5) (tOp (rMulG K) (tC (.int 2)) (tVar 3))) (tC (.int 1))) (gName 9))
    (tIfS (tOr (tTest (tOp (rEqG K) (tVar 3) (tC (.int 0)))) (tAnd (tTest (tOp (rLtG K) (tVar 4) (tVar 2))) (tTest (tOp rLeI (tCB rAbs (tCons (tVar 8) tNil)) (tCB rAbs (tCons (tVar 9) tNil)))))) (tSeq (tDrop (tBM K "list" rAppend (tVar 6) (tCons (tOp (rIx K) (tVar 1) (tC (.int 0))) tNil)))
    (tSeq (tAsg (tVar 8) (gName 5))
    (tAsg (tOp (rAddG K) (tVar 4) (tC (.int 1))) (gName 4)))) (tSeq (tDrop (tBM K "list" rAppend (tVar 6) (tCons (tOp (rIx K) (tVar 1) (tC (.int 1))) tNil)))
    (tSeq (tAsg (tVar 9) (gName 5))
    (tAsg (tOp rSubI (tVar 3) (tC (.int 1))) (gName 3))))))))
    (tRet (tVar 6)))))))))))
def t__law_walked (K : PySem.W.Frag) (ap__law_steps : AP) : TS :=
    (tSeq (tAsg (tOp (rIx K) (tVar 0) (tC (.int 0))) (gName 1))
    (tSeq (tAsg (tOp (rIx K) (tVar 0) (tC (.int 1))) (gName 2))
    (tSeq (tAsg (tLst (tCons (tTup (tCons (tVar 1) (tCons (tVar 2) tNil))) tNil)) (gName 3))
    (tSeq (tFor (iTup K (tOp (rIx K) (tVar 0) (tC (.int 2)))) (gName 4) (tFor (iList K (tCall (toSp K ap__law_steps) [] E0 (tCons (tVar 4) tNil))) (gName 5) (tSeq (tAsg (tOp (rAddG K) (tVar 1) (tOp (rIx K) (tVar 5) (tC (.int 0)))) (gName 1))
    (tSeq (tAsg (tOp (rAddG K) (tVar 2) (tOp (rIx K) (tVar 5) (tC (.int 1)))) (gName 2))
    (tDrop (tBM K "list" rAppend (tVar 3) (tCons (tTup (tCons (tVar 1) (tCons (tVar 2) tNil))) tNil)))))))
    (tRet (tVar 3))))))
def t_law (K : PySem.W.Frag) (ap__law_pool : AP) (ap__law_outline : AP) (ap__law_take : AP) (ap__law_walked : AP) (ap_corners : AP) (ap__law_same : AP) : TS :=
    (tSeq (tAsg (tCall (toSp K ap__law_pool) [] E0 (tCons (tVar 0) (tCons (tC (.int 0)) tNil))) (gName 1))
    (tSeq (tAsg (tCall (toSp K ap__law_outline) [] E0 (tCons (tVar 1) tNil)) (gName 2))
    (tSeq (tAsg (tOp rSubI (tOp rSubI (tCall (toSp K ap__law_take) [] E0 (tCons (tVar 1) (tCons (tC (.int 61)) tNil))) (tC (.int 20))) (tOp (rIx K) (tVar 2) (tC (.int 0)))) (gName 3))
    (tSeq (tAsg (tOp rSubI (tOp rSubI (tCall (toSp K ap__law_take) [] E0 (tCons (tVar 1) (tCons (tC (.int 61)) tNil))) (tC (.int 20))) (tOp (rIx K) (tVar 2) (tC (.int 1)))) (gName 4))
    (tSeq (tAsg (tCall (toSp K ap__law_walked) [] E0 (tCons (tVar 2) tNil)) (gName 5))
    (tSeq (tAsg (tCall (toSp K ap_corners) [] E0 (tCons (tVar 2) tNil)) (gName 6))
    (tSeq (tIfS (tNot (tB (tCall (toSp K ap__law_same) [] E0 (tCons (tVar 6) (tCons (tVar 5) tNil))))) (tRet (tC (.bl false))) tNext)
    (tSeq (tAsg (tOp (rAddG K) (tOp (rIx K) (tVar 2) (tC (.int 0))) (tCB (rSum K) (tCons (tLc (iTup K (tOp (rIx K) (tVar 2) (tC (.int 2)))) (gName 10) tYes (tOp (rIx K) (tVar 10) (tC (.int 1))) [10]) tNil))) (gName 7))
    (tSeq (tAsg (tOp (rAddG K) (tOp (rIx K) (tVar 2) (tC (.int 1))) (tCB (rSum K) (tCons (tLc (iTup K (tOp (rIx K) (tVar 2) (tC (.int 2)))) (gName 10) tYes (tOp (rIx K) (tVar 10) (tC (.int 2))) [10]) tNil))) (gName 8))
    (tSeq (tIfS (tTest (tOp (rNeG K) (tOp (rIx K) (tVar 6) (tUn rNegI (tC (.int 1)))) (tTup (tCons (tVar 7) (tCons (tVar 8) tNil))))) (tRet (tC (.bl false))) tNext)
    (tSeq (tDrop (tBM0 K "list" rReverse (tVar 6)))
    (tSeq (tDrop (tBM K "list" rAppend (tVar 6) (tCons (tTup (tCons (tC (.int 99)) (tCons (tC (.int 99)) tNil))) tNil)))
    (tSeq (tAsg (tCall (toSp K ap_corners) [] E0 (tCons (tTup (tCons (tOp (rAddG K) (tOp (rIx K) (tVar 2) (tC (.int 0))) (tVar 3)) (tCons (tOp (rAddG K) (tOp (rIx K) (tVar 2) (tC (.int 1))) (tVar 4)) (tCons (tOp (rIx K) (tVar 2) (tC (.int 2))) tNil)))) tNil)) (gName 9))
    (tSeq (tIfS (tNot (tB (tCall (toSp K ap__law_same) [] E0 (tCons (tVar 9) (tCons (tLc (iList K (tVar 5)) (gName 11) tYes (tTup (tCons (tOp (rAddG K) (tOp (rIx K) (tVar 11) (tC (.int 0))) (tVar 3)) (tCons (tOp (rAddG K) (tOp (rIx K) (tVar 11) (tC (.int 1))) (tVar 4)) tNil))) [11]) tNil))))) (tRet (tC (.bl false))) tNext)
    (tRet (tCall (toSp K ap__law_same) [] E0 (tCons (tCall (toSp K ap_corners) [] E0 (tCons (tVar 2) tNil)) (tCons (tVar 5) tNil))))))))))))))))))
section
variable {P : Program} {w : World} {K : PySem.W.Frag} {mg : Str → Option Value} {base : Heap}
theorem tm_sign (T : Txt K mg) (cdv : Value) (A : Around) (outer : List PySem.Env) (s : Shared) (H : Hp) (E : XK) (hr : Room 0 (A.deeper (PyProof.Rows.envOfC "sign" (defScope s_sign) s.heap.objs.size T.f_sign cdv))) :
    PSs (cxOf CX0 P w K mg base ["number"] "sign" (defScope s_sign) T.f_sign cdv A outer s H E).nox (defBody s_sign) (t_sign K) :=
      (pss_cons (ps_if (pt_cmpR op_gt (pv 0) pe_int (nomark _)) (pss_one (ps_ret pe_int)) pss_nil)
      (pss_cons (ps_if (pt_cmpR (op_ltG hr.units0) (pv 0) pe_int (nomark _)) (pss_one (ps_ret (pe_un un_neg pe_int))) pss_nil)
      (pss_one (ps_ret pe_int))))
theorem tm_line_steps {ap_sign : AP} (T : Txt K mg) (G_sign : FnOk P w K mg base CX0 1 T.f_sign T.fd_sign ["number"] (toSp K ap_sign)) (cdv : Value) (A : Around) (outer : List PySem.Env) (s : Shared) (H : Hp) (E : XK) (hr : Room 1 (A.deeper (PyProof.Rows.envOfC "line_steps" (defScope s_line_steps) s.heap.objs.size T.f_line_steps cdv))) :
    PSs (cxOf CX0 P w K mg base ["dx", "dy", "across", "length", "steps", "k"] "line_steps" (defScope s_line_steps) T.f_line_steps cdv A outer s H E).nox (defBody s_line_steps) (t_line_steps K ap_sign) :=
      (pss_cons (ps_set (i := 2) sc_line_steps.nd rfl (Or.inl rfl) (pe_callB call_abs (by rfl) T.m_abs bi_abs (pa_cons (pv 0) pa_nil)))
      (pss_cons (ps_set (i := 3) sc_line_steps.nd rfl (Or.inl rfl) (pe_op op_addG (pv 2) (pe_callB call_abs (by rfl) T.m_abs bi_abs (pa_cons (pv 1) pa_nil))))
      (pss_cons (ps_set (i := 4) sc_line_steps.nd rfl (Or.inl rfl) (pe_lst pa_nil))
      (pss_cons (ps_for PassesOwn.never rfl (pi_range1 (by rfl) T.m_range (pa_cons (pv 3) pa_nil)) (pg_name (i := 5) sc_line_steps.nd rfl (Or.inl rfl)) (pss_one (ps_if (pt_cmpR op_gt (pe_op op_fdiv (pe_op op_mulG (pe_op op_addG (pv 5) pe_int) (pv 2)) (pv 3)) (pe_op op_fdiv (pe_op op_mulG (pv 5) (pv 2)) (pv 3)) (nomark _)) (pss_one (ps_expr (pe_bm PySem.F.plainAttrs_list PySem.F.slot_list_append PySem.F.type_list_append mt_append (pv 4) (pa_cons (pe_tup (pa_cons (pe_call G_sign (hr.mono (by decide)) (by rfl) T.g_sign T.F_sign.kp T.b_sign .nil pass0 (pa_cons (pv 0) pa_nil)) (pa_cons pe_int pa_nil))) pa_nil)))) (pss_one (ps_expr (pe_bm PySem.F.plainAttrs_list PySem.F.slot_list_append PySem.F.type_list_append mt_append (pv 4) (pa_cons (pe_tup (pa_cons pe_int (pa_cons (pe_call G_sign (hr.mono (by decide)) (by rfl) T.g_sign T.F_sign.kp T.b_sign .nil pass0 (pa_cons (pv 1) pa_nil)) pa_nil))) pa_nil)))))))
      (pss_one (ps_ret (pv 4)))))))
theorem tm_takes_first_move (T : Txt K mg) (cdv : Value) (A : Around) (outer : List PySem.Env) (s : Shared) (H : Hp) (E : XK) (hr : Room 0 (A.deeper (PyProof.Rows.envOfC "takes_first_move" (defScope s_takes_first_move) s.heap.objs.size T.f_takes_first_move cdv))) :
    PSs (cxOf CX0 P w K mg base ["a", "b", "radius", "square", "after_first", "after_second"] "takes_first_move" (defScope s_takes_first_move) T.f_takes_first_move cdv A outer s H E).nox (defBody s_takes_first_move) (t_takes_first_move K) :=
      (pss_cons (ps_if (pt_cmpR (op_eqG hr.units) (pv 0) pe_int (nomark _)) (pss_one (ps_ret pe_bl)) pss_nil)
      (pss_cons (ps_if (pt_cmpR (op_eqG hr.units) (pv 1) (pv 2) (nomark _)) (pss_one (ps_ret pe_bl)) pss_nil)
      (pss_cons (ps_set (i := 3) sc_takes_first_move.nd rfl (Or.inl rfl) (pe_op op_mulG (pv 2) (pv 2)))
      (pss_cons (ps_set (i := 4) sc_takes_first_move.nd rfl (Or.inl rfl) (pe_callB call_abs (by rfl) T.m_abs bi_abs (pa_cons (pe_op op_sub (pe_op op_addG (pe_op op_mulG (pv 0) (pv 0)) (pe_op op_mulG (pe_op op_addG (pv 1) pe_int) (pe_op op_addG (pv 1) pe_int))) (pv 3)) pa_nil)))
      (pss_cons (ps_set (i := 5) sc_takes_first_move.nd rfl (Or.inl rfl) (pe_callB call_abs (by rfl) T.m_abs bi_abs (pa_cons (pe_op op_sub (pe_op op_addG (pe_op op_mulG (pe_op op_sub (pv 0) pe_int) (pe_op op_sub (pv 0) pe_int)) (pe_op op_mulG (pv 1) (pv 1))) (pv 3)) pa_nil)))
      (pss_one (ps_ret (pe_cmpR op_le (pv 4) (pv 5) (nomark _)))))))))
theorem tm_arc_steps {ap_takes_first_move : AP} (T : Txt K mg) (G_takes_first_move : FnOk P w K mg base CX0 1 T.f_takes_first_move T.fd_takes_first_move ["a", "b", "radius"] (toSp K ap_takes_first_move)) (cdv : Value) (A : Around) (outer : List PySem.Env) (s : Shared) (H : Hp) (E : XK) (hr : Room 1 (A.deeper (PyProof.Rows.envOfC "arc_steps" (defScope s_arc_steps) s.heap.objs.size T.f_arc_steps cdv))) :
    PSs (cxOf CX0 P w K mg base ["first", "second", "radius", "a", "b", "steps"] "arc_steps" (defScope s_arc_steps) T.f_arc_steps cdv A outer s H E).nox (defBody s_arc_steps) (t_arc_steps K ap_takes_first_move) :=
      (pss_cons (ps_set (i := 3) sc_arc_steps.nd rfl (Or.inl rfl) (pv 2))
      (pss_cons (ps_set (i := 4) sc_arc_steps.nd rfl (Or.inl rfl) pe_int)
      (pss_cons (ps_set (i := 5) sc_arc_steps.nd rfl (Or.inl rfl) (pe_lst pa_nil))
      (pss_cons (ps_while PassesOwn.never (PW.pt (pw_or (pt_cmpR op_gt (pv 3) pe_int (nomark _)) (pw_or1 (pt_cmpR (op_ltG hr.units0) (pv 4) (pv 2) (nomark _))))) (pss_one (ps_if (pt_val (pe_call G_takes_first_move (hr.mono (by decide)) (by rfl) T.g_takes_first_move T.F_takes_first_move.kp T.b_takes_first_move .nil pass0 (pa_cons (pv 3) (pa_cons (pv 4) (pa_cons (pv 2) pa_nil))))) (pss_cons (ps_expr (pe_bm PySem.F.plainAttrs_list PySem.F.slot_list_append PySem.F.type_list_append mt_append (pv 5) (pa_cons (pv 0) pa_nil)))
      (pss_one (ps_aug (i := 4) sc_arc_steps.nd rfl (Or.inl rfl) pe_int ip_add))) (pss_cons (ps_expr (pe_bm PySem.F.plainAttrs_list PySem.F.slot_list_append PySem.F.type_list_append mt_append (pv 5) (pa_cons (pv 1) pa_nil)))
      (pss_one (ps_aug (i := 3) sc_arc_steps.nd rfl (Or.inl rfl) pe_int ip_sub))))))
      (pss_one (ps_ret (pv 5)))))))
theorem tm_unit_steps {ap_line_steps : AP} {ap_sign : AP} {ap_arc_steps : AP} (T : Txt K mg) (G_line_steps : FnOk P w K mg base CX0 2 T.f_line_steps T.fd_line_steps ["dx", "dy"] (toSp K ap_line_steps)) (G_sign : FnOk P w K mg base CX0 1 T.f_sign T.fd_sign ["number"] (toSp K ap_sign)) (G_arc_steps : FnOk P w K mg base CX0 2 T.f_arc_steps T.fd_arc_steps ["first", "second", "radius"] (toSp K ap_arc_steps)) (cdv : Value) (A : Around) (outer : List PySem.Env) (s : Shared) (H : Hp) (E : XK) (hr : Room 2 (A.deeper (PyProof.Rows.envOfC "unit_steps" (defScope s_unit_steps) s.heap.objs.size T.f_unit_steps cdv))) :
    PSs (cxOf CX0 P w K mg base ["stroke", "sort", "dx", "dy", "level", "upright"] "unit_steps" (defScope s_unit_steps) T.f_unit_steps cdv A outer s H E).nox (defBody s_unit_steps) (t_unit_steps K ap_line_steps ap_sign ap_arc_steps) :=
      (pss_cons (ps_asg (pv 0) (pg_tup (by rfl) (pgs_cons (pg_name (i := 1) sc_unit_steps.nd rfl (Or.inl rfl)) (pgs_cons (pg_name (i := 2) sc_unit_steps.nd rfl (Or.inl rfl)) (pgs_cons (pg_name (i := 3) sc_unit_steps.nd rfl (Or.inl rfl)) pgs_nil)))))
      (pss_cons (ps_if (pt_cmpR (op_eqG hr.units) (pv 1) pe_str (nomark _)) (pss_one (ps_ret (pe_call G_line_steps (hr.mono (by decide)) (by rfl) T.g_line_steps T.F_line_steps.kp T.b_line_steps .nil pass0 (pa_cons (pv 2) (pa_cons (pv 3) pa_nil))))) pss_nil)
      (pss_cons (ps_set (i := 4) sc_unit_steps.nd rfl (Or.inl rfl) (pe_tup (pa_cons (pe_call G_sign (hr.mono (by decide)) (by rfl) T.g_sign T.F_sign.kp T.b_sign .nil pass0 (pa_cons (pv 2) pa_nil)) (pa_cons pe_int pa_nil))))
      (pss_cons (ps_set (i := 5) sc_unit_steps.nd rfl (Or.inl rfl) (pe_tup (pa_cons pe_int (pa_cons (pe_call G_sign (hr.mono (by decide)) (by rfl) T.g_sign T.F_sign.kp T.b_sign .nil pass0 (pa_cons (pv 3) pa_nil)) pa_nil))))
      (pss_cons (ps_if (pt_cmpR (op_eqG hr.units) (pv 1) pe_str (nomark _)) (pss_one (ps_ret (pe_call G_arc_steps (hr.mono (by decide)) (by rfl) T.g_arc_steps T.F_arc_steps.kp T.b_arc_steps .nil pass0 (pa_cons (pv 4) (pa_cons (pv 5) (pa_cons (pe_callB call_abs (by rfl) T.m_abs bi_abs (pa_cons (pv 2) pa_nil)) pa_nil)))))) pss_nil)
      (pss_one (ps_ret (pe_call G_arc_steps (hr.mono (by decide)) (by rfl) T.g_arc_steps T.F_arc_steps.kp T.b_arc_steps .nil pass0 (pa_cons (pv 5) (pa_cons (pv 4) (pa_cons (pe_callB call_abs (by rfl) T.m_abs bi_abs (pa_cons (pv 2) pa_nil)) pa_nil)))))))))))
theorem tm_corners {ap_unit_steps : AP} (T : Txt K mg) (G_unit_steps : FnOk P w K mg base CX0 3 T.f_unit_steps T.fd_unit_steps ["stroke"] (toSp K ap_unit_steps)) (cdv : Value) (A : Around) (outer : List PySem.Env) (s : Shared) (H : Hp) (E : XK) (hr : Room 3 (A.deeper (PyProof.Rows.envOfC "corners" (defScope s_corners) s.heap.objs.size T.f_corners cdv))) :
    PSs (cxOf CX0 P w K mg base ["outline", "x", "y", "strokes", "reached", "stroke", "dx", "dy"] "corners" (defScope s_corners) T.f_corners cdv A outer s H E).nox (defBody s_corners) (t_corners K ap_unit_steps) :=
      (pss_cons (ps_asg (pv 0) (pg_tup (by rfl) (pgs_cons (pg_name (i := 1) sc_corners.nd rfl (Or.inl rfl)) (pgs_cons (pg_name (i := 2) sc_corners.nd rfl (Or.inl rfl)) (pgs_cons (pg_name (i := 3) sc_corners.nd rfl (Or.inl rfl)) pgs_nil)))))
      (pss_cons (ps_set (i := 4) sc_corners.nd rfl (Or.inl rfl) (pe_lst (pa_cons (pe_tup (pa_cons (pv 1) (pa_cons (pv 2) pa_nil))) pa_nil)))
      (pss_cons (ps_for PassesOwn.never rfl (pi_tup (pv 3)) (pg_name (i := 5) sc_corners.nd rfl (Or.inl rfl)) (pss_one (ps_for PassesOwn.never rfl (pi_list (pe_call G_unit_steps (hr.mono (by decide)) (by rfl) T.g_unit_steps T.F_unit_steps.kp T.b_unit_steps .nil pass0 (pa_cons (pv 5) pa_nil))) (pg_tup (by rfl) (pgs_cons (pg_name (i := 6) sc_corners.nd rfl (Or.inl rfl)) (pgs_cons (pg_name (i := 7) sc_corners.nd rfl (Or.inl rfl)) pgs_nil))) (pss_cons (ps_aug (i := 1) sc_corners.nd rfl (Or.inl rfl) (pv 6) ip_add)
      (pss_cons (ps_aug (i := 2) sc_corners.nd rfl (Or.inl rfl) (pv 7) ip_add)
      (pss_one (ps_expr (pe_bm PySem.F.plainAttrs_list PySem.F.slot_list_append PySem.F.type_list_append mt_append (pv 4) (pa_cons (pe_tup (pa_cons (pv 1) (pa_cons (pv 2) pa_nil))) pa_nil)))))))))
      (pss_one (ps_ret (pv 4))))))
theorem tm__law_pool (T : Txt K mg) (cdv : Value) (A : Around) (outer : List PySem.Env) (s : Shared) (H : Hp) (E : XK) (hr : Room 0 (A.deeper (PyProof.Rows.envOfC "_law_pool" (defScope s__law_pool) s.heap.objs.size T.f__law_pool cdv))) :
    PSs (cxOf CX0 P w K mg base ["_law_script", "_law_at", "_law_cell"] "_law_pool" (defScope s__law_pool) T.f__law_pool cdv A outer s H E).nox (defBody s__law_pool) (t__law_pool K) :=
      (pss_cons (ps_set (i := 2) sc__law_pool.nd rfl (Or.inl rfl) pe_int)
      (pss_cons (ps_if (pt_cmpR (op_ltG hr.units0) (pv 1) (pe_callB call_len (by rfl) T.m_len bi_len (pa_cons (pv 0) pa_nil)) (nomark _)) (pss_one (ps_set (i := 2) sc__law_pool.nd rfl (Or.inl rfl) (pe_callB call_abs (by rfl) T.m_abs bi_abs (pa_cons (pe_callTy call_int1 (by rfl) T.m_int bi_int (pa_cons (pe_ix ix_seq (pv 0) (pv 1) (fun _ _ => rfl)) pa_nil)) pa_nil)))) pss_nil)
      (pss_one (ps_ret (pe_lst (pa_cons (pv 2) (pa_cons pe_int (pa_cons (pe_callTy call_int1 (by rfl) T.m_int bi_int (pa_cons (pe_cmpR op_ge (pv 2) (pe_op op_pow pe_int pe_int) (nomark _)) pa_nil)) (pa_cons (pe_op op_mod (pe_callTy call_int1 (by rfl) T.m_int bi_int (pa_cons (pe_op op_addG (pv 2) (pe_op op_mulG (pv 1) pe_int)) pa_nil)) pe_int) (pa_cons pe_int pa_nil))))))))))
theorem tm__law_take (T : Txt K mg) (cdv : Value) (A : Around) (outer : List PySem.Env) (s : Shared) (H : Hp) (E : XK) (hr : Room 0 (A.deeper (PyProof.Rows.envOfC "_law_take" (defScope s__law_take) s.heap.objs.size T.f__law_take cdv))) :
    PSs (cxOf CX0 P w K mg base ["_law_pool_here", "_law_many", "_law_got", "_law_one", "_law_two"] "_law_take" (defScope s__law_take) T.f__law_take cdv A outer s H E).nox (defBody s__law_take) (t__law_take K) :=
      (pss_cons (ps_asg (pe_op op_addG (pe_ix ix_seq (pv 0) pe_int (fun _ _ => rfl)) pe_int) (pg_sub (pv 0) pe_int set_list))
      (pss_cons (ps_if (pt_cmpR (op_eqG hr.units) (pe_ix ix_seq (pv 0) pe_int (fun _ _ => rfl)) pe_int (nomark _)) (pss_cons (ps_set (i := 2) sc__law_take.nd rfl (Or.inl rfl) (pe_op op_mod (pe_callTy call_int1 (by rfl) T.m_int bi_int (pa_cons (pe_ix ix_seq (pv 0) pe_int (fun _ _ => rfl)) pa_nil)) (pv 1)))
      (pss_cons (ps_asg (pe_op op_fdiv (pe_ix ix_seq (pv 0) pe_int (fun _ _ => rfl)) (pv 1)) (pg_sub (pv 0) pe_int set_list))
      (pss_one (ps_ret (pv 2))))) pss_nil)
      (pss_cons (ps_set (i := 3) sc__law_take.nd rfl (Or.inl rfl) (pe_op op_mod (pe_callTy call_int1 (by rfl) T.m_int bi_int (pa_cons (pe_op op_addG (pe_op op_addG (pe_op op_mulG (pe_ix ix_seq (pv 0) pe_int (fun _ _ => rfl)) pe_int) (pe_op op_mulG (pe_ix ix_seq (pv 0) pe_int (fun _ _ => rfl)) pe_int)) pe_int) pa_nil)) pe_int))
      (pss_cons (ps_set (i := 4) sc__law_take.nd rfl (Or.inl rfl) (pe_op op_mod (pe_callTy call_int1 (by rfl) T.m_int bi_int (pa_cons (pe_op op_addG (pe_op op_addG (pe_op op_mulG (pv 3) pe_int) (pe_op op_fdiv (pv 3) pe_int)) (pe_op op_mulG (pe_op op_mulG (pe_ix ix_seq (pv 0) pe_int (fun _ _ => rfl)) (pe_ix ix_seq (pv 0) pe_int (fun _ _ => rfl))) pe_int)) pa_nil)) pe_int))
      (pss_one (ps_ret (pe_op op_mod (pe_callTy call_int1 (by rfl) T.m_int bi_int (pa_cons (pv 4) pa_nil)) (pv 1))))))))
theorem tm__law_same {ap__law_same : AP} (T : Txt K mg) {k : Nat} (G__law_same : FnOk P w K mg base CX0 k T.f__law_same T.fd__law_same ["_law_one", "_law_two"] (toSp K ap__law_same)) (cdv : Value) (A : Around) (outer : List PySem.Env) (s : Shared) (H : Hp) (E : XK) (hr : Room k (A.deeper (PyProof.Rows.envOfC "_law_same" (defScope s__law_same) s.heap.objs.size T.f__law_same cdv))) :
    PSs (cxOf CX0 P w K mg base ["_law_one", "_law_two", "_law_both", "_law_k"] "_law_same" (defScope s__law_same) T.f__law_same cdv A outer s H E).nox (defBody s__law_same) (t__law_same K ap__law_same) :=
      (pss_cons (ps_if (PW.pt (pw_or (pt_val (pe_callB call_isi (by rfl) T.m_isinstance bi_isinstance (pa_cons (pv 0) (pa_cons (pe_bltn (v := .ty "bool") (by rfl) T.m_bool bi_bool rfl) pa_nil)))) (pw_or1 (pt_val (pe_callB call_isi (by rfl) T.m_isinstance bi_isinstance (pa_cons (pv 1) (pa_cons (pe_bltn (v := .ty "bool") (by rfl) T.m_bool bi_bool rfl) pa_nil))))))) (pss_one (ps_ret (pe_and (pe_callB call_isi (by rfl) T.m_isinstance bi_isinstance (pa_cons (pv 0) (pa_cons (pe_bltn (v := .ty "bool") (by rfl) T.m_bool bi_bool rfl) pa_nil))) (pe_and (pe_callB call_isi (by rfl) T.m_isinstance bi_isinstance (pa_cons (pv 1) (pa_cons (pe_bltn (v := .ty "bool") (by rfl) T.m_bool bi_bool rfl) pa_nil))) (pe_one (pe_cmpR (op_eqG hr.units) (pv 0) (pv 1) (nomark _))))))) pss_nil)
      (pss_cons (ps_if (PW.pt (pw_and (pt_val (pe_callB call_isi (by rfl) T.m_isinstance bi_isinstance (pa_cons (pv 0) (pa_cons (pe_bltn (v := .ty "int") (by rfl) T.m_int bi_int rfl) pa_nil)))) (pw_and1 (pt_val (pe_callB call_isi (by rfl) T.m_isinstance bi_isinstance (pa_cons (pv 1) (pa_cons (pe_bltn (v := .ty "int") (by rfl) T.m_int bi_int rfl) pa_nil))))))) (pss_one (ps_ret (pe_cmpR (op_eqG hr.units) (pv 0) (pv 1) (nomark _)))) pss_nil)
      (pss_cons (ps_if (PW.pt (pw_and (pt_val (pe_callB call_isi (by rfl) T.m_isinstance bi_isinstance (pa_cons (pv 0) (pa_cons (pe_bltn (v := .ty "str") (by rfl) T.m_str bi_str rfl) pa_nil)))) (pw_and1 (pt_val (pe_callB call_isi (by rfl) T.m_isinstance bi_isinstance (pa_cons (pv 1) (pa_cons (pe_bltn (v := .ty "str") (by rfl) T.m_str bi_str rfl) pa_nil))))))) (pss_one (ps_ret (pe_cmpR (op_eqG hr.units) (pv 0) (pv 1) (nomark _)))) pss_nil)
      (pss_cons (ps_set (i := 2) sc__law_same.nd rfl (Or.inl rfl) (pe_and (pe_callB call_isi (by rfl) T.m_isinstance bi_isinstance (pa_cons (pv 0) (pa_cons (pe_bltn (v := .ty "tuple") (by rfl) T.m_tuple bi_tuple rfl) pa_nil))) (pe_one (pe_callB call_isi (by rfl) T.m_isinstance bi_isinstance (pa_cons (pv 1) (pa_cons (pe_bltn (v := .ty "tuple") (by rfl) T.m_tuple bi_tuple rfl) pa_nil))))))
      (pss_cons (ps_if (PW.pt (pw_or (pt_val (pv 2)) (pw_or1 (PW.pt (pw_and (pt_val (pe_callB call_isi (by rfl) T.m_isinstance bi_isinstance (pa_cons (pv 0) (pa_cons (pe_bltn (v := .ty "list") (by rfl) T.m_list bi_list rfl) pa_nil)))) (pw_and1 (pt_val (pe_callB call_isi (by rfl) T.m_isinstance bi_isinstance (pa_cons (pv 1) (pa_cons (pe_bltn (v := .ty "list") (by rfl) T.m_list bi_list rfl) pa_nil)))))))))) (pss_cons (ps_if (pt_cmpR (op_neG hr.units) (pe_callB call_len (by rfl) T.m_len bi_len (pa_cons (pv 0) pa_nil)) (pe_callB call_len (by rfl) T.m_len bi_len (pa_cons (pv 1) pa_nil)) (nomark _)) (pss_one (ps_ret pe_bl)) pss_nil)
      (pss_cons (ps_for PassesOwn.never rfl (pi_range1 (by rfl) T.m_range (pa_cons (pe_callB call_len (by rfl) T.m_len bi_len (pa_cons (pv 0) pa_nil)) pa_nil)) (pg_name (i := 3) sc__law_same.nd rfl (Or.inl rfl)) (pss_one (ps_if (pt_not (pt_val (pe_call G__law_same hr (by rfl) T.g__law_same T.F__law_same.kp T.b__law_same .nil pass0 (pa_cons (pe_ix ix_seq (pv 0) (pv 3) (fun _ _ => rfl)) (pa_cons (pe_ix ix_seq (pv 1) (pv 3) (fun _ _ => rfl)) pa_nil))))) (pss_one (ps_ret pe_bl)) pss_nil)))
      (pss_one (ps_ret pe_bl)))) pss_nil)
      (pss_one (ps_ret (pe_and (pe_cmp (pc_isN (pv 0))) (pe_one (pe_cmp (pc_isN (pv 1))))))))))))
theorem tm__law_stroke {ap__law_take : AP} (T : Txt K mg) (G__law_take : FnOk P w K mg base CX0 1 T.f__law_take T.fd__law_take ["_law_pool_here", "_law_many"] (toSp K ap__law_take)) (cdv : Value) (A : Around) (outer : List PySem.Env) (s : Shared) (H : Hp) (E : XK) (hr : Room 1 (A.deeper (PyProof.Rows.envOfC "_law_stroke" (defScope s__law_stroke) s.heap.objs.size T.f__law_stroke cdv))) :
    PSs (cxOf CX0 P w K mg base ["_law_pool_here", "_law_reach", "_law_sort", "_law_dx", "_law_dy", "_law_bend"] "_law_stroke" (defScope s__law_stroke) T.f__law_stroke cdv A outer s H E).nox (defBody s__law_stroke) (t__law_stroke K ap__law_take) :=
      (pss_cons (ps_set (i := 2) sc__law_stroke.nd rfl (Or.inl rfl) (pe_call G__law_take (hr.mono (by decide)) (by rfl) T.g__law_take T.F__law_take.kp T.b__law_take .nil pass0 (pa_cons (pv 0) (pa_cons pe_int pa_nil))))
      (pss_cons (ps_if (pt_cmpR (op_eqG hr.units) (pv 2) pe_int (nomark _)) (pss_cons (ps_set (i := 3) sc__law_stroke.nd rfl (Or.inl rfl) (pe_op op_sub (pe_call G__law_take (hr.mono (by decide)) (by rfl) T.g__law_take T.F__law_take.kp T.b__law_take .nil pass0 (pa_cons (pv 0) (pa_cons (pe_op op_addG (pe_op op_mulG pe_int (pv 1)) pe_int) pa_nil))) (pv 1)))
      (pss_cons (ps_set (i := 4) sc__law_stroke.nd rfl (Or.inl rfl) (pe_op op_sub (pe_call G__law_take (hr.mono (by decide)) (by rfl) T.g__law_take T.F__law_take.kp T.b__law_take .nil pass0 (pa_cons (pv 0) (pa_cons (pe_op op_addG (pe_op op_mulG pe_int (pv 1)) pe_int) pa_nil))) (pv 1)))
      (pss_one (ps_ret (pe_tup (pa_cons pe_str (pa_cons (pe_op op_addG (pv 3) (pe_callTy call_int1 (by rfl) T.m_int bi_int (pa_cons (pe_and (pe_cmpR (op_eqG hr.units) (pv 3) pe_int (nomark _)) (pe_one (pe_cmpR (op_eqG hr.units) (pv 4) pe_int (nomark _)))) pa_nil))) (pa_cons (pv 4) pa_nil)))))))) pss_nil)
      (pss_cons (ps_set (i := 5) sc__law_stroke.nd rfl (Or.inl rfl) (pe_op op_addG pe_int (pe_call G__law_take (hr.mono (by decide)) (by rfl) T.g__law_take T.F__law_take.kp T.b__law_take .nil pass0 (pa_cons (pv 0) (pa_cons (pe_callB (call_min2 rfl) (by rfl) T.m_min bi_min (pa_cons pe_int (pa_cons (pv 1) pa_nil))) pa_nil)))))
      (pss_cons (ps_set (i := 3) sc__law_stroke.nd rfl (Or.inl rfl) (pe_op op_mulG (pv 5) (pe_op op_sub pe_int (pe_op op_mulG pe_int (pe_call G__law_take (hr.mono (by decide)) (by rfl) T.g__law_take T.F__law_take.kp T.b__law_take .nil pass0 (pa_cons (pv 0) (pa_cons pe_int pa_nil)))))))
      (pss_cons (ps_set (i := 4) sc__law_stroke.nd rfl (Or.inl rfl) (pe_op op_mulG (pv 5) (pe_op op_sub pe_int (pe_op op_mulG pe_int (pe_call G__law_take (hr.mono (by decide)) (by rfl) T.g__law_take T.F__law_take.kp T.b__law_take .nil pass0 (pa_cons (pv 0) (pa_cons pe_int pa_nil)))))))
      (pss_one (ps_ret (pe_tup (pa_cons (pe_ix ix_seq (pe_lst (pa_cons pe_str (pa_cons pe_str pa_nil))) (pe_op op_sub (pv 2) pe_int) (fun _ _ => rfl)) (pa_cons (pv 3) (pa_cons (pv 4) pa_nil)))))))))))
theorem tm__law_outline {ap__law_take : AP} {ap__law_stroke : AP} (T : Txt K mg) (G__law_take : FnOk P w K mg base CX0 1 T.f__law_take T.fd__law_take ["_law_pool_here", "_law_many"] (toSp K ap__law_take)) (G__law_stroke : FnOk P w K mg base CX0 2 T.f__law_stroke T.fd__law_stroke ["_law_pool_here", "_law_reach"] (toSp K ap__law_stroke)) (cdv : Value) (A : Around) (outer : List PySem.Env) (s : Shared) (H : Hp) (E : XK) (hr : Room 2 (A.deeper (PyProof.Rows.envOfC "_law_outline" (defScope s__law_outline) s.heap.objs.size T.f__law_outline cdv))) :
    PSs (cxOf CX0 P w K mg base ["_law_pool_here", "_law_shape", "_law_many", "_law_reach", "_law_x", "_law_y", "_law_strokes", "_law_dx", "_law_dy", "_law_k", "_law_stroke_here", "_law_one"] "_law_outline" (defScope s__law_outline) T.f__law_outline cdv A outer s H E).nox (defBody s__law_outline) (t__law_outline K ap__law_take ap__law_stroke) :=
      (pss_cons (ps_set (i := 1) sc__law_outline.nd rfl (Or.inl rfl) (pe_call G__law_take (hr.mono (by decide)) (by rfl) T.g__law_take T.F__law_take.kp T.b__law_take .nil pass0 (pa_cons (pv 0) (pa_cons pe_int pa_nil))))
      (pss_cons (ps_set (i := 2) sc__law_outline.nd rfl (Or.inl rfl) (pe_op op_addG pe_int (pe_call G__law_take (hr.mono (by decide)) (by rfl) T.g__law_take T.F__law_take.kp T.b__law_take .nil pass0 (pa_cons (pv 0) (pa_cons pe_int pa_nil)))))
      (pss_cons (ps_set (i := 3) sc__law_outline.nd rfl (Or.inr rfl) (pe_ix ix_seq (pe_lst (pa_cons pe_int (pa_cons pe_int (pa_cons pe_int pa_nil)))) (pe_call G__law_take (hr.mono (by decide)) (by rfl) T.g__law_take T.F__law_take.kp T.b__law_take .nil pass0 (pa_cons (pv 0) (pa_cons pe_int pa_nil))) (fun _ _ => rfl)))
      (pss_cons (ps_set (i := 4) sc__law_outline.nd rfl (Or.inl rfl) (pe_op op_sub (pe_call G__law_take (hr.mono (by decide)) (by rfl) T.g__law_take T.F__law_take.kp T.b__law_take .nil pass0 (pa_cons (pv 0) (pa_cons pe_int pa_nil))) pe_int))
      (pss_cons (ps_set (i := 5) sc__law_outline.nd rfl (Or.inl rfl) (pe_op op_sub (pe_call G__law_take (hr.mono (by decide)) (by rfl) T.g__law_take T.F__law_take.kp T.b__law_take .nil pass0 (pa_cons (pv 0) (pa_cons pe_int pa_nil))) pe_int))
      (pss_cons (ps_if (pt_cmpR (op_eqG hr.units) (pv 1) pe_int (nomark _)) (pss_one (ps_set (i := 2) sc__law_outline.nd rfl (Or.inl rfl) (pe_callB (call_min2 rfl) (by rfl) T.m_min bi_min (pa_cons (pv 2) (pa_cons pe_int pa_nil))))) pss_nil)
      (pss_cons (ps_if (pt_cmpR (op_eqG hr.units) (pv 1) pe_int (nomark _)) (pss_cons (ps_set (i := 2) sc__law_outline.nd rfl (Or.inl rfl) (pe_callB (call_min2 rfl) (by rfl) T.m_min bi_min (pa_cons (pv 2) (pa_cons pe_int pa_nil))))
      (pss_one (ps_set (i := 3) sc__law_outline.nd rfl (Or.inr rfl) pe_int))) pss_nil)
      (pss_cons (ps_setLc (i := 6) (own := [("_law_k", 9)]) (g := (gName 9)) (tt := tYes) (by rfl) sc__law_outline.nd rfl rfl (sw_true rfl rfl rfl (by decide +kernel)) (pi_range1 (by rfl) T.m_range (pa_cons (pv 2) pa_nil)) (blkOk_by (own := [("_law_k", 9)]) (N := ["_law_pool_here", "_law_shape", "_law_many", "_law_reach", "_law_x", "_law_y", "_law_strokes", "_law_dx", "_law_dy", "_law_k", "_law_stroke_here", "_law_one"]) (sc := defScope s__law_outline) (by decide +kernel)) (fun _ _ _ _ _ => (pg_name (i := 9) sc__law_outline.nd rfl (Or.inl rfl))) (fun _ _ _ _ _ => pts_nil) (fun _ _ _ _ _ => (pe_call G__law_stroke (hr.mono (by decide)) (by rfl) T.g__law_stroke T.F__law_stroke.kp T.b__law_stroke .nil pass0 (pa_cons (pv 0) (pa_cons (pv 3) pa_nil)))))
      (pss_cons (ps_set (i := 7) sc__law_outline.nd rfl (Or.inl rfl) (pe_callB (cr_sum rfl) (by rfl) T.m_sum bi_sum (pa_cons (pe_lc (own := [("_law_stroke_here", 10)]) (g := (gName 10)) (tt := tYes) (by rfl) sc__law_outline.nd (pi_list (pv 6)) (blkOk_by (own := [("_law_stroke_here", 10)]) (N := ["_law_pool_here", "_law_shape", "_law_many", "_law_reach", "_law_x", "_law_y", "_law_strokes", "_law_dx", "_law_dy", "_law_k", "_law_stroke_here", "_law_one"]) (sc := defScope s__law_outline) (by decide +kernel)) (fun _ _ _ _ _ => (pg_name (i := 10) sc__law_outline.nd rfl (Or.inl rfl))) (fun _ _ _ _ _ => pts_nil) (fun _ _ _ _ _ => (pe_ix ix_seq (pv 10) pe_int (fun _ _ => rfl)))) pa_nil)))
      (pss_cons (ps_set (i := 8) sc__law_outline.nd rfl (Or.inl rfl) (pe_callB (cr_sum rfl) (by rfl) T.m_sum bi_sum (pa_cons (pe_lc (own := [("_law_stroke_here", 10)]) (g := (gName 10)) (tt := tYes) (by rfl) sc__law_outline.nd (pi_list (pv 6)) (blkOk_by (own := [("_law_stroke_here", 10)]) (N := ["_law_pool_here", "_law_shape", "_law_many", "_law_reach", "_law_x", "_law_y", "_law_strokes", "_law_dx", "_law_dy", "_law_k", "_law_stroke_here", "_law_one"]) (sc := defScope s__law_outline) (by decide +kernel)) (fun _ _ _ _ _ => (pg_name (i := 10) sc__law_outline.nd rfl (Or.inl rfl))) (fun _ _ _ _ _ => pts_nil) (fun _ _ _ _ _ => (pe_ix ix_seq (pv 10) pe_int (fun _ _ => rfl)))) pa_nil)))
      (pss_cons (ps_if (pt_cmpR (op_eqG hr.units) (pv 1) pe_int (nomark _)) (pss_one (ps_set (i := 6) sc__law_outline.nd rfl (Or.inl rfl) (pe_op op_addG (pv 6) (pe_lc (own := [("_law_one", 11)]) (g := (gName 11)) (tt := tYes) (by rfl) sc__law_outline.nd (pi_list (pv 6)) (blkOk_by (own := [("_law_one", 11)]) (N := ["_law_pool_here", "_law_shape", "_law_many", "_law_reach", "_law_x", "_law_y", "_law_strokes", "_law_dx", "_law_dy", "_law_k", "_law_stroke_here", "_law_one"]) (sc := defScope s__law_outline) (by decide +kernel)) (fun _ _ _ _ _ => (pg_name (i := 11) sc__law_outline.nd rfl (Or.inl rfl))) (fun _ _ _ _ _ => pts_nil) (fun _ _ _ _ _ => (pe_tup (pa_cons (pe_ix ix_seq (pv 11) pe_int (fun _ _ => rfl)) (pa_cons (pe_un un_neg (pe_ix ix_seq (pv 11) pe_int (fun _ _ => rfl))) (pa_cons (pe_un un_neg (pe_ix ix_seq (pv 11) pe_int (fun _ _ => rfl))) pa_nil))))))))) pss_nil)
      (pss_cons (ps_if (PW.pt (pw_and (pt_cmpR (op_eqG hr.units) (pv 1) pe_int (nomark _)) (pw_and1 (PW.pt (pw_or (pt_cmpR (op_neG hr.units) (pv 7) pe_int (nomark _)) (pw_or1 (pt_cmpR (op_neG hr.units) (pv 8) pe_int (nomark _)))))))) (pss_one (ps_expr (pe_bm PySem.F.plainAttrs_list PySem.F.slot_list_append PySem.F.type_list_append mt_append (pv 6) (pa_cons (pe_tup (pa_cons pe_str (pa_cons (pe_un un_neg (pv 7)) (pa_cons (pe_un un_neg (pv 8)) pa_nil)))) pa_nil)))) pss_nil)
      (pss_one (ps_ret (pe_tup (pa_cons (pv 4) (pa_cons (pv 5) (pa_cons (pe_callTy call_tuple_of (by rfl) T.m_tuple bi_tuple (pa_cons (pv 6) pa_nil)) pa_nil))))))))))))))))))
theorem tm__law_sign (T : Txt K mg) (cdv : Value) (A : Around) (outer : List PySem.Env) (s : Shared) (H : Hp) (E : XK) (hr : Room 0 (A.deeper (PyProof.Rows.envOfC "_law_sign" (defScope s__law_sign) s.heap.objs.size T.f__law_sign cdv))) :
    PSs (cxOf CX0 P w K mg base ["_law_number"] "_law_sign" (defScope s__law_sign) T.f__law_sign cdv A outer s H E).nox (defBody s__law_sign) (t__law_sign K) :=
      (pss_one (ps_ret (pe_op op_sub (pe_callTy call_int1 (by rfl) T.m_int bi_int (pa_cons (pe_cmpR op_gt (pv 0) pe_int (nomark _)) pa_nil)) (pe_callTy call_int1 (by rfl) T.m_int bi_int (pa_cons (pe_cmpR (op_ltG hr.units0) (pv 0) pe_int (nomark _)) pa_nil)))))
theorem tm__law_line_steps {ap__law_sign : AP} (T : Txt K mg) (G__law_sign : FnOk P w K mg base CX0 1 T.f__law_sign T.fd__law_sign ["_law_number"] (toSp K ap__law_sign)) (cdv : Value) (A : Around) (outer : List PySem.Env) (s : Shared) (H : Hp) (E : XK) (hr : Room 1 (A.deeper (PyProof.Rows.envOfC "_law_line_steps" (defScope s__law_line_steps) s.heap.objs.size T.f__law_line_steps cdv))) :
    PSs (cxOf CX0 P w K mg base ["_law_dx", "_law_dy", "_law_wide", "_law_many", "_law_account", "_law_steps_here", "_law_k"] "_law_line_steps" (defScope s__law_line_steps) T.f__law_line_steps cdv A outer s H E).nox (defBody s__law_line_steps) (t__law_line_steps K ap__law_sign) :=
      (pss_cons (ps_set (i := 2) sc__law_line_steps.nd rfl (Or.inl rfl) (pe_callB call_abs (by rfl) T.m_abs bi_abs (pa_cons (pv 0) pa_nil)))
      (pss_cons (ps_set (i := 3) sc__law_line_steps.nd rfl (Or.inl rfl) (pe_op op_addG (pv 2) (pe_callB call_abs (by rfl) T.m_abs bi_abs (pa_cons (pv 1) pa_nil))))
      (pss_cons (ps_set (i := 4) sc__law_line_steps.nd rfl (Or.inl rfl) pe_int)
      (pss_cons (ps_set (i := 5) sc__law_line_steps.nd rfl (Or.inl rfl) (pe_lst pa_nil))
      (pss_cons (ps_for PassesOwn.never rfl (pi_range1 (by rfl) T.m_range (pa_cons (pv 3) pa_nil)) (pg_name (i := 6) sc__law_line_steps.nd rfl (Or.inl rfl)) (pss_cons (ps_set (i := 4) sc__law_line_steps.nd rfl (Or.inl rfl) (pe_op op_addG (pv 4) (pv 2)))
      (pss_one (ps_if (pt_cmpR op_ge (pv 4) (pv 3) (nomark _)) (pss_cons (ps_set (i := 4) sc__law_line_steps.nd rfl (Or.inl rfl) (pe_op op_sub (pv 4) (pv 3)))
      (pss_one (ps_expr (pe_bm PySem.F.plainAttrs_list PySem.F.slot_list_append PySem.F.type_list_append mt_append (pv 5) (pa_cons (pe_tup (pa_cons (pe_call G__law_sign (hr.mono (by decide)) (by rfl) T.g__law_sign T.F__law_sign.kp T.b__law_sign .nil pass0 (pa_cons (pv 0) pa_nil)) (pa_cons pe_int pa_nil))) pa_nil))))) (pss_one (ps_expr (pe_bm PySem.F.plainAttrs_list PySem.F.slot_list_append PySem.F.type_list_append mt_append (pv 5) (pa_cons (pe_tup (pa_cons pe_int (pa_cons (pe_call G__law_sign (hr.mono (by decide)) (by rfl) T.g__law_sign T.F__law_sign.kp T.b__law_sign .nil pass0 (pa_cons (pv 1) pa_nil)) pa_nil))) pa_nil))))))))
      (pss_one (ps_ret (pv 5))))))))
theorem tm__law_steps {ap__law_line_steps : AP} {ap__law_sign : AP} (T : Txt K mg) (G__law_line_steps : FnOk P w K mg base CX0 2 T.f__law_line_steps T.fd__law_line_steps ["_law_dx", "_law_dy"] (toSp K ap__law_line_steps)) (G__law_sign : FnOk P w K mg base CX0 1 T.f__law_sign T.fd__law_sign ["_law_number"] (toSp K ap__law_sign)) (cdv : Value) (A : Around) (outer : List PySem.Env) (s : Shared) (H : Hp) (E : XK) (hr : Room 2 (A.deeper (PyProof.Rows.envOfC "_law_steps" (defScope s__law_steps) s.heap.objs.size T.f__law_steps cdv))) :
    PSs (cxOf CX0 P w K mg base ["_law_stroke_here", "_law_moves", "_law_bend", "_law_a", "_law_b", "_law_off", "_law_steps_here", "_law_k", "_law_along", "_law_inward"] "_law_steps" (defScope s__law_steps) T.f__law_steps cdv A outer s H E).nox (defBody s__law_steps) (t__law_steps K ap__law_line_steps ap__law_sign) :=
      (pss_cons (ps_if (pt_cmpR (op_eqG hr.units) (pe_ix ix_seq (pv 0) pe_int (fun _ _ => rfl)) pe_str (nomark _)) (pss_one (ps_ret (pe_call G__law_line_steps (hr.mono (by decide)) (by rfl) T.g__law_line_steps T.F__law_line_steps.kp T.b__law_line_steps .nil pass0 (pa_cons (pe_ix ix_seq (pv 0) pe_int (fun _ _ => rfl)) (pa_cons (pe_ix ix_seq (pv 0) pe_int (fun _ _ => rfl)) pa_nil))))) pss_nil)
      (pss_cons (ps_set (i := 1) sc__law_steps.nd rfl (Or.inl rfl) (pe_lst (pa_cons (pe_tup (pa_cons (pe_call G__law_sign (hr.mono (by decide)) (by rfl) T.g__law_sign T.F__law_sign.kp T.b__law_sign .nil pass0 (pa_cons (pe_ix ix_seq (pv 0) pe_int (fun _ _ => rfl)) pa_nil)) (pa_cons pe_int pa_nil))) (pa_cons (pe_tup (pa_cons pe_int (pa_cons (pe_call G__law_sign (hr.mono (by decide)) (by rfl) T.g__law_sign T.F__law_sign.kp T.b__law_sign .nil pass0 (pa_cons (pe_ix ix_seq (pv 0) pe_int (fun _ _ => rfl)) pa_nil)) pa_nil))) pa_nil))))
      (pss_cons (ps_if (pt_cmpR (op_eqG hr.units) (pe_ix ix_seq (pv 0) pe_int (fun _ _ => rfl)) pe_str (nomark _)) (pss_one (ps_expr (pe_bm0 PySem.F.plainAttrs_list PySem.F.slot_list_reverse PySem.F.type_list_reverse mt_reverse (pv 1)))) pss_nil)
      (pss_cons (ps_set (i := 2) sc__law_steps.nd rfl (Or.inl rfl) (pe_callB call_abs (by rfl) T.m_abs bi_abs (pa_cons (pe_ix ix_seq (pv 0) pe_int (fun _ _ => rfl)) pa_nil)))
      (pss_cons (ps_set (i := 3) sc__law_steps.nd rfl (Or.inl rfl) (pv 2))
      (pss_cons (ps_set (i := 4) sc__law_steps.nd rfl (Or.inl rfl) pe_int)
      (pss_cons (ps_set (i := 5) sc__law_steps.nd rfl (Or.inl rfl) pe_int)
      (pss_cons (ps_set (i := 6) sc__law_steps.nd rfl (Or.inl rfl) (pe_lst pa_nil))
      (pss_cons (ps_for PassesOwn.never rfl (pi_range1 (by rfl) T.m_range (pa_cons (pe_op op_mulG pe_int (pv 2)) pa_nil)) (pg_name (i := 7) sc__law_steps.nd rfl (Or.inl rfl)) (pss_cons (ps_set (i := 8) sc__law_steps.nd rfl (Or.inl rfl) (pe_op op_addG (pe_op op_addG (pv 5) (pe_op op_mulG pe_int (pv 4))) pe_int))
      (pss_cons (ps_set (i := 9) sc__law_steps.nd rfl (Or.inl rfl) (pe_op op_addG (pe_op op_sub (pv 5) (pe_op op_mulG pe_int (pv 3))) pe_int))
      (pss_one (ps_if (PW.pt (pw_or (pt_cmpR (op_eqG hr.units) (pv 3) pe_int (nomark _)) (pw_or1 (PW.pt (pw_and (pt_cmpR (op_ltG hr.units0) (pv 4) (pv 2) (nomark _)) (pw_and1 (pt_cmpR op_le (pe_callB call_abs (by rfl) T.m_abs bi_abs (pa_cons (pv 8) pa_nil)) (pe_callB call_abs (by rfl) T.m_abs bi_abs (pa_cons (pv 9) pa_nil)) (nomark _)))))))) (pss_cons (ps_expr (pe_bm PySem.F.plainAttrs_list PySem.F.slot_list_append PySem.F.type_list_append mt_append (pv 6) (pa_cons (pe_ix ix_seq (pv 1) pe_int (fun _ _ => rfl)) pa_nil)))
      (pss_cons (ps_set (i := 5) sc__law_steps.nd rfl (Or.inl rfl) (pv 8))
      (pss_one (ps_set (i := 4) sc__law_steps.nd rfl (Or.inl rfl) (pe_op op_addG (pv 4) pe_int))))) (pss_cons (ps_expr (pe_bm PySem.F.plainAttrs_list PySem.F.slot_list_append PySem.F.type_list_append mt_append (pv 6) (pa_cons (pe_ix ix_seq (pv 1) pe_int (fun _ _ => rfl)) pa_nil)))
      (pss_cons (ps_set (i := 5) sc__law_steps.nd rfl (Or.inl rfl) (pv 9))
      (pss_one (ps_set (i := 3) sc__law_steps.nd rfl (Or.inl rfl) (pe_op op_sub (pv 3) pe_int))))))))))
      (pss_one (ps_ret (pv 6))))))))))))
theorem tm__law_walked {ap__law_steps : AP} (T : Txt K mg) (G__law_steps : FnOk P w K mg base CX0 3 T.f__law_steps T.fd__law_steps ["_law_stroke_here"] (toSp K ap__law_steps)) (cdv : Value) (A : Around) (outer : List PySem.Env) (s : Shared) (H : Hp) (E : XK) (hr : Room 3 (A.deeper (PyProof.Rows.envOfC "_law_walked" (defScope s__law_walked) s.heap.objs.size T.f__law_walked cdv))) :
    PSs (cxOf CX0 P w K mg base ["_law_outline_here", "_law_x", "_law_y", "_law_reached", "_law_stroke_here", "_law_step"] "_law_walked" (defScope s__law_walked) T.f__law_walked cdv A outer s H E).nox (defBody s__law_walked) (t__law_walked K ap__law_steps) :=
      (pss_cons (ps_set (i := 1) sc__law_walked.nd rfl (Or.inl rfl) (pe_ix ix_seq (pv 0) pe_int (fun _ _ => rfl)))
      (pss_cons (ps_set (i := 2) sc__law_walked.nd rfl (Or.inl rfl) (pe_ix ix_seq (pv 0) pe_int (fun _ _ => rfl)))
      (pss_cons (ps_set (i := 3) sc__law_walked.nd rfl (Or.inl rfl) (pe_lst (pa_cons (pe_tup (pa_cons (pv 1) (pa_cons (pv 2) pa_nil))) pa_nil)))
      (pss_cons (ps_for PassesOwn.never rfl (pi_tup (pe_ix ix_seq (pv 0) pe_int (fun _ _ => rfl))) (pg_name (i := 4) sc__law_walked.nd rfl (Or.inl rfl)) (pss_one (ps_for PassesOwn.never rfl (pi_list (pe_call G__law_steps (hr.mono (by decide)) (by rfl) T.g__law_steps T.F__law_steps.kp T.b__law_steps .nil pass0 (pa_cons (pv 4) pa_nil))) (pg_name (i := 5) sc__law_walked.nd rfl (Or.inl rfl)) (pss_cons (ps_set (i := 1) sc__law_walked.nd rfl (Or.inl rfl) (pe_op op_addG (pv 1) (pe_ix ix_seq (pv 5) pe_int (fun _ _ => rfl))))
      (pss_cons (ps_set (i := 2) sc__law_walked.nd rfl (Or.inl rfl) (pe_op op_addG (pv 2) (pe_ix ix_seq (pv 5) pe_int (fun _ _ => rfl))))
      (pss_one (ps_expr (pe_bm PySem.F.plainAttrs_list PySem.F.slot_list_append PySem.F.type_list_append mt_append (pv 3) (pa_cons (pe_tup (pa_cons (pv 1) (pa_cons (pv 2) pa_nil))) pa_nil)))))))))
      (pss_one (ps_ret (pv 3)))))))
theorem tm_law {ap__law_pool : AP} {ap__law_outline : AP} {ap__law_take : AP} {ap__law_walked : AP} {ap_corners : AP} {ap__law_same : AP} (T : Txt K mg) (G__law_pool : FnOk P w K mg base CX0 1 T.f__law_pool T.fd__law_pool ["_law_script", "_law_at"] (toSp K ap__law_pool)) (G__law_outline : FnOk P w K mg base CX0 3 T.f__law_outline T.fd__law_outline ["_law_pool_here"] (toSp K ap__law_outline)) (G__law_take : FnOk P w K mg base CX0 1 T.f__law_take T.fd__law_take ["_law_pool_here", "_law_many"] (toSp K ap__law_take)) (G__law_walked : FnOk P w K mg base CX0 4 T.f__law_walked T.fd__law_walked ["_law_outline_here"] (toSp K ap__law_walked)) (G_corners : FnOk P w K mg base CX0 4 T.f_corners T.fd_corners ["outline"] (toSp K ap_corners)) (G__law_same : FnOk P w K mg base CX0 6 T.f__law_same T.fd__law_same ["_law_one", "_law_two"] (toSp K ap__law_same)) (cdv : Value) (A : Around) (outer : List PySem.Env) (s : Shared) (H : Hp) (E : XK) (hr : Room 6 (A.deeper (PyProof.Rows.envOfC "law" (defScope s_law) s.heap.objs.size T.f_law cdv))) :
    PSs (cxOf CX0 P w K mg base ["_law_script", "_law_pool_here", "_law_outline_here", "_law_dx", "_law_dy", "_law_due", "_law_told", "_law_x", "_law_y", "_law_moved", "_law_stroke_here", "_law_corner"] "law" (defScope s_law) T.f_law cdv A outer s H E).nox (defBody s_law) (t_law K ap__law_pool ap__law_outline ap__law_take ap__law_walked ap_corners ap__law_same) :=
      (pss_cons (ps_set (i := 1) sc_law.nd rfl (Or.inl rfl) (pe_call G__law_pool (hr.mono (by decide)) (by rfl) T.g__law_pool T.F__law_pool.kp T.b__law_pool .nil pass0 (pa_cons (pv 0) (pa_cons pe_int pa_nil))))
      (pss_cons (ps_set (i := 2) sc_law.nd rfl (Or.inl rfl) (pe_call G__law_outline (hr.mono (by decide)) (by rfl) T.g__law_outline T.F__law_outline.kp T.b__law_outline .nil pass0 (pa_cons (pv 1) pa_nil)))
      (pss_cons (ps_set (i := 3) sc_law.nd rfl (Or.inr rfl) (pe_op op_sub (pe_op op_sub (pe_call G__law_take (hr.mono (by decide)) (by rfl) T.g__law_take T.F__law_take.kp T.b__law_take .nil pass0 (pa_cons (pv 1) (pa_cons pe_int pa_nil))) pe_int) (pe_ix ix_seq (pv 2) pe_int (fun _ _ => rfl))))
      (pss_cons (ps_set (i := 4) sc_law.nd rfl (Or.inr rfl) (pe_op op_sub (pe_op op_sub (pe_call G__law_take (hr.mono (by decide)) (by rfl) T.g__law_take T.F__law_take.kp T.b__law_take .nil pass0 (pa_cons (pv 1) (pa_cons pe_int pa_nil))) pe_int) (pe_ix ix_seq (pv 2) pe_int (fun _ _ => rfl))))
      (pss_cons (ps_set (i := 5) sc_law.nd rfl (Or.inl rfl) (pe_call G__law_walked (hr.mono (by decide)) (by rfl) T.g__law_walked T.F__law_walked.kp T.b__law_walked .nil pass0 (pa_cons (pv 2) pa_nil)))
      (pss_cons (ps_set (i := 6) sc_law.nd rfl (Or.inl rfl) (pe_call G_corners (hr.mono (by decide)) (by rfl) T.g_corners T.F_corners.kp T.b_corners .nil pass0 (pa_cons (pv 2) pa_nil)))
      (pss_cons (ps_if (pt_not (pt_val (pe_call G__law_same (hr.mono (by decide)) (by rfl) T.g__law_same T.F__law_same.kp T.b__law_same .nil pass0 (pa_cons (pv 6) (pa_cons (pv 5) pa_nil))))) (pss_one (ps_ret pe_bl)) pss_nil)
      (pss_cons (ps_set (i := 7) sc_law.nd rfl (Or.inl rfl) (pe_op op_addG (pe_ix ix_seq (pv 2) pe_int (fun _ _ => rfl)) (pe_callB (cr_sum rfl) (by rfl) T.m_sum bi_sum (pa_cons (pe_lc (own := [("_law_stroke_here", 10)]) (g := (gName 10)) (tt := tYes) (by rfl) sc_law.nd (pi_tup (pe_ix ix_seq (pv 2) pe_int (fun _ _ => rfl))) (blkOk_by (own := [("_law_stroke_here", 10)]) (N := ["_law_script", "_law_pool_here", "_law_outline_here", "_law_dx", "_law_dy", "_law_due", "_law_told", "_law_x", "_law_y", "_law_moved", "_law_stroke_here", "_law_corner"]) (sc := defScope s_law) (by decide +kernel)) (fun _ _ _ _ _ => (pg_name (i := 10) sc_law.nd rfl (Or.inl rfl))) (fun _ _ _ _ _ => pts_nil) (fun _ _ _ _ _ => (pe_ix ix_seq (pv 10) pe_int (fun _ _ => rfl)))) pa_nil))))
      (pss_cons (ps_set (i := 8) sc_law.nd rfl (Or.inl rfl) (pe_op op_addG (pe_ix ix_seq (pv 2) pe_int (fun _ _ => rfl)) (pe_callB (cr_sum rfl) (by rfl) T.m_sum bi_sum (pa_cons (pe_lc (own := [("_law_stroke_here", 10)]) (g := (gName 10)) (tt := tYes) (by rfl) sc_law.nd (pi_tup (pe_ix ix_seq (pv 2) pe_int (fun _ _ => rfl))) (blkOk_by (own := [("_law_stroke_here", 10)]) (N := ["_law_script", "_law_pool_here", "_law_outline_here", "_law_dx", "_law_dy", "_law_due", "_law_told", "_law_x", "_law_y", "_law_moved", "_law_stroke_here", "_law_corner"]) (sc := defScope s_law) (by decide +kernel)) (fun _ _ _ _ _ => (pg_name (i := 10) sc_law.nd rfl (Or.inl rfl))) (fun _ _ _ _ _ => pts_nil) (fun _ _ _ _ _ => (pe_ix ix_seq (pv 10) pe_int (fun _ _ => rfl)))) pa_nil))))
      (pss_cons (ps_if (pt_cmpR (op_neG hr.units) (pe_ix ix_seq (pv 6) (pe_un un_neg pe_int) (fun _ _ => rfl)) (pe_tup (pa_cons (pv 7) (pa_cons (pv 8) pa_nil))) (nomark _)) (pss_one (ps_ret pe_bl)) pss_nil)
      (pss_cons (ps_expr (pe_bm0 PySem.F.plainAttrs_list PySem.F.slot_list_reverse PySem.F.type_list_reverse mt_reverse (pv 6)))
      (pss_cons (ps_expr (pe_bm PySem.F.plainAttrs_list PySem.F.slot_list_append PySem.F.type_list_append mt_append (pv 6) (pa_cons (pe_tup (pa_cons pe_int (pa_cons pe_int pa_nil))) pa_nil)))
      (pss_cons (ps_set (i := 9) sc_law.nd rfl (Or.inl rfl) (pe_call G_corners (hr.mono (by decide)) (by rfl) T.g_corners T.F_corners.kp T.b_corners .nil pass0 (pa_cons (pe_tup (pa_cons (pe_op op_addG (pe_ix ix_seq (pv 2) pe_int (fun _ _ => rfl)) (pv 3)) (pa_cons (pe_op op_addG (pe_ix ix_seq (pv 2) pe_int (fun _ _ => rfl)) (pv 4)) (pa_cons (pe_ix ix_seq (pv 2) pe_int (fun _ _ => rfl)) pa_nil)))) pa_nil)))
      (pss_cons (ps_if (pt_not (pt_val (pe_call G__law_same (hr.mono (by decide)) (by rfl) T.g__law_same T.F__law_same.kp T.b__law_same .nil pass0 (pa_cons (pv 9) (pa_cons (pe_lc (own := [("_law_corner", 11)]) (g := (gName 11)) (tt := tYes) (by rfl) sc_law.nd (pi_list (pv 5)) (blkOk_by (own := [("_law_corner", 11)]) (N := ["_law_script", "_law_pool_here", "_law_outline_here", "_law_dx", "_law_dy", "_law_due", "_law_told", "_law_x", "_law_y", "_law_moved", "_law_stroke_here", "_law_corner"]) (sc := defScope s_law) (by decide +kernel)) (fun _ _ _ _ _ => (pg_name (i := 11) sc_law.nd rfl (Or.inl rfl))) (fun _ _ _ _ _ => pts_nil) (fun _ _ _ _ _ => (pe_tup (pa_cons (pe_op op_addG (pe_ix ix_seq (pv 11) pe_int (fun _ _ => rfl)) (pv 3)) (pa_cons (pe_op op_addG (pe_ix ix_seq (pv 11) pe_int (fun _ _ => rfl)) (pv 4)) pa_nil))))) pa_nil))))) (pss_one (ps_ret pe_bl)) pss_nil)
      (pss_one (ps_ret (pe_call G__law_same (hr.mono (by decide)) (by rfl) T.g__law_same T.F__law_same.kp T.b__law_same .nil pass0 (pa_cons (pe_call G_corners (hr.mono (by decide)) (by rfl) T.g_corners T.F_corners.kp T.b_corners .nil pass0 (pa_cons (pv 2) pa_nil)) (pa_cons (pv 5) pa_nil)))))))))))))))))))
end
theorem txt_mk {K : PySem.W.Frag} {h : Heap} {mg : Str → Option Value} (X : K.In h) (G : h.Ns mainGlobals mg)
    {f0 : Addr} {od0 an0 : Option Addr} {sl0 : Array (Option Value)} {oc0 kV0 dc0 pm0 cd0 ct0 : Value}
    (a0 : PySem.W.nsIn K mainGlobals "sign" = some (some (.ref f0))) (l0 : K.lookup f0 = some ⟨oc0, od0, .func (PySem.W.fnOf "sign" "sign" (defArgs s_sign) (defBody s_sign) (defScope s_sign) .none kV0 dc0 pm0 an0 cd0 ct0), sl0⟩) (c0 : PySem.W.codeIn K cd0 "sign" = true) (k0 : PySem.W.keepIn K (.ref f0) = true)
    {f1 : Addr} {od1 an1 : Option Addr} {sl1 : Array (Option Value)} {oc1 kV1 dc1 pm1 cd1 ct1 : Value}
    (a1 : PySem.W.nsIn K mainGlobals "line_steps" = some (some (.ref f1))) (l1 : K.lookup f1 = some ⟨oc1, od1, .func (PySem.W.fnOf "line_steps" "line_steps" (defArgs s_line_steps) (defBody s_line_steps) (defScope s_line_steps) .none kV1 dc1 pm1 an1 cd1 ct1), sl1⟩) (c1 : PySem.W.codeIn K cd1 "line_steps" = true) (k1 : PySem.W.keepIn K (.ref f1) = true)
    {f2 : Addr} {od2 an2 : Option Addr} {sl2 : Array (Option Value)} {oc2 kV2 dc2 pm2 cd2 ct2 : Value}
    (a2 : PySem.W.nsIn K mainGlobals "takes_first_move" = some (some (.ref f2))) (l2 : K.lookup f2 = some ⟨oc2, od2, .func (PySem.W.fnOf "takes_first_move" "takes_first_move" (defArgs s_takes_first_move) (defBody s_takes_first_move) (defScope s_takes_first_move) .none kV2 dc2 pm2 an2 cd2 ct2), sl2⟩) (c2 : PySem.W.codeIn K cd2 "takes_first_move" = true) (k2 : PySem.W.keepIn K (.ref f2) = true)
    {f3 : Addr} {od3 an3 : Option Addr} {sl3 : Array (Option Value)} {oc3 kV3 dc3 pm3 cd3 ct3 : Value}
    (a3 : PySem.W.nsIn K mainGlobals "arc_steps" = some (some (.ref f3))) (l3 : K.lookup f3 = some ⟨oc3, od3, .func (PySem.W.fnOf "arc_steps" "arc_steps" (defArgs s_arc_steps) (defBody s_arc_steps) (defScope s_arc_steps) .none kV3 dc3 pm3 an3 cd3 ct3), sl3⟩) (c3 : PySem.W.codeIn K cd3 "arc_steps" = true) (k3 : PySem.W.keepIn K (.ref f3) = true)
    {f4 : Addr} {od4 an4 : Option Addr} {sl4 : Array (Option Value)} {oc4 kV4 dc4 pm4 cd4 ct4 : Value}
    (a4 : PySem.W.nsIn K mainGlobals "unit_steps" = some (some (.ref f4))) (l4 : K.lookup f4 = some ⟨oc4, od4, .func (PySem.W.fnOf "unit_steps" "unit_steps" (defArgs s_unit_steps) (defBody s_unit_steps) (defScope s_unit_steps) .none kV4 dc4 pm4 an4 cd4 ct4), sl4⟩) (c4 : PySem.W.codeIn K cd4 "unit_steps" = true) (k4 : PySem.W.keepIn K (.ref f4) = true)
    {f5 : Addr} {od5 an5 : Option Addr} {sl5 : Array (Option Value)} {oc5 kV5 dc5 pm5 cd5 ct5 : Value}
    (a5 : PySem.W.nsIn K mainGlobals "corners" = some (some (.ref f5))) (l5 : K.lookup f5 = some ⟨oc5, od5, .func (PySem.W.fnOf "corners" "corners" (defArgs s_corners) (defBody s_corners) (defScope s_corners) .none kV5 dc5 pm5 an5 cd5 ct5), sl5⟩) (c5 : PySem.W.codeIn K cd5 "corners" = true) (k5 : PySem.W.keepIn K (.ref f5) = true)
    {f6 : Addr} {od6 an6 : Option Addr} {sl6 : Array (Option Value)} {oc6 kV6 dc6 pm6 cd6 ct6 : Value}
    (a6 : PySem.W.nsIn K mainGlobals "_law_pool" = some (some (.ref f6))) (l6 : K.lookup f6 = some ⟨oc6, od6, .func (PySem.W.fnOf "_law_pool" "_law_pool" (defArgs s__law_pool) (defBody s__law_pool) (defScope s__law_pool) .none kV6 dc6 pm6 an6 cd6 ct6), sl6⟩) (c6 : PySem.W.codeIn K cd6 "_law_pool" = true) (k6 : PySem.W.keepIn K (.ref f6) = true)
    {f7 : Addr} {od7 an7 : Option Addr} {sl7 : Array (Option Value)} {oc7 kV7 dc7 pm7 cd7 ct7 : Value}
    (a7 : PySem.W.nsIn K mainGlobals "_law_take" = some (some (.ref f7))) (l7 : K.lookup f7 = some ⟨oc7, od7, .func (PySem.W.fnOf "_law_take" "_law_take" (defArgs s__law_take) (defBody s__law_take) (defScope s__law_take) .none kV7 dc7 pm7 an7 cd7 ct7), sl7⟩) (c7 : PySem.W.codeIn K cd7 "_law_take" = true) (k7 : PySem.W.keepIn K (.ref f7) = true)
    {f8 : Addr} {od8 an8 : Option Addr} {sl8 : Array (Option Value)} {oc8 kV8 dc8 pm8 cd8 ct8 : Value}
    (a8 : PySem.W.nsIn K mainGlobals "_law_same" = some (some (.ref f8))) (l8 : K.lookup f8 = some ⟨oc8, od8, .func (PySem.W.fnOf "_law_same" "_law_same" (defArgs s__law_same) (defBody s__law_same) (defScope s__law_same) .none kV8 dc8 pm8 an8 cd8 ct8), sl8⟩) (c8 : PySem.W.codeIn K cd8 "_law_same" = true) (k8 : PySem.W.keepIn K (.ref f8) = true)
    {f9 : Addr} {od9 an9 : Option Addr} {sl9 : Array (Option Value)} {oc9 kV9 dc9 pm9 cd9 ct9 : Value}
    (a9 : PySem.W.nsIn K mainGlobals "_law_stroke" = some (some (.ref f9))) (l9 : K.lookup f9 = some ⟨oc9, od9, .func (PySem.W.fnOf "_law_stroke" "_law_stroke" (defArgs s__law_stroke) (defBody s__law_stroke) (defScope s__law_stroke) .none kV9 dc9 pm9 an9 cd9 ct9), sl9⟩) (c9 : PySem.W.codeIn K cd9 "_law_stroke" = true) (k9 : PySem.W.keepIn K (.ref f9) = true)
    {f10 : Addr} {od10 an10 : Option Addr} {sl10 : Array (Option Value)} {oc10 kV10 dc10 pm10 cd10 ct10 : Value}
    (a10 : PySem.W.nsIn K mainGlobals "_law_outline" = some (some (.ref f10))) (l10 : K.lookup f10 = some ⟨oc10, od10, .func (PySem.W.fnOf "_law_outline" "_law_outline" (defArgs s__law_outline) (defBody s__law_outline) (defScope s__law_outline) .none kV10 dc10 pm10 an10 cd10 ct10), sl10⟩) (c10 : PySem.W.codeIn K cd10 "_law_outline" = true) (k10 : PySem.W.keepIn K (.ref f10) = true)
    {f11 : Addr} {od11 an11 : Option Addr} {sl11 : Array (Option Value)} {oc11 kV11 dc11 pm11 cd11 ct11 : Value}
    (a11 : PySem.W.nsIn K mainGlobals "_law_sign" = some (some (.ref f11))) (l11 : K.lookup f11 = some ⟨oc11, od11, .func (PySem.W.fnOf "_law_sign" "_law_sign" (defArgs s__law_sign) (defBody s__law_sign) (defScope s__law_sign) .none kV11 dc11 pm11 an11 cd11 ct11), sl11⟩) (c11 : PySem.W.codeIn K cd11 "_law_sign" = true) (k11 : PySem.W.keepIn K (.ref f11) = true)
    {f12 : Addr} {od12 an12 : Option Addr} {sl12 : Array (Option Value)} {oc12 kV12 dc12 pm12 cd12 ct12 : Value}
    (a12 : PySem.W.nsIn K mainGlobals "_law_line_steps" = some (some (.ref f12))) (l12 : K.lookup f12 = some ⟨oc12, od12, .func (PySem.W.fnOf "_law_line_steps" "_law_line_steps" (defArgs s__law_line_steps) (defBody s__law_line_steps) (defScope s__law_line_steps) .none kV12 dc12 pm12 an12 cd12 ct12), sl12⟩) (c12 : PySem.W.codeIn K cd12 "_law_line_steps" = true) (k12 : PySem.W.keepIn K (.ref f12) = true)
    {f13 : Addr} {od13 an13 : Option Addr} {sl13 : Array (Option Value)} {oc13 kV13 dc13 pm13 cd13 ct13 : Value}
    (a13 : PySem.W.nsIn K mainGlobals "_law_steps" = some (some (.ref f13))) (l13 : K.lookup f13 = some ⟨oc13, od13, .func (PySem.W.fnOf "_law_steps" "_law_steps" (defArgs s__law_steps) (defBody s__law_steps) (defScope s__law_steps) .none kV13 dc13 pm13 an13 cd13 ct13), sl13⟩) (c13 : PySem.W.codeIn K cd13 "_law_steps" = true) (k13 : PySem.W.keepIn K (.ref f13) = true)
    {f14 : Addr} {od14 an14 : Option Addr} {sl14 : Array (Option Value)} {oc14 kV14 dc14 pm14 cd14 ct14 : Value}
    (a14 : PySem.W.nsIn K mainGlobals "_law_walked" = some (some (.ref f14))) (l14 : K.lookup f14 = some ⟨oc14, od14, .func (PySem.W.fnOf "_law_walked" "_law_walked" (defArgs s__law_walked) (defBody s__law_walked) (defScope s__law_walked) .none kV14 dc14 pm14 an14 cd14 ct14), sl14⟩) (c14 : PySem.W.codeIn K cd14 "_law_walked" = true) (k14 : PySem.W.keepIn K (.ref f14) = true)
    {f15 : Addr} {od15 an15 : Option Addr} {sl15 : Array (Option Value)} {oc15 kV15 dc15 pm15 cd15 ct15 : Value}
    (a15 : PySem.W.nsIn K mainGlobals "law" = some (some (.ref f15))) (l15 : K.lookup f15 = some ⟨oc15, od15, .func (PySem.W.fnOf "law" "law" (defArgs s_law) (defBody s_law) (defScope s_law) .none kV15 dc15 pm15 an15 cd15 ct15), sl15⟩) (c15 : PySem.W.codeIn K cd15 "law" = true) (k15 : PySem.W.keepIn K (.ref f15) = true)
    (z_abs : PySem.W.nsIn K mainGlobals "abs" = some none)
    (z_bool : PySem.W.nsIn K mainGlobals "bool" = some none)
    (z_int : PySem.W.nsIn K mainGlobals "int" = some none)
    (z_isinstance : PySem.W.nsIn K mainGlobals "isinstance" = some none)
    (z_len : PySem.W.nsIn K mainGlobals "len" = some none)
    (z_list : PySem.W.nsIn K mainGlobals "list" = some none)
    (z_min : PySem.W.nsIn K mainGlobals "min" = some none)
    (z_range : PySem.W.nsIn K mainGlobals "range" = some none)
    (z_str : PySem.W.nsIn K mainGlobals "str" = some none)
    (z_sum : PySem.W.nsIn K mainGlobals "sum" = some none)
    (z_tuple : PySem.W.nsIn K mainGlobals "tuple" = some none)
    : ∃ T : Txt K mg, T.f_law = f15 ∧ ∀ (s : Shared) (v : Value), BindsTo s T.fd_law ⟨[v], []⟩ [("_law_script", v)] := by
  have F0 := fun_mk (st := s_sign) l0 c0 k0
  have b0 := F0.binds (ps := ["number"]) fun _ _ _ _ _ _ us hl => match us, hl with | [_], _ => rfl
  have F1 := fun_mk (st := s_line_steps) l1 c1 k1
  have b1 := F1.binds (ps := ["dx", "dy"]) fun _ _ _ _ _ _ us hl => match us, hl with | [_, _], _ => rfl
  have F2 := fun_mk (st := s_takes_first_move) l2 c2 k2
  have b2 := F2.binds (ps := ["a", "b", "radius"]) fun _ _ _ _ _ _ us hl => match us, hl with | [_, _, _], _ => rfl
  have F3 := fun_mk (st := s_arc_steps) l3 c3 k3
  have b3 := F3.binds (ps := ["first", "second", "radius"]) fun _ _ _ _ _ _ us hl => match us, hl with | [_, _, _], _ => rfl
  have F4 := fun_mk (st := s_unit_steps) l4 c4 k4
  have b4 := F4.binds (ps := ["stroke"]) fun _ _ _ _ _ _ us hl => match us, hl with | [_], _ => rfl
  have F5 := fun_mk (st := s_corners) l5 c5 k5
  have b5 := F5.binds (ps := ["outline"]) fun _ _ _ _ _ _ us hl => match us, hl with | [_], _ => rfl
  have F6 := fun_mk (st := s__law_pool) l6 c6 k6
  have b6 := F6.binds (ps := ["_law_script", "_law_at"]) fun _ _ _ _ _ _ us hl => match us, hl with | [_, _], _ => rfl
  have F7 := fun_mk (st := s__law_take) l7 c7 k7
  have b7 := F7.binds (ps := ["_law_pool_here", "_law_many"]) fun _ _ _ _ _ _ us hl => match us, hl with | [_, _], _ => rfl
  have F8 := fun_mk (st := s__law_same) l8 c8 k8
  have b8 := F8.binds (ps := ["_law_one", "_law_two"]) fun _ _ _ _ _ _ us hl => match us, hl with | [_, _], _ => rfl
  have F9 := fun_mk (st := s__law_stroke) l9 c9 k9
  have b9 := F9.binds (ps := ["_law_pool_here", "_law_reach"]) fun _ _ _ _ _ _ us hl => match us, hl with | [_, _], _ => rfl
  have F10 := fun_mk (st := s__law_outline) l10 c10 k10
  have b10 := F10.binds (ps := ["_law_pool_here"]) fun _ _ _ _ _ _ us hl => match us, hl with | [_], _ => rfl
  have F11 := fun_mk (st := s__law_sign) l11 c11 k11
  have b11 := F11.binds (ps := ["_law_number"]) fun _ _ _ _ _ _ us hl => match us, hl with | [_], _ => rfl
  have F12 := fun_mk (st := s__law_line_steps) l12 c12 k12
  have b12 := F12.binds (ps := ["_law_dx", "_law_dy"]) fun _ _ _ _ _ _ us hl => match us, hl with | [_, _], _ => rfl
  have F13 := fun_mk (st := s__law_steps) l13 c13 k13
  have b13 := F13.binds (ps := ["_law_stroke_here"]) fun _ _ _ _ _ _ us hl => match us, hl with | [_], _ => rfl
  have F14 := fun_mk (st := s__law_walked) l14 c14 k14
  have b14 := F14.binds (ps := ["_law_outline_here"]) fun _ _ _ _ _ _ us hl => match us, hl with | [_], _ => rfl
  have F15 := fun_mk (st := s_law) l15 c15 k15
  have b15 := F15.binds (ps := ["_law_script"]) fun _ _ _ _ _ _ us hl => match us, hl with | [_], _ => rfl
  exact ⟨{ m_abs := PySem.W.mg_none_of X G z_abs, m_bool := PySem.W.mg_none_of X G z_bool, m_int := PySem.W.mg_none_of X G z_int, m_isinstance := PySem.W.mg_none_of X G z_isinstance, m_len := PySem.W.mg_none_of X G z_len, m_list := PySem.W.mg_none_of X G z_list, m_min := PySem.W.mg_none_of X G z_min, m_range := PySem.W.mg_none_of X G z_range, m_str := PySem.W.mg_none_of X G z_str, m_sum := PySem.W.mg_none_of X G z_sum, m_tuple := PySem.W.mg_none_of X G z_tuple, f_sign := f0, fd_sign := _, F_sign := F0, g_sign := PySem.W.mg_of X G a0, b_sign := b0, f_line_steps := f1, fd_line_steps := _, F_line_steps := F1, g_line_steps := PySem.W.mg_of X G a1, b_line_steps := b1, f_takes_first_move := f2, fd_takes_first_move := _, F_takes_first_move := F2, g_takes_first_move := PySem.W.mg_of X G a2, b_takes_first_move := b2, f_arc_steps := f3, fd_arc_steps := _, F_arc_steps := F3, g_arc_steps := PySem.W.mg_of X G a3, b_arc_steps := b3, f_unit_steps := f4, fd_unit_steps := _, F_unit_steps := F4, g_unit_steps := PySem.W.mg_of X G a4, b_unit_steps := b4, f_corners := f5, fd_corners := _, F_corners := F5, g_corners := PySem.W.mg_of X G a5, b_corners := b5, f__law_pool := f6, fd__law_pool := _, F__law_pool := F6, g__law_pool := PySem.W.mg_of X G a6, b__law_pool := b6, f__law_take := f7, fd__law_take := _, F__law_take := F7, g__law_take := PySem.W.mg_of X G a7, b__law_take := b7, f__law_same := f8, fd__law_same := _, F__law_same := F8, g__law_same := PySem.W.mg_of X G a8, b__law_same := b8, f__law_stroke := f9, fd__law_stroke := _, F__law_stroke := F9, g__law_stroke := PySem.W.mg_of X G a9, b__law_stroke := b9, f__law_outline := f10, fd__law_outline := _, F__law_outline := F10, g__law_outline := PySem.W.mg_of X G a10, b__law_outline := b10, f__law_sign := f11, fd__law_sign := _, F__law_sign := F11, g__law_sign := PySem.W.mg_of X G a11, b__law_sign := b11, f__law_line_steps := f12, fd__law_line_steps := _, F__law_line_steps := F12, g__law_line_steps := PySem.W.mg_of X G a12, b__law_line_steps := b12, f__law_steps := f13, fd__law_steps := _, F__law_steps := F13, g__law_steps := PySem.W.mg_of X G a13, b__law_steps := b13, f__law_walked := f14, fd__law_walked := _, F__law_walked := F14, g__law_walked := PySem.W.mg_of X G a14, b__law_walked := b14, f_law := f15, fd_law := _, F_law := F15, g_law := PySem.W.mg_of X G a15, b_law := b15 }, rfl, fun s v => .of_eq rfl⟩
end Lk27
namespace Lk27
open PySem L2 Ab Strokes
local macro_rules | `(tactic| walk_at "no") => `(tactic| first
  | exact fun h => Bool.noConfusion (show true = false from h)
  | exact fun h => Bool.noConfusion (show false = true from h)
  | exact fun h => absurd (of_decide_eq_true h) (by omega)
  | exact fun h => absurd (by omega) (of_decide_eq_false h)
  | exact fun h => absurd (by omega) (nd_t h)
  | exact fun h => absurd (nd_f h) (by omega)
  | fail "no")
local macro_rules | `(tactic| walk_at "kb") => `(tactic| first | exact kb_tt | exact kb_ll | exact kb_ii | exact kb_ib | exact kb_ss | exact kb_sb | exact kb_si | exact kb_tb | exact kb_ti | exact kb_ts | exact kb_tl | exact kb_lb | exact kb_li | exact kb_ls | exact kb_lt | exact kb_is | exact kb_it | exact kb_il | exact kb_st | exact kb_sl | exact kb_bb | exact kb_bi | exact kb_nb | exact kb_ni | exact kb_ns | exact kb_nt | exact kb_nl | exact kb_bs | exact kb_bt | exact kb_bl | fail "kb")
local macro_rules | `(tactic| walk_at "norm") => `(tactic| first
  | exact (rfl : _ = ([] : List Sl))
  | ((refine' norm_cons (rfl : _ = _ :: _) ?ea ?et); (case ea => first | exact norm_v | exact norm_n | exact norm_o | exact rfl | fail "norm"); (case et => walk_at "norm"))
  | fail "norm")
local macro_rules | `(tactic| walk_at "e") => `(tactic| first
  | ((with_reducible refine' norm_intro ?hn ?_); (case hn => walk_at "norm"))
  | ((with_reducible refine' we_var ?hh ?_); (case hh => exact rfl))
  | ((with_reducible refine' we_own ?hh ?_); (case hh => exact rfl))
  | with_reducible refine we_c ?_
  | with_reducible refine we_addG ?_
  | with_reducible refine addp_i ?_
  | with_reducible refine we_opI0 ?_
  | with_reducible refine we_opI ?_
  | with_reducible refine we_mulG ?_
  | ((with_reducible refine' mulp_r ?h1 ?_); (case h1 => first | decide | omega | fail "m"))
  | ((with_reducible refine' mulp_l ?h1 ?_); (case h1 => first | decide | omega | fail "m"))
  | with_reducible refine we_neg ?_
  | with_reducible refine we_ltG ?_
  | with_reducible refine ltp_i ?_
  | with_reducible refine we_eqG ?_
  | with_reducible refine we_neG ?_
  | with_reducible refine eqp_i ?_
  | with_reducible refine nep_i ?_
  | with_reducible refine we_ixG ?_
  | ((with_reducible refine' ixp ?h1 ?h2 ?_); (case h1 => exact rfl); (case h2 => exact rfl))
  | with_reducible refine we_lenG ?_
  | ((with_reducible refine' lenp ?hh ?_); (case hh => exact rfl))
  | with_reducible refine we_intG ?_
  | with_reducible refine intp_i ?_
  | with_reducible refine intp_b ?_
  | with_reducible refine we_abs ?_
  | with_reducible refine we_tup ?_
  | with_reducible refine we_lst ?_
  | with_reducible refine we_tuple ?_
  | with_reducible refine we_list ?_
  | with_reducible refine we_sum ?_
  | with_reducible refine we_max2 ?_
  | with_reducible refine we_min2 ?_
  | with_reducible refine wd_cons ?_
  | with_reducible refine wd_nil ?_
  | with_reducible refine wa_cons ?_
  | with_reducible refine wa_nil ?_
  | with_reducible refine we_callH ?_
  | with_reducible refine we_isiG ?_
  | ((with_reducible refine' isi_own ?h1 ?h2 ?_); (case h1 => exact rfl); (case h2 => walk_at "kb"))
  | ((with_reducible refine' isi_val ?h1 ?h2 ?_); (case h1 => exact rfl); (case h2 => walk_at "kb"))
  | ((with_reducible refine' isi_new ?h2 ?_); (case h2 => walk_at "kb"))
  | with_reducible refine we_chainI ?_
  | with_reducible refine we_andV ?_
  | with_reducible refine we_orV ?_
  | with_reducible refine we_notV ?_
  | with_reducible refine wt_test ?_
  | with_reducible refine wt_B ?_
  | with_reducible refine wt_yes ?_
  | with_reducible refine wt_and ?_
  | with_reducible refine wt_or ?_
  | with_reducible refine wt_not ?_
  | with_reducible refine ws_seq ?_
  | ((with_reducible refine' ws_retA ?hh ?_); (case hh => exact rfl))
  | with_reducible refine ws_ret ?_
  | with_reducible refine ws_if ?_
  | with_reducible refine ws_nil ?_
  | with_reducible refine ws_expr ?_
  | with_reducible refine ws_asgN rfl rfl ?_
  | with_reducible refine ws_setN ?_
  | with_reducible refine ws_asgG ?_
  | ((with_reducible refine' wg_tup ?hh ?_); (case hh => exact rfl))
  | with_reducible refine wgs_cons ?_
  | with_reducible refine wgs_nil ?_
  | with_reducible refine wg_nameN rfl rfl ?_
  | ((with_reducible refine' we_appendN ?hh ?_); (case hh => exact rfl))
  | ((with_reducible refine' we_reverseN ?hh ?_); (case hh => exact rfl))
  | ((with_reducible refine' ws_augN ?h1 ?h2 ?_); (case h1 => exact rfl); (case h2 => exact rfl))
  | (refine ⟨_, rfl, ⟨_, rfl⟩, ?_⟩)
  | (refine ⟨_, rfl, ?_⟩)
  | (refine ⟨_, _, _, rfl, rfl, rfl, ?_⟩)
  | (refine ⟨_, _, rfl, rfl, (Nat.le_of_ble_eq_true rfl : _ ≤ _), ?_⟩)
  | (refine ⟨_, _, rfl, rfl, ?_⟩)
  | (refine ⟨(Nat.le_of_ble_eq_true rfl : _ ≤ _), ?_⟩)
  | (refine ⟨(rfl : _ = true), ?_⟩)
  | ((refine' ⟨fun _ => ?_, fun hY => absurd hY ?k2⟩); (case k2 => walk_at "no"))
  | ((refine' ⟨fun hY => absurd hY ?k2, fun _ => ?_⟩); (case k2 => walk_at "no"))
  | (refine ⟨⟨(by omega), (by omega)⟩, ?_⟩)
  | (refine ⟨⟨(by decide), (by decide), (by decide)⟩, ?_⟩)
  | (refine ⟨(by first | decide | omega | fail "c"), ?_⟩)
  | fail "stop")
local macro_rules | `(tactic| walk_at "es") => `(tactic| repeat' walk_at "e")
/-! ### points reached -/
def addP (p s : Int × Int) : Int × Int := (p.1 + s.1, p.2 + s.2)
def walkP : Int × Int → List (Int × Int) → List (Int × Int)
  | _, [] => []
  | p, s :: r => addP p s :: walkP (addP p s) r
def endP : Int × Int → List (Int × Int) → Int × Int
  | p, [] => p
  | p, s :: r => endP (addP p s) r
theorem endP_snoc : ∀ (p : Int × Int) (l : List (Int × Int)) (s : Int × Int), endP p (l ++ [s]) = addP (endP p l) s
  | p, [], s => rfl
  | p, x :: r, s => endP_snoc (addP p x) r s
theorem walkP_snoc : ∀ (p : Int × Int) (l : List (Int × Int)) (s : Int × Int), walkP p (l ++ [s]) = walkP p l ++ [addP (endP p l) s]
  | p, [], s => rfl
  | p, x :: r, s => by
    show addP p x :: walkP (addP p x) (r ++ [s]) = (addP p x :: walkP (addP p x) r) ++ [addP (endP (addP p x) r) s]
    rw [walkP_snoc (addP p x) r s]
    rfl
theorem walkP_len : ∀ (p : Int × Int) (l : List (Int × Int)), (walkP p l).length = l.length
  | p, [] => rfl
  | p, x :: r => by show (walkP (addP p x) r).length + 1 = r.length + 1; rw [walkP_len]
def allS (sts : List Stk) : List (Int × Int) := (sts.map Stk.steps).flatten
theorem allS_snoc (sts : List Stk) (st : Stk) : allS (sts ++ [st]) = allS sts ++ st.steps := by
  unfold allS
  rw [List.map_append, List.flatten_append]
  simp
theorem steps_len {st : Stk} (h : st.ok) : st.steps.length ≤ 2000 := by
  cases st with
  | line dx dy =>
    obtain ⟨h1, h2, h3, h4, _⟩ := (show Fair dx dy from h)
    show (lineI dx dy).length ≤ 2000
    unfold lineI
    rw [List.length_map, List.length_range]
    have := ab_lt (n := dx) (b := 1000) h1 h2
    have := ab_lt (n := dy) (b := 1000) h3 h4
    omega
  | arc s dx dy r =>
    have ha : Arc s dx dy r := h
    show (arcI s dx dy r).length ≤ 2000
    unfold arcI
    rw [List.length_map, List.length_range]
    have := ha.r1
    omega
theorem allS_len : ∀ {sts : List Stk}, (∀ st ∈ sts, st.ok) → (allS sts).length ≤ 2000 * sts.length
  | [], _ => by simp [allS]
  | st :: r, h => by
    have ih := allS_len (sts := r) fun s hs => h s (List.mem_cons_of_mem _ hs)
    have h1 := steps_len (h st List.mem_cons_self)
    have e : allS (st :: r) = st.steps ++ allS r := by unfold allS; simp
    rw [e, List.length_append, List.length_cons]
    omega
def outD (x y : Int) (sts : List Stk) : Dt := .tup [.int x, .int y, .tup (sts.map Stk.dt)]
def reach (x y : Int) (l : List (Int × Int)) : List Dt := ((x, y) :: walkP (x, y) l).map prD
theorem reach_snoc (x y : Int) (l : List (Int × Int)) (s : Int × Int) : reach x y (l ++ [s]) = reach x y l ++ [prD (addP (endP (x, y) l) s)] := by
  unfold reach
  rw [walkP_snoc]
  simp
theorem reach_len (x y : Int) (l : List (Int × Int)) : (reach x y l).length = l.length + 1 := by
  unfold reach
  rw [List.length_map, List.length_cons, walkP_len]
def ap_cor : AP := fun as Post => ∃ x y sts, as = [.val (.tup [.int x, .int y, .tup (sts.map Stk.dt)])] ∧ (∀ st ∈ sts, st.ok) ∧ sts.length ≤ 24 ∧ Post (.new (reach x y (allS sts))) [.val (.tup [.int x, .int y, .tup (sts.map Stk.dt)])]
section
variable {P : Program} {w : World} {K : PySem.W.Frag} {mg : Str → Option Value} {base : Heap}
theorem ok_pool (T : Txt K mg) : FnOk P w K mg base CX0 1 T.f__law_pool T.fd__law_pool ["_law_script", "_law_at"] (toSp K ap_pool) :=
  fn_ab [] T.F__law_pool sc__law_pool len_pool rfl (fun cdv A outer s H E hr => ⟨_, tm__law_pool T cdv A outer s H E hr, run_tPool⟩)
theorem ok_take (T : Txt K mg) : FnOk P w K mg base CX0 1 T.f__law_take T.fd__law_take ["_law_pool_here", "_law_many"] (toSp K ap_take) :=
  fn_ab [0] T.F__law_take sc__law_take len_take rfl (fun cdv A outer s H E hr => ⟨_, tm__law_take T cdv A outer s H E hr, run_tTakeC⟩)
theorem ok_same (T : Txt K mg) : ∀ n, FnOk P w K mg base CX0 (n + 2) T.f__law_same T.fd__law_same ["_law_one", "_law_two"] (toSp K (ap_same n))
  | 0 => fn_ab [0, 1] T.F__law_same sc__law_same len_same rfl (fun cdv A outer s H E hr => ⟨_, tm__law_same T (fn_never (k := 0) T.F__law_same sc__law_same) cdv A outer s H E hr, run_tSame fun d Post _ h => absurd h (Nat.not_lt_zero _)⟩)
  | n + 1 => fn_ab [0, 1] T.F__law_same sc__law_same len_same rfl (fun cdv A outer s H E hr => ⟨_, tm__law_same T (ok_same T n) cdv A outer s H E hr, run_tSame fun d Post ok h p => ⟨.val d, .val d, d, rfl, rfl, rfl, ok, Nat.le_of_lt_succ h, p⟩⟩)
theorem ok_sign (T : Txt K mg) : FnOk P w K mg base CX0 1 T.f_sign T.fd_sign ["number"] (toSp K ap_sign) :=
  fn_ab [] T.F_sign sc_sign len_sign rfl (fun cdv A outer s H E hr => ⟨_, tm_sign T cdv A outer s H E hr, run_tSign⟩)
theorem ok_line (T : Txt K mg) : FnOk P w K mg base CX0 2 T.f_line_steps T.fd_line_steps ["dx", "dy"] (toSp K ap_line) :=
  fn_ab [] T.F_line_steps sc_line_steps len_line rfl (fun cdv A outer s H E hr => ⟨_, tm_line_steps T (ok_sign T) cdv A outer s H E hr, run_tLine⟩)
theorem ok_tf (T : Txt K mg) : FnOk P w K mg base CX0 1 T.f_takes_first_move T.fd_takes_first_move ["a", "b", "radius"] (toSp K ap_tf) :=
  fn_ab [] T.F_takes_first_move sc_takes_first_move len_tf rfl (fun cdv A outer s H E hr => ⟨_, tm_takes_first_move T cdv A outer s H E hr, run_tTf⟩)
theorem ok_arc (T : Txt K mg) : FnOk P w K mg base CX0 2 T.f_arc_steps T.fd_arc_steps ["first", "second", "radius"] (toSp K ap_arc) :=
  fn_ab [] T.F_arc_steps sc_arc_steps len_arc rfl (fun cdv A outer s H E hr => ⟨_, tm_arc_steps T (ok_tf T) cdv A outer s H E hr, run_tArc⟩)
theorem ok_unit (T : Txt K mg) : FnOk P w K mg base CX0 3 T.f_unit_steps T.fd_unit_steps ["stroke"] (toSp K ap_unit) :=
  fn_ab [] T.F_unit_steps sc_unit_steps len_unit rfl (fun cdv A outer s H E hr => ⟨_, tm_unit_steps T (ok_line T) (ok_sign T) (ok_arc T) cdv A outer s H E hr, run_tUnit⟩)
theorem take_all {sts : List Stk} {i : Nat} {d : Dt} (h : (sts.map Stk.dt)[i]? = some d) : ∃ st, sts[i]? = some st ∧ d = st.dt := by
  rw [List.getElem?_map] at h
  cases e : sts[i]? with
  | none => rw [e] at h; cases h
  | some st => rw [e] at h; cases h; exact ⟨st, rfl, rfl⟩
theorem take_ok {sts : List Stk} (h : ∀ st ∈ sts, st.ok) (i : Nat) : ∀ st ∈ sts.take i, st.ok := fun st hs => h st (List.mem_of_mem_take hs)
theorem ok_corners (T : Txt K mg) : FnOk P w K mg base CX0 4 T.f_corners T.fd_corners ["outline"] (toSp K ap_cor) := by
  have G := ok_unit (P := P) (w := w) (base := base) T
  refine fn_ab [] T.F_corners sc_corners (by rintro as Post ⟨x, y, sts, rfl, _⟩; rfl) rfl (fun cdv A outer s H E hr => ⟨_, tm_corners T G cdv A outer s H E hr, ?_⟩)
  rintro as Post ⟨x, y, sts, rfl, hok, hlen, p⟩
  unfold t_corners
  show WS K [] _ [.val (.tup [.int x, .int y, .tup (sts.map Stk.dt)]), .un, .un, .un, .un, .un, .un, .un] _
  walk_at "es"
  refine for_tuple (sts.map Stk.dt) (fun i G => ∃ s5 s6 s7, G = [.val (.tup [.int x, .int y, .tup (sts.map Stk.dt)]), .val (.int (endP (x, y) (allS (sts.take i))).1), .val (.int (endP (x, y) (allS (sts.take i))).2), .val (.tup (sts.map Stk.dt)), .acc (reach x y (allS (sts.take i))), s5, s6, s7]) ?_ ?_ ?_
  · walk_at "es"
    exact .a ⟨rfl, _, _, _, rfl⟩
  · rintro i d G hd ⟨s5, s6, s7, rfl⟩
    obtain ⟨st, hst, rfl⟩ := take_all hd
    have so := hok st (List.mem_of_getElem? hst)
    have e1 : sts.take (i + 1) = sts.take i ++ [st] := by rw [List.take_add_one, hst]; rfl
    have hl1 := allS_len (take_ok hok i)
    have hl2 : (sts.take i).length ≤ 24 := by rw [List.length_take]; omega
    have hl3 := steps_len so
    walk_at "es"
    refine for_lstH ?_
    walk_at "es"
    refine .a ⟨st, rfl, so, ?_⟩
    walk_at "es"
    refine .a ⟨st.steps.map prD, rfl, fun j G => ∃ s6 s7, G = [.val (.tup [.int x, .int y, .tup (sts.map Stk.dt)]), .val (.int (endP (x, y) (allS (sts.take i) ++ st.steps.take j)).1), .val (.int (endP (x, y) (allS (sts.take i) ++ st.steps.take j)).2), .val (.tup (sts.map Stk.dt)), .acc (reach x y (allS (sts.take i) ++ st.steps.take j)), .val st.dt, s6, s7], ?_, ?_, ?_⟩
    · refine ⟨s6, s7, ?_⟩
      rw [List.take_zero, List.append_nil]
    · rintro j d G hd ⟨s6, s7, rfl⟩
      rw [List.getElem?_map] at hd
      cases hq : st.steps[j]? with
      | none => rw [hq] at hd; cases hd
      | some q =>
        rw [hq] at hd
        cases hd
        have e2 : allS (sts.take i) ++ st.steps.take (j + 1) = (allS (sts.take i) ++ st.steps.take j) ++ [q] := by rw [List.take_add_one, hq, List.append_assoc]; rfl
        have hz : (reach x y (allS (sts.take i) ++ st.steps.take j)).length < 1000000 := by
          rw [reach_len, List.length_append, List.length_take]; omega
        show WG K [] _ (.tup [.int q.1, .int q.2]) _ _
        walk_at "es"
        refine .a ⟨.val (.int q.1), .val (.int q.2), ?_⟩
        rw [e2, endP_snoc, reach_snoc]
        rfl
    · rintro G ⟨s6, s7, rfl⟩
      refine .a ⟨.val st.dt, s6, s7, ?_⟩
      rw [List.length_map, List.take_length, e1, allS_snoc]
  · rintro G ⟨s5, s6, s7, rfl⟩
    rw [List.length_map, List.take_length]
    walk_at "es"
    exact p
end
end Lk27
namespace Lk27
open PySem L2 Ab Strokes
local macro_rules | `(tactic| walk_at "no") => `(tactic| first
  | exact fun h => Bool.noConfusion (show true = false from h)
  | exact fun h => Bool.noConfusion (show false = true from h)
  | exact fun h => absurd (of_decide_eq_true h) (by omega)
  | exact fun h => absurd (by omega) (of_decide_eq_false h)
  | exact fun h => absurd (by omega) (nd_t h)
  | exact fun h => absurd (nd_f h) (by omega)
  | fail "no")
local macro_rules | `(tactic| walk_at "kb") => `(tactic| first | exact kb_tt | exact kb_ll | exact kb_ii | exact kb_ib | exact kb_ss | exact kb_sb | exact kb_si | exact kb_tb | exact kb_ti | exact kb_ts | exact kb_tl | exact kb_lb | exact kb_li | exact kb_ls | exact kb_lt | exact kb_is | exact kb_it | exact kb_il | exact kb_st | exact kb_sl | exact kb_bb | exact kb_bi | exact kb_nb | exact kb_ni | exact kb_ns | exact kb_nt | exact kb_nl | exact kb_bs | exact kb_bt | exact kb_bl | fail "kb")
local macro_rules | `(tactic| walk_at "norm") => `(tactic| first
  | exact (rfl : _ = ([] : List Sl))
  | ((refine' norm_cons (rfl : _ = _ :: _) ?ea ?et); (case ea => first | exact norm_v | exact norm_n | exact norm_o | exact rfl | fail "norm"); (case et => walk_at "norm"))
  | fail "norm")
local macro_rules | `(tactic| walk_at "e") => `(tactic| first
  | ((with_reducible refine' norm_intro ?hn ?_); (case hn => walk_at "norm"))
  | ((with_reducible refine' we_var ?hh ?_); (case hh => exact rfl))
  | ((with_reducible refine' we_own ?hh ?_); (case hh => exact rfl))
  | with_reducible refine we_c ?_
  | with_reducible refine we_addG ?_
  | with_reducible refine addp_i ?_
  | with_reducible refine we_opI0 ?_
  | with_reducible refine we_opI ?_
  | with_reducible refine we_mulG ?_
  | ((with_reducible refine' mulp_r ?h1 ?_); (case h1 => first | decide | omega | fail "m"))
  | ((with_reducible refine' mulp_l ?h1 ?_); (case h1 => first | decide | omega | fail "m"))
  | with_reducible refine we_neg ?_
  | with_reducible refine we_ltG ?_
  | with_reducible refine ltp_i ?_
  | with_reducible refine we_eqG ?_
  | with_reducible refine we_neG ?_
  | with_reducible refine eqp_i ?_
  | with_reducible refine nep_i ?_
  | with_reducible refine we_ixG ?_
  | ((with_reducible refine' ixp ?h1 ?h2 ?_); (case h1 => exact rfl); (case h2 => exact rfl))
  | with_reducible refine we_lenG ?_
  | ((with_reducible refine' lenp ?hh ?_); (case hh => exact rfl))
  | with_reducible refine we_intG ?_
  | with_reducible refine intp_i ?_
  | with_reducible refine intp_b ?_
  | with_reducible refine we_abs ?_
  | with_reducible refine we_tup ?_
  | with_reducible refine we_lst ?_
  | with_reducible refine we_tuple ?_
  | with_reducible refine we_list ?_
  | with_reducible refine we_sum ?_
  | with_reducible refine we_max2 ?_
  | with_reducible refine we_min2 ?_
  | with_reducible refine wd_cons ?_
  | with_reducible refine wd_nil ?_
  | with_reducible refine wa_cons ?_
  | with_reducible refine wa_nil ?_
  | with_reducible refine we_callH ?_
  | with_reducible refine we_isiG ?_
  | ((with_reducible refine' isi_own ?h1 ?h2 ?_); (case h1 => exact rfl); (case h2 => walk_at "kb"))
  | ((with_reducible refine' isi_val ?h1 ?h2 ?_); (case h1 => exact rfl); (case h2 => walk_at "kb"))
  | ((with_reducible refine' isi_new ?h2 ?_); (case h2 => walk_at "kb"))
  | with_reducible refine we_chainI ?_
  | with_reducible refine we_andV ?_
  | with_reducible refine we_orV ?_
  | with_reducible refine we_notV ?_
  | with_reducible refine wt_test ?_
  | with_reducible refine wt_B ?_
  | with_reducible refine wt_yes ?_
  | with_reducible refine wt_and ?_
  | with_reducible refine wt_or ?_
  | with_reducible refine wt_not ?_
  | with_reducible refine ws_seq ?_
  | ((with_reducible refine' ws_retA ?hh ?_); (case hh => exact rfl))
  | with_reducible refine ws_ret ?_
  | with_reducible refine ws_if ?_
  | with_reducible refine ws_nil ?_
  | with_reducible refine ws_expr ?_
  | with_reducible refine ws_asgN rfl rfl ?_
  | with_reducible refine ws_setN ?_
  | with_reducible refine ws_asgG ?_
  | ((with_reducible refine' wg_tup ?hh ?_); (case hh => exact rfl))
  | with_reducible refine wgs_cons ?_
  | with_reducible refine wgs_nil ?_
  | with_reducible refine wg_nameN rfl rfl ?_
  | ((with_reducible refine' we_appendN ?hh ?_); (case hh => exact rfl))
  | ((with_reducible refine' we_reverseN ?hh ?_); (case hh => exact rfl))
  | ((with_reducible refine' ws_augN ?h1 ?h2 ?_); (case h1 => exact rfl); (case h2 => exact rfl))
  | (refine ⟨_, rfl, ⟨_, rfl⟩, ?_⟩)
  | (refine ⟨_, rfl, ?_⟩)
  | (refine ⟨_, _, _, rfl, rfl, rfl, ?_⟩)
  | (refine ⟨_, _, rfl, rfl, (Nat.le_of_ble_eq_true rfl : _ ≤ _), ?_⟩)
  | (refine ⟨_, _, rfl, rfl, ?_⟩)
  | (refine ⟨(Nat.le_of_ble_eq_true rfl : _ ≤ _), ?_⟩)
  | (refine ⟨(rfl : _ = true), ?_⟩)
  | ((refine' ⟨fun _ => ?_, fun hY => absurd hY ?k2⟩); (case k2 => walk_at "no"))
  | ((refine' ⟨fun hY => absurd hY ?k2, fun _ => ?_⟩); (case k2 => walk_at "no"))
  | (refine ⟨⟨(by omega), (by omega)⟩, ?_⟩)
  | (refine ⟨⟨(by decide), (by decide), (by decide)⟩, ?_⟩)
  | (refine ⟨(by first | decide | omega | fail "c"), ?_⟩)
  | fail "stop")
local macro_rules | `(tactic| walk_at "es") => `(tactic| repeat' walk_at "e")
/-! ### drawn strokes -/
def Stk.ex : Stk → Int
  | .line dx _ => dx
  | .arc _ dx _ _ => dx
def Stk.ey : Stk → Int
  | .line _ dy => dy
  | .arc _ _ dy _ => dy
def Stk.small (st : Stk) : Prop := -22 < Stk.ex st ∧ Stk.ex st < 22 ∧ -22 < Stk.ey st ∧ Stk.ey st < 22
def Stk.neg : Stk → Stk
  | .line dx dy => .line (-dx) (-dy)
  | .arc s dx dy r => .arc s (-dx) (-dy) r
theorem neg_ok {st : Stk} (h : st.ok) : (Stk.neg st).ok := by
  cases st with
  | line dx dy =>
    obtain ⟨h1, h2, h3, h4, h5⟩ := (show Fair dx dy from h)
    exact (show Fair (-dx) (-dy) from ⟨by omega, by omega, by omega, by omega, by omega⟩)
  | arc s dx dy r =>
    obtain ⟨hs, r0, r1, hx, hy⟩ := (show Arc s dx dy r from h)
    exact (show Arc s (-dx) (-dy) r from ⟨hs, r0, r1, by omega, by omega⟩)
theorem dt_parts (st : Stk) : ∃ z : Str, st.dt = .tup [.str z, .int (Stk.ex st), .int (Stk.ey st)] ∧ (Stk.neg st).dt = .tup [.str z, .int (-Stk.ex st), .int (-Stk.ey st)] := by
  cases st with
  | line dx dy => exact ⟨_, rfl, rfl⟩
  | arc s dx dy r => exact ⟨_, rfl, rfl⟩
def ap_stroke : AP := fun as Post => ∃ ds c rc, as = [.acc ds, .val (.int rc)] ∧ PoolIs c ds ∧ 0 ≤ c ∧ c < 100000 ∧ 0 < rc ∧ rc ≤ 20 ∧ ∀ ds' c' (st : Stk), PoolIs c' ds' → c ≤ c' → c' ≤ c + 5 → st.ok → Stk.small st → Post (.val st.dt) [.acc ds', .val (.int rc)]
section
variable {P : Program} {w : World} {K : PySem.W.Frag} {mg : Str → Option Value} {base : Heap}
theorem ok_stroke (T : Txt K mg) : FnOk P w K mg base CX0 2 T.f__law_stroke T.fd__law_stroke ["_law_pool_here", "_law_reach"] (toSp K ap_stroke) := by
  have G := ok_take (P := P) (w := w) (base := base) T
  refine fn_ab [0] T.F__law_stroke sc__law_stroke (by rintro as Post ⟨ds, c, rc, rfl, _⟩; rfl) rfl (fun cdv A outer s H E hr => ⟨_, tm__law_stroke T G cdv A outer s H E hr, ?_⟩)
  rintro as Post ⟨ds, c, rc, rfl, h0, c0, c1, r0, r1, p⟩
  unfold t__law_stroke
  show WS K [0] _ [.acc ds, .val (.int rc), .un, .un, .un, .un] _
  walk_at "es"
  refine .a ⟨ds, c, 3, rfl, h0, by omega, by omega, by omega, by omega, fun d1 s h1 s0 s1 => ?_⟩
  walk_at "es"
  refine ⟨fun hs => ?_, fun hs => ?_⟩
  · walk_at "es"
    refine .a ⟨d1, c + 1, 2 * rc + 1, rfl, h1, by omega, by omega, by omega, by omega, fun d2 x h2 x0 x1 => ?_⟩
    walk_at "es"
    refine .a ⟨d2, c + 1 + 1, 2 * rc + 1, rfl, h2, by omega, by omega, by omega, by omega, fun d3 y h3 y0 y1 => ?_⟩
    walk_at "es"
    refine ⟨fun hx => ?_, fun hx => ?_⟩
    · have hx' := of_decide_eq_true hx
      walk_at "es"
      refine p d3 _ (.line (x - rc + if decide (y - rc = 0) = true then 1 else 0) (y - rc)) h3 (by omega) (by omega) ?_ ?_
      · by_cases hy : y - rc = 0
        · rw [if_pos (decide_eq_true hy)]
          exact (show Fair _ _ from ⟨by omega, by omega, by omega, by omega, by omega⟩)
        · rw [if_neg (by simpa using hy)]
          exact (show Fair _ _ from ⟨by omega, by omega, by omega, by omega, by omega⟩)
      · unfold Stk.small Stk.ex Stk.ey
        simp only
        split <;> omega
    · have hx' := of_decide_eq_false hx
      walk_at "es"
      refine p d3 _ (.line (x - rc + 0) (y - rc)) h3 (by omega) (by omega) ?_ ?_
      · exact (show Fair _ _ from ⟨by omega, by omega, by omega, by omega, by omega⟩)
      · unfold Stk.small Stk.ex Stk.ey
        simp only
        omega
  · have hs' := of_decide_eq_false hs
    walk_at "es"
    refine .a ⟨d1, c + 1, _, rfl, h1, by omega, by omega, by split <;> omega, by split <;> omega, fun d2 b h2 b0 b1 => ?_⟩
    have b2 : b < 12 := by split at b1 <;> omega
    walk_at "es"
    refine .a ⟨d2, c + 1 + 1, 2, rfl, h2, by omega, by omega, by omega, by omega, fun d3 u h3 u0 u1 => ?_⟩
    walk_at "es"
    refine .a ⟨d3, c + 1 + 1 + 1, 2, rfl, h3, by omega, by omega, by omega, by omega, fun d4 v h4 v0 v1 => ?_⟩
    obtain ⟨r, hr⟩ : ∃ r, r = 1 + b := ⟨_, rfl⟩
    obtain ⟨dx, hdx⟩ : ∃ dx, dx = r * (1 - 2 * u) := ⟨_, rfl⟩
    obtain ⟨dy, hdy⟩ : ∃ dy, dy = r * (1 - 2 * v) := ⟨_, rfl⟩
    have ex : dx = r ∨ dx = -r := by
      have : u = 0 ∨ u = 1 := by omega
      rcases this with rfl | rfl <;> simp at hdx <;> omega
    have ey : dy = r ∨ dy = -r := by
      have : v = 0 ∨ v = 1 := by omega
      rcases this with rfl | rfl <;> simp at hdy <;> omega
    walk_at "es"
    rw [← hr, ← hdx, ← hdy]
    have hcase : s = 1 ∨ s = 2 := by omega
    rcases hcase with rfl | rfl
    · walk_at "es"
      refine p d4 _ (.arc 0 dx dy r) h4 (by omega) (by omega) ⟨.inl rfl, by omega, by omega, ex, ey⟩ ?_
      unfold Stk.small Stk.ex Stk.ey
      simp only
      omega
    · walk_at "es"
      refine p d4 _ (.arc 1 dx dy r) h4 (by omega) (by omega) ⟨.inr rfl, by omega, by omega, ex, ey⟩ ?_
      unfold Stk.small Stk.ex Stk.ey
      simp only
      omega
end
end Lk27
namespace Lk27
open PySem L2 Ab Strokes
local macro_rules | `(tactic| walk_at "no") => `(tactic| first
  | exact fun h => Bool.noConfusion (show true = false from h)
  | exact fun h => Bool.noConfusion (show false = true from h)
  | exact fun h => absurd (of_decide_eq_true h) (by omega)
  | exact fun h => absurd (by omega) (of_decide_eq_false h)
  | exact fun h => absurd (by omega) (nd_t h)
  | exact fun h => absurd (nd_f h) (by omega)
  | fail "no")
local macro_rules | `(tactic| walk_at "kb") => `(tactic| first | exact kb_tt | exact kb_ll | exact kb_ii | exact kb_ib | exact kb_ss | exact kb_sb | exact kb_si | exact kb_tb | exact kb_ti | exact kb_ts | exact kb_tl | exact kb_lb | exact kb_li | exact kb_ls | exact kb_lt | exact kb_is | exact kb_it | exact kb_il | exact kb_st | exact kb_sl | exact kb_bb | exact kb_bi | exact kb_nb | exact kb_ni | exact kb_ns | exact kb_nt | exact kb_nl | exact kb_bs | exact kb_bt | exact kb_bl | fail "kb")
local macro_rules | `(tactic| walk_at "norm") => `(tactic| first
  | exact (rfl : _ = ([] : List Sl))
  | ((refine' norm_cons (rfl : _ = _ :: _) ?ea ?et); (case ea => first | exact norm_v | exact norm_n | exact norm_o | exact rfl | fail "norm"); (case et => walk_at "norm"))
  | fail "norm")
local macro_rules | `(tactic| walk_at "x") => `(tactic| first
  | ((with_reducible refine' norm_intro ?hn ?_); (case hn => walk_at "norm"))
  | ((with_reducible refine' we_var ?hh ?_); (case hh => exact rfl))
  | ((with_reducible refine' we_own ?hh ?_); (case hh => exact rfl))
  | with_reducible refine we_c ?_
  | with_reducible refine we_addG ?_
  | with_reducible refine addp_i ?_
  | with_reducible refine we_opI0 ?_
  | with_reducible refine we_opI ?_
  | with_reducible refine we_mulG ?_
  | ((with_reducible refine' mulp_r ?h1 ?_); (case h1 => first | decide | omega | fail "m"))
  | ((with_reducible refine' mulp_l ?h1 ?_); (case h1 => first | decide | omega | fail "m"))
  | with_reducible refine we_neg ?_
  | with_reducible refine we_ltG ?_
  | with_reducible refine ltp_i ?_
  | with_reducible refine we_eqG ?_
  | with_reducible refine we_neG ?_
  | with_reducible refine eqp_i ?_
  | with_reducible refine nep_i ?_
  | with_reducible refine we_ixG ?_
  | ((with_reducible refine' ixp ?h1 ?h2 ?_); (case h1 => exact rfl); (case h2 => exact rfl))
  | with_reducible refine we_lenG ?_
  | ((with_reducible refine' lenp ?hh ?_); (case hh => exact rfl))
  | with_reducible refine we_intG ?_
  | with_reducible refine intp_i ?_
  | with_reducible refine intp_b ?_
  | with_reducible refine we_abs ?_
  | with_reducible refine we_tup ?_
  | with_reducible refine we_lst ?_
  | with_reducible refine we_tuple ?_
  | with_reducible refine we_list ?_
  | with_reducible refine we_sum ?_
  | with_reducible refine we_max2 ?_
  | with_reducible refine we_min2 ?_
  | with_reducible refine wd_cons ?_
  | with_reducible refine wd_nil ?_
  | with_reducible refine wa_cons ?_
  | with_reducible refine wa_nil ?_
  | with_reducible refine we_callH ?_
  | with_reducible refine we_isiG ?_
  | ((with_reducible refine' isi_own ?h1 ?h2 ?_); (case h1 => exact rfl); (case h2 => walk_at "kb"))
  | ((with_reducible refine' isi_val ?h1 ?h2 ?_); (case h1 => exact rfl); (case h2 => walk_at "kb"))
  | ((with_reducible refine' isi_new ?h2 ?_); (case h2 => walk_at "kb"))
  | with_reducible refine we_chainI ?_
  | with_reducible refine we_andV ?_
  | with_reducible refine we_orV ?_
  | with_reducible refine we_notV ?_
  | with_reducible refine wt_test ?_
  | with_reducible refine wt_B ?_
  | with_reducible refine wt_yes ?_
  | with_reducible refine wt_and ?_
  | with_reducible refine wt_or ?_
  | with_reducible refine wt_not ?_
  | ((with_reducible refine' ws_retA ?hh ?_); (case hh => exact rfl))
  | with_reducible refine ws_ret ?_
  | with_reducible refine ws_if ?_
  | with_reducible refine ws_nil ?_
  | with_reducible refine ws_expr ?_
  | with_reducible refine ws_asgN rfl rfl ?_
  | with_reducible refine ws_setN ?_
  | with_reducible refine ws_asgG ?_
  | ((with_reducible refine' wg_tup ?hh ?_); (case hh => exact rfl))
  | with_reducible refine wgs_cons ?_
  | with_reducible refine wgs_nil ?_
  | with_reducible refine wg_nameN rfl rfl ?_
  | ((with_reducible refine' we_appendN ?hh ?_); (case hh => exact rfl))
  | ((with_reducible refine' we_reverseN ?hh ?_); (case hh => exact rfl))
  | ((with_reducible refine' ws_augN ?h1 ?h2 ?_); (case h1 => exact rfl); (case h2 => exact rfl))
  | (refine ⟨_, rfl, ⟨_, rfl⟩, ?_⟩)
  | (refine ⟨_, rfl, ?_⟩)
  | (refine ⟨_, _, _, rfl, rfl, rfl, ?_⟩)
  | (refine ⟨_, _, rfl, rfl, (Nat.le_of_ble_eq_true rfl : _ ≤ _), ?_⟩)
  | (refine ⟨_, _, rfl, rfl, ?_⟩)
  | (refine ⟨(Nat.le_of_ble_eq_true rfl : _ ≤ _), ?_⟩)
  | (refine ⟨(rfl : _ = true), ?_⟩)
  | ((refine' ⟨fun _ => ?_, fun hY => absurd hY ?k2⟩); (case k2 => walk_at "no"))
  | ((refine' ⟨fun hY => absurd hY ?k2, fun _ => ?_⟩); (case k2 => walk_at "no"))
  | (refine ⟨⟨(by omega), (by omega)⟩, ?_⟩)
  | (refine ⟨⟨(by decide), (by decide), (by decide)⟩, ?_⟩)
  | (refine ⟨(by first | decide | omega | fail "c"), ?_⟩)
  | fail "stop")
local macro_rules | `(tactic| walk_at "e") => `(tactic| first | with_reducible refine ws_seq ?_ | walk_at "x" | fail "stop")
local macro_rules | `(tactic| walk_at "xs") => `(tactic| repeat' walk_at "x")
local macro_rules | `(tactic| walk_at "es") => `(tactic| repeat' walk_at "e")
def ap_outline : AP := fun as Post => ∃ ds c, as = [.acc ds] ∧ PoolIs c ds ∧ c = 0 ∧ ∀ ds' c' (x y : Int) (sts : List Stk), PoolIs c' ds' → 0 ≤ c' → c' < 10000 → (∀ st ∈ sts, st.ok) → (∀ st ∈ sts, Stk.small st) ∨ True → sts.length ≤ 24 → -100 < x → x < 100 → -100 < y → y < 100 → Post (.val (.tup [.int x, .int y, .tup (sts.map Stk.dt)])) [.acc ds']
theorem sum_bound : ∀ {ns : List Int}, (∀ n ∈ ns, -22 < n ∧ n < 22) → -22 * (ns.length : Int) ≤ ns.sum ∧ ns.sum ≤ 22 * (ns.length : Int)
  | [], _ => by simp
  | x :: r, h => by
    have ih := sum_bound (ns := r) fun n hn => h n (List.mem_cons_of_mem _ hn)
    have h1 := h x List.mem_cons_self
    rw [List.sum_cons, List.length_cons]
    omega
section
variable {P : Program} {w : World} {K : PySem.W.Frag} {mg : Str → Option Value} {base : Heap}
theorem at_three {k : Int} (h0 : 0 ≤ k) (h1 : k < 3) : ∃ rc, atI [Dt.int 20, .int 5, .int 5] k = some (.int rc) ∧ 0 < rc ∧ rc ≤ 20 := by
  have : k = 0 ∨ k = 1 ∨ k = 2 := by omega
  rcases this with rfl | rfl | rfl
  · exact ⟨20, rfl, by omega, by omega⟩
  · exact ⟨5, rfl, by omega, by omega⟩
  · exact ⟨5, rfl, by omega, by omega⟩
theorem ok_outline (T : Txt K mg) : FnOk P w K mg base CX0 3 T.f__law_outline T.fd__law_outline ["_law_pool_here"] (toSp K ap_outline) := by
  have G1 := ok_take (P := P) (w := w) (base := base) T
  have G2 := ok_stroke (P := P) (w := w) (base := base) T
  refine fn_ab [0] T.F__law_outline sc__law_outline (by rintro as Post ⟨ds, c, rfl, _⟩; rfl) rfl (fun cdv A outer s H E hr => ⟨_, tm__law_outline T G1 G2 cdv A outer s H E hr, ?_⟩)
  rintro as Post ⟨ds, c, rfl, h0, rfl, p⟩
  unfold t__law_outline
  show WS K [0] _ [.acc ds, .un, .un, .un, .un, .un, .un, .un, .un, .un, .un, .un] _
  walk_at "es"
  refine .a ⟨ds, 0, 4, rfl, h0, by omega, by omega, by omega, by omega, fun d1 sh h1 sh0 sh1 => ?_⟩
  walk_at "es"
  refine .a ⟨d1, 0 + 1, 12, rfl, h1, by omega, by omega, by omega, by omega, fun d2 m h2 m0 m1 => ?_⟩
  walk_at "es"
  refine .a ⟨d2, 0 + 1 + 1, 3, rfl, h2, by omega, by omega, by omega, by omega, fun d3 q h3 q0 q1 => ?_⟩
  obtain ⟨rc, hrc, rc0, rc1⟩ := at_three q0 q1
  walk_at "es"
  refine ixp rfl hrc ?_
  walk_at "es"
  refine .a ⟨d3, 0 + 1 + 1 + 1, 61, rfl, h3, by omega, by omega, by omega, by omega, fun d4 x h4 x0 x1 => ?_⟩
  walk_at "es"
  refine .a ⟨d4, 0 + 1 + 1 + 1 + 1, 61, rfl, h4, by omega, by omega, by omega, by omega, fun d5 y h5 y0 y1 => ?_⟩
  walk_at "xs"
  refine ws_cut (fun G => ∃ m' : Int, 1 ≤ m' ∧ m' ≤ 12 ∧ G = [.acc d5, .val (.int sh), .val (.int m'), .val (.int rc), .val (.int (x - 20)), .val (.int (y - 20)), .un, .un, .un, .un, .un, .un]) ?_ ?_
  · walk_at "es"
    refine ⟨fun h => ?_, fun h => ?_⟩
    · walk_at "es"
      exact .a ⟨_, by split <;> omega, by split <;> omega, rfl⟩
    · walk_at "es"
      exact .a ⟨_, by omega, by omega, rfl⟩
  rintro G ⟨m', hm0, hm1, rfl⟩
  refine ws_cut (fun G => ∃ m' rc' : Int, 1 ≤ m' ∧ m' ≤ 12 ∧ 0 < rc' ∧ rc' ≤ 20 ∧ G = [.acc d5, .val (.int sh), .val (.int m'), .val (.int rc'), .val (.int (x - 20)), .val (.int (y - 20)), .un, .un, .un, .un, .un, .un]) ?_ ?_
  · walk_at "es"
    refine ⟨fun h => ?_, fun h => ?_⟩
    · walk_at "es"
      exact .a ⟨_, 5, by split <;> omega, by split <;> omega, by omega, by omega, rfl⟩
    · walk_at "es"
      exact .a ⟨_, rc, by omega, by omega, by omega, by omega, rfl⟩
  rintro G ⟨n, rc', hn0, hn1, hr0, hr1, rfl⟩
  obtain ⟨N, rfl⟩ : ∃ N : Nat, n = (N : Int) := ⟨n.toNat, by omega⟩
  refine ws_cut (fun G => ∃ (d6 : List Dt) (c6 : Int) (sts : List Stk), PoolIs c6 d6 ∧ 0 ≤ c6 ∧ c6 < 1000 ∧ (∀ st ∈ sts, st.ok) ∧ (∀ st ∈ sts, Stk.small st) ∧ sts.length = N ∧ G = [.acc d6, .val (.int sh), .val (.int N), .val (.int rc'), .val (.int (x - 20)), .val (.int (y - 20)), .acc (sts.map Stk.dt), .un, .un, .un, .un, .un]) ?_ ?_
  · walk_at "e"
    refine lc_range1 N (fun i es G => ∃ (d6 : List Dt) (c6 : Int) (sts : List Stk), PoolIs c6 d6 ∧ 0 ≤ c6 ∧ c6 ≤ 10 + 5 * (i : Int) ∧ (∀ st ∈ sts, st.ok) ∧ (∀ st ∈ sts, Stk.small st) ∧ sts.length = i ∧ es = sts.map Stk.dt ∧ G = [.acc d6, .val (.int sh), .val (.int N), .val (.int rc'), .val (.int (x - 20)), .val (.int (y - 20)), .un, .un, .un, .un, .un, .un]) ?_ ?_ ?_
    · walk_at "es"
      exact .a ⟨rfl, by omega, rfl, rfl, rfl, d5, _, [], h5, by omega, by omega, (fun _ h => nomatch h), (fun _ h => nomatch h), rfl, rfl, rfl⟩
    · rintro i es G hi ⟨d6, c6, sts, h6, c60, c61, hok, hsm, hlen, rfl, rfl⟩
      show WT K _ [.acc d6, .val (.int sh), .val (.int N), .val (.int rc'), .val (.int (x - 20)), .val (.int (y - 20)), .un, .un, .un, .val (.int i), .un, .un] _
      walk_at "es"
      refine .a ⟨d6, c6, rc', rfl, h6, by omega, by omega, by omega, by omega, fun d7 c7 st h7 c70 c71 so ss => ?_⟩
      walk_at "es"
      refine .a ⟨d7, c7, sts ++ [st], h7, by omega, by omega, fun z hz => ?_, fun z hz => ?_, by simp [hlen], by simp, rfl⟩
      · rcases List.mem_append.mp hz with hz | hz
        · exact hok z hz
        · rw [List.mem_singleton.mp hz]; exact so
      · rcases List.mem_append.mp hz with hz | hz
        · exact hsm z hz
        · rw [List.mem_singleton.mp hz]; exact ss
    · rintro es G ⟨d6, c6, sts, h6, c60, c61, hok, hsm, hlen, rfl, rfl⟩
      walk_at "es"
      exact .a ⟨d6, c6, sts, h6, by omega, by omega, hok, hsm, hlen, rfl⟩
  rintro G ⟨d6, c6, sts, h6, c60, c61, hok, hsm, hlen, rfl⟩
  have sumrun : ∀ (f : Stk → Int) (k : Int) (s7 s8 : Sl) (Q : Re → List Sl → Prop), (∀ (st : Stk), ∃ a b c : Dt, st.dt = .tup [a, b, c] ∧ atI [a, b, c] k = some (.int (f st))) →
      Q (.val (.int (sts.map f).sum)) [.acc d6, .val (.int sh), .val (.int N), .val (.int rc'), .val (.int (x - 20)), .val (.int (y - 20)), .acc (sts.map Stk.dt), s7, s8, .un, .un, .un] →
      WE K (tCB (rSum K) (tCons (tLc (iList K (tVar 6)) (gName 10) tYes (tOp (rIx K) (tVar 10) (tC (.int k))) [10]) tNil)) [.acc d6, .val (.int sh), .val (.int N), .val (.int rc'), .val (.int (x - 20)), .val (.int (y - 20)), .acc (sts.map Stk.dt), s7, s8, .un, .un, .un] Q := by
    intro f k s7 s8 Q hf q
    refine we_sum ?_
    refine lc_acc (sts.map Stk.dt) (fun i es G => es = ((sts.take i).map f).map Dt.int ∧ G = [.acc d6, .val (.int sh), .val (.int N), .val (.int rc'), .val (.int (x - 20)), .val (.int (y - 20)), .acc (sts.map Stk.dt), s7, s8, .un, .un, .un]) rfl (by rw [List.length_map]; omega) rfl rfl ⟨rfl, rfl⟩ (fun i es G ⟨_, e⟩ => by rw [e]; rfl) ?_ ?_
    · rintro i d es G hd ⟨rfl, rfl⟩
      obtain ⟨st, hst, rfl⟩ := take_all hd
      obtain ⟨a, b, c, e1, e2⟩ := hf st
      rw [e1]
      show WT K _ [.acc d6, .val (.int sh), .val (.int N), .val (.int rc'), .val (.int (x - 20)), .val (.int (y - 20)), .acc (sts.map Stk.dt), s7, s8, .un, .val (.tup [a, b, c]), .un] _
      walk_at "es"
      refine ixp rfl e2 ?_
      walk_at "es"
      refine .a ⟨?_, rfl⟩
      rw [List.take_add_one, hst]
      simp
    · rintro es G ⟨rfl, rfl⟩
      rw [List.length_map, List.take_length]
      exact .a ⟨sts.map f, rfl, q⟩
  walk_at "e"; walk_at "x"
  refine sumrun Stk.ex 1 _ _ _ (fun st => ?_) ?_
  · obtain ⟨z, e, _⟩ := dt_parts st
    exact ⟨_, _, _, e, rfl⟩
  walk_at "xs"; walk_at "e"; walk_at "x"
  refine sumrun Stk.ey 2 _ _ _ (fun st => ?_) ?_
  · obtain ⟨z, e, _⟩ := dt_parts st
    exact ⟨_, _, _, e, rfl⟩
  walk_at "xs"
  have bx := sum_bound (ns := sts.map Stk.ex) fun n hn => by
    obtain ⟨st, hs, rfl⟩ := List.mem_map.mp hn
    have := hsm st hs
    exact ⟨this.1, this.2.1⟩
  have bY := sum_bound (ns := sts.map Stk.ey) fun n hn => by
    obtain ⟨st, hs, rfl⟩ := List.mem_map.mp hn
    have := hsm st hs
    exact ⟨this.2.2.1, this.2.2.2⟩
  rw [List.length_map, hlen] at bx bY
  generalize (sts.map Stk.ex).sum = SX at bx ⊢
  generalize (sts.map Stk.ey).sum = SY at bY ⊢
  refine ws_cut (fun G => ∃ sts' : List Stk, (∀ st ∈ sts', st.ok) ∧ sts'.length ≤ 24 ∧ (sh = 1 → sts'.length ≤ 12) ∧ G = [.acc d6, .val (.int sh), .val (.int N), .val (.int rc'), .val (.int (x - 20)), .val (.int (y - 20)), .acc (sts'.map Stk.dt), .val (.int SX), .val (.int SY), .un, .un, .un]) ?_ ?_
  · walk_at "xs"
    refine ⟨fun h => ?_, fun h => ?_⟩
    · have h' := of_decide_eq_true h
      walk_at "xs"
      refine lc_acc (sts.map Stk.dt) (fun i es G => es = ((sts.take i).map Stk.neg).map Stk.dt ∧ G = [.acc d6, .val (.int sh), .val (.int N), .val (.int rc'), .val (.int (x - 20)), .val (.int (y - 20)), .acc (sts.map Stk.dt), .val (.int SX), .val (.int SY), .un, .un, .un]) rfl (by rw [List.length_map]; omega) rfl rfl ⟨rfl, rfl⟩ (fun i es G ⟨_, e⟩ => by rw [e]; rfl) ?_ ?_
      · rintro i d es G hd ⟨rfl, rfl⟩
        obtain ⟨st, hst, rfl⟩ := take_all hd
        obtain ⟨z, e1, e2⟩ := dt_parts st
        rw [e1]
        show WT K _ [.acc d6, .val (.int sh), .val (.int N), .val (.int rc'), .val (.int (x - 20)), .val (.int (y - 20)), .acc (sts.map Stk.dt), .val (.int SX), .val (.int SY), .un, .un, .val (.tup [.str z, .int (Stk.ex st), .int (Stk.ey st)])] _
        walk_at "xs"
        refine .a ⟨?_, rfl⟩
        rw [List.take_add_one, hst]
        simp [e2]
      · rintro es G ⟨rfl, rfl⟩
        rw [List.length_map, List.take_length]
        refine addp_l rfl rfl rfl rfl (by simp; omega) ?_
        walk_at "xs"
        refine .a ⟨sts ++ sts.map Stk.neg, fun z hz => ?_, by simp; omega, fun z => by omega, ?_⟩
        · rcases List.mem_append.mp hz with hz | hz
          · exact hok z hz
          · obtain ⟨u, hu, rfl⟩ := List.mem_map.mp hz
            exact neg_ok (hok u hu)
        · rw [List.map_append]
    · walk_at "xs"
      exact .a ⟨sts, hok, by omega, fun _ => by omega, rfl⟩
  rintro G ⟨sts', hok', hl', hl1, rfl⟩
  refine ws_cut (fun G => ∃ sts' : List Stk, (∀ st ∈ sts', st.ok) ∧ sts'.length ≤ 24 ∧ G = [.acc d6, .val (.int sh), .val (.int N), .val (.int rc'), .val (.int (x - 20)), .val (.int (y - 20)), .acc (sts'.map Stk.dt), .val (.int SX), .val (.int SY), .un, .un, .un]) ?_ ?_
  · have more : sh = 1 → (SX ≠ 0 ∨ SY ≠ 0) → Hold (∃ sts'' : List Stk, (∀ st ∈ sts'', st.ok) ∧ sts''.length ≤ 24 ∧ ([.acc d6, .val (.int sh), .val (.int N), .val (.int rc'), .val (.int (x - 20)), .val (.int (y - 20)), .acc (sts'.map Stk.dt ++ [.tup [.str "line", .int (-SX), .int (-SY)]]), .val (.int SX), .val (.int SY), .un, .un, .un] : List Sl) = [.acc d6, .val (.int sh), .val (.int N), .val (.int rc'), .val (.int (x - 20)), .val (.int (y - 20)), .acc (sts''.map Stk.dt), .val (.int SX), .val (.int SY), .un, .un, .un]) := fun e1 e2 => by
      have := hl1 e1
      refine .a ⟨sts' ++ [.line (-SX) (-SY)], fun z hz => ?_, by simp; omega, ?_⟩
      · rcases List.mem_append.mp hz with hz | hz
        · exact hok' z hz
        · rw [List.mem_singleton.mp hz]
          exact (show Fair _ _ from ⟨by omega, by omega, by omega, by omega, by omega⟩)
      · rw [List.map_append]; rfl
    have hz : (sts'.map Stk.dt).length < 1000000 := by rw [List.length_map]; omega
    walk_at "xs"
    refine ⟨fun h => ?_, fun h => ?_⟩
    · have h' := of_decide_eq_true h
      walk_at "xs"
      refine ⟨fun g => ?_, fun g => ?_⟩
      · have g' := nd_f g
        walk_at "xs"
        refine ⟨fun k => ?_, fun k => ?_⟩
        · have k' := nd_t k
          walk_at "xs"
          exact more h' (.inr k')
        · walk_at "xs"
          exact .a ⟨sts', hok', hl', rfl⟩
      · have g' := nd_t g
        walk_at "xs"
        exact more h' (.inl g')
    · walk_at "xs"
      exact .a ⟨sts', hok', hl', rfl⟩
  rintro G ⟨sts'', hok'', hl'', rfl⟩
  walk_at "es"
  exact p d6 c6 _ _ sts'' h6 (by omega) (by omega) hok'' (.inr trivial) hl'' (by omega) (by omega) (by omega) (by omega)
end
end Lk27
namespace Lk27
open PySem L2 Ab Strokes
local macro_rules | `(tactic| walk_at "no") => `(tactic| first
  | exact fun h => Bool.noConfusion (show true = false from h)
  | exact fun h => Bool.noConfusion (show false = true from h)
  | exact fun h => absurd (of_decide_eq_true h) (by omega)
  | exact fun h => absurd (by omega) (of_decide_eq_false h)
  | exact fun h => absurd (by omega) (nd_t h)
  | exact fun h => absurd (nd_f h) (by omega)
  | fail "no")
local macro_rules | `(tactic| walk_at "kb") => `(tactic| first | exact kb_tt | exact kb_ll | exact kb_ii | exact kb_ib | exact kb_ss | exact kb_sb | exact kb_si | exact kb_tb | exact kb_ti | exact kb_ts | exact kb_tl | exact kb_lb | exact kb_li | exact kb_ls | exact kb_lt | exact kb_is | exact kb_it | exact kb_il | exact kb_st | exact kb_sl | exact kb_bb | exact kb_bi | exact kb_nb | exact kb_ni | exact kb_ns | exact kb_nt | exact kb_nl | exact kb_bs | exact kb_bt | exact kb_bl | fail "kb")
local macro_rules | `(tactic| walk_at "norm") => `(tactic| first
  | exact (rfl : _ = ([] : List Sl))
  | ((refine' norm_cons (rfl : _ = _ :: _) ?ea ?et); (case ea => first | exact norm_v | exact norm_n | exact norm_o | exact rfl | fail "norm"); (case et => walk_at "norm"))
  | fail "norm")
local macro_rules | `(tactic| walk_at "x") => `(tactic| first
  | ((with_reducible refine' norm_intro ?hn ?_); (case hn => walk_at "norm"))
  | ((with_reducible refine' we_var ?hh ?_); (case hh => exact rfl))
  | ((with_reducible refine' we_own ?hh ?_); (case hh => exact rfl))
  | with_reducible refine we_c ?_
  | with_reducible refine we_addG ?_
  | with_reducible refine addp_i ?_
  | with_reducible refine we_opI0 ?_
  | with_reducible refine we_opI ?_
  | with_reducible refine we_mulG ?_
  | ((with_reducible refine' mulp_r ?h1 ?_); (case h1 => first | decide | omega | fail "m"))
  | ((with_reducible refine' mulp_l ?h1 ?_); (case h1 => first | decide | omega | fail "m"))
  | with_reducible refine we_neg ?_
  | with_reducible refine we_ltG ?_
  | with_reducible refine ltp_i ?_
  | with_reducible refine we_eqG ?_
  | with_reducible refine we_neG ?_
  | with_reducible refine eqp_i ?_
  | with_reducible refine nep_i ?_
  | with_reducible refine we_ixG ?_
  | ((with_reducible refine' ixp ?h1 ?h2 ?_); (case h1 => exact rfl); (case h2 => exact rfl))
  | with_reducible refine we_lenG ?_
  | ((with_reducible refine' lenp ?hh ?_); (case hh => exact rfl))
  | with_reducible refine we_intG ?_
  | with_reducible refine intp_i ?_
  | with_reducible refine intp_b ?_
  | with_reducible refine we_abs ?_
  | with_reducible refine we_tup ?_
  | with_reducible refine we_lst ?_
  | with_reducible refine we_tuple ?_
  | with_reducible refine we_list ?_
  | with_reducible refine we_sum ?_
  | with_reducible refine we_max2 ?_
  | with_reducible refine we_min2 ?_
  | with_reducible refine wd_cons ?_
  | with_reducible refine wd_nil ?_
  | with_reducible refine wa_cons ?_
  | with_reducible refine wa_nil ?_
  | with_reducible refine we_callH ?_
  | with_reducible refine we_isiG ?_
  | ((with_reducible refine' isi_own ?h1 ?h2 ?_); (case h1 => exact rfl); (case h2 => walk_at "kb"))
  | ((with_reducible refine' isi_val ?h1 ?h2 ?_); (case h1 => exact rfl); (case h2 => walk_at "kb"))
  | ((with_reducible refine' isi_new ?h2 ?_); (case h2 => walk_at "kb"))
  | with_reducible refine we_chainI ?_
  | with_reducible refine we_andV ?_
  | with_reducible refine we_orV ?_
  | with_reducible refine we_notV ?_
  | with_reducible refine wt_test ?_
  | with_reducible refine wt_B ?_
  | with_reducible refine wt_yes ?_
  | with_reducible refine wt_and ?_
  | with_reducible refine wt_or ?_
  | with_reducible refine wt_not ?_
  | ((with_reducible refine' ws_retA ?hh ?_); (case hh => exact rfl))
  | with_reducible refine ws_ret ?_
  | with_reducible refine ws_if ?_
  | with_reducible refine ws_nil ?_
  | with_reducible refine ws_expr ?_
  | with_reducible refine ws_asgN rfl rfl ?_
  | with_reducible refine ws_setN ?_
  | with_reducible refine ws_asgG ?_
  | ((with_reducible refine' wg_tup ?hh ?_); (case hh => exact rfl))
  | with_reducible refine wgs_cons ?_
  | with_reducible refine wgs_nil ?_
  | with_reducible refine wg_nameN rfl rfl ?_
  | ((with_reducible refine' we_appendN ?hh ?_); (case hh => exact rfl))
  | ((with_reducible refine' we_reverseN ?hh ?_); (case hh => exact rfl))
  | ((with_reducible refine' ws_augN ?h1 ?h2 ?_); (case h1 => exact rfl); (case h2 => exact rfl))
  | (refine ⟨_, rfl, ⟨_, rfl⟩, ?_⟩)
  | (refine ⟨_, rfl, ?_⟩)
  | (refine ⟨_, _, _, rfl, rfl, rfl, ?_⟩)
  | (refine ⟨_, _, rfl, rfl, (Nat.le_of_ble_eq_true rfl : _ ≤ _), ?_⟩)
  | (refine ⟨_, _, rfl, rfl, ?_⟩)
  | (refine ⟨(Nat.le_of_ble_eq_true rfl : _ ≤ _), ?_⟩)
  | (refine ⟨(rfl : _ = true), ?_⟩)
  | ((refine' ⟨fun _ => ?_, fun hY => absurd hY ?k2⟩); (case k2 => walk_at "no"))
  | ((refine' ⟨fun hY => absurd hY ?k2, fun _ => ?_⟩); (case k2 => walk_at "no"))
  | (refine ⟨⟨(by omega), (by omega)⟩, ?_⟩)
  | (refine ⟨⟨(by decide), (by decide), (by decide)⟩, ?_⟩)
  | (refine ⟨(by first | decide | omega | fail "c"), ?_⟩)
  | fail "stop")
local macro_rules | `(tactic| walk_at "e") => `(tactic| first | with_reducible refine ws_seq ?_ | walk_at "x" | fail "stop")
local macro_rules | `(tactic| walk_at "xs") => `(tactic| repeat' walk_at "x")
local macro_rules | `(tactic| walk_at "es") => `(tactic| repeat' walk_at "e")
section
variable {P : Program} {w : World} {K : PySem.W.Frag} {mg : Str → Option Value} {base : Heap}
theorem ok_lsign (T : Txt K mg) : FnOk P w K mg base CX0 1 T.f__law_sign T.fd__law_sign ["_law_number"] (toSp K ap_sign) := by
  refine fn_ab [] T.F__law_sign sc__law_sign len_sign rfl (fun cdv A outer s H E hr => ⟨_, tm__law_sign T cdv A outer s H E hr, ?_⟩)
  rintro as Post ⟨n, rfl, p⟩
  unfold t__law_sign
  show WS K [] _ [.val (.int n)] _
  walk_at "es"
  have e : sgn n = (if decide (0 < n) = true then 1 else 0) - (if decide (n < 0) = true then 1 else 0) := by
    unfold sgn
    by_cases h1 : 0 < n
    · have h2 : ¬ n < 0 := by omega
      simp [h1, h2]
    · by_cases h2 : n < 0
      · simp [h1, h2]
      · simp [h1, h2]
  rw [e] at p
  exact p
theorem ok_lline (T : Txt K mg) : FnOk P w K mg base CX0 2 T.f__law_line_steps T.fd__law_line_steps ["_law_dx", "_law_dy"] (toSp K ap_line) := by
  have G := ok_lsign (P := P) (w := w) (base := base) T
  refine fn_ab [] T.F__law_line_steps sc__law_line_steps len_line rfl (fun cdv A outer s H E hr => ⟨_, tm__law_line_steps T G cdv A outer s H E hr, ?_⟩)
  rintro as Post ⟨dx, dy, rfl, ⟨h1, h2, h3, h4, h5⟩, p⟩
  have a0 := ab_nonneg dx
  have a1 := ab_nonneg dy
  have a2 := ab_lt (n := dx) (b := 1000) (by omega) (by omega)
  have a3 := ab_lt (n := dy) (b := 1000) (by omega) (by omega)
  have a4 : 0 < ab dx + ab dy := by unfold ab; split <;> split <;> omega
  rw [line_dt] at p
  unfold t__law_line_steps
  show WS K [] _ [.val (.int dx), .val (.int dy), .un, .un, .un, .un, .un] _
  refine ws_cut (fun G => G = [.val (.int dx), .val (.int dy), .val (.int (ab dx)), .un, .un, .un, .un]) ?_ ?_
  · walk_at "xs"
    exact .a rfl
  rintro G rfl
  refine ws_cut (fun G => G = [.val (.int dx), .val (.int dy), .val (.int (ab dx)), .val (.int (ab dx + ab dy)), .un, .un, .un]) ?_ ?_
  · walk_at "xs"
    exact .a rfl
  rintro G rfl
  walk_at "es"
  refine for_range1 (ab dx + ab dy) (fun i G => ∃ s, G = [.val (.int dx), .val (.int dy), .val (.int (ab dx)), .val (.int (ab dx + ab dy)), .val (.int (i * ab dx - lv dx dy i * (ab dx + ab dy))), .acc ((List.range i).map (stepAt dx dy)), s]) ?_ ?_ ?_
  · walk_at "es"
    refine .a ⟨rfl, by omega, by omega, .un, ?_⟩
    rw [lv_zero]
    simp
  · rintro i G hi ⟨s, rfl⟩
    have b0 := lv_step a4 i
    have b1 := lv_bounds a4 i
    have b2 := lv_bounds a4 (i + 1)
    have ei : ((i + 1 : Nat) : Int) * ab dx = (i : Int) * ab dx + ab dx := by
      rw [show ((i + 1 : Nat) : Int) = (i : Int) + 1 by omega, Int.add_mul, Int.one_mul]
    have hlen : ((List.range i).map (stepAt dx dy)).length < 1000000 := by rw [List.length_map, List.length_range]; omega
    rw [ei] at b2
    by_cases hl : lv dx dy i < lv dx dy (i + 1)
    · have el : lv dx dy (i + 1) = lv dx dy i + 1 := by omega
      rw [el, Int.add_mul, Int.one_mul] at b2
      walk_at "es"
      refine .a ⟨dx, rfl, ?_⟩
      walk_at "es"
      refine .a ⟨.val (.int i), ?_⟩
      rw [← range_snoc, show stepAt dx dy i = .tup [.int (sgn dx), .int 0] by unfold stepAt; rw [if_pos hl], ei, el, Int.add_mul, Int.one_mul]
      rw [show (i : Int) * ab dx + ab dx - (lv dx dy i * (ab dx + ab dy) + (ab dx + ab dy)) = (i : Int) * ab dx - lv dx dy i * (ab dx + ab dy) + ab dx - (ab dx + ab dy) by omega]
    · have el : lv dx dy (i + 1) = lv dx dy i := by omega
      rw [el, Int.add_mul, Int.one_mul] at b2
      walk_at "es"
      refine .a ⟨dy, rfl, ?_⟩
      walk_at "es"
      refine .a ⟨.val (.int i), ?_⟩
      rw [← range_snoc, show stepAt dx dy i = .tup [.int 0, .int (sgn dy)] by unfold stepAt; rw [if_neg hl], ei, el]
      rw [show (i : Int) * ab dx + ab dx - lv dx dy i * (ab dx + ab dy) = (i : Int) * ab dx - lv dx dy i * (ab dx + ab dy) + ab dx by omega]
  · rintro G ⟨s, rfl⟩
    walk_at "es"
    exact p
end
end Lk27
namespace Lk27
open PySem L2 Ab Strokes
local macro_rules | `(tactic| walk_at "no") => `(tactic| first
  | exact fun h => Bool.noConfusion (show true = false from h)
  | exact fun h => Bool.noConfusion (show false = true from h)
  | exact fun h => absurd (of_decide_eq_true h) (by omega)
  | exact fun h => absurd (by omega) (of_decide_eq_false h)
  | exact fun h => absurd (by omega) (nd_t h)
  | exact fun h => absurd (nd_f h) (by omega)
  | fail "no")
local macro_rules | `(tactic| walk_at "kb") => `(tactic| first | exact kb_tt | exact kb_ll | exact kb_ii | exact kb_ib | exact kb_ss | exact kb_sb | exact kb_si | exact kb_tb | exact kb_ti | exact kb_ts | exact kb_tl | exact kb_lb | exact kb_li | exact kb_ls | exact kb_lt | exact kb_is | exact kb_it | exact kb_il | exact kb_st | exact kb_sl | exact kb_bb | exact kb_bi | exact kb_nb | exact kb_ni | exact kb_ns | exact kb_nt | exact kb_nl | exact kb_bs | exact kb_bt | exact kb_bl | fail "kb")
local macro_rules | `(tactic| walk_at "norm") => `(tactic| first
  | exact (rfl : _ = ([] : List Sl))
  | ((refine' norm_cons (rfl : _ = _ :: _) ?ea ?et); (case ea => first | exact norm_v | exact norm_n | exact norm_o | exact rfl | fail "norm"); (case et => walk_at "norm"))
  | fail "norm")
local macro_rules | `(tactic| walk_at "x") => `(tactic| first
  | ((with_reducible refine' norm_intro ?hn ?_); (case hn => walk_at "norm"))
  | ((with_reducible refine' we_var ?hh ?_); (case hh => exact rfl))
  | ((with_reducible refine' we_own ?hh ?_); (case hh => exact rfl))
  | with_reducible refine we_c ?_
  | with_reducible refine we_addG ?_
  | with_reducible refine addp_i ?_
  | with_reducible refine we_opI0 ?_
  | with_reducible refine we_opI ?_
  | with_reducible refine we_mulG ?_
  | ((with_reducible refine' mulp_r ?h1 ?_); (case h1 => first | decide | omega | fail "m"))
  | ((with_reducible refine' mulp_l ?h1 ?_); (case h1 => first | decide | omega | fail "m"))
  | with_reducible refine we_neg ?_
  | with_reducible refine we_ltG ?_
  | with_reducible refine ltp_i ?_
  | with_reducible refine we_eqG ?_
  | with_reducible refine we_neG ?_
  | with_reducible refine eqp_i ?_
  | with_reducible refine nep_i ?_
  | with_reducible refine we_ixG ?_
  | ((with_reducible refine' ixp ?h1 ?h2 ?_); (case h1 => exact rfl); (case h2 => exact rfl))
  | with_reducible refine we_lenG ?_
  | ((with_reducible refine' lenp ?hh ?_); (case hh => exact rfl))
  | with_reducible refine we_intG ?_
  | with_reducible refine intp_i ?_
  | with_reducible refine intp_b ?_
  | with_reducible refine we_abs ?_
  | with_reducible refine we_tup ?_
  | with_reducible refine we_lst ?_
  | with_reducible refine we_tuple ?_
  | with_reducible refine we_list ?_
  | with_reducible refine we_sum ?_
  | with_reducible refine we_max2 ?_
  | with_reducible refine we_min2 ?_
  | with_reducible refine wd_cons ?_
  | with_reducible refine wd_nil ?_
  | with_reducible refine wa_cons ?_
  | with_reducible refine wa_nil ?_
  | with_reducible refine we_callH ?_
  | with_reducible refine we_isiG ?_
  | ((with_reducible refine' isi_own ?h1 ?h2 ?_); (case h1 => exact rfl); (case h2 => walk_at "kb"))
  | ((with_reducible refine' isi_val ?h1 ?h2 ?_); (case h1 => exact rfl); (case h2 => walk_at "kb"))
  | ((with_reducible refine' isi_new ?h2 ?_); (case h2 => walk_at "kb"))
  | with_reducible refine we_chainI ?_
  | with_reducible refine we_andV ?_
  | with_reducible refine we_orV ?_
  | with_reducible refine we_notV ?_
  | with_reducible refine wt_test ?_
  | with_reducible refine wt_B ?_
  | with_reducible refine wt_yes ?_
  | with_reducible refine wt_and ?_
  | with_reducible refine wt_or ?_
  | with_reducible refine wt_not ?_
  | ((with_reducible refine' ws_retA ?hh ?_); (case hh => exact rfl))
  | with_reducible refine ws_ret ?_
  | with_reducible refine ws_if ?_
  | with_reducible refine ws_nil ?_
  | with_reducible refine ws_expr ?_
  | with_reducible refine ws_asgN rfl rfl ?_
  | with_reducible refine ws_setN ?_
  | with_reducible refine ws_asgG ?_
  | ((with_reducible refine' wg_tup ?hh ?_); (case hh => exact rfl))
  | with_reducible refine wgs_cons ?_
  | with_reducible refine wgs_nil ?_
  | with_reducible refine wg_nameN rfl rfl ?_
  | ((with_reducible refine' we_appendN ?hh ?_); (case hh => exact rfl))
  | ((with_reducible refine' we_reverseN ?hh ?_); (case hh => exact rfl))
  | ((with_reducible refine' ws_augN ?h1 ?h2 ?_); (case h1 => exact rfl); (case h2 => exact rfl))
  | (refine ⟨_, rfl, ⟨_, rfl⟩, ?_⟩)
  | (refine ⟨_, rfl, ?_⟩)
  | (refine ⟨_, _, _, rfl, rfl, rfl, ?_⟩)
  | (refine ⟨_, _, rfl, rfl, (Nat.le_of_ble_eq_true rfl : _ ≤ _), ?_⟩)
  | (refine ⟨_, _, rfl, rfl, ?_⟩)
  | (refine ⟨(Nat.le_of_ble_eq_true rfl : _ ≤ _), ?_⟩)
  | (refine ⟨(rfl : _ = true), ?_⟩)
  | ((refine' ⟨fun _ => ?_, fun hY => absurd hY ?k2⟩); (case k2 => walk_at "no"))
  | ((refine' ⟨fun hY => absurd hY ?k2, fun _ => ?_⟩); (case k2 => walk_at "no"))
  | (refine ⟨⟨(by omega), (by omega)⟩, ?_⟩)
  | (refine ⟨⟨(by decide), (by decide), (by decide)⟩, ?_⟩)
  | (refine ⟨(by first | decide | omega | fail "c"), ?_⟩)
  | fail "stop")
local macro_rules | `(tactic| walk_at "e") => `(tactic| first | with_reducible refine ws_seq ?_ | walk_at "x" | fail "stop")
local macro_rules | `(tactic| walk_at "xs") => `(tactic| repeat' walk_at "x")
local macro_rules | `(tactic| walk_at "es") => `(tactic| repeat' walk_at "e")
theorem sq_up (b : Int) : (b + 1) * (b + 1) = b * b + 2 * b + 1 := by rw [Int.add_mul, Int.mul_add, Int.one_mul, Int.mul_one]; omega
theorem sq_down (a : Int) : (a - 1) * (a - 1) = a * a - 2 * a + 1 := by rw [Int.sub_mul, Int.mul_sub, Int.one_mul, Int.mul_one]; omega
section
variable {P : Program} {w : World} {K : PySem.W.Frag} {mg : Str → Option Value} {base : Heap}
theorem ok_lsteps (T : Txt K mg) : FnOk P w K mg base CX0 3 T.f__law_steps T.fd__law_steps ["_law_stroke_here"] (toSp K ap_unit) := by
  have G1 := ok_lline (P := P) (w := w) (base := base) T
  have G2 := ok_lsign (P := P) (w := w) (base := base) T
  refine fn_ab [] T.F__law_steps sc__law_steps len_unit rfl (fun cdv A outer s H E hr => ⟨_, tm__law_steps T G1 G2 cdv A outer s H E hr, ?_⟩)
  rintro as Post ⟨st, rfl, ha, p⟩
  cases st with
  | line dx dy =>
    unfold t__law_steps
    show WS K [] _ [.val (.tup [.str "line", .int dx, .int dy]), .un, .un, .un, .un, .un, .un, .un, .un, .un] _
    walk_at "es"
    refine eqp_s rfl ?_
    walk_at "es"
    refine .a ⟨dx, dy, rfl, ha, ?_⟩
    walk_at "es"
    exact p
  | arc s dx dy r =>
    have ha : Arc s dx dy r := ha
    have p : Post (.new ((arcI s dx dy r).map prD)) [.val (.tup [.str (sortS s), .int dx, .int dy])] := p
    show WS K [] _ [.val (.tup [.str (sortS s), .int dx, .int dy]), .un, .un, .un, .un, .un, .un, .un, .un, .un] ⟨fun G => Post (.val .non) (exitArgs [] G [.val (.tup [.str (sortS s), .int dx, .int dy])]), fun r G => Post r (exitArgs [] G [.val (.tup [.str (sortS s), .int dx, .int dy])]), fun _ => False, fun _ => False⟩
    have e1 := (ab_arc ha).1
    have hr0 := ha.r0
    have hr1 := ha.r1
    unfold t__law_steps
    walk_at "e"
    refine ws_mono (P := ⟨fun G => Hold (G = [.val (.tup [.str (sortS s), .int dx, .int dy]), .un, .un, .un, .un, .un, .un, .un, .un, .un]), fun _ _ => False, fun _ => False, fun _ => False⟩) ?_ ?_ (fun _ _ h => h.elim) (fun _ h => h.elim) (fun _ h => h.elim)
    · rcases sort_cases ha.hs with ⟨rfl, es⟩ | ⟨rfl, es⟩
      · rw [es]
        walk_at "es"
        refine eqp_s rfl ?_
        walk_at "es"
        exact .a rfl
      · rw [es]
        walk_at "es"
        refine eqp_s rfl ?_
        walk_at "es"
        exact .a rfl
    intro G hG
    obtain rfl := hG.get
    walk_at "es"
    refine .a ⟨dx, rfl, ?_⟩
    walk_at "es"
    refine .a ⟨dy, rfl, ?_⟩
    walk_at "xs"
    refine ws_cut (fun G => G = [.val (.tup [.str (sortS s), .int dx, .int dy]), .acc [prD (fst0 s dx dy), prD (snd0 s dx dy)], .un, .un, .un, .un, .un, .un, .un, .un]) ?_ ?_
    · rcases sort_cases ha.hs with ⟨rfl, es⟩ | ⟨rfl, es⟩
      · rw [es]
        walk_at "es"
        refine eqp_s rfl ?_
        walk_at "es"
        exact .a rfl
      · rw [es]
        walk_at "es"
        refine eqp_s rfl ?_
        walk_at "es"
        exact .a rfl
    rintro G rfl
    refine ws_cut (fun G => G = [.val (.tup [.str (sortS s), .int dx, .int dy]), .acc [prD (fst0 s dx dy), prD (snd0 s dx dy)], .val (.int r), .un, .un, .un, .un, .un, .un, .un]) ?_ ?_
    · walk_at "xs"
      refine .a ?_
      unfold ab at e1
      rw [e1]
    rintro G rfl
    walk_at "es"
    refine for_range1 (2 * r) (fun i G => ∃ s7 s8 s9, G = [.val (.tup [.str (sortS s), .int dx, .int dy]), .acc [prD (fst0 s dx dy), prD (snd0 s dx dy)], .val (.int r), .val (.int (stA r i).1), .val (.int (stA r i).2), .val (.int ((stA r i).1 * (stA r i).1 + (stA r i).2 * (stA r i).2 - r * r)), .acc ((List.range i).map fun i => prD (pickI s dx dy (mvA r i))), s7, s8, s9]) ?_ ?_ ?_
    · walk_at "es"
      refine .a ⟨rfl, by omega, by omega, .un, .un, .un, ?_⟩
      show _ = [_, _, _, Sl.val (.int r), Sl.val (.int 0), Sl.val (.int (r * r + 0 * 0 - r * r)), _, _, _, _]
      rw [show r * r + 0 * 0 - r * r = 0 by omega]
      rfl
    · rintro i G hi ⟨s7, s8, s9, rfl⟩
      obtain ⟨a0, a1, b0, b1, hab⟩ := st_ok (r := r) (by omega) i (by omega)
      have ht0 : tf r (stA r i).1 (stA r i).2 = mvA r i := rfl
      have tfd : mvA r i = (if (stA r i).1 = 0 then true else if (stA r i).2 = r then false else decide (ab ((stA r i).1 * (stA r i).1 + ((stA r i).2 + 1) * ((stA r i).2 + 1) - r * r) ≤ ab (((stA r i).1 - 1) * ((stA r i).1 - 1) + (stA r i).2 * (stA r i).2 - r * r))) := rfl
      have hlen : ((List.range i).map fun i => prD (pickI s dx dy (mvA r i))).length < 1000000 := by rw [List.length_map, List.length_range]; omega
      rw [sq_up, sq_down] at tfd
      unfold ab at tfd
      cases ht : mvA r i with
      | true =>
        rw [ht] at tfd
        have es : ((List.range i).map fun i => prD (pickI s dx dy (mvA r i))) ++ [prD (fst0 s dx dy)] = (List.range (i + 1)).map fun i => prD (pickI s dx dy (mvA r i)) := by
          rw [List.range_succ, List.map_append]
          show _ = _ ++ [prD (pickI s dx dy (mvA r i))]
          rw [ht]; rfl
        have eb : (stA r (i + 1)).1 = (stA r i).1 ∧ (stA r (i + 1)).2 = (stA r i).2 + 1 := by rw [stA, ht0, ht]; exact ⟨rfl, rfl⟩
        have fin : ∀ {s7 s8 s9 : Sl}, Hold (∃ t7 t8 t9, [Sl.val (.tup [.str (sortS s), .int dx, .int dy]), .acc [prD (fst0 s dx dy), prD (snd0 s dx dy)], .val (.int r), .val (.int (stA r i).1), .val (.int ((stA r i).2 + 1)), .val (.int ((stA r i).1 * (stA r i).1 + (stA r i).2 * (stA r i).2 - r * r + 2 * (stA r i).2 + 1)), .acc (((List.range i).map fun i => prD (pickI s dx dy (mvA r i))) ++ [prD (fst0 s dx dy)]), s7, s8, s9] = [.val (.tup [.str (sortS s), .int dx, .int dy]), .acc [prD (fst0 s dx dy), prD (snd0 s dx dy)], .val (.int r), .val (.int (stA r (i + 1)).1), .val (.int (stA r (i + 1)).2), .val (.int ((stA r (i + 1)).1 * (stA r (i + 1)).1 + (stA r (i + 1)).2 * (stA r (i + 1)).2 - r * r)), .acc ((List.range (i + 1)).map fun i => prD (pickI s dx dy (mvA r i))), t7, t8, t9]) := fun {s7 s8 s9} => by
          refine .a ⟨s7, s8, s9, ?_⟩
          rw [es, eb.1, eb.2, sq_up]
          rw [show (stA r i).1 * (stA r i).1 + ((stA r i).2 * (stA r i).2 + 2 * (stA r i).2 + 1) - r * r = (stA r i).1 * (stA r i).1 + (stA r i).2 * (stA r i).2 - r * r + 2 * (stA r i).2 + 1 by omega]
        by_cases hz : (stA r i).1 = 0
        · walk_at "es"
          exact fin
        · rw [if_neg hz] at tfd
          have h2 : (stA r i).2 ≠ r := fun z => by rw [if_pos z] at tfd; cases tfd
          rw [if_neg h2, eq_comm, decide_eq_true_eq] at tfd
          walk_at "es"
          exact fin
      | false =>
        rw [ht] at tfd
        have es : ((List.range i).map fun i => prD (pickI s dx dy (mvA r i))) ++ [prD (snd0 s dx dy)] = (List.range (i + 1)).map fun i => prD (pickI s dx dy (mvA r i)) := by
          rw [List.range_succ, List.map_append]
          show _ = _ ++ [prD (pickI s dx dy (mvA r i))]
          rw [ht]; rfl
        have eb : (stA r (i + 1)).1 = (stA r i).1 - 1 ∧ (stA r (i + 1)).2 = (stA r i).2 := by rw [stA, ht0, ht]; exact ⟨rfl, rfl⟩
        have hz : (stA r i).1 ≠ 0 := fun z => by rw [if_pos z] at tfd; cases tfd
        rw [if_neg hz] at tfd
        have fin : ∀ {s7 s8 s9 : Sl}, Hold (∃ t7 t8 t9, [Sl.val (.tup [.str (sortS s), .int dx, .int dy]), .acc [prD (fst0 s dx dy), prD (snd0 s dx dy)], .val (.int r), .val (.int ((stA r i).1 - 1)), .val (.int (stA r i).2), .val (.int ((stA r i).1 * (stA r i).1 + (stA r i).2 * (stA r i).2 - r * r - 2 * (stA r i).1 + 1)), .acc (((List.range i).map fun i => prD (pickI s dx dy (mvA r i))) ++ [prD (snd0 s dx dy)]), s7, s8, s9] = [.val (.tup [.str (sortS s), .int dx, .int dy]), .acc [prD (fst0 s dx dy), prD (snd0 s dx dy)], .val (.int r), .val (.int (stA r (i + 1)).1), .val (.int (stA r (i + 1)).2), .val (.int ((stA r (i + 1)).1 * (stA r (i + 1)).1 + (stA r (i + 1)).2 * (stA r (i + 1)).2 - r * r)), .acc ((List.range (i + 1)).map fun i => prD (pickI s dx dy (mvA r i))), t7, t8, t9]) := fun {s7 s8 s9} => by
          refine .a ⟨s7, s8, s9, ?_⟩
          rw [es, eb.1, eb.2, sq_down]
          rw [show (stA r i).1 * (stA r i).1 - 2 * (stA r i).1 + 1 + (stA r i).2 * (stA r i).2 - r * r = (stA r i).1 * (stA r i).1 + (stA r i).2 * (stA r i).2 - r * r - 2 * (stA r i).1 + 1 by omega]
        by_cases h2 : (stA r i).2 = r
        · walk_at "es"
          exact fin
        · rw [if_neg h2, eq_comm, decide_eq_false_iff_not] at tfd
          walk_at "es"
          exact fin
    · rintro G ⟨s7, s8, s9, rfl⟩
      walk_at "es"
      have : (arcI s dx dy r).map prD = (List.range (2 * r).toNat).map fun i => prD (pickI s dx dy (mvA r i)) := by
        unfold arcI
        rw [List.map_map]
        rfl
      rw [this] at p
      exact p
theorem ok_walked (T : Txt K mg) : FnOk P w K mg base CX0 4 T.f__law_walked T.fd__law_walked ["_law_outline_here"] (toSp K ap_cor) := by
  have G := ok_lsteps (P := P) (w := w) (base := base) T
  refine fn_ab [] T.F__law_walked sc__law_walked (by rintro as Post ⟨x, y, sts, rfl, _⟩; rfl) rfl (fun cdv A outer s H E hr => ⟨_, tm__law_walked T G cdv A outer s H E hr, ?_⟩)
  rintro as Post ⟨x, y, sts, rfl, hok, hlen, p⟩
  unfold t__law_walked
  show WS K [] _ [.val (.tup [.int x, .int y, .tup (sts.map Stk.dt)]), .un, .un, .un, .un, .un] _
  walk_at "es"
  refine for_tuple (sts.map Stk.dt) (fun i G => ∃ s5 s6, G = [.val (.tup [.int x, .int y, .tup (sts.map Stk.dt)]), .val (.int (endP (x, y) (allS (sts.take i))).1), .val (.int (endP (x, y) (allS (sts.take i))).2), .acc (reach x y (allS (sts.take i))), s5, s6]) ?_ ?_ ?_
  · walk_at "es"
    exact .a ⟨rfl, _, _, rfl⟩
  · rintro i d G hd ⟨s5, s6, rfl⟩
    obtain ⟨st, hst, rfl⟩ := take_all hd
    have so := hok st (List.mem_of_getElem? hst)
    have e1 : sts.take (i + 1) = sts.take i ++ [st] := by rw [List.take_add_one, hst]; rfl
    have hl1 := allS_len (take_ok hok i)
    have hl2 : (sts.take i).length ≤ 24 := by rw [List.length_take]; omega
    have hl3 := steps_len so
    walk_at "es"
    refine for_lstH ?_
    walk_at "es"
    refine .a ⟨st, rfl, so, ?_⟩
    walk_at "es"
    refine .a ⟨st.steps.map prD, rfl, fun j G => ∃ s6, G = [.val (.tup [.int x, .int y, .tup (sts.map Stk.dt)]), .val (.int (endP (x, y) (allS (sts.take i) ++ st.steps.take j)).1), .val (.int (endP (x, y) (allS (sts.take i) ++ st.steps.take j)).2), .acc (reach x y (allS (sts.take i) ++ st.steps.take j)), .val st.dt, s6], ?_, ?_, ?_⟩
    · refine ⟨s6, ?_⟩
      rw [List.take_zero, List.append_nil]
    · rintro j d G hd ⟨s6, rfl⟩
      rw [List.getElem?_map] at hd
      cases hq : st.steps[j]? with
      | none => rw [hq] at hd; cases hd
      | some q =>
        rw [hq] at hd
        cases hd
        have e2 : allS (sts.take i) ++ st.steps.take (j + 1) = (allS (sts.take i) ++ st.steps.take j) ++ [q] := by rw [List.take_add_one, hq, List.append_assoc]; rfl
        have hz : (reach x y (allS (sts.take i) ++ st.steps.take j)).length < 1000000 := by
          rw [reach_len, List.length_append, List.length_take]; omega
        show WG K [] _ (.tup [.int q.1, .int q.2]) _ _
        walk_at "es"
        refine .a ⟨.val (prD q), ?_⟩
        rw [e2, endP_snoc, reach_snoc]
        rfl
    · rintro G ⟨s6, rfl⟩
      refine .a ⟨.val st.dt, s6, ?_⟩
      rw [List.length_map, List.take_length, e1, allS_snoc]
  · rintro G ⟨s5, s6, rfl⟩
    rw [List.length_map, List.take_length]
    walk_at "es"
    exact p
end
end Lk27
namespace Lk27
open PySem L2 Ab Strokes
/-! ### where strokes end -/
def sumX (l : List (Int × Int)) : Int := (l.map Prod.fst).sum
def sumY (l : List (Int × Int)) : Int := (l.map Prod.snd).sum
theorem sumX_app (a b : List (Int × Int)) : sumX (a ++ b) = sumX a + sumX b := by unfold sumX; rw [List.map_append, List.sum_append]
theorem sumY_app (a b : List (Int × Int)) : sumY (a ++ b) = sumY a + sumY b := by unfold sumY; rw [List.map_append, List.sum_append]
theorem endP_sum : ∀ (p : Int × Int) (l : List (Int × Int)), endP p l = (p.1 + sumX l, p.2 + sumY l)
  | p, [] => by unfold endP sumX sumY; simp
  | p, s :: r => by
    rw [endP, endP_sum]
    unfold addP sumX sumY
    simp only [List.map_cons, List.sum_cons]
    exact Prod.ext (by simp only; omega) (by simp only; omega)
theorem sum_range (f : Nat → Int × Int) (A B : Nat → Int) (a0 : A 0 = 0) (b0 : B 0 = 0) : ∀ n : Nat, (∀ k, k < n → A (k + 1) = A k + (f k).1 ∧ B (k + 1) = B k + (f k).2) → sumX ((List.range n).map f) = A n ∧ sumY ((List.range n).map f) = B n
  | 0, _ => by rw [a0, b0]; exact ⟨rfl, rfl⟩
  | n + 1, h => by
    obtain ⟨i1, i2⟩ := sum_range f A B a0 b0 n fun k hk => h k (by omega)
    rw [List.range_succ, List.map_append, sumX_app, sumY_app, i1, i2, (h n (by omega)).1, (h n (by omega)).2]
    unfold sumX sumY
    simp
theorem line_sum {dx dy : Int} (h : Fair dx dy) : sumX (lineI dx dy) = dx ∧ sumY (lineI dx dy) = dy := by
  have hp : 0 < ab dx + ab dy := by
    obtain ⟨_, _, _, _, h⟩ := h
    unfold ab
    split <;> split <;> omega
  obtain ⟨e1, e2⟩ := sum_range (Strokes.stepI dx dy) (fun k => sgn dx * lv dx dy k) (fun k => sgn dy * (k - lv dx dy k)) (by simp [lv_zero]) (by simp [lv_zero]) (ab dx + ab dy).toNat fun k _ => by
    have hs := lv_step hp k
    unfold Strokes.stepI
    split
    · have e : lv dx dy (k + 1) = lv dx dy k + 1 := by omega
      rw [e, show ((k + 1 : Nat) : Int) - (lv dx dy k + 1) = k - lv dx dy k by omega, Int.mul_add, Int.mul_one]
      simp
    · have e : lv dx dy (k + 1) = lv dx dy k := by omega
      rw [e, show ((k + 1 : Nat) : Int) - lv dx dy k = (k - lv dx dy k) + 1 by omega, Int.mul_add, Int.mul_one]
      simp
  unfold lineI
  rw [e1, e2, lv_end hp, sgn_ab]
  refine ⟨rfl, ?_⟩
  rw [show (((ab dx + ab dy).toNat : Nat) : Int) - ab dx = ab dy by have := ab_nonneg dy; omega, sgn_ab]
theorem arc_sum {s dx dy r : Int} (h : Arc s dx dy r) : sumX (arcI s dx dy r) = dx ∧ sumY (arcI s dx dy r) = dy := by
  have hr := h.r0
  obtain ⟨c0, c1, c2, c3, c4⟩ := st_ok (r := r) (by omega) (2 * r).toNat (by omega)
  have ea : (stA r (2 * r).toNat).1 = 0 := by omega
  have eb : (stA r (2 * r).toNat).2 = r := by omega
  have ex : sgn dx * r = dx := by have := sgn_ab dx; rw [(ab_arc h).1] at this; exact this
  have ey : sgn dy * r = dy := by have := sgn_ab dy; rw [(ab_arc h).2] at this; exact this
  unfold arcI
  have stp : ∀ k : Nat, (stA r (k + 1)).1 = (stA r k).1 - (if mvA r k then 0 else 1) ∧ (stA r (k + 1)).2 = (stA r k).2 + (if mvA r k then 1 else 0) := by
    intro k
    rw [stA]
    have : tf r (stA r k).1 (stA r k).2 = mvA r k := rfl
    rw [this]
    cases mvA r k <;> simp
  rcases h.hs with rfl | rfl
  · obtain ⟨e1, e2⟩ := sum_range (fun i => pickI 0 dx dy (mvA r i)) (fun k => sgn dx * (stA r k).2) (fun k => sgn dy * (r - (stA r k).1)) (by simp [stA]) (by simp [stA]) (2 * r).toNat fun k _ => by
      obtain ⟨q1, q2⟩ := stp k
      simp only [q1, q2]
      unfold pickI fst0 snd0
      cases mvA r k
      · simp [Int.mul_add, Int.mul_sub]; omega
      · simp [Int.mul_add, Int.mul_sub]
    rw [e1, e2, ea, eb, ex, Int.sub_zero, ey]
    exact ⟨rfl, rfl⟩
  · obtain ⟨e1, e2⟩ := sum_range (fun i => pickI 1 dx dy (mvA r i)) (fun k => sgn dx * (r - (stA r k).1)) (fun k => sgn dy * (stA r k).2) (by simp [stA]) (by simp [stA]) (2 * r).toNat fun k _ => by
      obtain ⟨q1, q2⟩ := stp k
      simp only [q1, q2]
      unfold pickI fst0 snd0
      cases mvA r k
      · simp [Int.mul_add, Int.mul_sub]; omega
      · simp [Int.mul_add, Int.mul_sub]
    rw [e1, e2, ea, eb, ey, Int.sub_zero, ex]
    exact ⟨rfl, rfl⟩
theorem stk_sum {st : Stk} (h : st.ok) : sumX st.steps = Stk.ex st ∧ sumY st.steps = Stk.ey st := by
  cases st with
  | line dx dy => exact line_sum h
  | arc s dx dy r => exact arc_sum h
theorem all_sum : ∀ {sts : List Stk}, (∀ st ∈ sts, st.ok) → sumX (allS sts) = (sts.map Stk.ex).sum ∧ sumY (allS sts) = (sts.map Stk.ey).sum
  | [], _ => ⟨rfl, rfl⟩
  | st :: r, h => by
    obtain ⟨i1, i2⟩ := all_sum (sts := r) fun s hs => h s (List.mem_cons_of_mem _ hs)
    obtain ⟨j1, j2⟩ := stk_sum (h st List.mem_cons_self)
    have e : allS (st :: r) = st.steps ++ allS r := by unfold allS; simp
    rw [e, sumX_app, sumY_app, i1, i2, j1, j2, List.map_cons, List.map_cons, List.sum_cons, List.sum_cons]
    exact ⟨rfl, rfl⟩
theorem last_walk : ∀ (p : Int × Int) (l : List (Int × Int)), (p :: walkP p l)[l.length]? = some (endP p l)
  | p, [] => rfl
  | p, s :: r => by
    rw [walkP, List.length_cons, List.getElem?_cons_succ]
    exact last_walk (addP p s) r
theorem last_reach (x y : Int) (l : List (Int × Int)) : atI (reach x y l) (-1) = some (prD (endP (x, y) l)) := by
  unfold atI ixN
  rw [reach_len]
  have e : (-1 : Int) + ((l.length + 1 : Nat) : Int) = l.length := by omega
  have : (reach x y l)[l.length]? = some (prD (endP (x, y) l)) := by
    unfold reach
    rw [List.getElem?_map, last_walk]
    rfl
  rw [if_neg (by omega), e, if_pos (by omega)]
  simpa using this
def mv (dx dy : Int) (p : Int × Int) : Int × Int := (p.1 + dx, p.2 + dy)
theorem walk_mv (dx dy : Int) : ∀ (p : Int × Int) (l : List (Int × Int)), walkP (mv dx dy p) l = (walkP p l).map (mv dx dy)
  | p, [] => rfl
  | p, s :: r => by
    have e : addP (mv dx dy p) s = mv dx dy (addP p s) := by unfold addP mv; exact Prod.ext (by simp only; omega) (by simp only; omega)
    rw [walkP, e, walk_mv dx dy (addP p s) r]
    rfl
theorem reach_mv (dx dy x y : Int) (l : List (Int × Int)) : reach (x + dx) (y + dy) l = (((x, y) :: walkP (x, y) l).map (mv dx dy)).map prD := by
  unfold reach
  have := walk_mv dx dy (x, y) l
  rw [show mv dx dy (x, y) = (x + dx, y + dy) from rfl] at this
  rw [this]
  rfl
theorem okAll_prs : ∀ (l : List (Int × Int)), okAll (l.map prD) = true
  | [] => by rw [List.map_nil, okAll]
  | p :: r => by
    rw [List.map_cons, okAll, okAll_prs r]
    unfold prD pr
    simp [okD, okAll, Dt.int]
theorem depAll_prs : ∀ (l : List (Int × Int)), depAll (l.map prD) ≤ 1
  | [] => by rw [List.map_nil, depAll]; omega
  | p :: r => by
    have := depAll_prs r
    rw [List.map_cons, depAll]
    unfold prD pr
    simp [depD, depAll, Dt.int]
    unfold prD pr at this
    simp [Dt.int] at this
    omega
theorem ok_reach {x y : Int} {l : List (Int × Int)} (h : l.length < 100000) : okD (.lst (reach x y l)) = true ∧ depD (.lst (reach x y l)) ≤ 4 := by
  have e := reach_len x y l
  constructor
  · rw [okD, Bool.and_eq_true, decide_eq_true_eq]
    exact ⟨by omega, okAll_prs _⟩
  · rw [depD]
    have := depAll_prs ((x, y) :: walkP (x, y) l)
    unfold reach
    omega
end Lk27
namespace Lk27
open PySem L2 Ab Strokes
local macro_rules | `(tactic| walk_at "no") => `(tactic| first
  | exact fun h => Bool.noConfusion (show true = false from h)
  | exact fun h => Bool.noConfusion (show false = true from h)
  | exact fun h => absurd (of_decide_eq_true h) (by omega)
  | exact fun h => absurd (by omega) (of_decide_eq_false h)
  | exact fun h => absurd (by omega) (nd_t h)
  | exact fun h => absurd (nd_f h) (by omega)
  | fail "no")
local macro_rules | `(tactic| walk_at "kb") => `(tactic| first | exact kb_tt | exact kb_ll | exact kb_ii | exact kb_ib | exact kb_ss | exact kb_sb | exact kb_si | exact kb_tb | exact kb_ti | exact kb_ts | exact kb_tl | exact kb_lb | exact kb_li | exact kb_ls | exact kb_lt | exact kb_is | exact kb_it | exact kb_il | exact kb_st | exact kb_sl | exact kb_bb | exact kb_bi | exact kb_nb | exact kb_ni | exact kb_ns | exact kb_nt | exact kb_nl | exact kb_bs | exact kb_bt | exact kb_bl | fail "kb")
local macro_rules | `(tactic| walk_at "norm") => `(tactic| first
  | exact (rfl : _ = ([] : List Sl))
  | ((refine' norm_cons (rfl : _ = _ :: _) ?ea ?et); (case ea => first | exact norm_v | exact norm_n | exact norm_o | exact rfl | fail "norm"); (case et => walk_at "norm"))
  | fail "norm")
local macro_rules | `(tactic| walk_at "x") => `(tactic| first
  | ((with_reducible refine' norm_intro ?hn ?_); (case hn => walk_at "norm"))
  | ((with_reducible refine' we_var ?hh ?_); (case hh => exact rfl))
  | ((with_reducible refine' we_own ?hh ?_); (case hh => exact rfl))
  | with_reducible refine we_c ?_
  | with_reducible refine we_addG ?_
  | with_reducible refine addp_i ?_
  | with_reducible refine we_opI0 ?_
  | with_reducible refine we_opI ?_
  | with_reducible refine we_mulG ?_
  | ((with_reducible refine' mulp_r ?h1 ?_); (case h1 => first | decide | omega | fail "m"))
  | ((with_reducible refine' mulp_l ?h1 ?_); (case h1 => first | decide | omega | fail "m"))
  | with_reducible refine we_neg ?_
  | with_reducible refine we_ltG ?_
  | with_reducible refine ltp_i ?_
  | with_reducible refine we_eqG ?_
  | with_reducible refine we_neG ?_
  | with_reducible refine eqp_i ?_
  | with_reducible refine nep_i ?_
  | with_reducible refine we_ixG ?_
  | ((with_reducible refine' ixp ?h1 ?h2 ?_); (case h1 => exact rfl); (case h2 => exact rfl))
  | with_reducible refine we_lenG ?_
  | ((with_reducible refine' lenp ?hh ?_); (case hh => exact rfl))
  | with_reducible refine we_intG ?_
  | with_reducible refine intp_i ?_
  | with_reducible refine intp_b ?_
  | with_reducible refine we_abs ?_
  | with_reducible refine we_tup ?_
  | with_reducible refine we_lst ?_
  | with_reducible refine we_tuple ?_
  | with_reducible refine we_list ?_
  | with_reducible refine we_sum ?_
  | with_reducible refine we_max2 ?_
  | with_reducible refine we_min2 ?_
  | with_reducible refine wd_cons ?_
  | with_reducible refine wd_nil ?_
  | with_reducible refine wa_cons ?_
  | with_reducible refine wa_nil ?_
  | with_reducible refine we_callH ?_
  | with_reducible refine we_isiG ?_
  | ((with_reducible refine' isi_own ?h1 ?h2 ?_); (case h1 => exact rfl); (case h2 => walk_at "kb"))
  | ((with_reducible refine' isi_val ?h1 ?h2 ?_); (case h1 => exact rfl); (case h2 => walk_at "kb"))
  | ((with_reducible refine' isi_new ?h2 ?_); (case h2 => walk_at "kb"))
  | with_reducible refine we_chainI ?_
  | with_reducible refine we_andV ?_
  | with_reducible refine we_orV ?_
  | with_reducible refine we_notV ?_
  | with_reducible refine wt_test ?_
  | with_reducible refine wt_B ?_
  | with_reducible refine wt_yes ?_
  | with_reducible refine wt_and ?_
  | with_reducible refine wt_or ?_
  | with_reducible refine wt_not ?_
  | ((with_reducible refine' ws_retA ?hh ?_); (case hh => exact rfl))
  | with_reducible refine ws_ret ?_
  | with_reducible refine ws_if ?_
  | with_reducible refine ws_nil ?_
  | with_reducible refine ws_expr ?_
  | with_reducible refine ws_asgN rfl rfl ?_
  | with_reducible refine ws_setN ?_
  | with_reducible refine ws_asgG ?_
  | ((with_reducible refine' wg_tup ?hh ?_); (case hh => exact rfl))
  | with_reducible refine wgs_cons ?_
  | with_reducible refine wgs_nil ?_
  | with_reducible refine wg_nameN rfl rfl ?_
  | ((with_reducible refine' we_appendN ?hh ?_); (case hh => exact rfl))
  | ((with_reducible refine' we_reverseN ?hh ?_); (case hh => exact rfl))
  | ((with_reducible refine' ws_augN ?h1 ?h2 ?_); (case h1 => exact rfl); (case h2 => exact rfl))
  | (refine ⟨_, rfl, ⟨_, rfl⟩, ?_⟩)
  | (refine ⟨_, rfl, ?_⟩)
  | (refine ⟨_, _, _, rfl, rfl, rfl, ?_⟩)
  | (refine ⟨_, _, rfl, rfl, (Nat.le_of_ble_eq_true rfl : _ ≤ _), ?_⟩)
  | (refine ⟨_, _, rfl, rfl, ?_⟩)
  | (refine ⟨(Nat.le_of_ble_eq_true rfl : _ ≤ _), ?_⟩)
  | (refine ⟨(rfl : _ = true), ?_⟩)
  | ((refine' ⟨fun _ => ?_, fun hY => absurd hY ?k2⟩); (case k2 => walk_at "no"))
  | ((refine' ⟨fun hY => absurd hY ?k2, fun _ => ?_⟩); (case k2 => walk_at "no"))
  | (refine ⟨⟨(by omega), (by omega)⟩, ?_⟩)
  | (refine ⟨⟨(by decide), (by decide), (by decide)⟩, ?_⟩)
  | (refine ⟨(by first | decide | omega | fail "c"), ?_⟩)
  | fail "stop")
local macro_rules | `(tactic| walk_at "e") => `(tactic| first | with_reducible refine ws_seq ?_ | walk_at "x" | fail "stop")
local macro_rules | `(tactic| walk_at "xs") => `(tactic| repeat' walk_at "x")
local macro_rules | `(tactic| walk_at "es") => `(tactic| repeat' walk_at "e")
def ap_law : AP := fun as Post => ∃ ns, as = [.val (.scr ns)] ∧ Post (.val (.bl true)) [.val (.scr ns)]
section
variable {P : Program} {w : World} {K : PySem.W.Frag} {mg : Str → Option Value} {base : Heap}
theorem ok_law (T : Txt K mg) : FnOk P w K mg base CX0 7 T.f_law T.fd_law ["_law_script"] (toSp K ap_law) := by
  have G1 := ok_pool (P := P) (w := w) (base := base) T
  have G2 := ok_outline (P := P) (w := w) (base := base) T
  have G3 := ok_take (P := P) (w := w) (base := base) T
  have G4 := ok_walked (P := P) (w := w) (base := base) T
  have G5 := ok_corners (P := P) (w := w) (base := base) T
  have G6 := ok_same (P := P) (w := w) (base := base) T 4
  refine fn_ab [] T.F_law sc_law (by rintro as Post ⟨ns, rfl, _⟩; rfl) rfl (fun cdv A outer s H E hr => ⟨_, tm_law T G1 G2 G3 G4 G5 G6 cdv A outer s H E hr, ?_⟩)
  rintro as Post ⟨ns, rfl, p⟩
  unfold t_law
  show WS K [] _ [.val (.scr ns), .un, .un, .un, .un, .un, .un, .un, .un, .un, .un, .un] _
  walk_at "es"
  refine .a ⟨ns, 0, rfl, by omega, by omega, fun ds0 h0 => ?_⟩
  walk_at "es"
  refine .a ⟨ds0, 0, rfl, h0, rfl, fun ds1 c1 x y sts h1 c10 c11 hok _ hlen x0 x1 y0 y1 => ?_⟩
  walk_at "es"
  refine .a ⟨ds1, c1, 61, rfl, h1, by omega, by omega, by omega, by omega, fun d2 gx h2 gx0 gx1 => ?_⟩
  walk_at "es"
  refine .a ⟨d2, c1 + 1, 61, rfl, h2, by omega, by omega, by omega, by omega, fun d3 gy h3 gy0 gy1 => ?_⟩
  generalize hdx : gx - 20 - x = dx
  have hal := allS_len hok
  have hr := ok_reach (x := x) (y := y) (l := allS sts) (by omega)
  have hrl := reach_len x y (allS sts)
  walk_at "es"
  generalize hdy : gy - 20 - y = dy
  refine .a ⟨x, y, sts, rfl, hok, hlen, ?_⟩
  walk_at "es"
  refine .a ⟨x, y, sts, rfl, hok, hlen, ?_⟩
  walk_at "es"
  refine .a ⟨_, _, .lst (reach x y (allS sts)), rfl, rfl, rfl, hr.1, hr.2, ?_⟩
  walk_at "xs"
  have sumrun : ∀ (f : Stk → Int) (k : Int) (s7 s8 : Sl) (Q : Re → List Sl → Prop), (∀ (st : Stk), ∃ a b c : Dt, st.dt = .tup [a, b, c] ∧ atI [a, b, c] k = some (.int (f st))) →
      Q (.val (.int (sts.map f).sum)) [.val (.scr ns), .acc d3, .val (.tup [.int x, .int y, .tup (sts.map Stk.dt)]), .val (.int dx), .val (.int dy), .acc (reach x y (allS sts)), .acc (reach x y (allS sts)), s7, s8, .un, .un, .un] →
      WE K (tCB (rSum K) (tCons (tLc (iTup K (tOp (rIx K) (tVar 2) (tC (.int 2)))) (gName 10) tYes (tOp (rIx K) (tVar 10) (tC (.int k))) [10]) tNil)) [.val (.scr ns), .acc d3, .val (.tup [.int x, .int y, .tup (sts.map Stk.dt)]), .val (.int dx), .val (.int dy), .acc (reach x y (allS sts)), .acc (reach x y (allS sts)), s7, s8, .un, .un, .un] Q := by
    intro f k s7 s8 Q hf q
    refine we_sum ?_
    refine lc_tuple (sts.map Stk.dt) (fun i es G => es = ((sts.take i).map f).map Dt.int ∧ G = [.val (.scr ns), .acc d3, .val (.tup [.int x, .int y, .tup (sts.map Stk.dt)]), .val (.int dx), .val (.int dy), .acc (reach x y (allS sts)), .acc (reach x y (allS sts)), s7, s8, .un, .un, .un]) ?_ ?_ ?_
    · walk_at "es"
      exact .a ⟨rfl, by rw [List.length_map]; omega, rfl, rfl, rfl, rfl, rfl⟩
    · rintro i d es G hd ⟨rfl, rfl⟩
      obtain ⟨st, hst, rfl⟩ := take_all hd
      obtain ⟨a, b, c, e1, e2⟩ := hf st
      rw [e1]
      show WT K _ [.val (.scr ns), .acc d3, .val (.tup [.int x, .int y, .tup (sts.map Stk.dt)]), .val (.int dx), .val (.int dy), .acc (reach x y (allS sts)), .acc (reach x y (allS sts)), s7, s8, .un, .val (.tup [a, b, c]), .un] _
      walk_at "es"
      refine ixp rfl e2 ?_
      walk_at "es"
      refine .a ⟨?_, rfl⟩
      rw [List.take_add_one, hst]
      simp
    · rintro es G ⟨rfl, rfl⟩
      rw [List.length_map, List.take_length]
      exact .a ⟨sts.map f, rfl, q⟩
  walk_at "e"; walk_at "x"; walk_at "x"; walk_at "x"; walk_at "x"; walk_at "x"; walk_at "x"
  refine sumrun Stk.ex 1 _ _ _ (fun st => ?_) ?_
  · obtain ⟨z, e, _⟩ := dt_parts st
    exact ⟨_, _, _, e, rfl⟩
  walk_at "xs"; walk_at "e"; walk_at "x"; walk_at "x"; walk_at "x"; walk_at "x"; walk_at "x"; walk_at "x"
  refine sumrun Stk.ey 2 _ _ _ (fun st => ?_) ?_
  · obtain ⟨z, e, _⟩ := dt_parts st
    exact ⟨_, _, _, e, rfl⟩
  have ee := endP_sum (x, y) (allS sts)
  rw [(all_sum hok).1, (all_sum hok).2] at ee
  have el := last_reach x y (allS sts)
  rw [ee] at el
  walk_at "es"
  refine ixp (d := .tup [.int (x + (sts.map Stk.ex).sum), .int (y + (sts.map Stk.ey).sum)]) rfl el ?_
  walk_at "es"
  refine eqp_pair ?_
  rw [show (true ^^ decide (x + (sts.map Stk.ex).sum = x + (sts.map Stk.ex).sum ∧ y + (sts.map Stk.ey).sum = y + (sts.map Stk.ey).sum)) = false by simp]
  have hrv : (reach x y (allS sts)).reverse.length < 1000000 := by rw [List.length_reverse]; omega
  walk_at "es"
  refine .a ⟨x + dx, y + dy, sts, rfl, hok, hlen, ?_⟩
  walk_at "es"
  refine lc_acc (reach x y (allS sts)) (fun i es G => es = ((((x, y) :: walkP (x, y) (allS sts)).take i).map (mv dx dy)).map prD ∧ ∃ s6 s7 s8 s9, G = [.val (.scr ns), .acc d3, .val (.tup [.int x, .int y, .tup (sts.map Stk.dt)]), .val (.int dx), .val (.int dy), .acc (reach x y (allS sts)), s6, s7, s8, .acc (reach (x + dx) (y + dy) (allS sts)), s9, .un]) rfl (by omega) rfl rfl ⟨rfl, _, _, _, _, rfl⟩ (fun i es G ⟨_, _, _, _, _, e⟩ => by rw [e]; rfl) ?_ ?_
  · rintro i d es G hd ⟨rfl, s6, s7, s8, s9, rfl⟩
    unfold reach at hd
    rw [List.getElem?_map] at hd
    cases hq : ((x, y) :: walkP (x, y) (allS sts))[i]? with
    | none => rw [hq] at hd; cases hd
    | some q =>
      rw [hq] at hd
      cases hd
      show WT K _ [.val (.scr ns), .acc d3, .val (.tup [.int x, .int y, .tup (sts.map Stk.dt)]), .val (.int dx), .val (.int dy), .acc (reach x y (allS sts)), s6, s7, s8, .acc (reach (x + dx) (y + dy) (allS sts)), s9, .val (.tup [.int q.1, .int q.2])] _
      walk_at "es"
      refine .a ⟨?_, s6, s7, s8, s9, rfl⟩
      rw [List.take_add_one, hq, List.map_append, List.map_append]
      rfl
  · rintro es G ⟨rfl, s6, s7, s8, s9, rfl⟩
    have hr2 := ok_reach (x := x + dx) (y := y + dy) (l := allS sts) (by omega)
    rw [List.take_of_length_le (by unfold reach; rw [List.length_map]; exact Nat.le_refl _), ← reach_mv]
    walk_at "es"
    refine .a ⟨_, _, .lst (reach (x + dx) (y + dy) (allS sts)), rfl, rfl, rfl, hr2.1, hr2.2, ?_⟩
    walk_at "es"
    refine .a ⟨x, y, sts, rfl, hok, hlen, ?_⟩
    walk_at "es"
    refine .a ⟨_, _, .lst (reach x y (allS sts)), rfl, rfl, rfl, hr.1, hr.2, ?_⟩
    walk_at "es"
    exact p
end
end Lk27
namespace Lk27
open PySem L2 Ab
theorem law_pre {ns : List Int} (hl : ns.length ≤ 63) {Post : Re → List Sl → Prop} (hp : ∀ as, Post (.val (.bl true)) as) : ap_law [.val (.scr ns)] Post := ⟨ns, rfl, hp _⟩
end Lk27
namespace Lk27
open PySem L2 Ab
theorem fin_mk {l : PySem.W.OpenLaw} {w : World} {K : PySem.W.Frag} {h : Heap} {mg : Str → Option Value} {fa : Addr} (X : K.In h) (G : h.Ns mainGlobals mg) (hfa : mg "law" = some (.ref fa))
    {f0 : Addr} {od0 an0 : Option Addr} {sl0 : Array (Option Value)} {oc0 kV0 dc0 pm0 cd0 ct0 : Value}
    (a0 : PySem.W.nsIn K mainGlobals "sign" = some (some (.ref f0))) (l0 : K.lookup f0 = some ⟨oc0, od0, .func (PySem.W.fnOf "sign" "sign" (defArgs s_sign) (defBody s_sign) (defScope s_sign) .none kV0 dc0 pm0 an0 cd0 ct0), sl0⟩) (c0 : PySem.W.codeIn K cd0 "sign" = true) (k0 : PySem.W.keepIn K (.ref f0) = true)
    {f1 : Addr} {od1 an1 : Option Addr} {sl1 : Array (Option Value)} {oc1 kV1 dc1 pm1 cd1 ct1 : Value}
    (a1 : PySem.W.nsIn K mainGlobals "line_steps" = some (some (.ref f1))) (l1 : K.lookup f1 = some ⟨oc1, od1, .func (PySem.W.fnOf "line_steps" "line_steps" (defArgs s_line_steps) (defBody s_line_steps) (defScope s_line_steps) .none kV1 dc1 pm1 an1 cd1 ct1), sl1⟩) (c1 : PySem.W.codeIn K cd1 "line_steps" = true) (k1 : PySem.W.keepIn K (.ref f1) = true)
    {f2 : Addr} {od2 an2 : Option Addr} {sl2 : Array (Option Value)} {oc2 kV2 dc2 pm2 cd2 ct2 : Value}
    (a2 : PySem.W.nsIn K mainGlobals "takes_first_move" = some (some (.ref f2))) (l2 : K.lookup f2 = some ⟨oc2, od2, .func (PySem.W.fnOf "takes_first_move" "takes_first_move" (defArgs s_takes_first_move) (defBody s_takes_first_move) (defScope s_takes_first_move) .none kV2 dc2 pm2 an2 cd2 ct2), sl2⟩) (c2 : PySem.W.codeIn K cd2 "takes_first_move" = true) (k2 : PySem.W.keepIn K (.ref f2) = true)
    {f3 : Addr} {od3 an3 : Option Addr} {sl3 : Array (Option Value)} {oc3 kV3 dc3 pm3 cd3 ct3 : Value}
    (a3 : PySem.W.nsIn K mainGlobals "arc_steps" = some (some (.ref f3))) (l3 : K.lookup f3 = some ⟨oc3, od3, .func (PySem.W.fnOf "arc_steps" "arc_steps" (defArgs s_arc_steps) (defBody s_arc_steps) (defScope s_arc_steps) .none kV3 dc3 pm3 an3 cd3 ct3), sl3⟩) (c3 : PySem.W.codeIn K cd3 "arc_steps" = true) (k3 : PySem.W.keepIn K (.ref f3) = true)
    {f4 : Addr} {od4 an4 : Option Addr} {sl4 : Array (Option Value)} {oc4 kV4 dc4 pm4 cd4 ct4 : Value}
    (a4 : PySem.W.nsIn K mainGlobals "unit_steps" = some (some (.ref f4))) (l4 : K.lookup f4 = some ⟨oc4, od4, .func (PySem.W.fnOf "unit_steps" "unit_steps" (defArgs s_unit_steps) (defBody s_unit_steps) (defScope s_unit_steps) .none kV4 dc4 pm4 an4 cd4 ct4), sl4⟩) (c4 : PySem.W.codeIn K cd4 "unit_steps" = true) (k4 : PySem.W.keepIn K (.ref f4) = true)
    {f5 : Addr} {od5 an5 : Option Addr} {sl5 : Array (Option Value)} {oc5 kV5 dc5 pm5 cd5 ct5 : Value}
    (a5 : PySem.W.nsIn K mainGlobals "corners" = some (some (.ref f5))) (l5 : K.lookup f5 = some ⟨oc5, od5, .func (PySem.W.fnOf "corners" "corners" (defArgs s_corners) (defBody s_corners) (defScope s_corners) .none kV5 dc5 pm5 an5 cd5 ct5), sl5⟩) (c5 : PySem.W.codeIn K cd5 "corners" = true) (k5 : PySem.W.keepIn K (.ref f5) = true)
    {f6 : Addr} {od6 an6 : Option Addr} {sl6 : Array (Option Value)} {oc6 kV6 dc6 pm6 cd6 ct6 : Value}
    (a6 : PySem.W.nsIn K mainGlobals "_law_pool" = some (some (.ref f6))) (l6 : K.lookup f6 = some ⟨oc6, od6, .func (PySem.W.fnOf "_law_pool" "_law_pool" (defArgs s__law_pool) (defBody s__law_pool) (defScope s__law_pool) .none kV6 dc6 pm6 an6 cd6 ct6), sl6⟩) (c6 : PySem.W.codeIn K cd6 "_law_pool" = true) (k6 : PySem.W.keepIn K (.ref f6) = true)
    {f7 : Addr} {od7 an7 : Option Addr} {sl7 : Array (Option Value)} {oc7 kV7 dc7 pm7 cd7 ct7 : Value}
    (a7 : PySem.W.nsIn K mainGlobals "_law_take" = some (some (.ref f7))) (l7 : K.lookup f7 = some ⟨oc7, od7, .func (PySem.W.fnOf "_law_take" "_law_take" (defArgs s__law_take) (defBody s__law_take) (defScope s__law_take) .none kV7 dc7 pm7 an7 cd7 ct7), sl7⟩) (c7 : PySem.W.codeIn K cd7 "_law_take" = true) (k7 : PySem.W.keepIn K (.ref f7) = true)
    {f8 : Addr} {od8 an8 : Option Addr} {sl8 : Array (Option Value)} {oc8 kV8 dc8 pm8 cd8 ct8 : Value}
    (a8 : PySem.W.nsIn K mainGlobals "_law_same" = some (some (.ref f8))) (l8 : K.lookup f8 = some ⟨oc8, od8, .func (PySem.W.fnOf "_law_same" "_law_same" (defArgs s__law_same) (defBody s__law_same) (defScope s__law_same) .none kV8 dc8 pm8 an8 cd8 ct8), sl8⟩) (c8 : PySem.W.codeIn K cd8 "_law_same" = true) (k8 : PySem.W.keepIn K (.ref f8) = true)
    {f9 : Addr} {od9 an9 : Option Addr} {sl9 : Array (Option Value)} {oc9 kV9 dc9 pm9 cd9 ct9 : Value}
    (a9 : PySem.W.nsIn K mainGlobals "_law_stroke" = some (some (.ref f9))) (l9 : K.lookup f9 = some ⟨oc9, od9, .func (PySem.W.fnOf "_law_stroke" "_law_stroke" (defArgs s__law_stroke) (defBody s__law_stroke) (defScope s__law_stroke) .none kV9 dc9 pm9 an9 cd9 ct9), sl9⟩) (c9 : PySem.W.codeIn K cd9 "_law_stroke" = true) (k9 : PySem.W.keepIn K (.ref f9) = true)
    {f10 : Addr} {od10 an10 : Option Addr} {sl10 : Array (Option Value)} {oc10 kV10 dc10 pm10 cd10 ct10 : Value}
    (a10 : PySem.W.nsIn K mainGlobals "_law_outline" = some (some (.ref f10))) (l10 : K.lookup f10 = some ⟨oc10, od10, .func (PySem.W.fnOf "_law_outline" "_law_outline" (defArgs s__law_outline) (defBody s__law_outline) (defScope s__law_outline) .none kV10 dc10 pm10 an10 cd10 ct10), sl10⟩) (c10 : PySem.W.codeIn K cd10 "_law_outline" = true) (k10 : PySem.W.keepIn K (.ref f10) = true)
    {f11 : Addr} {od11 an11 : Option Addr} {sl11 : Array (Option Value)} {oc11 kV11 dc11 pm11 cd11 ct11 : Value}
    (a11 : PySem.W.nsIn K mainGlobals "_law_sign" = some (some (.ref f11))) (l11 : K.lookup f11 = some ⟨oc11, od11, .func (PySem.W.fnOf "_law_sign" "_law_sign" (defArgs s__law_sign) (defBody s__law_sign) (defScope s__law_sign) .none kV11 dc11 pm11 an11 cd11 ct11), sl11⟩) (c11 : PySem.W.codeIn K cd11 "_law_sign" = true) (k11 : PySem.W.keepIn K (.ref f11) = true)
    {f12 : Addr} {od12 an12 : Option Addr} {sl12 : Array (Option Value)} {oc12 kV12 dc12 pm12 cd12 ct12 : Value}
    (a12 : PySem.W.nsIn K mainGlobals "_law_line_steps" = some (some (.ref f12))) (l12 : K.lookup f12 = some ⟨oc12, od12, .func (PySem.W.fnOf "_law_line_steps" "_law_line_steps" (defArgs s__law_line_steps) (defBody s__law_line_steps) (defScope s__law_line_steps) .none kV12 dc12 pm12 an12 cd12 ct12), sl12⟩) (c12 : PySem.W.codeIn K cd12 "_law_line_steps" = true) (k12 : PySem.W.keepIn K (.ref f12) = true)
    {f13 : Addr} {od13 an13 : Option Addr} {sl13 : Array (Option Value)} {oc13 kV13 dc13 pm13 cd13 ct13 : Value}
    (a13 : PySem.W.nsIn K mainGlobals "_law_steps" = some (some (.ref f13))) (l13 : K.lookup f13 = some ⟨oc13, od13, .func (PySem.W.fnOf "_law_steps" "_law_steps" (defArgs s__law_steps) (defBody s__law_steps) (defScope s__law_steps) .none kV13 dc13 pm13 an13 cd13 ct13), sl13⟩) (c13 : PySem.W.codeIn K cd13 "_law_steps" = true) (k13 : PySem.W.keepIn K (.ref f13) = true)
    {f14 : Addr} {od14 an14 : Option Addr} {sl14 : Array (Option Value)} {oc14 kV14 dc14 pm14 cd14 ct14 : Value}
    (a14 : PySem.W.nsIn K mainGlobals "_law_walked" = some (some (.ref f14))) (l14 : K.lookup f14 = some ⟨oc14, od14, .func (PySem.W.fnOf "_law_walked" "_law_walked" (defArgs s__law_walked) (defBody s__law_walked) (defScope s__law_walked) .none kV14 dc14 pm14 an14 cd14 ct14), sl14⟩) (c14 : PySem.W.codeIn K cd14 "_law_walked" = true) (k14 : PySem.W.keepIn K (.ref f14) = true)
    {f15 : Addr} {od15 an15 : Option Addr} {sl15 : Array (Option Value)} {oc15 kV15 dc15 pm15 cd15 ct15 : Value}
    (a15 : PySem.W.nsIn K mainGlobals "law" = some (some (.ref f15))) (l15 : K.lookup f15 = some ⟨oc15, od15, .func (PySem.W.fnOf "law" "law" (defArgs s_law) (defBody s_law) (defScope s_law) .none kV15 dc15 pm15 an15 cd15 ct15), sl15⟩) (c15 : PySem.W.codeIn K cd15 "law" = true) (k15 : PySem.W.keepIn K (.ref f15) = true)
    (z_abs : PySem.W.nsIn K mainGlobals "abs" = some none)
    (z_bool : PySem.W.nsIn K mainGlobals "bool" = some none)
    (z_int : PySem.W.nsIn K mainGlobals "int" = some none)
    (z_isinstance : PySem.W.nsIn K mainGlobals "isinstance" = some none)
    (z_len : PySem.W.nsIn K mainGlobals "len" = some none)
    (z_list : PySem.W.nsIn K mainGlobals "list" = some none)
    (z_min : PySem.W.nsIn K mainGlobals "min" = some none)
    (z_range : PySem.W.nsIn K mainGlobals "range" = some none)
    (z_str : PySem.W.nsIn K mainGlobals "str" = some none)
    (z_sum : PySem.W.nsIn K mainGlobals "sum" = some none)
    (z_tuple : PySem.W.nsIn K mainGlobals "tuple" = some none)
    : ∃ fd : FuncData, (∀ (s : Shared) (v : Value), BindsTo s fd ⟨[v], []⟩ [("_law_script", v)]) ∧ ∀ base : Heap, K.In base → base.Ns mainGlobals mg → FnOk l.prog w K mg base CX0 7 fa fd ["_law_script"] (toSp K ap_law) := by
  obtain ⟨T, e, hb⟩ := txt_mk X G a0 l0 c0 k0 a1 l1 c1 k1 a2 l2 c2 k2 a3 l3 c3 k3 a4 l4 c4 k4 a5 l5 c5 k5 a6 l6 c6 k6 a7 l7 c7 k7 a8 l8 c8 k8 a9 l9 c9 k9 a10 l10 c10 k10 a11 l11 c11 k11 a12 l12 c12 k12 a13 l13 c13 k13 a14 l14 c14 k14 a15 l15 c15 k15 z_abs z_bool z_int z_isinstance z_len z_list z_min z_range z_str z_sum z_tuple
  have e2 : T.f_law = fa := by
    have := T.g_law
    rw [hfa] at this
    cases this
    rfl
  exact ⟨T.fd_law, hb, fun base _ _ => by rw [← e2]; exact ok_law T⟩
end Lk27
open PySem PySem.W PyProof.Rows
set_option maxRecDepth 100000 in
set_option maxHeartbeats 0 in
theorem PySem.Challenge.cw_stylepages_k27_corners_of_outlines_holds : PySem.Challenge.rw_stylepages_k27_corners_of_outlines.Holds := by
  w_on; o_law; k_head; (case hw => w_witness2)
  k_fill
  refine L2.walk_of (l := PySem.Challenge.rw_stylepages_k27_corners_of_outlines) (n := 63) (k := 7) (x := "_law_script") (CX := fun _ => L2.CX0) (sp := fun w => Ab.toSp _ Lk27.ap_law) rfl (by decide) rfl ⟨rfl, by decide, by decide⟩ (fun w h Y => PySem.W.kIn_of Y) ?F (fun _ _ a ns hl _ hS => Ab.law_sp hS (fun Post hp => Lk27.law_pre hl hp)) (fun _ _ _ _ _ h => h)
  case F =>
    intro w mg fa h KX G hmg
    refine' Lk27.fin_mk KX G hmg ?a0 ?l0 ?c0 ?k0 ?a1 ?l1 ?c1 ?k1 ?a2 ?l2 ?c2 ?k2 ?a3 ?l3 ?c3 ?k3 ?a4 ?l4 ?c4 ?k4 ?a5 ?l5 ?c5 ?k5 ?a6 ?l6 ?c6 ?k6 ?a7 ?l7 ?c7 ?k7 ?a8 ?l8 ?c8 ?k8 ?a9 ?l9 ?c9 ?k9 ?a10 ?l10 ?c10 ?k10 ?a11 ?l11 ?c11 ?k11 ?a12 ?l12 ?c12 ?k12 ?a13 ?l13 ?c13 ?k13 ?a14 ?l14 ?c14 ?k14 ?a15 ?l15 ?c15 ?k15 ?z_abs ?z_bool ?z_int ?z_isinstance ?z_len ?z_list ?z_min ?z_range ?z_str ?z_sum ?z_tuple
    (case a0 => k_is); (case l0 => k_is); (case c0 => k_is); (case k0 => k_is); (case a1 => k_is); (case l1 => k_is); (case c1 => k_is); (case k1 => k_is); (case a2 => k_is); (case l2 => k_is); (case c2 => k_is); (case k2 => k_is); (case a3 => k_is); (case l3 => k_is); (case c3 => k_is); (case k3 => k_is); (case a4 => k_is); (case l4 => k_is); (case c4 => k_is); (case k4 => k_is); (case a5 => k_is); (case l5 => k_is); (case c5 => k_is); (case k5 => k_is); (case a6 => k_is); (case l6 => k_is); (case c6 => k_is); (case k6 => k_is); (case a7 => k_is); (case l7 => k_is); (case c7 => k_is); (case k7 => k_is); (case a8 => k_is); (case l8 => k_is); (case c8 => k_is); (case k8 => k_is); (case a9 => k_is); (case l9 => k_is); (case c9 => k_is); (case k9 => k_is); (case a10 => k_is); (case l10 => k_is); (case c10 => k_is); (case k10 => k_is); (case a11 => k_is); (case l11 => k_is); (case c11 => k_is); (case k11 => k_is); (case a12 => k_is); (case l12 => k_is); (case c12 => k_is); (case k12 => k_is); (case a13 => k_is); (case l13 => k_is); (case c13 => k_is); (case k13 => k_is); (case a14 => k_is); (case l14 => k_is); (case c14 => k_is); (case k14 => k_is); (case a15 => k_is); (case l15 => k_is); (case c15 => k_is); (case k15 => k_is); (case z_abs => k_is); (case z_bool => k_is); (case z_int => k_is); (case z_isinstance => k_is); (case z_len => k_is); (case z_list => k_is); (case z_min => k_is); (case z_range => k_is); (case z_str => k_is); (case z_sum => k_is); (case z_tuple => k_is)
