import PyProof.Rows.All
import Wide.All
import OpenK.AllK
import Wide.FinOn
import HandS.ForMost
import HandS.IsInst
import HandS.TupAny
import HandS.Wide
import HandS.Flow
import PySem.Challenge.RW_stylepages_k61_galley_of_paragraphs
set_option Elab.async false
set_option linter.all false
set_option maxRecDepth 100000
set_option maxHeartbeats 4000000
/-! An own layer over HandS: environments of pure data, owned lists, symbolic runs. -/
namespace Ab
open PySem L2

/-! ### data -/
inductive Dt where
  | raw (v : V)
  | tup (ds : List Dt)
  | lst (ds : List Dt)
  | obj (C : Addr) (fs : List (Str × Dt))
  | scr (ns : List Int)
abbrev Dt.int (i : Int) : Dt := .raw (.int i)
abbrev Dt.bl (b : Bool) : Dt := .raw (.bl b)
abbrev Dt.str (s : Str) : Dt := .raw (.str s)
abbrev Dt.non : Dt := .raw .non

inductive Is (K : PySem.W.Frag) (B : Hp) : V → Dt → Prop where
  | raw (v : V) : Is K B v (.raw v)
  | tup {a : Addr} {xs : List V} {ds : List Dt} (h : SqT K B a xs) (hl : xs.length = ds.length) (hi : ∀ (i : Nat) v d, xs[i]? = some v → ds[i]? = some d → Is K B v d) : Is K B (.ref a) (.tup ds)
  | lst {a : Addr} {xs : List V} {ds : List Dt} (h : B a = some (.lst xs)) (hl : xs.length = ds.length) (hi : ∀ (i : Nat) v d, xs[i]? = some v → ds[i]? = some d → Is K B v d) : Is K B (.ref a) (.lst ds)
  | obj {a dx C : Addr} {fs : List (Str × V)} {gs : List (Str × Dt)} (h : B a = some (.ins C dx fs)) (hk : ∀ f : Str, (fs.lookup f).isSome = (gs.lookup f).isSome) (hi : ∀ (f : Str) v d, fs.lookup f = some v → gs.lookup f = some d → Is K B v d) : Is K B (.ref a) (.obj C gs)
  | scr {a : Addr} {ns : List Int} (h : SqL K B a (ns.map V.int)) : Is K B (.ref a) (.scr ns)
/-- items -/
structure IsA (K : PySem.W.Frag) (B : Hp) (vs : List V) (ds : List Dt) : Prop where
  len : vs.length = ds.length
  at_ : ∀ (i : Nat) v d, vs[i]? = some v → ds[i]? = some d → Is K B v d

section
variable {K : PySem.W.Frag} {B B' H H' : Hp} {v : V} {d : Dt} {vs : List V} {ds : List Dt}
theorem sqT_mono {a : Addr} {xs : List V} (e : Same B B') (h : SqT K B a xs) : SqT K B' a xs := by
  rcases h with (h | ⟨o, h⟩) | h
  · exact .inl (.inl (e _ _ h))
  · exact .inl (.inr ⟨o, e _ _ h⟩)
  · exact .inr h
theorem Is.mono (e : Same B B') (h : Is K B v d) : Is K B' v d := by
  induction h with
  | raw v => exact .raw v
  | tup h hl hi ih => exact .tup (sqT_mono e h) hl ih
  | lst h hl hi ih => exact .lst (e _ _ h) hl ih
  | obj h hk hi ih => exact .obj (e _ _ h) hk ih
  | scr h => exact .scr (e.seq h)
theorem IsA.mono (e : Same B B') (h : IsA K B vs ds) : IsA K B' vs ds := ⟨h.len, fun i v d a b => (h.at_ i v d a b).mono e⟩
theorem Is.rawI (h : Is K B v (.raw u)) : v = u := by cases h; rfl
theorem IsA.nil : IsA K B [] [] := ⟨rfl, fun i v d a => by simp at a⟩
theorem IsA.snoc (h : IsA K B vs ds) (hv : Is K B v d) : IsA K B (vs ++ [v]) (ds ++ [d]) := by
  refine ⟨by simp [h.len], fun i w e a b => ?_⟩
  by_cases hi : i < vs.length
  · rw [List.getElem?_append_left hi] at a
    rw [List.getElem?_append_left (by rw [← h.len]; exact hi)] at b
    exact h.at_ i w e a b
  · rw [List.getElem?_append_right (by omega)] at a
    rw [List.getElem?_append_right (by rw [← h.len]; omega)] at b
    rw [← h.len] at b
    generalize i - vs.length = j at a b
    cases j with
    | zero => simp at a b; subst a b; exact hv
    | succ j => simp at a
theorem IsA.cons (hv : Is K B v d) (h : IsA K B vs ds) : IsA K B (v :: vs) (d :: ds) := by
  refine ⟨by simp [h.len], fun i w e a b => ?_⟩
  cases i with
  | zero => simp at a b; subst a b; exact hv
  | succ j => simp at a b; exact h.at_ j w e a b
theorem IsA.append {us : List V} {es : List Dt} (h : IsA K B vs ds) (h' : IsA K B us es) : IsA K B (vs ++ us) (ds ++ es) := by
  refine ⟨by simp [h.len, h'.len], fun i w e a b => ?_⟩
  by_cases hi : i < vs.length
  · rw [List.getElem?_append_left hi] at a
    rw [List.getElem?_append_left (by rw [← h.len]; exact hi)] at b
    exact h.at_ i w e a b
  · rw [List.getElem?_append_right (by omega)] at a
    rw [List.getElem?_append_right (by rw [← h.len]; omega)] at b
    rw [← h.len] at b
    exact h'.at_ _ w e a b
theorem IsA.get {i : Nat} (h : IsA K B vs ds) (e : ds[i]? = some d) : ∃ v, vs[i]? = some v ∧ Is K B v d := by
  have hi : i < ds.length := (List.getElem?_eq_some_iff.mp e).1
  have hv : i < vs.length := by rw [h.len]; exact hi
  exact ⟨vs[i], List.getElem?_eq_getElem hv, h.at_ i _ d (List.getElem?_eq_getElem hv) e⟩
theorem IsA.set {j : Nat} (h : IsA K B vs ds) (hv : Is K B v d) : IsA K B (vs.set j v) (ds.set j d) := by
  refine ⟨by simp [h.len], fun i w e a b => ?_⟩
  by_cases hij : j = i
  · subst hij
    have h1 : j < (vs.set j v).length := (List.getElem?_eq_some_iff.mp a).1
    rw [List.length_set] at h1
    rw [List.getElem?_set_self h1] at a
    rw [List.getElem?_set_self (by rw [← h.len]; exact h1)] at b
    cases a; cases b; exact hv
  · rw [List.getElem?_set_ne hij] at a b
    exact h.at_ i w e a b
theorem IsA.drop (n : Nat) (h : IsA K B vs ds) : IsA K B (vs.drop n) (ds.drop n) := by
  refine ⟨by simp [h.len], fun i w e a b => ?_⟩
  rw [List.getElem?_drop] at a b
  exact h.at_ _ w e a b
theorem IsA.take (n : Nat) (h : IsA K B vs ds) : IsA K B (vs.take n) (ds.take n) := by
  refine ⟨by simp [h.len], fun i w e a b => ?_⟩
  rw [List.getElem?_take] at a b
  split at a
  · rename_i hi
    rw [if_pos hi] at b
    exact h.at_ _ w e a b
  · cases a
theorem IsA.reverse (h : IsA K B vs ds) : IsA K B vs.reverse ds.reverse := by
  refine ⟨by simp [h.len], fun i w e a b => ?_⟩
  have hi : i < vs.length := by
    have := (List.getElem?_eq_some_iff.mp a).1
    simpa using this
  rw [List.getElem?_reverse hi] at a
  rw [List.getElem?_reverse (by rw [← h.len]; exact hi)] at b
  rw [← h.len] at b
  exact h.at_ _ w e a b
theorem IsA.eraseIdx (j : Nat) (h : IsA K B vs ds) : IsA K B (vs.eraseIdx j) (ds.eraseIdx j) := by
  refine ⟨by simp [List.length_eraseIdx, h.len], fun i w e a b => ?_⟩
  rw [List.getElem?_eraseIdx] at a b
  split at a
  · rename_i hi; rw [if_pos hi] at b; exact h.at_ _ w e a b
  · rename_i hi; rw [if_neg hi] at b; exact h.at_ _ w e a b
theorem IsA.tupI {a : Addr} (h : Is K B (.ref a) (.tup ds)) : ∃ xs, SqT K B a xs ∧ IsA K B xs ds := by
  cases h with
  | tup h hl hi => exact ⟨_, h, hl, hi⟩
theorem IsA.lstI {a : Addr} (h : Is K B (.ref a) (.lst ds)) : ∃ xs, B a = some (.lst xs) ∧ IsA K B xs ds := by
  cases h with
  | lst h hl hi => exact ⟨_, h, hl, hi⟩
theorem Is.tupR (h : Is K B v (.tup ds)) : ∃ a xs, v = .ref a ∧ SqT K B a xs ∧ IsA K B xs ds := by
  cases h with
  | tup h hl hi => exact ⟨_, _, rfl, h, hl, hi⟩
theorem Is.lstR (h : Is K B v (.lst ds)) : ∃ a xs, v = .ref a ∧ B a = some (.lst xs) ∧ IsA K B xs ds := by
  cases h with
  | lst h hl hi => exact ⟨_, _, rfl, h, hl, hi⟩
theorem IsA.atI {i : Int} {d : Dt} (h : IsA K B vs ds) (e : L2.atI ds i = some d) : ∃ v, L2.atI vs i = some v ∧ Is K B v d := by
  unfold L2.atI at e ⊢
  rw [h.len]
  cases q : ixN ds.length i with
  | none => rw [q] at e; cases e
  | some j =>
    rw [q] at e
    exact h.get e
theorem IsA.raws : ∀ {xs : List V}, IsA K B xs (xs.map Dt.raw)
  | [] => .nil
  | x :: r => .cons (.raw x) IsA.raws
theorem IsA.rawsI : ∀ {us xs : List V}, IsA K B us (xs.map Dt.raw) → us = xs
  | [], [], _ => rfl
  | [], _ :: _, h => by have := h.len; simp at this
  | _ :: _, [], h => by have := h.len; simp at this
  | u :: us, x :: xs, h => by
    have h0 := h.at_ 0 u (.raw x) rfl rfl
    have ht : IsA K B us (xs.map Dt.raw) := ⟨by have := h.len; simpa using this, fun i v d a b => h.at_ (i + 1) v d (by simpa using a) (by simpa using b)⟩
    rw [h0.rawI, ht.rawsI]
end

/-! ### environments -/
inductive Sl where
  | un
  | val (d : Dt)
  | acc (ds : List Dt)
def Own (σ : L2.St) (Γ : List Sl) (a : Addr) : Prop := ∃ (i : Nat) (ds : List Dt), Γ[i]? = some (.acc ds) ∧ σ[i]? = some (some (.ref a))
structure Env (K : PySem.W.Frag) (B H : Hp) (σ : L2.St) (Γ : List Sl) : Prop where
  len : σ.length = Γ.length
  bh : Same B H
  val : ∀ (i : Nat) d, Γ[i]? = some (.val d) → ∃ v, σ[i]? = some (some v) ∧ Is K B v d
  acc : ∀ (i : Nat) ds, Γ[i]? = some (.acc ds) → ∃ l vs, σ[i]? = some (some (.ref l)) ∧ H l = some (.lst vs) ∧ B l = none ∧ IsA K B vs ds
  sep : ∀ (i j : Nat) ds es l, Γ[i]? = some (.acc ds) → Γ[j]? = some (.acc es) → σ[i]? = some (some (.ref l)) → σ[j]? = some (some (.ref l)) → i = j
/-- from (B, H) to (B', H'): what is not owned (m) stays -/
structure Mv (m : Addr → Prop) (B H B' H' : Hp) : Prop where
  kp : ∀ a o, ¬ m a → H a = some o → H' a = some o
  bb : Same B B'
  off : ∀ a, ¬ m a → H a ≠ none → B a = none → B' a = none
theorem Mv.refl (m : Addr → Prop) (B H : Hp) : Mv m B H B H := ⟨fun _ _ _ h => h, Same.refl B, fun _ _ _ h => h⟩
theorem Mv.trans {m m1 : Addr → Prop} {B H B1 H1 B2 H2 : Hp} (x : Mv m B H B1 H1) (hm : ∀ a, m1 a → m a ∨ H a = none) (y : Mv m1 B1 H1 B2 H2) : Mv m B H B2 H2 := by
  have nm : ∀ a, ¬ m a → H a ≠ none → ¬ m1 a := fun a na ha z => (hm a z).elim na ha
  refine ⟨fun a o na e => ?_, x.bb.trans y.bb, fun a na ha hb => ?_⟩
  · exact y.kp a o (nm a na (by rw [e]; exact fun z => nomatch z)) (x.kp a o na e)
  · refine y.off a (nm a na ha) ?_ (x.off a na ha hb)
    cases q : H a with
    | none => exact absurd q ha
    | some o => rw [x.kp a o na q]; exact fun z => nomatch z
theorem Mv.back {m : Addr → Prop} {B H B1 H1 : Hp} (x : Mv m B H B1 H1) {a : Addr} (h : H1 a = none) : m a ∨ H a = none := by
  by_cases hm : m a
  · exact .inl hm
  · refine .inr ?_
    cases q : H a with
    | none => rfl
    | some o => rw [x.kp a o hm q] at h; cases h
/-- results: data, a new list, or the owned list of a slot (borrowed) -/
inductive Re where
  | val (d : Dt)
  | new (ds : List Dt)
  | own (i : Nat)
def Re.dt? : Re → Option Dt
  | .val d => some d
  | .new ds => some (.lst ds)
  | .own _ => none
def ReOk (K : PySem.W.Frag) (σ : L2.St) (m m' : Addr → Prop) (B' H H' : Hp) (v : V) : Re → Prop
  | .val d => Is K B' v d
  | .new ds => ∃ l vs, v = .ref l ∧ (m l ∨ H l = none) ∧ ¬ m' l ∧ H' l = some (.lst vs) ∧ B' l = none ∧ IsA K B' vs ds
  | .own i => ∃ l, v = .ref l ∧ σ[i]? = some (some (.ref l))
/-- an expression went from (B, H, Γ) to (B', H', Γ') -/
structure Go (K : PySem.W.Frag) (σ : L2.St) (B H : Hp) (Γ : List Sl) (B' H' : Hp) (Γ' : List Sl) : Prop where
  mv : Mv (Own σ Γ) B H B' H'
  ac : ∀ (i : Nat) ds, Γ'[i]? = some (.acc ds) → ∃ es, Γ[i]? = some (.acc es)
  env : Env K B' H' σ Γ'
theorem Go.sub {K : PySem.W.Frag} {σ : L2.St} {B H B' H' : Hp} {Γ Γ' : List Sl} (g : Go K σ B H Γ B' H' Γ') : ∀ a, Own σ Γ' a → Own σ Γ a := fun a ⟨i, ds, h1, h2⟩ => by
  obtain ⟨es, h⟩ := g.ac i ds h1
  exact ⟨i, es, h, h2⟩
section
variable {K : PySem.W.Frag} {σ : L2.St} {B H B1 H1 B2 H2 : Hp} {Γ Γ1 Γ2 : List Sl} {v : V} {r : Re}
theorem Go.refl (E : Env K B H σ Γ) : Go K σ B H Γ B H Γ := ⟨Mv.refl _ _ _, fun _ ds h => ⟨ds, h⟩, E⟩
theorem Go.trans (x : Go K σ B H Γ B1 H1 Γ1) (y : Go K σ B1 H1 Γ1 B2 H2 Γ2) : Go K σ B H Γ B2 H2 Γ2 :=
  ⟨x.mv.trans (fun a h => .inl (x.sub a h)) y.mv, fun i ds h => by
    obtain ⟨es, h1⟩ := y.ac i ds h
    exact x.ac i es h1, y.env⟩
theorem Env.tracked (E : Env K B H σ Γ) {a : Addr} (h : Own σ Γ a) : ∃ vs, H a = some (.lst vs) ∧ B a = none := by
  obtain ⟨i, ds, h1, h2⟩ := h
  obtain ⟨l, vs, e1, e2, e3, _⟩ := E.acc i ds h1
  rw [h2] at e1
  cases e1
  exact ⟨vs, e2, e3⟩
theorem ReOk.raw {m m' : Addr → Prop} (v : V) : ReOk K σ m m' B1 H H1 v (.val (.raw v)) := Is.raw v
/-- a result stays while later parts run -/
theorem ReOk.step {m m1 m2 : Addr → Prop} (h : ReOk K σ m m1 B1 H H1 v r) (y : Mv m1 B1 H1 B2 H2) (hs : ∀ a, m2 a → m1 a) : ReOk K σ m m2 B2 H H2 v r := by
  cases r with
  | val d => exact Is.mono y.bb h
  | new ds =>
    obtain ⟨l, vs, e, h1, h2, h3, h4, h5⟩ := h
    exact ⟨l, vs, e, h1, fun z => h2 (hs l z), y.kp l _ h2 h3, y.off l h2 (by rw [h3]; exact fun z => nomatch z) h4, h5.mono y.bb⟩
  | own i => exact h
/-- seen from an earlier start -/
theorem ReOk.earlier {m m1 m2 : Addr → Prop} (h : ReOk K σ m1 m2 B2 H1 H2 v r) (x : Mv m B H B1 H1) (hm : ∀ a, m1 a → m a ∨ H a = none) : ReOk K σ m m2 B2 H H2 v r := by
  cases r with
  | val d => exact h
  | new ds =>
    obtain ⟨l, vs, e, h1, h2, h3⟩ := h
    refine ⟨l, vs, e, ?_, h2, h3⟩
    rcases h1 with h1 | h1
    · exact hm l h1
    · exact x.back h1
  | own i => exact h
/-- new data are laid on the base -/
theorem Env.laid (E : Env K B H σ Γ) {p : Addr} {o : HO} (hp : H p = none) : Env K (upd B p o) (upd H p o) σ Γ := by
  have hb : B p = none := by
    cases q : B p with
    | none => rfl
    | some u => rw [E.bh p u q] at hp; cases hp
  have sB : Same B (upd B p o) := fun a u e => by rw [upd_ne (ne_of_none e hb)]; exact e
  refine ⟨E.len, fun a u e => ?_, fun i d h => ?_, fun i ds h => ?_, E.sep⟩
  · by_cases ha : a = p
    · subst ha; rw [upd_same] at e ⊢; exact e
    · rw [upd_ne ha] at e ⊢; exact E.bh a u e
  · obtain ⟨v, e, q⟩ := E.val i d h
    exact ⟨v, e, q.mono sB⟩
  · obtain ⟨l, vs, e, e1, e2, q⟩ := E.acc i ds h
    have hl : l ≠ p := ne_of_none e1 hp
    exact ⟨l, vs, e, by rw [upd_ne hl]; exact e1, by rw [upd_ne hl]; exact e2, q.mono sB⟩
theorem Go.laid (E : Env K B H σ Γ) {p : Addr} {o : HO} (hp : H p = none) : Go K σ B H Γ (upd B p o) (upd H p o) Γ := by
  have hb : B p = none := by
    cases q : B p with
    | none => rfl
    | some u => rw [E.bh p u q] at hp; cases hp
  refine ⟨⟨fun a u _ e => by rw [upd_ne (ne_of_none e hp)]; exact e, fun a u e => by rw [upd_ne (ne_of_none e hb)]; exact e, fun a _ ha hb' => ?_⟩, fun _ ds h => ⟨ds, h⟩, E.laid hp⟩
  have : a ≠ p := fun z => by subst z; exact ha hp
  rw [upd_ne this]; exact hb'
/-- a new object beside the base -/
theorem Env.beside (E : Env K B H σ Γ) {p : Addr} {o : HO} (hp : H p = none) : Env K B (upd H p o) σ Γ := by
  refine ⟨E.len, fun a u e => ?_, E.val, fun i ds h => ?_, E.sep⟩
  · have h := E.bh a u e
    rw [upd_ne (ne_of_none h hp)]; exact h
  · obtain ⟨l, vs, e, e1, e2, q⟩ := E.acc i ds h
    exact ⟨l, vs, e, by rw [upd_ne (ne_of_none e1 hp)]; exact e1, e2, q⟩
theorem Go.beside (E : Env K B H σ Γ) {p : Addr} {o : HO} (hp : H p = none) : Go K σ B H Γ B (upd H p o) Γ :=
  ⟨⟨fun a u _ e => by rw [upd_ne (ne_of_none e hp)]; exact e, Same.refl B, fun _ _ _ h => h⟩, fun _ ds h => ⟨ds, h⟩, E.beside hp⟩
theorem Env.base_none (E : Env K B H σ Γ) {p : Addr} (hp : H p = none) : B p = none := by
  cases q : B p with
  | none => rfl
  | some u => rw [E.bh p u q] at hp; cases hp
theorem Env.not_own (E : Env K B H σ Γ) {p : Addr} (hp : H p = none) : ¬ Own σ Γ p := fun z => by
  obtain ⟨vs, h, _⟩ := E.tracked z
  rw [hp] at h; cases h
end

/-! ### expressions, tests, arguments -/
def WE (K : PySem.W.Frag) (te : TE) (Γ : List Sl) (Post : Re → List Sl → Prop) : Prop := ∀ σ B H, Env K B H σ Γ → ∀ Q : VK,
  (∀ v B' H' r Γ', Go K σ B H Γ B' H' Γ' → ReOk K σ (Own σ Γ) (Own σ Γ') B' H H' v r → Post r Γ' → Q v H') → te σ H Q
def WT (K : PySem.W.Frag) (tt : TT) (Γ : List Sl) (Post : Bool → List Sl → Prop) : Prop := ∀ σ B H, Env K B H σ Γ → ∀ Q : Bool → Hp → Prop,
  (∀ b B' H' Γ', Go K σ B H Γ B' H' Γ' → Post b Γ' → Q b H') → tt σ H Q
/-- a list of data (what is new is laid on the base) -/
def WD (K : PySem.W.Frag) (ta : TA) (Γ : List Sl) (Post : List Dt → List Sl → Prop) : Prop := ∀ σ B H, Env K B H σ Γ → ∀ Q : List V → Hp → Prop,
  (∀ vs B' H' ds Γ', Go K σ B H Γ B' H' Γ' → IsA K B' vs ds → Post ds Γ' → Q vs H') → ta σ H Q
section
variable {K : PySem.W.Frag} {Γ : List Sl} {Post : Re → List Sl → Prop} {ta tb tc te : TE} {t u : TT}
theorem we_mono {Post' : Re → List Sl → Prop} (h : WE K te Γ Post) (hp : ∀ r Γ', Post r Γ' → Post' r Γ') : WE K te Γ Post' := fun σ B H E Q q => h σ B H E Q fun v B' H' r Γ' g k p => q v B' H' r Γ' g k (hp r Γ' p)
theorem we_var {i : Nat} {d : Dt} (h : Γ[i]? = some (.val d)) (p : Post (.val d) Γ) : WE K (tVar i) Γ Post := fun σ B H E Q q => by
  obtain ⟨v, e, k⟩ := E.val i d h
  exact ⟨v, e, q v B H (.val d) Γ (.refl E) k p⟩
theorem we_c {v : V} (p : Post (.val (.raw v)) Γ) : WE K (tC v) Γ Post := fun σ B H E Q q => q v B H (.val (.raw v)) Γ (.refl E) (.raw v) p
/-- an owned list is read -/
theorem we_own {i : Nat} {ds : List Dt} (h : Γ[i]? = some (.acc ds)) (p : Post (.own i) Γ) : WE K (tVar i) Γ Post := fun σ B H E Q q => by
  obtain ⟨l, vs, e, e1, e2, k⟩ := E.acc i ds h
  exact ⟨.ref l, e, q (.ref l) B H (.own i) Γ (.refl E) ⟨l, rfl, e⟩ p⟩
/-- an owned list becomes data from now on -/
theorem go_frz {σ : L2.St} {B H : Hp} {i : Nat} {ds : List Dt} (h : Γ[i]? = some (.acc ds)) (E : Env K B H σ Γ) : ∃ B', Go K σ B H Γ B' H (Γ.set i (.val (.lst ds))) := by
  obtain ⟨l, vs, e, e1, e2, k⟩ := E.acc i ds h
  have hl : i < Γ.length := (List.getElem?_eq_some_iff.mp h).1
  have sB : Same B (upd B l (.lst vs)) := fun a u e => by rw [upd_ne (ne_of_none e e2)]; exact e
  have sub : ∀ {j : Nat} {s : Sl}, (Γ.set i (.val (.lst ds)))[j]? = some s → j ≠ i → Γ[j]? = some s := fun {j s} hj hn => by
    rw [List.getElem?_set_ne (fun z => hn z.symm)] at hj
    exact hj
  have acc : ∀ {j : Nat} {es : List Dt}, (Γ.set i (.val (.lst ds)))[j]? = some (.acc es) → j ≠ i := fun {j es} hj z => by
    subst z
    rw [List.getElem?_set_self hl] at hj
    cases hj
  refine ⟨upd B l (.lst vs), ⟨fun a o _ q => q, sB, fun a na ha hb => ?_⟩, fun j es h1 => ⟨es, sub h1 (acc h1)⟩, by rw [List.length_set]; exact E.len, fun a u q => ?_, fun j d hj => ?_, fun j es hj => ?_, fun j k ds es l h1 h2 => E.sep j k ds es l (sub h1 (acc h1)) (sub h2 (acc h2))⟩
  · have : a ≠ l := fun z => by
      subst z
      exact na ⟨i, ds, h, e⟩
    rw [upd_ne this]; exact hb
  · by_cases ha : a = l
    · subst ha; rw [upd_same] at q; cases q; exact e1
    · rw [upd_ne ha] at q; exact E.bh a u q
  · by_cases hji : j = i
    · subst hji
      rw [List.getElem?_set_self hl] at hj
      cases hj
      have k2 := k.mono sB
      exact ⟨.ref l, e, .lst upd_same k2.len k2.at_⟩
    · obtain ⟨w, q1, q2⟩ := E.val j d (sub hj hji)
      exact ⟨w, q1, q2.mono sB⟩
  · obtain ⟨c, us, q1, q2, q3, q4⟩ := E.acc j es (sub hj (acc hj))
    have hc : c ≠ l := fun z => by
      subst z
      exact acc hj (E.sep j i es ds c (sub hj (acc hj)) h q1 e)
    exact ⟨c, us, q1, q2, by rw [upd_ne hc]; exact q3, q4.mono sB⟩
theorem we_frz {i : Nat} {ds : List Dt} (h : Γ[i]? = some (.acc ds)) (k : WE K te (Γ.set i (.val (.lst ds))) Post) : WE K te Γ Post := fun σ B H E Q q => by
  obtain ⟨B', g⟩ := go_frz h E
  exact k σ B' H g.env Q fun v B2 H2 r Γ2 g2 k2 p => q v B2 H2 r Γ2 (g.trans g2) (ReOk.earlier k2 g.mv fun a h => .inl (g.sub a h)) p
/-- an owned list is handed on: its slot is empty from now on -/
theorem we_move {i : Nat} {ds : List Dt} (h : Γ[i]? = some (.acc ds)) (p : Post (.new ds) (Γ.set i .un)) : WE K (tVar i) Γ Post := fun σ B H E Q q => by
  obtain ⟨l, vs, e, e1, e2, k⟩ := E.acc i ds h
  have hl : i < Γ.length := (List.getElem?_eq_some_iff.mp h).1
  have ne : ∀ {j : Nat} {s : Sl}, (Γ.set i .un)[j]? = some s → s ≠ .un → j ≠ i := fun {j s} hj hs z => by
    subst z
    rw [List.getElem?_set_self hl] at hj
    cases hj; exact hs rfl
  have sub : ∀ {j : Nat} {s : Sl}, (Γ.set i .un)[j]? = some s → s ≠ .un → Γ[j]? = some s := fun {j s} hj hs => by
    have := ne hj hs
    rw [List.getElem?_set_ne (fun z => this z.symm)] at hj
    exact hj
  have E' : Env K B H σ (Γ.set i .un) := ⟨by rw [List.length_set]; exact E.len, E.bh, fun j d hj => E.val j d (sub hj (fun z => nomatch z)), fun j es hj => E.acc j es (sub hj (fun z => nomatch z)),
    fun j k ds es l h1 h2 => E.sep j k ds es l (sub h1 (fun z => nomatch z)) (sub h2 (fun z => nomatch z))⟩
  have sb : ∀ (j : Nat) es, (Γ.set i .un)[j]? = some (.acc es) → ∃ es', Γ[j]? = some (.acc es') := fun j es h1 => ⟨es, sub h1 (fun z => nomatch z)⟩
  refine ⟨.ref l, e, q (.ref l) B H (.new ds) _ ⟨Mv.refl _ _ _, sb, E'⟩ ⟨l, vs, rfl, .inl ⟨i, ds, h, e⟩, ?_, e1, e2, k⟩ p⟩
  rintro ⟨j, es, h1, h2⟩
  exact ne h1 (fun z => nomatch z) (E.sep j i es ds l (sub h1 (fun z => nomatch z)) h h2 e)
/-- a new list becomes data -/
theorem we_freeze (h : WE K te Γ fun r Γ1 => ∃ d, r.dt? = some d ∧ Post (.val d) Γ1) : WE K te Γ Post := fun σ B H E Q q => by
  refine h σ B H E Q fun v B1 H1 r Γ1 g k p => ?_
  obtain ⟨d, hd, p⟩ := p
  cases r with
  | own i => cases hd
  | val d =>
    cases hd
    exact q v B1 H1 (.val d) Γ1 g k p
  | new ds =>
    cases hd
    obtain ⟨l, vs, rfl, h1, h2, h3, h4, h5⟩ := k
    have sB : Same B1 (upd B1 l (.lst vs)) := fun a u e => by rw [upd_ne (ne_of_none e h4)]; exact e
    refine q (.ref l) (upd B1 l (.lst vs)) H1 (.val (.lst ds)) Γ1 ⟨⟨g.mv.kp, g.mv.bb.trans sB, fun a na ha hb => ?_⟩, g.ac, ?_⟩ ?_ p
    · have hal : a ≠ l := fun z => by
        subst z
        exact h1.elim na ha
      rw [upd_ne hal]; exact g.mv.off a na ha hb
    · refine ⟨g.env.len, fun a u e => ?_, fun i d hi => ?_, fun i es hi => ?_, g.env.sep⟩
      · by_cases ha : a = l
        · subst ha; rw [upd_same] at e; cases e; exact h3
        · rw [upd_ne ha] at e; exact g.env.bh a u e
      · obtain ⟨w, e, k⟩ := g.env.val i d hi
        exact ⟨w, e, k.mono sB⟩
      · obtain ⟨c, us, e, e1, e2, k⟩ := g.env.acc i es hi
        have hc : c ≠ l := fun z => by
          subst z
          exact h2 ⟨i, es, hi, e⟩
        exact ⟨c, us, e, e1, by rw [upd_ne hc]; exact e2, k.mono sB⟩
    · have h5' := h5.mono sB
      exact .lst upd_same h5'.len h5'.at_
/-! operations on ints -/
theorem we_opI {C : Int → Int → Prop} {g : Int → Int → V} (h : WE K ta Γ fun ra Γ1 => ∃ i, ra = .val (.int i) ∧ WE K tb Γ1 fun rb Γ2 => ∃ j, rb = .val (.int j) ∧ C i j ∧ Post (.val (.raw (g i j))) Γ2) : WE K (tOp (rI C g) ta tb) Γ Post := fun σ B H E Q q => by
  refine h σ B H E _ fun x B1 H1 ra Γ1 g1 k1 p1 => ?_
  obtain ⟨i, rfl, p1⟩ := p1
  refine p1 σ B1 H1 g1.env _ fun y B2 H2 rb Γ2 g2 k2 p2 => ?_
  obtain ⟨j, rfl, hc, p⟩ := p2
  cases Is.rawI k1
  cases Is.rawI k2
  exact ⟨i, j, rfl, rfl, hc, q _ B2 H2 _ Γ2 (g1.trans g2) (.raw _) p⟩
theorem we_opI0 {g : Int → Int → V} (h : WE K ta Γ fun ra Γ1 => ∃ i, ra = .val (.int i) ∧ WE K tb Γ1 fun rb Γ2 => ∃ j, rb = .val (.int j) ∧ Post (.val (.raw (g i j))) Γ2) : WE K (tOp (rI0 g) ta tb) Γ Post := fun σ B H E Q q => by
  refine h σ B H E _ fun x B1 H1 ra Γ1 g1 k1 p1 => ?_
  obtain ⟨i, rfl, p1⟩ := p1
  refine p1 σ B1 H1 g1.env _ fun y B2 H2 rb Γ2 g2 k2 p2 => ?_
  obtain ⟨j, rfl, p⟩ := p2
  cases Is.rawI k1
  cases Is.rawI k2
  exact ⟨i, j, rfl, rfl, q _ B2 H2 _ Γ2 (g1.trans g2) (.raw _) p⟩
theorem we_neg (h : WE K ta Γ fun ra Γ1 => ∃ i, ra = .val (.int i) ∧ Post (.val (.int (-i))) Γ1) : WE K (tUn (rU fun i => .int (-i)) ta) Γ Post := fun σ B H E Q q => by
  refine h σ B H E _ fun x B1 H1 ra Γ1 g1 k1 p1 => ?_
  obtain ⟨i, rfl, p⟩ := p1
  cases Is.rawI k1
  exact ⟨i, rfl, q _ B1 H1 _ Γ1 g1 (.raw _) p⟩
/-- two values in order; both are data then -/
theorem we_two {r : R2} (h : WE K ta Γ fun ra Γ1 => WE K tb Γ1 fun rb Γ2 => ∃ d e : Dt, ra = .val d ∧ rb = .val e ∧
      ∀ σ B H x y, Env K B H σ Γ2 → Is K B x d → Is K B y e → ∀ Q : VK, (∀ v B' H' z Γ', Go K σ B H Γ2 B' H' Γ' → ReOk K σ (Own σ Γ2) (Own σ Γ') B' H H' v z → Post z Γ' → Q v H') → r x y H Q) : WE K (tOp r ta tb) Γ Post := fun σ B H E Q q => by
  refine h σ B H E _ fun x B1 H1 ra Γ1 g1 k1 p1 => ?_
  refine p1 σ B1 H1 g1.env _ fun y B2 H2 rb Γ2 g2 k2 p2 => ?_
  obtain ⟨d, e, rfl, rfl, p⟩ := p2
  exact p σ B2 H2 x y g2.env (Is.mono g2.mv.bb k1) k2 Q fun v B' H' z Γ' g3 k3 p3 => q v B' H' z Γ' ((g1.trans g2).trans g3) (ReOk.earlier k3 (g1.trans g2).mv fun a h => .inl ((g1.trans g2).sub a h)) p3
/-- == of scalars -/
theorem we_eqS (h : WE K ta Γ fun ra Γ1 => WE K tb Γ1 fun rb Γ2 => ∃ x y : V, ra = .val (.raw x) ∧ rb = .val (.raw y) ∧ scal x y = true ∧ Post (.val (.bl (decide (x = y)))) Γ2) : WE K (tOp rEq ta tb) Γ Post :=
  we_two (we_mono h fun ra Γ1 h1 => we_mono h1 fun rb Γ2 ⟨x, y, e1, e2, hs, p⟩ => ⟨_, _, e1, e2, fun σ B H u w E ku kw Q q => by
    cases ku.rawI; cases kw.rawI
    exact ⟨hs, q _ B H _ Γ2 (.refl E) (.raw _) p⟩⟩)
theorem we_neS (h : WE K ta Γ fun ra Γ1 => WE K tb Γ1 fun rb Γ2 => ∃ x y : V, ra = .val (.raw x) ∧ rb = .val (.raw y) ∧ scal x y = true ∧ Post (.val (.bl (!decide (x = y)))) Γ2) : WE K (tOp rNe ta tb) Γ Post :=
  we_two (we_mono h fun ra Γ1 h1 => we_mono h1 fun rb Γ2 ⟨x, y, e1, e2, hs, p⟩ => ⟨_, _, e1, e2, fun σ B H u w E ku kw Q q => by
    cases ku.rawI; cases kw.rawI
    exact ⟨hs, q _ B H _ Γ2 (.refl E) (.raw _) p⟩⟩)
/-! tests -/
theorem wt_mono {P P' : Bool → List Sl → Prop} (h : WT K t Γ P) (hp : ∀ b Γ', P b Γ' → P' b Γ') : WT K t Γ P' := fun σ B H E Q q => h σ B H E Q fun b B' H' Γ' g p => q b B' H' Γ' g (hp b Γ' p)
theorem wt_test {P : Bool → List Sl → Prop} (h : WE K te Γ fun r Γ1 => ∃ b, r = .val (.bl b) ∧ P b Γ1) : WT K (tTest te) Γ P := fun σ B H E Q q => by
  refine h σ B H E _ fun x B1 H1 r Γ1 g k p => ?_
  obtain ⟨b, rfl, p⟩ := p
  cases Is.rawI k
  exact ⟨b, rfl, q b B1 H1 Γ1 g p⟩
theorem wt_B {P : Bool → List Sl → Prop} (h : WE K te Γ fun r Γ1 => ∃ b, r = .val (.bl b) ∧ P b Γ1) : WT K (tB te) Γ P := wt_test h
theorem wt_and {P : Bool → List Sl → Prop} (h : WT K t Γ fun b Γ1 => (b = true → WT K u Γ1 P) ∧ (b = false → P false Γ1)) : WT K (tAnd t u) Γ P := fun σ B H E Q q => by
  refine h σ B H E _ fun b B1 H1 Γ1 g p => ?_
  cases b with
  | true =>
    show u σ H1 Q
    exact p.1 rfl σ B1 H1 g.env Q fun b B' H' Γ' g' p' => q b B' H' Γ' (g.trans g') p'
  | false =>
    show Q false H1
    exact q false B1 H1 Γ1 g (p.2 rfl)
theorem wt_or {P : Bool → List Sl → Prop} (h : WT K t Γ fun b Γ1 => (b = false → WT K u Γ1 P) ∧ (b = true → P true Γ1)) : WT K (tOr t u) Γ P := fun σ B H E Q q => by
  refine h σ B H E _ fun b B1 H1 Γ1 g p => ?_
  cases b with
  | false =>
    show u σ H1 Q
    exact p.1 rfl σ B1 H1 g.env Q fun b B' H' Γ' g' p' => q b B' H' Γ' (g.trans g') p'
  | true =>
    show Q true H1
    exact q true B1 H1 Γ1 g (p.2 rfl)
theorem wt_not {P : Bool → List Sl → Prop} (h : WT K t Γ fun b Γ1 => P (!b) Γ1) : WT K (tNot t) Γ P := fun σ B H E Q q => h σ B H E _ fun b B1 H1 Γ1 g p => q (!b) B1 H1 Γ1 g p
theorem we_andV (h : WE K ta Γ fun ra Γ1 => ∃ b, ra = .val (.bl b) ∧ (b = true → WE K tb Γ1 Post) ∧ (b = false → Post (.val (.bl false)) Γ1)) : WE K (tAndV ta tb) Γ Post := fun σ B H E Q q => by
  refine h σ B H E _ fun x B1 H1 ra Γ1 g k p => ?_
  obtain ⟨b, rfl, p1, p2⟩ := p
  cases Is.rawI k
  refine ⟨b, rfl, ?_⟩
  cases b with
  | true =>
    show tb σ H1 Q
    exact p1 rfl σ B1 H1 g.env Q fun v B' H' r Γ' g' k' p' => q v B' H' r Γ' (g.trans g') (ReOk.earlier k' g.mv fun a h => .inl (g.sub a h)) p'
  | false =>
    show Q (.bl false) H1
    exact q _ B1 H1 _ Γ1 g (.raw _) (p2 rfl)
theorem we_orV (h : WE K ta Γ fun ra Γ1 => ∃ b, ra = .val (.bl b) ∧ (b = false → WE K tb Γ1 Post) ∧ (b = true → Post (.val (.bl true)) Γ1)) : WE K (tOrV ta tb) Γ Post := fun σ B H E Q q => by
  refine h σ B H E _ fun x B1 H1 ra Γ1 g k p => ?_
  obtain ⟨b, rfl, p1, p2⟩ := p
  cases Is.rawI k
  refine ⟨b, rfl, ?_⟩
  cases b with
  | false =>
    show tb σ H1 Q
    exact p1 rfl σ B1 H1 g.env Q fun v B' H' r Γ' g' k' p' => q v B' H' r Γ' (g.trans g') (ReOk.earlier k' g.mv fun a h => .inl (g.sub a h)) p'
  | true =>
    show Q (.bl true) H1
    exact q _ B1 H1 _ Γ1 g (.raw _) (p2 rfl)
theorem we_notV (h : WE K ta Γ fun ra Γ1 => ∃ b, ra = .val (.bl b) ∧ Post (.val (.bl (!b))) Γ1) : WE K (tNotV ta) Γ Post := fun σ B H E Q q => by
  refine h σ B H E _ fun x B1 H1 ra Γ1 g k p => ?_
  obtain ⟨b, rfl, p⟩ := p
  cases Is.rawI k
  exact ⟨b, rfl, q _ B1 H1 _ Γ1 g (.raw _) p⟩
theorem we_if (h : WT K t Γ fun b Γ1 => (b = true → WE K ta Γ1 Post) ∧ (b = false → WE K tb Γ1 Post)) : WE K (tIf t ta tb) Γ Post := fun σ B H E Q q => by
  refine h σ B H E _ fun b B1 H1 Γ1 g p => ?_
  cases b with
  | true =>
    show ta σ H1 Q
    exact p.1 rfl σ B1 H1 g.env Q fun v B' H' r Γ' g' k' p' => q v B' H' r Γ' (g.trans g') (ReOk.earlier k' g.mv fun a h => .inl (g.sub a h)) p'
  | false =>
    show tb σ H1 Q
    exact p.2 rfl σ B1 H1 g.env Q fun v B' H' r Γ' g' k' p' => q v B' H' r Γ' (g.trans g') (ReOk.earlier k' g.mv fun a h => .inl (g.sub a h)) p'
/-! lists of data -/
theorem wd_nil {P : List Dt → List Sl → Prop} (p : P [] Γ) : WD K tNil Γ P := fun σ B H E Q q => q [] B H [] Γ (.refl E) .nil p
theorem wd_cons {P : List Dt → List Sl → Prop} {tr : TA} (h : WE K te Γ fun r Γ1 => ∃ d, r.dt? = some d ∧ WD K tr Γ1 fun ds Γ2 => P (d :: ds) Γ2) : WD K (tCons te tr) Γ P := fun σ B H E Q q => by
  have h' : WE K te Γ fun r Γ1 => ∃ d, r = .val d ∧ WD K tr Γ1 fun ds Γ2 => P (d :: ds) Γ2 := we_freeze (we_mono h fun r Γ1 ⟨d, hd, k⟩ => ⟨d, hd, d, rfl, k⟩)
  refine h' σ B H E _ fun x B1 H1 ra Γ1 g1 k1 p1 => ?_
  obtain ⟨d, rfl, p1⟩ := p1
  refine p1 σ B1 H1 g1.env _ fun vs B2 H2 ds Γ2 g2 k2 p2 => ?_
  exact q (x :: vs) B2 H2 (d :: ds) Γ2 (g1.trans g2) (.cons (Is.mono g2.mv.bb k1) k2) p2
theorem we_tup {t : TA} (h : WD K t Γ fun ds Γ1 => ds.length ≤ 1000000 ∧ Post (.val (.tup ds)) Γ1) : WE K (tTup t) Γ Post := fun σ B H E Q q => by
  refine h σ B H E _ fun vs B1 H1 ds Γ1 g k p => ?_
  refine ⟨Nat.le_trans (by rw [k.len]; exact p.1) (by decide), fun a ha => ?_⟩
  have g2 := Go.laid (o := .tup vs) g.env ha
  have k2 := k.mono g2.mv.bb
  exact q (.ref a) _ _ (.val (.tup ds)) Γ1 (g.trans g2) (.tup (.inl (.inl upd_same)) k2.len k2.at_) p.2
theorem we_lst {t : TA} (h : WD K t Γ fun ds Γ1 => ds.length ≤ 1000000 ∧ Post (.new ds) Γ1) : WE K (tLst t) Γ Post := fun σ B H E Q q => by
  refine h σ B H E _ fun vs B1 H1 ds Γ1 g k p => ?_
  refine ⟨Nat.le_trans (by rw [k.len]; exact p.1) (by decide), fun a ha => ?_⟩
  have g2 := Go.beside (o := .lst vs) g.env ha
  refine q (.ref a) _ _ (.new ds) Γ1 (g.trans g2) ⟨a, vs, rfl, g.mv.back ha, g.env.not_own ha, upd_same, g.env.base_none ha, k⟩ p.2
/-- a call of a builtin on data -/
theorem we_cb {r : List V → Hp → VK → Prop} {t : TA} (h : WD K t Γ fun ds Γ1 => ∀ σ B H vs, Env K B H σ Γ1 → IsA K B vs ds → ∀ Q : VK, (∀ v B' H' z Γ', Go K σ B H Γ1 B' H' Γ' → ReOk K σ (Own σ Γ1) (Own σ Γ') B' H H' v z → Post z Γ' → Q v H') → r vs H Q) : WE K (tCB r t) Γ Post := fun σ B H E Q q => by
  refine h σ B H E _ fun vs B1 H1 ds Γ1 g k p => ?_
  exact p σ B1 H1 vs g.env k Q fun v B' H' z Γ' g' k' p' => q v B' H' z Γ' (g.trans g') (ReOk.earlier k' g.mv fun a h => .inl (g.sub a h)) p'
end
end Ab
namespace Ab
open PySem L2
/-! ### values at hand -/
def RvOk (K : PySem.W.Frag) (σ : L2.St) (B H : Hp) (Γ : List Sl) (v : V) : Re → Prop
  | .val d => Is K B v d
  | .new ds => ∃ l vs, v = .ref l ∧ ¬ Own σ Γ l ∧ H l = some (.lst vs) ∧ B l = none ∧ IsA K B vs ds
  | .own i => ∃ l, v = .ref l ∧ σ[i]? = some (some (.ref l))
/-- the items of a result -/
def seqOf (Γ : List Sl) : Re → Option (List Dt)
  | .val (.tup ds) => some ds
  | .val (.lst ds) => some ds
  | .val (.scr ns) => some (ns.map Dt.int)
  | .val _ => none
  | .new ds => some ds
  | .own i => match Γ[i]? with
    | some (.acc ds) => some ds
    | _ => none
/-- the items of a list -/
def lstOf (Γ : List Sl) : Re → Option (List Dt)
  | .val (.lst ds) => some ds
  | .val (.scr ns) => some (ns.map Dt.int)
  | .val _ => none
  | .new ds => some ds
  | .own i => match Γ[i]? with
    | some (.acc ds) => some ds
    | _ => none
def tyOf : Re → Option String
  | .val (.raw .non) => some "NoneType"
  | .val (.raw (.bl _)) => some "bool"
  | .val (.raw (.int _)) => some "int"
  | .val (.raw (.str _)) => some "str"
  | .val (.tup _) => some "tuple"
  | .val (.lst _) => some "list"
  | .new _ => some "list"
  | .own _ => some "list"
  | _ => none
section
variable {K : PySem.W.Frag} {σ : L2.St} {B H B1 H1 B2 H2 : Hp} {Γ Γ1 Γ2 : List Sl} {v : V} {r : Re} {ds : List Dt} {m m' : Addr → Prop}
theorem ReOk.rv (h : ReOk K σ m (Own σ Γ) B H1 H v r) : RvOk K σ B H Γ v r := by
  cases r with
  | val d => exact h
  | new ds => obtain ⟨l, vs, e, _, h2, h3⟩ := h; exact ⟨l, vs, e, h2, h3⟩
  | own i => exact h
theorem rv_lst (E : Env K B H σ Γ) (h : RvOk K σ B H Γ v r) (e : lstOf Γ r = some ds) : ∃ a vs, v = .ref a ∧ SqL K H a vs ∧ IsA K B vs ds := by
  cases r with
  | val d =>
    cases d with
    | lst es => cases e; obtain ⟨a, xs, rfl, h1, h2⟩ := Is.lstR h; exact ⟨a, xs, rfl, .inl (.inl (E.bh _ _ h1)), h2⟩
    | scr ns =>
      cases e
      cases h with
      | scr h => exact ⟨_, _, rfl, E.bh.seq h, by
          have := IsA.raws (K := K) (B := B) (xs := ns.map V.int)
          rwa [List.map_map] at this⟩
    | raw u => cases e
    | tup es => cases e
    | obj C fs => cases e
  | new es => cases e; obtain ⟨l, vs, rfl, _, h1, _, h2⟩ := h; exact ⟨l, vs, rfl, .inl (.inl h1), h2⟩
  | own i =>
    obtain ⟨l, rfl, hl⟩ := h
    have e' : (match Γ[i]? with
      | some (Sl.acc ds) => some ds
      | _ => none) = some ds := e
    split at e'
    · rename_i es hi
      cases e'
      obtain ⟨c, us, q1, q2, q3, q4⟩ := E.acc i _ hi
      rw [hl] at q1; cases q1
      exact ⟨l, us, rfl, .inl (.inl q2), q4⟩
    · cases e'
theorem rv_seq (E : Env K B H σ Γ) (h : RvOk K σ B H Γ v r) (e : seqOf Γ r = some ds) : ∃ a vs, v = .ref a ∧ (SqL K H a vs ∨ SqT K H a vs) ∧ IsA K B vs ds := by
  cases r with
  | val d =>
    cases d with
    | tup es => cases e; obtain ⟨a, xs, rfl, h1, h2⟩ := Is.tupR h; exact ⟨a, xs, rfl, .inr (sqT_mono E.bh h1), h2⟩
    | lst es => obtain ⟨a, xs, rfl, h1, h2⟩ := rv_lst E h e; exact ⟨a, xs, rfl, .inl h1, h2⟩
    | scr es => obtain ⟨a, xs, rfl, h1, h2⟩ := rv_lst E h e; exact ⟨a, xs, rfl, .inl h1, h2⟩
    | raw u => cases e
    | obj C fs => cases e
  | new es => obtain ⟨a, xs, rfl, h1, h2⟩ := rv_lst E h e; exact ⟨a, xs, rfl, .inl h1, h2⟩
  | own i => obtain ⟨a, xs, rfl, h1, h2⟩ := rv_lst E h e; exact ⟨a, xs, rfl, .inl h1, h2⟩
theorem ty_sqL {a : Addr} {xs : List V} (h : SqL K H a xs) : TyX K H (.ref a) (.type "list") := by
  rcases h with (h | ⟨o, h⟩) | ⟨o, its, n, h1, h2, _⟩
  · exact .base (.lst h)
  · exact .base (.frz h)
  · exact .kList h1 h2
theorem ty_sqT {a : Addr} {xs : List V} (h : SqT K H a xs) : TyX K H (.ref a) (.type "tuple") := by
  rcases h with (h | ⟨o, h⟩) | ⟨o, its, n, h1, h2, _⟩
  · exact .base (.tup h)
  · exact .fTuple h
  · exact .kTuple h1 h2
theorem rv_ty {T : String} (E : Env K B H σ Γ) (hi : ∀ i, r = .own i → ∃ ds, Γ[i]? = some (.acc ds)) (h : RvOk K σ B H Γ v r) (e : tyOf r = some T) : TyX K H v (.type T) := by
  cases r with
  | val d =>
    cases d with
    | raw u =>
      have hv : v = u := Is.rawI h
      subst hv
      cases v <;> first | (cases e; first | exact .base .non | exact .base (.bl _) | exact .base (.int _) | exact .base (.str _)) | cases e
    | tup es => cases e; obtain ⟨a, xs, rfl, h1, h2⟩ := Is.tupR h; exact ty_sqT (sqT_mono E.bh h1)
    | lst es => cases e; obtain ⟨a, xs, rfl, h1, h2⟩ := Is.lstR h; exact .base (.lst (E.bh _ _ h1))
    | scr es => cases e
    | obj C fs => cases e
  | new es => cases e; obtain ⟨l, vs, rfl, _, h1, _⟩ := h; exact .base (.lst h1)
  | own i =>
    cases e
    obtain ⟨l, rfl, hl⟩ := h
    obtain ⟨ds, hd⟩ := hi i rfl
    obtain ⟨c, us, q1, q2, _⟩ := E.acc i _ hd
    rw [hl] at q1; cases q1
    exact .base (.lst q2)
end
section
variable {K : PySem.W.Frag} {Γ : List Sl} {Post : Re → List Sl → Prop} {ta tb tc te : TE} {t u : TT}
/-- two parts, then an operation on the values at hand -/
theorem we_two' {r : R2} (h : WE K ta Γ fun ra Γ1 => WE K tb Γ1 fun rb Γ2 =>
      ∀ σ B H x y, Env K B H σ Γ2 → RvOk K σ B H Γ2 x ra → RvOk K σ B H Γ2 y rb → ∀ Q : VK, (∀ v B' H' z Γ', Go K σ B H Γ2 B' H' Γ' → ReOk K σ (Own σ Γ2) (Own σ Γ') B' H H' v z → Post z Γ' → Q v H') → r x y H Q) : WE K (tOp r ta tb) Γ Post := fun σ B H E Q q => by
  refine h σ B H E _ fun x B1 H1 ra Γ1 g1 k1 p1 => ?_
  refine p1 σ B1 H1 g1.env _ fun y B2 H2 rb Γ2 g2 k2 p2 => ?_
  exact p2 σ B2 H2 x y g2.env (ReOk.rv (ReOk.step k1 g2.mv g2.sub)) k2.rv Q fun v B' H' z Γ' g3 k3 p3 => q v B' H' z Γ' ((g1.trans g2).trans g3) (ReOk.earlier k3 (g1.trans g2).mv fun a h => .inl ((g1.trans g2).sub a h)) p3
/-- one part, then an operation on the value at hand -/
theorem we_one' {r : V → Hp → VK → Prop} (h : WE K ta Γ fun ra Γ1 => ∀ σ B H x, Env K B H σ Γ1 → RvOk K σ B H Γ1 x ra → ∀ Q : VK, (∀ v B' H' z Γ', Go K σ B H Γ1 B' H' Γ' → ReOk K σ (Own σ Γ1) (Own σ Γ') B' H H' v z → Post z Γ' → Q v H') → r x H Q) :
    ∀ σ B H, Env K B H σ Γ → ∀ Q : VK, (∀ v B' H' r Γ', Go K σ B H Γ B' H' Γ' → ReOk K σ (Own σ Γ) (Own σ Γ') B' H H' v r → Post r Γ' → Q v H') → ta σ H (fun x H1 => r x H1 Q) := fun σ B H E Q q => by
  refine h σ B H E _ fun x B1 H1 ra Γ1 g1 k1 p1 => ?_
  exact p1 σ B1 H1 x g1.env k1.rv Q fun v B' H' z Γ' g3 k3 p3 => q v B' H' z Γ' (g1.trans g3) (ReOk.earlier k3 g1.mv fun a h => .inl (g1.sub a h)) p3
/-- x[i] of a list, a tuple -/
theorem we_ix (h : WE K ta Γ fun ra Γ1 => WE K tb Γ1 fun rb Γ2 => ∃ ds k d, seqOf Γ2 ra = some ds ∧ rb = .val (.int k) ∧ atI ds k = some d ∧ Post (.val d) Γ2) : WE K (tOp (rIx K) ta tb) Γ Post :=
  we_two' (we_mono h fun ra Γ1 h1 => we_mono h1 fun rb Γ2 ⟨ds, k, d, hs, e, hd, p⟩ => fun σ B H x y E kx ky Q q => by
    subst e
    cases Is.rawI ky
    obtain ⟨a, vs, rfl, hq, ha⟩ := rv_seq E kx hs
    obtain ⟨v, hv, hi⟩ := ha.atI hd
    have fin := q v B H (.val d) Γ2 (.refl E) hi p
    rcases hq with hq | hq
    · exact .inl ⟨a, vs, k, v, rfl, rfl, hq, hv, fin⟩
    · exact .inr (.inl ⟨a, vs, k, v, rfl, rfl, hq, hv, fin⟩))
/-- s[i] of a text -/
theorem we_ixS (h : WE K ta Γ fun ra Γ1 => WE K tb Γ1 fun rb Γ2 => ∃ z k c, ra = .val (.str z) ∧ rb = .val (.int k) ∧ z.length ≤ 1000000 ∧ atI z.cps.toList k = some c ∧ Post (.val (.str ⟨#[c]⟩)) Γ2) : WE K (tOp (rIx K) ta tb) Γ Post :=
  we_two' (we_mono h fun ra Γ1 h1 => we_mono h1 fun rb Γ2 ⟨z, k, c, e1, e, hz, hd, p⟩ => fun σ B H x y E kx ky Q q => by
    subst e e1
    cases Is.rawI ky
    cases Is.rawI kx
    exact .inr (.inr ⟨z, k, c, rfl, rfl, Nat.le_trans hz (by decide), hd, q _ B H _ Γ2 (.refl E) (.raw _) p⟩))
/-! calls of built-ins with one argument -/
theorem we_cb1 {r : List V → Hp → VK → Prop} (h : WE K te Γ fun ra Γ1 => ∀ σ B H x, Env K B H σ Γ1 → RvOk K σ B H Γ1 x ra → ∀ Q : VK, (∀ v B' H' z Γ', Go K σ B H Γ1 B' H' Γ' → ReOk K σ (Own σ Γ1) (Own σ Γ') B' H H' v z → Post z Γ' → Q v H') → r [x] H Q) : WE K (tCB r (tCons te tNil)) Γ Post :=
  we_one' (r := fun x H Q => r [x] H Q) h
def rLenV (K : PySem.W.Frag) : List V → Hp → VK → Prop := fun xs H Q => ∃ x n, xs = [x] ∧ LenV K x H n ∧ Q (.int n) H
theorem we_len (h : WE K te Γ fun r Γ1 => ∃ ds, seqOf Γ1 r = some ds ∧ Post (.val (.int ds.length)) Γ1) : WE K (tCB (rLenV K) (tCons te tNil)) Γ Post :=
  we_cb1 (we_mono h fun r Γ1 ⟨ds, hs, p⟩ => fun σ B H x E kx Q q => by
    obtain ⟨a, vs, rfl, hq, ha⟩ := rv_seq E kx hs
    have e : (ds.length : Int) = (vs.length : Int) := by rw [ha.len]
    rw [e] at p
    refine ⟨_, vs.length, rfl, ?_, q _ B H _ Γ1 (.refl E) (.raw _) p⟩
    rcases hq with hq | hq
    · exact .inl ⟨vs, hq, rfl⟩
    · exact .inr ⟨vs, hq, rfl⟩)
theorem we_lenS (h : WE K te Γ fun r Γ1 => ∃ z, r = .val (.str z) ∧ z.length ≤ 1000000 ∧ Post (.val (.int z.length)) Γ1) : WE K (tCB (rLenV K) (tCons te tNil)) Γ Post :=
  we_cb1 (we_mono h fun r Γ1 ⟨z, e, hz, p⟩ => fun σ B H x E kx Q q => by
    subst e
    cases Is.rawI kx
    exact ⟨_, z.length, rfl, ⟨Nat.le_trans hz (by decide), rfl⟩, q _ B H _ Γ1 (.refl E) (.raw _) p⟩)
def rAbs : List V → Hp → VK → Prop := fun xs H Q => ∃ i, xs = [.int i] ∧ Q (.int (if i < 0 then -i else i)) H
theorem we_abs (h : WE K te Γ fun r Γ1 => ∃ i, r = .val (.int i) ∧ Post (.val (.int (if i < 0 then -i else i))) Γ1) : WE K (tCB rAbs (tCons te tNil)) Γ Post :=
  we_cb1 (we_mono h fun r Γ1 ⟨i, e, p⟩ => fun σ B H x E kx Q q => by
    subst e
    cases Is.rawI kx
    exact ⟨i, rfl, q _ B H _ Γ1 (.refl E) (.raw _) p⟩)
def rInt1 : List V → Hp → VK → Prop := fun xs H Q => (∃ i, xs = [.int i] ∧ Q (.int i) H) ∨ ∃ k, xs = [.bl k] ∧ Q (.int (if k then 1 else 0)) H
theorem we_int (h : WE K te Γ fun r Γ1 => ∃ i, r = .val (.int i) ∧ Post (.val (.int i)) Γ1) : WE K (tCB rInt1 (tCons te tNil)) Γ Post :=
  we_cb1 (we_mono h fun r Γ1 ⟨i, e, p⟩ => fun σ B H x E kx Q q => by
    subst e
    cases Is.rawI kx
    exact .inl ⟨i, rfl, q _ B H _ Γ1 (.refl E) (.raw _) p⟩)
theorem we_intB (h : WE K te Γ fun r Γ1 => ∃ k, r = .val (.bl k) ∧ Post (.val (.int (if k then 1 else 0))) Γ1) : WE K (tCB rInt1 (tCons te tNil)) Γ Post :=
  we_cb1 (we_mono h fun r Γ1 ⟨i, e, p⟩ => fun σ B H x E kx Q q => by
    subst e
    cases Is.rawI kx
    exact .inr ⟨i, rfl, q _ B H _ Γ1 (.refl E) (.raw _) p⟩)
def rTupleOf (K : PySem.W.Frag) : List V → Hp → VK → Prop := fun xs H Q => ∃ p ys, xs = [.ref p] ∧ ((SqL K H p ys ∧ ∀ l, H l = none → Q (.ref l) (upd H l (.tup ys))) ∨ (SqT K H p ys ∧ Q (.ref p) H))
def rListOf (K : PySem.W.Frag) : List V → Hp → VK → Prop := fun xs H Q => ∃ p ys, xs = [.ref p] ∧ (SqL K H p ys ∨ SqT K H p ys) ∧ ∀ l, H l = none → Q (.ref l) (upd H l (.lst ys))
theorem re_laidT {σ : L2.St} {B H : Hp} {vs : List V} {ds : List Dt} {a : Addr} (E : Env K B H σ Γ) (k : IsA K B vs ds) (ha : H a = none) : ReOk K σ (Own σ Γ) (Own σ Γ) (upd B a (.tup vs)) H (upd H a (.tup vs)) (.ref a) (.val (.tup ds)) := by
  have k2 := k.mono (Go.laid (o := .tup vs) E ha).mv.bb
  exact Is.tup (.inl (.inl upd_same)) k2.len k2.at_
theorem re_newL {σ : L2.St} {B H : Hp} {vs : List V} {ds : List Dt} {a : Addr} (E : Env K B H σ Γ) (k : IsA K B vs ds) (ha : H a = none) : ReOk K σ (Own σ Γ) (Own σ Γ) B H (upd H a (.lst vs)) (.ref a) (.new ds) :=
  ⟨a, vs, rfl, .inr ha, E.not_own ha, upd_same, E.base_none ha, k⟩
theorem we_tuple (h : WE K te Γ fun r Γ1 => ∃ ds, seqOf Γ1 r = some ds ∧ Post (.val (.tup ds)) Γ1) : WE K (tCB (rTupleOf K) (tCons te tNil)) Γ Post :=
  we_cb1 (we_mono h fun r Γ1 ⟨ds, hs, p⟩ => fun σ B H x E kx Q q => by
    obtain ⟨a, vs, rfl, hq, ha⟩ := rv_seq E kx hs
    rcases hq with hq | hq
    · exact ⟨a, vs, rfl, .inl ⟨hq, fun l hl => q _ _ _ _ Γ1 (Go.laid E hl) (re_laidT E ha hl) p⟩⟩
    · cases r with
      | val d =>
        cases d with
        | tup es =>
          cases hs
          exact ⟨a, vs, rfl, .inr ⟨hq, q _ B H (.val (.tup ds)) Γ1 (.refl E) kx p⟩⟩
        | lst es =>
          obtain ⟨c, us, e, h1, h2⟩ := rv_lst (ds := ds) E kx hs
          cases e
          exact ⟨a, us, rfl, .inl ⟨h1, fun l hl => q _ _ _ _ Γ1 (Go.laid E hl) (re_laidT E h2 hl) p⟩⟩
        | raw u => cases hs
        | scr es =>
          obtain ⟨c, us, e, h1, h2⟩ := rv_lst (ds := ds) E kx hs
          cases e
          exact ⟨a, us, rfl, .inl ⟨h1, fun l hl => q _ _ _ _ Γ1 (Go.laid E hl) (re_laidT E h2 hl) p⟩⟩
        | obj C fs => cases hs
      | new es =>
        obtain ⟨c, us, e, h1, h2⟩ := rv_lst (ds := ds) E kx hs
        cases e
        exact ⟨a, us, rfl, .inl ⟨h1, fun l hl => q _ _ _ _ Γ1 (Go.laid E hl) (re_laidT E h2 hl) p⟩⟩
      | own i =>
        obtain ⟨c, us, e, h1, h2⟩ := rv_lst (ds := ds) E kx hs
        cases e
        exact ⟨a, us, rfl, .inl ⟨h1, fun l hl => q _ _ _ _ Γ1 (Go.laid E hl) (re_laidT E h2 hl) p⟩⟩)
theorem we_list (h : WE K te Γ fun r Γ1 => ∃ ds, seqOf Γ1 r = some ds ∧ Post (.new ds) Γ1) : WE K (tCB (rListOf K) (tCons te tNil)) Γ Post :=
  we_cb1 (we_mono h fun r Γ1 ⟨ds, hs, p⟩ => fun σ B H x E kx Q q => by
    obtain ⟨a, vs, rfl, hq, ha⟩ := rv_seq E kx hs
    exact ⟨a, vs, rfl, hq, fun l hl => q _ _ _ _ Γ1 (Go.beside E hl) (re_newL E ha hl) p⟩)
/-- isinstance(x, T), T a built-in type -/
theorem we_isi {c : String} (h : WE K te Γ fun r Γ1 => (∀ i, r = .own i → ∃ ds, Γ1[i]? = some (.acc ds)) ∧ ∃ T b, tyOf r = some T ∧ kitB T c = some b ∧ Post (.val (.bl b)) Γ1) : WE K (tCB (rIsi K) (tCons te (tCons (tC (.ty c)) tNil))) Γ Post :=
  we_one' (r := fun x H Q => rIsi K [x, .ty c] H Q) (we_mono h fun r Γ1 ⟨ho, T, b, ht, hk, p⟩ => fun σ B H x E kx Q q =>
    ⟨x, .ty c, .type T, .type c, b, rfl, .ty c, rv_ty E ho kx ht, kit_ty hk, q _ B H _ Γ1 (.refl E) (.raw _) p⟩)
/-- min, max of two ints -/
def rMx2 : List V → Hp → VK → Prop := fun xs H Q => ∃ i j, xs = [.int i, .int j] ∧ Q (.int (if j > i then j else i)) H
def rMn2 : List V → Hp → VK → Prop := fun xs H Q => ∃ i j, xs = [.int i, .int j] ∧ Q (.int (if j < i then j else i)) H
theorem we_max2 (h : WE K ta Γ fun ra Γ1 => ∃ i, ra = .val (.int i) ∧ WE K tb Γ1 fun rb Γ2 => ∃ j, rb = .val (.int j) ∧ Post (.val (.int (if j > i then j else i))) Γ2) : WE K (tCB rMx2 (tCons ta (tCons tb tNil))) Γ Post :=
  we_two' (r := fun x y H Q => rMx2 [x, y] H Q) (we_mono h fun ra Γ1 ⟨i, ei, h1⟩ => we_mono h1 fun rb Γ2 ⟨j, ej, p⟩ => fun σ B H x y E kx ky Q q => by
    subst ei ej
    cases Is.rawI kx; cases Is.rawI ky
    exact ⟨i, j, rfl, q _ B H _ Γ2 (.refl E) (.raw _) p⟩)
theorem we_min2 (h : WE K ta Γ fun ra Γ1 => ∃ i, ra = .val (.int i) ∧ WE K tb Γ1 fun rb Γ2 => ∃ j, rb = .val (.int j) ∧ Post (.val (.int (if j < i then j else i))) Γ2) : WE K (tCB rMn2 (tCons ta (tCons tb tNil))) Γ Post :=
  we_two' (r := fun x y H Q => rMn2 [x, y] H Q) (we_mono h fun ra Γ1 ⟨i, ei, h1⟩ => we_mono h1 fun rb Γ2 ⟨j, ej, p⟩ => fun σ B H x y E kx ky Q q => by
    subst ei ej
    cases Is.rawI kx; cases Is.rawI ky
    exact ⟨i, j, rfl, q _ B H _ Γ2 (.refl E) (.raw _) p⟩)
/-- a op b op' c over ints -/
theorem we_chainI {g g' : Int → Int → Bool} (h : WE K ta Γ fun ra Γ1 => ∃ i, ra = .val (.int i) ∧ WE K tb Γ1 fun rb Γ2 => ∃ j, rb = .val (.int j) ∧
      (g i j = true → WE K tc Γ2 fun rc Γ3 => ∃ k, rc = .val (.int k) ∧ Post (.val (.bl (g' j k))) Γ3) ∧ (g i j = false → Post (.val (.bl false)) Γ2)) :
    WE K (tChain (rI0 fun i j => .bl (g i j)) (rI0 fun i j => .bl (g' i j)) ta tb tc) Γ Post := fun σ B H E Q q => by
  refine h σ B H E _ fun x B1 H1 ra Γ1 g1 k1 p1 => ?_
  obtain ⟨i, rfl, p1⟩ := p1
  refine p1 σ B1 H1 g1.env _ fun y B2 H2 rb Γ2 g2 k2 p2 => ?_
  obtain ⟨j, rfl, p2, p3⟩ := p2
  cases Is.rawI k1; cases Is.rawI k2
  refine ⟨i, j, rfl, rfl, g i j, rfl, ?_⟩
  cases hg : g i j with
  | true =>
    show tc σ H2 fun w' H4 => rI0 (fun i j => .bl (g' i j)) (.int j) w' H4 Q
    refine p2 hg σ B2 H2 g2.env _ fun z B3 H3 rc Γ3 g3 k3 p3 => ?_
    obtain ⟨k, rfl, p⟩ := p3
    cases Is.rawI k3
    exact ⟨j, k, rfl, rfl, q _ B3 H3 _ Γ3 ((g1.trans g2).trans g3) (.raw _) p⟩
  | false =>
    show Q (.bl false) H2
    exact q _ B2 H2 _ Γ2 (g1.trans g2) (.raw _) (p3 hg)
/-- x in xs, x not in xs: flat things -/
def rawV : Dt → Option V
  | .raw v => some v
  | _ => none
theorem raws_of {B : Hp} : ∀ {vs : List V} {ds : List Dt} {us : List V}, IsA K B vs ds → ds = us.map Dt.raw → vs = us := fun h e => by subst e; exact h.rawsI
theorem we_in {neg : Bool} (h : WE K ta Γ fun ra Γ1 => WE K tb Γ1 fun rb Γ2 => ∃ (x : V) (us : List V), ra = .val (.raw x) ∧ seqOf Γ2 rb = some (us.map Dt.raw) ∧ flatV x = true ∧ us.all flatV = true ∧ Post (.val (.bl (if neg then !inV x us else inV x us))) Γ2) : WE K (tOp (rIn K neg) ta tb) Γ Post :=
  we_two' (we_mono h fun ra Γ1 h1 => we_mono h1 fun rb Γ2 ⟨x, us, e, hs, hx, hu, p⟩ => fun σ B H y z E ky kz Q q => by
    subst e
    cases Is.rawI ky
    obtain ⟨a, vs, rfl, hq, ha⟩ := rv_seq E kz hs
    cases ha.rawsI
    exact ⟨a, _, rfl, hq, hx, hu, q _ B H _ Γ2 (.refl E) (.raw _) p⟩)
end
end Ab
namespace Ab
open PySem L2
/-! ### statements -/
structure GoS (K : PySem.W.Frag) (pin : List Nat) (σ : L2.St) (B H : Hp) (Γ : List Sl) (σ' : L2.St) (B' H' : Hp) (Γ' : List Sl) : Prop where
  mv : Mv (Own σ Γ) B H B' H'
  new : ∀ a, Own σ' Γ' a → Own σ Γ a ∨ H a = none
  env : Env K B' H' σ' Γ'
  pin : ∀ i, i ∈ pin → σ'[i]? = σ[i]?
structure Ps where
  nx : List Sl → Prop
  rt : Re → List Sl → Prop
  bk : List Sl → Prop := fun _ => False
  ct : List Sl → Prop := fun _ => False
def Re.free : Re → Bool
  | .own _ => false
  | _ => true
def WS (K : PySem.W.Frag) (pin : List Nat) (ts : TS) (Γ : List Sl) (P : Ps) : Prop := ∀ σ B H (D : Ends), Env K B H σ Γ →
  (∀ σ' B' H' Γ', GoS K pin σ B H Γ σ' B' H' Γ' → P.nx Γ' → D.nx σ' H') →
  (∀ v σ' B' H' r Γ', GoS K pin σ B H Γ σ' B' H' Γ' → ReOk K [] (Own σ Γ) (Own σ' Γ') B' H H' v r → P.rt r Γ' → D.rt v H') →
  (∀ σ' B' H' Γ', GoS K pin σ B H Γ σ' B' H' Γ' → P.bk Γ' → D.bk σ' H') →
  (∀ σ' B' H' Γ', GoS K pin σ B H Γ σ' B' H' Γ' → P.ct Γ' → D.ct σ' H') → ts D σ H
/-- a target -/
def WG (K : PySem.W.Frag) (pin : List Nat) (g : TG) (d : Dt) (Γ : List Sl) (P : List Sl → Prop) : Prop := ∀ σ B H x, Env K B H σ Γ → Is K B x d → ∀ Q : L2.St → Hp → Prop,
  (∀ σ' Γ', GoS K pin σ B H Γ σ' B H Γ' → P Γ' → Q σ' H) → g x σ H Q
section
variable {K : PySem.W.Frag} {pin : List Nat} {σ σ1 σ2 : L2.St} {B H B1 H1 B2 H2 : Hp} {Γ Γ1 Γ2 : List Sl} {v : V} {r : Re} {P : Ps}
theorem GoS.refl (E : Env K B H σ Γ) : GoS K pin σ B H Γ σ B H Γ := ⟨Mv.refl _ _ _, fun _ h => .inl h, E, fun _ _ => rfl⟩
theorem GoS.trans (x : GoS K pin σ B H Γ σ1 B1 H1 Γ1) (y : GoS K pin σ1 B1 H1 Γ1 σ2 B2 H2 Γ2) : GoS K pin σ B H Γ σ2 B2 H2 Γ2 :=
  ⟨x.mv.trans x.new y.mv, fun a h => (y.new a h).elim (fun z => x.new a z) fun z => x.mv.back z, y.env, fun i hi => (y.pin i hi).trans (x.pin i hi)⟩
theorem Go.s (x : Go K σ B H Γ B1 H1 Γ1) : GoS K pin σ B H Γ σ B1 H1 Γ1 := ⟨x.mv, fun a h => .inl (x.sub a h), x.env, fun _ _ => rfl⟩
theorem ReOk.off {m m' : Addr → Prop} (h : ReOk K σ m m' B1 H H1 v r) (hf : r.free = true) : ReOk K [] m m' B1 H H1 v r := by
  cases r with
  | val d => exact h
  | new ds => exact h
  | own i => cases hf
theorem Own.set_ne {i : Nat} {x : Option V} {s : Sl} {a : Addr} (h : Own (σ.set i x) (Γ.set i s) a) (hs : ∀ ds, s = .acc ds → x ≠ some (.ref a)) : Own σ Γ a := by
  obtain ⟨j, ds, h1, h2⟩ := h
  by_cases hij : i = j
  · subst hij
    have hi : i < Γ.length := by
      have := (List.getElem?_eq_some_iff.mp h1).1
      simpa using this
    have hi2 : i < σ.length := by
      have := (List.getElem?_eq_some_iff.mp h2).1
      simpa using this
    rw [List.getElem?_set_self hi] at h1
    rw [List.getElem?_set_self hi2] at h2
    exact absurd (Option.some.inj h2) (hs ds (Option.some.inj h1))
  · rw [List.getElem?_set_ne hij] at h1 h2
    exact ⟨j, ds, h1, h2⟩
/-- a slot gets a result -/
def slOf : Re → Sl
  | .val d => .val d
  | .new ds => .acc ds
  | .own _ => .un
theorem Env.setV (E : Env K B H σ Γ) {i : Nat} {d : Dt} (hi : i < Γ.length) (hv : Is K B v d) : Env K B H (σ.set i (some v)) (Γ.set i (.val d)) := by
  have hi2 : i < σ.length := by rw [E.len]; exact hi
  have nac : ∀ {j : Nat} {es : List Dt}, (Γ.set i (.val d))[j]? = some (.acc es) → i ≠ j := fun {j es} h z => by
    subst z
    rw [List.getElem?_set_self hi] at h; cases h
  refine ⟨by simp [E.len], E.bh, fun j e h => ?_, fun j es h => ?_, fun j k ds es l h1 h2 h3 h4 => ?_⟩
  · by_cases hij : i = j
    · subst hij
      rw [List.getElem?_set_self hi] at h
      cases h
      exact ⟨v, List.getElem?_set_self hi2, hv⟩
    · rw [List.getElem?_set_ne hij] at h ⊢
      exact E.val j e h
  · have hij := nac h
    rw [List.getElem?_set_ne hij] at h ⊢
    exact E.acc j es h
  · have a1 := nac h1
    have a2 := nac h2
    rw [List.getElem?_set_ne a1] at h1 h3
    rw [List.getElem?_set_ne a2] at h2 h4
    exact E.sep j k ds es l h1 h2 h3 h4
theorem Env.setU (E : Env K B H σ Γ) {i : Nat} (x : Option V) (hi : i < Γ.length) : Env K B H (σ.set i x) (Γ.set i .un) := by
  have nac : ∀ {j : Nat} {s : Sl}, (Γ.set i .un)[j]? = some s → s ≠ .un → i ≠ j := fun {j s} h hs z => by
    subst z
    rw [List.getElem?_set_self hi] at h; cases h; exact hs rfl
  refine ⟨by simp [E.len], E.bh, fun j e h => ?_, fun j es h => ?_, fun j k ds es l h1 h2 h3 h4 => ?_⟩
  · have hij := nac h (fun z => nomatch z)
    rw [List.getElem?_set_ne hij] at h ⊢
    exact E.val j e h
  · have hij := nac h (fun z => nomatch z)
    rw [List.getElem?_set_ne hij] at h ⊢
    exact E.acc j es h
  · have a1 := nac h1 (fun z => nomatch z)
    have a2 := nac h2 (fun z => nomatch z)
    rw [List.getElem?_set_ne a1] at h1 h3
    rw [List.getElem?_set_ne a2] at h2 h4
    exact E.sep j k ds es l h1 h2 h3 h4
theorem Env.setA (E : Env K B H σ Γ) {i : Nat} {l : Addr} {vs : List V} {ds : List Dt} (hi : i < Γ.length) (hn : ¬ Own σ Γ l) (hl : H l = some (.lst vs)) (hb : B l = none) (ha : IsA K B vs ds) : Env K B H (σ.set i (some (.ref l))) (Γ.set i (.acc ds)) := by
  have hi2 : i < σ.length := by rw [E.len]; exact hi
  refine ⟨by simp [E.len], E.bh, fun j e h => ?_, fun j es h => ?_, fun j k ds' es l' h1 h2 h3 h4 => ?_⟩
  · by_cases hij : i = j
    · subst hij
      rw [List.getElem?_set_self hi] at h
      cases h
    · rw [List.getElem?_set_ne hij] at h ⊢
      exact E.val j e h
  · by_cases hij : i = j
    · subst hij
      rw [List.getElem?_set_self hi] at h
      cases h
      exact ⟨l, vs, List.getElem?_set_self hi2, hl, hb, ha⟩
    · rw [List.getElem?_set_ne hij] at h ⊢
      exact E.acc j es h
  · by_cases h1i : i = j
    · by_cases h2i : i = k
      · exact h1i.symm.trans h2i
      · subst h1i
        rw [List.getElem?_set_self hi2] at h3
        rw [List.getElem?_set_ne h2i] at h2 h4
        cases h3
        exact absurd ⟨k, es, h2, h4⟩ hn
    · by_cases h2i : i = k
      · subst h2i
        rw [List.getElem?_set_self hi2] at h4
        rw [List.getElem?_set_ne h1i] at h1 h3
        cases h4
        exact absurd ⟨j, ds', h1, h3⟩ hn
      · rw [List.getElem?_set_ne h1i] at h1 h3
        rw [List.getElem?_set_ne h2i] at h2 h4
        exact E.sep j k ds' es l' h1 h2 h3 h4
theorem pin_set {i : Nat} {x : Option V} (hp : pin.contains i = false) : ∀ j, j ∈ pin → (σ.set i x)[j]? = σ[j]? := fun j hj => by
  have : i ≠ j := fun z => by
    subst z
    have := List.contains_iff_mem.mpr hj
    rw [hp] at this; cases this
  exact List.getElem?_set_ne this
/-- a result goes to slot i -/
theorem goS_set (g : Go K σ B H Γ B1 H1 Γ1) (k : ReOk K σ (Own σ Γ) (Own σ Γ1) B1 H H1 v r) {i : Nat} (hp : pin.contains i = false) (hi : i < Γ1.length) : GoS K pin σ B H Γ (σ.set i (some v)) B1 H1 (Γ1.set i (slOf r)) := by
  cases r with
  | val d => exact ⟨g.mv, fun a h => .inl (g.sub a (h.set_ne fun ds z => nomatch z)), g.env.setV hi k, pin_set hp⟩
  | own j => exact ⟨g.mv, fun a h => .inl (g.sub a (h.set_ne fun ds z => nomatch z)), g.env.setU _ hi, pin_set hp⟩
  | new ds =>
    obtain ⟨l, vs, rfl, h1, h2, h3, h4, h5⟩ := k
    refine ⟨g.mv, fun a h => ?_, g.env.setA hi h2 h3 h4 h5, pin_set hp⟩
    by_cases ha : a = l
    · subst ha; exact h1
    · exact .inl (g.sub a (h.set_ne fun ds _ z => ha (by cases z; rfl)))
end
section
variable {K : PySem.W.Frag} {pin : List Nat} {Γ : List Sl} {P : Ps} {te ta tb : TE} {tt : TT} {t u tb' : TS} {g : TG}
theorem ws_mono {P' : Ps} (h : WS K pin t Γ P) (h1 : ∀ G, P.nx G → P'.nx G) (h2 : ∀ r G, P.rt r G → P'.rt r G) (h3 : ∀ G, P.bk G → P'.bk G) (h4 : ∀ G, P.ct G → P'.ct G) : WS K pin t Γ P' := fun σ B H D E n r b c =>
  h σ B H D E (fun σ' B' H' Γ' g p => n σ' B' H' Γ' g (h1 _ p)) (fun v σ' B' H' z Γ' g k p => r v σ' B' H' z Γ' g k (h2 _ _ p)) (fun σ' B' H' Γ' g p => b σ' B' H' Γ' g (h3 _ p)) (fun σ' B' H' Γ' g p => c σ' B' H' Γ' g (h4 _ p))
/-- from a later state -/
theorem ws_from {σ σ1 : L2.St} {B H B1 H1 : Hp} {Γ1 : List Sl} {D : Ends} (h : WS K pin t Γ1 P) (g : GoS K pin σ B H Γ σ1 B1 H1 Γ1)
    (n : ∀ σ' B' H' Γ', GoS K pin σ B H Γ σ' B' H' Γ' → P.nx Γ' → D.nx σ' H')
    (r : ∀ v σ' B' H' r Γ', GoS K pin σ B H Γ σ' B' H' Γ' → ReOk K [] (Own σ Γ) (Own σ' Γ') B' H H' v r → P.rt r Γ' → D.rt v H')
    (b : ∀ σ' B' H' Γ', GoS K pin σ B H Γ σ' B' H' Γ' → P.bk Γ' → D.bk σ' H')
    (c : ∀ σ' B' H' Γ', GoS K pin σ B H Γ σ' B' H' Γ' → P.ct Γ' → D.ct σ' H') : t D σ1 H1 :=
  h σ1 B1 H1 D g.env (fun σ' B' H' Γ' g' p => n σ' B' H' Γ' (g.trans g') p) (fun v σ' B' H' z Γ' g' k p => r v σ' B' H' z Γ' (g.trans g') (ReOk.earlier k g.mv g.new) p)
    (fun σ' B' H' Γ' g' p => b σ' B' H' Γ' (g.trans g') p) (fun σ' B' H' Γ' g' p => c σ' B' H' Γ' (g.trans g') p)
theorem ws_seq (h : WS K pin t Γ { P with nx := fun Γ1 => WS K pin u Γ1 P }) : WS K pin (tSeq t u) Γ P := fun σ B H D E n r b c =>
  h σ B H { D with nx := u D } E (fun σ' B' H' Γ' g p => ws_from (t := u) (D := D) p g n r b c) r b c
theorem ws_nil (p : P.nx Γ) : WS K pin tNext Γ P := fun σ B H D E n r b c => n σ B H Γ (.refl E) p
theorem ws_brk (p : P.bk Γ) : WS K pin tBreak Γ P := fun σ B H D E n r b c => b σ B H Γ (.refl E) p
theorem ws_cont (p : P.ct Γ) : WS K pin tCont Γ P := fun σ B H D E n r b c => c σ B H Γ (.refl E) p
theorem ws_expr (h : WE K te Γ fun _ Γ1 => P.nx Γ1) : WS K pin (tDrop te) Γ P := fun σ B H D E n r b c =>
  h σ B H E _ fun v B1 H1 z Γ1 g k p => n σ B1 H1 Γ1 g.s p
theorem ws_ret (h : WE K te Γ fun z Γ1 => z.free = true ∧ P.rt z Γ1) : WS K pin (tRet te) Γ P := fun σ B H D E n r b c =>
  h σ B H E _ fun v B1 H1 z Γ1 g k ⟨hf, p⟩ => r v σ B1 H1 z Γ1 g.s (k.off hf) p
theorem ws_retN (p : P.rt (.val .non) Γ) : WS K pin tRetN Γ P := fun σ B H D E n r b c => r .non σ B H (.val .non) Γ (.refl E) (Is.raw _) p
/-- return of an owned list -/
theorem ws_retA {i : Nat} {ds : List Dt} (h : Γ[i]? = some (.acc ds)) (p : P.rt (.new ds) (Γ.set i .un)) : WS K pin (tRet (tVar i)) Γ P := ws_ret (we_move h ⟨rfl, p⟩)
theorem ws_if (h : WT K tt Γ fun b Γ1 => (b = true → WS K pin t Γ1 P) ∧ (b = false → WS K pin u Γ1 P)) : WS K pin (tIfS tt t u) Γ P := fun σ B H D E n r b c =>
  h σ B H E _ fun z B1 H1 Γ1 g p => by
    cases z with
    | true =>
      show t D σ H1
      exact ws_from (p.1 rfl) g.s n r b c
    | false =>
      show u D σ H1
      exact ws_from (p.2 rfl) g.s n r b c
theorem ws_asg {i : Nat} (hp : pin.contains i = false) (hi : decide (i < Γ.length) = true) (h : WE K te Γ fun z Γ1 => P.nx (Γ1.set i (slOf z))) : WS K pin (tAsg te (gName i)) Γ P := fun σ B H D E n r b c =>
  h σ B H E _ fun v B1 H1 z Γ1 g k p => n _ B1 H1 _ (goS_set g k hp (by rw [← g.env.len, E.len]; exact of_decide_eq_true hi)) p
/-- the whole of a frozen list, a tuple .. to a target -/
theorem ws_asgG (h : WE K te Γ fun z Γ1 => ∃ d, z = .val d ∧ WG K pin g d Γ1 P.nx) : WS K pin (tAsg te g) Γ P := fun σ B H D E n r b c =>
  h σ B H E _ fun v B1 H1 z Γ1 g1 k p => by
    obtain ⟨d, rfl, p⟩ := p
    exact p σ B1 H1 v g1.env k _ fun σ' Γ' g2 p2 => n σ' B1 H1 Γ' (g1.s.trans g2) p2
theorem wg_name {i : Nat} {d : Dt} {Q : List Sl → Prop} (hp : pin.contains i = false) (hi : decide (i < Γ.length) = true) (p : Q (Γ.set i (.val d))) : WG K pin (gName i) d Γ Q := fun σ B H x E k R q =>
  q _ _ (goS_set (r := .val d) (.refl E) k hp (of_decide_eq_true hi)) p
def WGs (K : PySem.W.Frag) (pin : List Nat) (g : TGs) (ds : List Dt) (Γ : List Sl) (P : List Sl → Prop) : Prop := ∀ σ B H xs, Env K B H σ Γ → IsA K B xs ds → ∀ Q : L2.St → Hp → Prop,
  (∀ σ' Γ', GoS K pin σ B H Γ σ' B H Γ' → P Γ' → Q σ' H) → g xs σ H Q
theorem wgs_nil {Q : List Sl → Prop} (p : Q Γ) : WGs K pin gNil [] Γ Q := fun σ B H xs E k R q => by
  have : xs = [] := List.eq_nil_of_length_eq_zero (by rw [k.len]; rfl)
  exact ⟨this, q σ Γ (.refl E) p⟩
theorem wgs_cons {g1 : TG} {g2 : TGs} {d : Dt} {ds : List Dt} {Q : List Sl → Prop} (h : WG K pin g1 d Γ fun Γ1 => WGs K pin g2 ds Γ1 Q) : WGs K pin (gCons g1 g2) (d :: ds) Γ Q := fun σ B H xs E k R q => by
  cases xs with
  | nil => have := k.len; simp at this
  | cons x r =>
    refine ⟨x, r, rfl, h σ B H x E (k.at_ 0 x d rfl rfl) _ fun σ1 Γ1 e1 p1 => ?_⟩
    exact p1 σ1 B H r e1.env ⟨by have := k.len; simpa using this, fun i v d a b => k.at_ (i + 1) v d (by simpa using a) (by simpa using b)⟩ R fun σ2 Γ2 e2 p2 => q σ2 Γ2 (e1.trans e2) p2
theorem wg_tup {n : Nat} {g2 : TGs} {ds : List Dt} {Q : List Sl → Prop} (hn : ds.length = n) (h : WGs K pin g2 ds Γ Q) : WG K pin (gTup K n g2) (.tup ds) Γ Q := fun σ B H x E k R q => by
  obtain ⟨a, xs, rfl, h1, h2⟩ := Is.tupR k
  exact ⟨a, xs, rfl, sqT_mono E.bh h1, by rw [h2.len]; exact hn, h σ B H xs E h2 R q⟩
/-- x op= e on ints -/
theorem ws_aug {i : Nat} {f : Int → Int → Int} {a : Int} (hx : Γ[i]? = some (.val (.int a))) (hp : pin.contains i = false) (h : WE K te Γ fun z Γ1 => ∃ b, z = .val (.int b) ∧ P.nx (Γ1.set i (.val (.int (f a b))))) : WS K pin (tAug i te (ipI f)) Γ P := fun σ B H D E n r b c => by
  obtain ⟨v, hv, hk⟩ := E.val i _ hx
  cases hk.rawI
  refine ⟨_, hv, h σ B H E _ fun y B1 H1 z Γ1 g k p => ?_⟩
  obtain ⟨b, rfl, p⟩ := p
  cases Is.rawI k
  exact ⟨a, b, rfl, rfl, n _ B1 H1 _ (goS_set (r := .val (.int (f a b))) g (Is.raw _) hp (by rw [← g.env.len, E.len]; exact (List.getElem?_eq_some_iff.mp hx).1)) p⟩
/-- an owned list is changed -/
theorem Env.put {σ : L2.St} {B H : Hp} {i : Nat} {ds es : List Dt} {l : Addr} {ys : List V} (E : Env K B H σ Γ) (h : Γ[i]? = some (.acc ds)) (hl : σ[i]? = some (some (.ref l))) (ha : IsA K B ys es) : Env K B (upd H l (.lst ys)) σ (Γ.set i (.acc es)) := by
  have hi : i < Γ.length := (List.getElem?_eq_some_iff.mp h).1
  obtain ⟨l', vs, q1, q2, q3, q4⟩ := E.acc i ds h
  rw [hl] at q1; cases q1
  have up : ∀ {j : Nat} {es' : List Dt}, (Γ.set i (.acc es))[j]? = some (.acc es') → ∃ ds', Γ[j]? = some (.acc ds') := fun {j es'} hj => by
    by_cases hij : i = j
    · subst hij; exact ⟨ds, h⟩
    · rw [List.getElem?_set_ne hij] at hj; exact ⟨es', hj⟩
  refine ⟨by simp [E.len], fun a u e => ?_, fun j e hj => ?_, fun j es' hj => ?_, fun j k ds' es' l' h1 h2 h3 h4 => ?_⟩
  · rw [upd_ne (ne_of_none e q3)]; exact E.bh a u e
  · by_cases hij : i = j
    · subst hij; rw [List.getElem?_set_self hi] at hj; cases hj
    · rw [List.getElem?_set_ne hij] at hj; exact E.val j e hj
  · by_cases hij : i = j
    · subst hij; rw [List.getElem?_set_self hi] at hj; cases hj
      exact ⟨l, ys, hl, upd_same, q3, ha⟩
    · rw [List.getElem?_set_ne hij] at hj
      obtain ⟨c, us, e1, e2, e3, e4⟩ := E.acc j es' hj
      have hc : c ≠ l := fun z => by
        subst z
        exact hij (E.sep i j ds es' c h hj hl e1)
      exact ⟨c, us, e1, by rw [upd_ne hc]; exact e2, e3, e4⟩
  · obtain ⟨d1, g1⟩ := up h1
    obtain ⟨d2, g2⟩ := up h2
    exact E.sep j k d1 d2 l' g1 g2 h3 h4
theorem Own.put {σ : L2.St} {i : Nat} {ds es : List Dt} {a : Addr} (h : Γ[i]? = some (.acc ds)) (o : Own σ (Γ.set i (.acc es)) a) : Own σ Γ a := by
  obtain ⟨j, es', h1, h2⟩ := o
  by_cases hij : i = j
  · subst hij; exact ⟨i, ds, h, h2⟩
  · rw [List.getElem?_set_ne hij] at h1; exact ⟨j, es', h1, h2⟩
theorem Go.put {σ : L2.St} {B H : Hp} {i : Nat} {ds es : List Dt} {l : Addr} {ys : List V} (E : Env K B H σ Γ) (h : Γ[i]? = some (.acc ds)) (hl : σ[i]? = some (some (.ref l))) (ha : IsA K B ys es) : Go K σ B H Γ B (upd H l (.lst ys)) (Γ.set i (.acc es)) :=
  ⟨⟨fun a o na e => by rw [upd_ne (fun z => na (by subst z; exact ⟨i, ds, h, hl⟩))]; exact e, Same.refl B, fun _ _ _ e => e⟩, fun j es' hj => by
    by_cases hij : i = j
    · subst hij; exact ⟨ds, h⟩
    · rw [List.getElem?_set_ne hij] at hj; exact ⟨es', hj⟩, E.put h hl ha⟩
/-- xs.append(e) -/
theorem we_append {i : Nat} {ds0 : List Dt} {Post : Re → List Sl → Prop} (h0 : Γ[i]? = some (.acc ds0)) (h : WE K te Γ fun z Γ1 => ∃ d ds, z.dt? = some d ∧ Γ1[i]? = some (.acc ds) ∧ ds.length < 1000000 ∧ Post (.val .non) (Γ1.set i (.acc (ds ++ [d])))) :
    WE K (tBM K "list" rAppend (tVar i) (tCons te tNil)) Γ Post := fun σ B H E Q q => by
  obtain ⟨l, vs, e0, e1, e2, k0⟩ := E.acc i ds0 h0
  refine ⟨.ref l, e0, .inl ⟨rfl, vs, .inl (.inl e1)⟩, ?_⟩
  have h' : WE K te Γ fun z Γ1 => ∃ d ds, z = .val d ∧ Γ1[i]? = some (.acc ds) ∧ ds.length < 1000000 ∧ Post (.val .non) (Γ1.set i (.acc (ds ++ [d]))) := we_freeze (we_mono h fun z Γ1 ⟨d, ds, hd, r⟩ => ⟨d, hd, d, ds, rfl, r⟩)
  refine h' σ B H E _ fun y B1 H1 z Γ1 g k p => ?_
  obtain ⟨d, ds, rfl, hi, hz, p⟩ := p
  obtain ⟨l', us, f0, f1, f2, k1⟩ := g.env.acc i ds hi
  rw [e0] at f0; cases f0
  refine ⟨l, us, y, rfl, rfl, f1, Nat.lt_trans (by rw [k1.len]; exact hz) (by decide), ?_⟩
  have g2 := Go.put g.env hi e0 (k1.snoc k)
  exact q .non B1 _ (.val .non) _ (g.trans g2) (Is.raw _) p
/-- xs[j] = e -/
theorem ws_setA {i : Nat} {tj : TE} (h : WE K te Γ fun z Γ1 => ∃ d, z = .val d ∧ (∃ ds1, Γ1[i]? = some (.acc ds1)) ∧ WE K tj Γ1 fun y Γ2 => ∃ ds k j, y = .val (.int k) ∧ Γ2[i]? = some (.acc ds) ∧ ixN ds.length k = some j ∧ P.nx (Γ2.set i (.acc (ds.set j d)))) :
    WS K pin (tAsg te (gSub (tVar i) tj rSetL)) Γ P := fun σ B H D E n r b c => by
  refine h σ B H E _ fun v B1 H1 z Γ1 g1 k1 p1 => ?_
  obtain ⟨d, rfl, ⟨ds1, h1⟩, p1⟩ := p1
  obtain ⟨l, vs, e0, e1, e2, k0⟩ := g1.env.acc i ds1 h1
  refine ⟨.ref l, e0, p1 σ B1 H1 g1.env _ fun y B2 H2 w Γ2 g2 k2 p2 => ?_⟩
  obtain ⟨ds, k, j, rfl, hi, hj, p⟩ := p2
  cases Is.rawI k2
  obtain ⟨l', us, f0, f1, f2, k3⟩ := g2.env.acc i ds hi
  rw [e0] at f0; cases f0
  refine ⟨l, us, k, j, rfl, rfl, f1, by rw [k3.len]; exact hj, ?_⟩
  exact n _ B2 _ _ ((g1.trans g2).trans (Go.put g2.env hi e0 (k3.set (Is.mono g2.mv.bb k1)))).s p
theorem we_reverse {i : Nat} {ds : List Dt} {Post : Re → List Sl → Prop} (h0 : Γ[i]? = some (.acc ds)) (p : Post (.val .non) (Γ.set i (.acc ds.reverse))) : WE K (tBM0 K "list" rReverse (tVar i)) Γ Post := fun σ B H E Q q => by
  obtain ⟨l, vs, e0, e1, e2, k0⟩ := E.acc i ds h0
  exact ⟨.ref l, e0, .inl ⟨rfl, vs, .inl (.inl e1)⟩, l, vs, rfl, rfl, e1, q .non B _ (.val .non) _ (Go.put E h0 e0 k0.reverse) (Is.raw _) p⟩
/-- xs.pop(k) -/
theorem we_popAt {i : Nat} {ds0 : List Dt} {Post : Re → List Sl → Prop} (h0 : Γ[i]? = some (.acc ds0)) (h : WE K te Γ fun z Γ1 => ∃ ds k j d, z = .val (.int k) ∧ Γ1[i]? = some (.acc ds) ∧ -(2 ^ 63) ≤ k ∧ k < 2 ^ 63 ∧ seqIndex? k ds.length = some j ∧ ds[j]? = some d ∧ Post (.val d) (Γ1.set i (.acc (ds.eraseIdx j)))) :
    WE K (tBM K "list" rPopAt (tVar i) (tCons te tNil)) Γ Post := fun σ B H E Q q => by
  obtain ⟨l, vs, e0, e1, e2, k0⟩ := E.acc i ds0 h0
  refine ⟨.ref l, e0, .inl ⟨rfl, vs, .inl (.inl e1)⟩, ?_⟩
  refine h σ B H E _ fun y B1 H1 z Γ1 g k p => ?_
  obtain ⟨ds, m, j, d, rfl, hi, hz, hz2, hj, hd, p⟩ := p
  cases Is.rawI k
  obtain ⟨l', us, f0, f1, f2, k1⟩ := g.env.acc i ds hi
  rw [e0] at f0; cases f0
  obtain ⟨w, hw, kw⟩ := k1.get hd
  refine ⟨l, us, m, j, w, rfl, rfl, f1, hz, hz2, by rw [k1.len]; exact hj, hw, ?_⟩
  have g2 := Go.put g.env hi e0 (k1.eraseIdx j)
  exact q w B1 _ (.val d) _ (g.trans g2) kw p
/-! ### loops -/
theorem ws_for1 {t1 : TA} (h : WD K t1 Γ fun ds Γ1 => ∃ n : Int, ds = [.int n] ∧ -(2 ^ 62) ≤ n ∧ n < 2 ^ 62 ∧ ∃ Inv : Nat → List Sl → Prop, Inv 0 Γ1 ∧
      (∀ (i : Nat) Γ', (i : Int) < n → Inv i Γ' → WG K pin g (.int i) Γ' fun Γ2 => WS K pin tb' Γ2 ⟨Inv (i + 1), P.rt, P.nx, Inv (i + 1)⟩) ∧ ∀ Γ', Inv n.toNat Γ' → P.nx Γ') : WS K pin (tFor (iRng1 t1) g tb') Γ P := fun σ B H D E n r b c => by
  refine h σ B H E _ fun vs B1 H1 ds Γ1 g1 k p => ?_
  obtain ⟨m, rfl, hlo, hhi, Inv, i0, turn, done⟩ := p
  have ev : vs = [.int m] := IsA.rawsI (xs := [.int m]) k
  refine ⟨m, ev, hlo, hhi, ?_⟩
  refine for_range (lo := 0) (n := m.toNat) (fun i σ' H' => ∃ B' Γ', GoS K pin σ B H Γ σ' B' H' Γ' ∧ Inv i Γ') ⟨B1, Γ1, g1.s, i0⟩ ?_ ?_
  · rintro i σ' H' hi ⟨B', Γ', g2, inv⟩
    have e0 : (0 : Int) + (i : Int) = (i : Int) := Int.zero_add _
    rw [e0]
    refine turn i Γ' (by omega) inv σ' B' H' _ g2.env (.raw _) _ fun σ2 Γ2 g3 w => ?_
    exact ws_from w (g2.trans g3) (fun σ3 B3 H3 Γ3 g4 p => ⟨B3, Γ3, g4, p⟩) r (fun σ3 B3 H3 Γ3 g4 p => n σ3 B3 H3 Γ3 g4 p) (fun σ3 B3 H3 Γ3 g4 p => ⟨B3, Γ3, g4, p⟩)
  · rintro σ' H' ⟨B', Γ', g2, inv⟩
    exact n σ' B' H' Γ' g2 (done Γ' inv)
theorem ws_for2 {t1 : TA} (h : WD K t1 Γ fun ds Γ1 => ∃ lo m : Int, ds = [.int lo, .int m] ∧ (-(2 ^ 62) ≤ lo ∧ lo < 2 ^ 62 ∧ -(2 ^ 62) ≤ m ∧ m < 2 ^ 62) ∧ ∃ Inv : Nat → List Sl → Prop, Inv 0 Γ1 ∧
      (∀ (i : Nat) Γ', lo + (i : Int) < m → Inv i Γ' → WG K pin g (.int (lo + i)) Γ' fun Γ2 => WS K pin tb' Γ2 ⟨Inv (i + 1), P.rt, P.nx, Inv (i + 1)⟩) ∧ ∀ Γ', Inv (m - lo).toNat Γ' → P.nx Γ') : WS K pin (tFor (iRng2 t1) g tb') Γ P := fun σ B H D E n r b c => by
  refine h σ B H E _ fun vs B1 H1 ds Γ1 g1 k p => ?_
  obtain ⟨lo, m, rfl, hb, Inv, i0, turn, done⟩ := p
  have ev : vs = [.int lo, .int m] := IsA.rawsI (xs := [.int lo, .int m]) k
  refine ⟨lo, m, ev, hb, ?_⟩
  refine for_range (lo := lo) (n := (m - lo).toNat) (fun i σ' H' => ∃ B' Γ', GoS K pin σ B H Γ σ' B' H' Γ' ∧ Inv i Γ') ⟨B1, Γ1, g1.s, i0⟩ ?_ ?_
  · rintro i σ' H' hi ⟨B', Γ', g2, inv⟩
    refine turn i Γ' (by omega) inv σ' B' H' _ g2.env (.raw _) _ fun σ2 Γ2 g3 w => ?_
    exact ws_from w (g2.trans g3) (fun σ3 B3 H3 Γ3 g4 p => ⟨B3, Γ3, g4, p⟩) r (fun σ3 B3 H3 Γ3 g4 p => n σ3 B3 H3 Γ3 g4 p) (fun σ3 B3 H3 Γ3 g4 p => ⟨B3, Γ3, g4, p⟩)
  · rintro σ' H' ⟨B', Γ', g2, inv⟩
    exact n σ' B' H' Γ' g2 (done Γ' inv)
/-- over a tuple -/
theorem ws_forT (h : WE K te Γ fun z Γ1 => ∃ ds, z = .val (.tup ds) ∧ ∃ Inv : Nat → List Sl → Prop, Inv 0 Γ1 ∧
      (∀ (i : Nat) d Γ', ds[i]? = some d → Inv i Γ' → WG K pin g d Γ' fun Γ2 => WS K pin tb' Γ2 ⟨Inv (i + 1), P.rt, P.nx, Inv (i + 1)⟩) ∧ ∀ Γ', Inv ds.length Γ' → P.nx Γ') : WS K pin (tFor (iTup K te) g tb') Γ P := fun σ B H D E n r b c => by
  refine h σ B H E _ fun v B1 H1 z Γ1 g1 k p => ?_
  obtain ⟨ds, rfl, Inv, i0, turn, done⟩ := p
  obtain ⟨a, xs, rfl, ha, hx⟩ := Is.tupR k
  refine ⟨a, rfl, ⟨xs, sqT_mono g1.env.bh ha⟩, for_tup (xs := xs) (fun i σ' H' => ∃ B' Γ', Same B1 B' ∧ GoS K pin σ B H Γ σ' B' H' Γ' ∧ Inv i Γ') ⟨B1, Γ1, Same.refl _, g1.s, i0⟩ ?_ ?_ ?_⟩
  · rintro i σ' H' _ ⟨B', Γ', sb, g2, _⟩
    exact sqT_mono (sb.trans g2.env.bh) ha
  · rintro i x σ' H' hi ⟨B', Γ', sb, g2, inv⟩
    have hlt : i < ds.length := by rw [← hx.len]; exact (List.getElem?_eq_some_iff.mp hi).1
    refine turn i ds[i] Γ' (List.getElem?_eq_getElem hlt) inv σ' B' H' x g2.env ((hx.at_ i x _ hi (List.getElem?_eq_getElem hlt)).mono sb) _ fun σ2 Γ2 g3 w => ?_
    have g23 := g2.trans g3
    refine w σ2 B' H' _ g23.env (fun σ3 B3 H3 Γ3 g4 p => ⟨B3, Γ3, sb.trans g4.mv.bb, g23.trans g4, p⟩) (fun v σ3 B3 H3 z Γ3 g4 k4 p => r v σ3 B3 H3 z Γ3 (g23.trans g4) (ReOk.earlier k4 g23.mv g23.new) p)
      (fun σ3 B3 H3 Γ3 g4 p => n σ3 B3 H3 Γ3 (g23.trans g4) p) (fun σ3 B3 H3 Γ3 g4 p => ⟨B3, Γ3, sb.trans g4.mv.bb, g23.trans g4, p⟩)
  · rintro σ' H' ⟨B', Γ', sb, g2, inv⟩
    rw [hx.len] at inv
    exact n σ' B' H' Γ' g2 (done Γ' inv)
/-- over a list that is data, or new -/
theorem ws_forL (h : WE K te Γ fun z Γ1 => ∃ d ds, z.dt? = some d ∧ d = .lst ds ∧ ∃ Inv : Nat → List Sl → Prop, Inv 0 Γ1 ∧
      (∀ (i : Nat) d Γ', ds[i]? = some d → Inv i Γ' → WG K pin g d Γ' fun Γ2 => WS K pin tb' Γ2 ⟨Inv (i + 1), P.rt, P.nx, Inv (i + 1)⟩) ∧ ∀ Γ', Inv ds.length Γ' → P.nx Γ') : WS K pin (tFor (iList K te) g tb') Γ P := fun σ B H D E n r b c => by
  have h' : WE K te Γ fun z Γ1 => ∃ ds, z = .val (.lst ds) ∧ ∃ Inv : Nat → List Sl → Prop, Inv 0 Γ1 ∧
      (∀ (i : Nat) d Γ', ds[i]? = some d → Inv i Γ' → WG K pin g d Γ' fun Γ2 => WS K pin tb' Γ2 ⟨Inv (i + 1), P.rt, P.nx, Inv (i + 1)⟩) ∧ ∀ Γ', Inv ds.length Γ' → P.nx Γ' :=
    we_freeze (we_mono h fun z Γ1 ⟨d, ds, hd, e, r⟩ => ⟨d, hd, ds, by rw [e], r⟩)
  refine h' σ B H E _ fun v B1 H1 z Γ1 g1 k p => ?_
  obtain ⟨ds, rfl, Inv, i0, turn, done⟩ := p
  obtain ⟨a, xs, rfl, ha, hx⟩ := Is.lstR k
  refine ⟨a, rfl, ⟨xs, .inl (.inl (g1.env.bh _ _ ha))⟩, for_list (xs := xs) (fun i σ' H' => ∃ B' Γ', Same B1 B' ∧ GoS K pin σ B H Γ σ' B' H' Γ' ∧ Inv i Γ') ⟨B1, Γ1, Same.refl _, g1.s, i0⟩ ?_ ?_ ?_⟩
  · rintro i σ' H' _ ⟨B', Γ', sb, g2, _⟩
    exact .inl (.inl ((sb.trans g2.env.bh) _ _ ha))
  · rintro i x σ' H' hi ⟨B', Γ', sb, g2, inv⟩
    have hlt : i < ds.length := by rw [← hx.len]; exact (List.getElem?_eq_some_iff.mp hi).1
    refine turn i ds[i] Γ' (List.getElem?_eq_getElem hlt) inv σ' B' H' x g2.env ((hx.at_ i x _ hi (List.getElem?_eq_getElem hlt)).mono sb) _ fun σ2 Γ2 g3 w => ?_
    have g23 := g2.trans g3
    refine w σ2 B' H' _ g23.env (fun σ3 B3 H3 Γ3 g4 p => ⟨B3, Γ3, sb.trans g4.mv.bb, g23.trans g4, p⟩) (fun v σ3 B3 H3 z Γ3 g4 k4 p => r v σ3 B3 H3 z Γ3 (g23.trans g4) (ReOk.earlier k4 g23.mv g23.new) p)
      (fun σ3 B3 H3 Γ3 g4 p => n σ3 B3 H3 Γ3 (g23.trans g4) p) (fun σ3 B3 H3 Γ3 g4 p => ⟨B3, Γ3, sb.trans g4.mv.bb, g23.trans g4, p⟩)
  · rintro σ' H' ⟨B', Γ', sb, g2, inv⟩
    rw [hx.len] at inv
    exact n σ' B' H' Γ' g2 (done Γ' inv)
/-- over an owned list that the body leaves as it is -/
theorem ws_forA {k : Nat} {ds : List Dt} (h0 : Γ[k]? = some (.acc ds)) (Inv : Nat → List Sl → Prop) (i0 : Inv 0 Γ) (hk : ∀ i Γ', Inv i Γ' → Γ'[k]? = some (.acc ds))
      (turn : ∀ (i : Nat) d Γ', ds[i]? = some d → Inv i Γ' → WG K (k :: pin) g d Γ' fun Γ2 => WS K (k :: pin) tb' Γ2 ⟨Inv (i + 1), P.rt, P.nx, Inv (i + 1)⟩) (done : ∀ Γ', Inv ds.length Γ' → P.nx Γ') : WS K pin (tFor (iList K (tVar k)) g tb') Γ P := fun σ B H D E n r b c => by
  obtain ⟨l, xs, e0, e1, e2, hx⟩ := E.acc k ds h0
  have off : ∀ {σ' B' H' Γ'}, GoS K (k :: pin) σ B H Γ σ' B' H' Γ' → GoS K pin σ B H Γ σ' B' H' Γ' := fun g => ⟨g.mv, g.new, g.env, fun i hi => g.pin i (List.mem_cons_of_mem _ hi)⟩
  have items : ∀ {i σ' B' H' Γ'}, GoS K (k :: pin) σ B H Γ σ' B' H' Γ' → Inv i Γ' → ∃ ys, H' l = some (.lst ys) ∧ IsA K B' ys ds := fun {i σ' B' H' Γ'} g inv => by
    obtain ⟨c, ys, q1, q2, q3, q4⟩ := g.env.acc k ds (hk i Γ' inv)
    rw [g.pin k (List.mem_cons_self), e0] at q1
    cases q1
    exact ⟨ys, q2, q4⟩
  refine ⟨.ref l, e0, l, rfl, ⟨xs, .inl (.inl e1)⟩, fun i m σ' H' => m = ds.length - i ∧ i ≤ ds.length ∧ ∃ B' Γ', GoS K (k :: pin) σ B H Γ σ' B' H' Γ' ∧ Inv i Γ', ⟨ds.length, by simp, Nat.zero_le _, B, Γ, .refl E, i0⟩, ?_⟩
  rintro i m σ' H' ⟨rfl, hi, B', Γ', g2, inv⟩
  obtain ⟨ys, hy, hya⟩ := items g2 inv
  by_cases hlt : i < ds.length
  · obtain ⟨x, hx1, hx2⟩ := hya.get (List.getElem?_eq_getElem hlt)
    refine .inr ⟨⟨ys, x, .inl (.inl hy), hx1⟩, fun σ2 H2 => ∃ B' Γ', GoS K (k :: pin) σ B H Γ σ2 B' H2 Γ' ∧ Inv (i + 1) Γ', fun σ2 H2 ⟨B2, Γ2, q⟩ => ⟨ds.length - (i + 1), by omega, rfl, hlt, B2, Γ2, q⟩, fun x' H2 hyl => ?_⟩
    obtain ⟨e, hyl⟩ := hyl
    subst e
    have ex : x' = x := by
      have := hyl ys (.inl (.inl hy))
      rw [hx1] at this; cases this; rfl
    subst ex
    refine turn i ds[i] Γ' (List.getElem?_eq_getElem hlt) inv σ' B' _ x' g2.env hx2 _ fun σ2 Γ2 g3 w => ?_
    have g23 := g2.trans g3
    exact w σ2 B' _ _ g23.env (fun σ3 B3 H3 Γ3 g4 p => ⟨B3, Γ3, g23.trans g4, p⟩) (fun v σ3 B3 H3 z Γ3 g4 k4 p => r v σ3 B3 H3 z Γ3 (off (g23.trans g4)) (ReOk.earlier k4 g23.mv g23.new) p)
      (fun σ3 B3 H3 Γ3 g4 p => n σ3 B3 H3 Γ3 (off (g23.trans g4)) p) (fun σ3 B3 H3 Γ3 g4 p => ⟨B3, Γ3, g23.trans g4, p⟩)
  · have e : i = ds.length := by omega
    subst e
    exact .inl ⟨⟨ys, .inl (.inl hy), by rw [hya.len]; exact Nat.le_refl _⟩, n σ' B' H' Γ' (off g2) (done Γ' inv)⟩
/-- while, by an invariant with a measure -/
theorem ws_while (Inv : Nat → List Sl → Prop) (m0 : Nat) (i0 : Inv m0 Γ)
      (turn : ∀ m Γ', Inv m Γ' → WT K tt Γ' fun z Γ1 => (z = true → WS K pin tb' Γ1 ⟨fun G => ∃ m', m' < m ∧ Inv m' G, P.rt, P.nx, fun G => ∃ m', m' < m ∧ Inv m' G⟩) ∧ (z = false → P.nx Γ1)) : WS K pin (tWhile tt tb') Γ P := fun σ B H D E n r b c => by
  refine ⟨fun m σ' H' => ∃ B' Γ', GoS K pin σ B H Γ σ' B' H' Γ' ∧ Inv m Γ', ⟨m0, B, Γ, .refl E, i0⟩, ?_⟩
  rintro m σ' H' ⟨B', Γ', g, inv⟩
  refine turn m Γ' inv σ' B' H' g.env _ fun z B1 H1 Γ1 g1 p => ?_
  have gg := g.trans g1.s
  cases z with
  | true =>
    refine (show ∃ N : L2.St → Hp → Prop, _ from ⟨fun σ2 H2 => ∃ B2 Γ2, GoS K pin σ B H Γ σ2 B2 H2 Γ2 ∧ ∃ m', m' < m ∧ Inv m' Γ2, fun σ2 H2 ⟨B2, Γ2, g2, m', hm, inv'⟩ => ⟨m', hm, B2, Γ2, g2, inv'⟩, ?_⟩)
    exact ws_from (p.1 rfl) gg (fun σ3 B3 H3 Γ3 g4 p => ⟨B3, Γ3, g4, p⟩) r (fun σ3 B3 H3 Γ3 g4 p => n σ3 B3 H3 Γ3 g4 p) (fun σ3 B3 H3 Γ3 g4 p => ⟨B3, Γ3, g4, p⟩)
  | false => exact n σ' B1 H1 Γ1 gg (p.2 rfl)
end
end Ab
namespace Ab
open PySem L2
/-! ### promises over data -/
abbrev AP := List Sl → (Re → List Sl → Prop) → Prop
def toSp (K : PySem.W.Frag) (ap : AP) : Sp := fun vs H Q _ => ∃ B as Post, Env K B H (vs.map some) as ∧ ap as Post ∧
  ∀ v B' H' r as', Go K (vs.map some) B H as B' H' as' → ReOk K [] (Own (vs.map some) as) (Own (vs.map some) as') B' H H' v r → Post r as' → Q v H'
/-- the arguments as they stand at the end -/
def exitSl (pin : List Nat) (Γ : List Sl) (i : Nat) : Sl → Sl
  | .val d => .val d
  | .un => .un
  | .acc _ => if pin.contains i then (Γ[i]?).getD .un else .un
def exitFrom (pin : List Nat) (Γ : List Sl) : Nat → List Sl → List Sl
  | _, [] => []
  | k, s :: r => exitSl pin Γ k s :: exitFrom pin Γ (k + 1) r
def exitArgs (pin : List Nat) (Γ as : List Sl) : List Sl := exitFrom pin Γ 0 as
theorem exitFrom_get (pin : List Nat) (Γ : List Sl) : ∀ (as : List Sl) (k i : Nat), (exitFrom pin Γ k as)[i]? = (as[i]?).map (exitSl pin Γ (k + i))
  | [], k, i => by simp [exitFrom]
  | s :: r, k, 0 => by simp [exitFrom]
  | s :: r, k, i + 1 => by
    rw [exitFrom]
    simp only [List.getElem?_cons_succ]
    rw [exitFrom_get pin Γ r (k + 1) i]
    rw [show k + 1 + i = k + (i + 1) by omega]
theorem exitArgs_get {pin : List Nat} {Γ as : List Sl} {i : Nat} {s : Sl} (h : (exitArgs pin Γ as)[i]? = some s) : ∃ s0, as[i]? = some s0 ∧ s = exitSl pin Γ i s0 := by
  unfold exitArgs at h
  rw [exitFrom_get] at h
  cases q : as[i]? with
  | none => rw [q] at h; cases h
  | some s0 =>
    rw [q] at h
    simp at h
    exact ⟨s0, rfl, h.symm⟩
theorem exitFrom_len (pin : List Nat) (Γ : List Sl) : ∀ (as : List Sl) (k : Nat), (exitFrom pin Γ k as).length = as.length
  | [], _ => rfl
  | s :: r, k => by rw [exitFrom, List.length_cons, List.length_cons, exitFrom_len pin Γ r (k + 1)]
section
variable {K : PySem.W.Frag}
theorem start_get {N : List Str} {vs : List V} {i : Nat} (h : i < vs.length) : (L2.start N vs)[i]? = (vs.map some)[i]? := by
  unfold L2.start
  rw [List.getElem?_append_left (by rw [List.length_map]; exact h)]
theorem env_start {B H : Hp} {N : List Str} {vs : List V} {as : List Sl} (E : Env K B H (vs.map some) as) (hn : as.length ≤ N.length) : Env K B H (L2.start N vs) (as ++ List.replicate (N.length - as.length) .un) := by
  have hl : vs.length = as.length := by have := E.len; simpa using this
  have lt : ∀ {i : Nat} {s : Sl}, (as ++ List.replicate (N.length - as.length) Sl.un)[i]? = some s → s ≠ .un → i < as.length ∧ as[i]? = some s := fun {i s} h hs => by
    by_cases hi : i < as.length
    · rw [List.getElem?_append_left hi] at h; exact ⟨hi, h⟩
    · rw [List.getElem?_append_right (by omega)] at h
      have := List.mem_of_getElem? h
      rw [List.mem_replicate] at this
      exact absurd this.2 hs
  refine ⟨?_, E.bh, fun i d h => ?_, fun i ds h => ?_, fun i j ds es l h1 h2 h3 h4 => ?_⟩
  · unfold L2.start
    rw [List.length_append, List.length_map, List.length_replicate, List.length_append, List.length_replicate, hl]
  · obtain ⟨hi, h⟩ := lt h (fun z => nomatch z)
    rw [start_get (by omega)]
    exact E.val i d h
  · obtain ⟨hi, h⟩ := lt h (fun z => nomatch z)
    rw [start_get (by omega)]
    exact E.acc i ds h
  · obtain ⟨hi, h1⟩ := lt h1 (fun z => nomatch z)
    obtain ⟨hj, h2⟩ := lt h2 (fun z => nomatch z)
    rw [start_get (by omega)] at h3 h4
    exact E.sep i j ds es l h1 h2 h3 h4
theorem own_start {N : List Str} {vs : List V} {as : List Sl} (hl : vs.length = as.length) {a : Addr} : Own (L2.start N vs) (as ++ List.replicate (N.length - as.length) .un) a ↔ Own (vs.map some) as a := by
  constructor
  · rintro ⟨i, ds, h1, h2⟩
    by_cases hi : i < as.length
    · rw [List.getElem?_append_left hi] at h1
      rw [start_get (by omega)] at h2
      exact ⟨i, ds, h1, h2⟩
    · rw [List.getElem?_append_right (by omega)] at h1
      have := List.mem_of_getElem? h1
      rw [List.mem_replicate] at this
      cases this.2
  · rintro ⟨i, ds, h1, h2⟩
    have hi : i < as.length := (List.getElem?_eq_some_iff.mp h1).1
    refine ⟨i, ds, ?_, ?_⟩
    · rw [List.getElem?_append_left hi]; exact h1
    · rw [start_get (by omega)]; exact h2
variable {P : Program} {w : World} {mg : Str → Option Value} {base : Heap}
/-- a def by its body's run over data -/
theorem fn_ab {x qual : Str} {st : Stmt} {f : Addr} {fd : FuncData} {N ps : List Str} {k : Nat} {ap : AP} (pin : List Nat) (F : Fun K x qual st f fd) (S : FnScope N ps (defScope st))
    (hlen : ∀ as Post, ap as Post → as.length = ps.length) (hN : decide (ps.length ≤ N.length) = true)
    (body : ∀ (cdv : Value) (A : Around) (outer : List PySem.Env) (s : Shared) (H : Hp) (E : XK), Room k (A.deeper (PyProof.Rows.envOfC qual (defScope st) s.heap.objs.size f cdv)) →
      ∃ t, PSs (cxOf CX0 P w K mg base N qual (defScope st) f cdv A outer s H E).nox (defBody st) t ∧
        ∀ as Post, ap as Post → WS K pin t (as ++ List.replicate (N.length - as.length) .un) ⟨fun G => Post (.val .non) (exitArgs pin G as), fun r G => Post r (exitArgs pin G as), fun _ => False, fun _ => False⟩) :
    FnOk P w K mg base CX0 (k + 1) f fd ps (toSp K ap) := by
  refine F.ok S (fun vs H Q E h => ?_) (fun cdv A outer s H vs Q E hr h => ?_)
  · obtain ⟨B, as, Post, E1, ha, _⟩ := h
    have := E1.len
    rw [List.length_map] at this
    rw [this]; exact hlen as Post ha
  · obtain ⟨B, as, Post, E1, ha, q⟩ := h
    obtain ⟨t, ht, hw⟩ := body cdv A outer s H E hr
    refine ⟨t, ht, ?_⟩
    have hl : vs.length = as.length := by have := E1.len; simpa using this
    have hps : as.length ≤ N.length := by rw [hlen as Post ha]; exact of_decide_eq_true hN
    have E0 := env_start E1 hps
    -- the way out
    have fin : ∀ v σ' B' H' r Γ', GoS K pin (L2.start N vs) B H (as ++ List.replicate (N.length - as.length) .un) σ' B' H' Γ' → ReOk K [] (Own (L2.start N vs) (as ++ List.replicate (N.length - as.length) .un)) (Own σ' Γ') B' H H' v r → Post r (exitArgs pin Γ' as) → Q v H' := by
      intro v σ' B' H' r Γ' g kk p
      have hpinv : ∀ i, i < vs.length → i ∈ pin → σ'[i]? = (vs.map some)[i]? := fun i hi hp => by rw [g.pin i hp, start_get hi]
      have acc : ∀ {i : Nat} {ds : List Dt}, (exitArgs pin Γ' as)[i]? = some (.acc ds) → i ∈ pin ∧ Γ'[i]? = some (.acc ds) ∧ ∃ ds0, as[i]? = some (.acc ds0) := fun {i ds} h => by
        obtain ⟨s0, h0, e⟩ := exitArgs_get h
        cases s0 with
        | un => cases e
        | val d => cases e
        | acc es =>
          unfold exitSl at e
          simp only at e
          split at e
          · rename_i hc
            refine ⟨List.contains_iff_mem.mp hc, ?_, es, h0⟩
            cases q : Γ'[i]? with
            | none => rw [q] at e; cases e
            | some s => rw [q] at e; simp at e; rw [← e]
          · cases e
      have own' : ∀ {a}, Own (vs.map some) (exitArgs pin Γ' as) a → Own σ' Γ' a := fun {a} ⟨i, ds, h1, h2⟩ => by
        obtain ⟨hp, h3, _, _⟩ := acc h1
        have hi : i < vs.length := by
          have := (List.getElem?_eq_some_iff.mp h2).1
          simpa using this
        exact ⟨i, ds, h3, by rw [hpinv i hi hp]; exact h2⟩
      have E' : Env K B' H' (vs.map some) (exitArgs pin Γ' as) := by
        refine ⟨by unfold exitArgs; rw [exitFrom_len, List.length_map, hl], g.env.bh, fun i d h => ?_, fun i ds h => ?_, fun i j ds es l h1 h2 h3 h4 => ?_⟩
        · obtain ⟨s0, h0, e⟩ := exitArgs_get h
          cases s0 with
          | un => cases e
          | val d' =>
            cases e
            obtain ⟨v, e1, e2⟩ := E1.val i d h0
            exact ⟨v, e1, e2.mono g.mv.bb⟩
          | acc es =>
            unfold exitSl at e
            simp only at e
            split at e
            · rename_i hc
              have hp := List.contains_iff_mem.mp hc
              have hi : i < vs.length := by rw [hl]; exact (List.getElem?_eq_some_iff.mp h0).1
              cases q : Γ'[i]? with
              | none => rw [q] at e; cases e
              | some s =>
                rw [q] at e
                simp at e
                subst e
                rw [← hpinv i hi hp]
                exact g.env.val i d q
            · cases e
        · obtain ⟨hp, h3, _, h4⟩ := acc h
          have hi : i < vs.length := by rw [hl]; exact (List.getElem?_eq_some_iff.mp h4).1
          rw [← hpinv i hi hp]
          exact g.env.acc i ds h3
        · obtain ⟨hp, g1, _, _⟩ := acc h1
          obtain ⟨hp2, g2, _, _⟩ := acc h2
          have hi : i < vs.length := by have := (List.getElem?_eq_some_iff.mp h3).1; simpa using this
          have hj : j < vs.length := by have := (List.getElem?_eq_some_iff.mp h4).1; simpa using this
          exact g.env.sep i j ds es l g1 g2 (by rw [hpinv i hi hp]; exact h3) (by rw [hpinv j hj hp2]; exact h4)
      have hm : ∀ a, Own (L2.start N vs) (as ++ List.replicate (N.length - as.length) .un) a ↔ Own (vs.map some) as a := fun a => own_start hl
      refine q v B' H' r _ ⟨⟨fun a o na e => g.mv.kp a o (fun z => na ((hm a).mp z)) e, g.mv.bb, fun a na ha hb => g.mv.off a (fun z => na ((hm a).mp z)) ha hb⟩, fun i ds h1 => ?_, E'⟩ ?_ p
      · obtain ⟨_, _, ds0, h3⟩ := acc h1
        exact ⟨ds0, h3⟩
      · cases r with
        | val d => exact kk
        | own i => exact kk
        | new ds =>
          obtain ⟨l, us, e, h1, h2, h3⟩ := kk
          exact ⟨l, us, e, h1.imp (fun z => (hm l).mp z) id, fun z => h2 (own' z), h3⟩
    exact hw as Post ha (L2.start N vs) B H _ E0 (fun σ' B' H' Γ' g p => fin .non σ' B' H' (.val .non) Γ' g (Is.raw _) p) (fun v σ' B' H' r Γ' g kk p => fin v σ' B' H' r Γ' g kk p) (fun _ _ _ _ _ p => p.elim) (fun _ _ _ _ _ p => p.elim)
end
/-! ### arguments of own defs -/
structure AsOk (K : PySem.W.Frag) (σ : L2.St) (m m' : Addr → Prop) (B' H H' : Hp) (vs : List V) (rs : List Re) : Prop where
  len : vs.length = rs.length
  at_ : ∀ (i : Nat) v r, vs[i]? = some v → rs[i]? = some r → ReOk K σ m m' B' H H' v r
  sep : ∀ (i j : Nat) ds es l, rs[i]? = some (.new ds) → rs[j]? = some (.new es) → vs[i]? = some (.ref l) → vs[j]? = some (.ref l) → i = j
def WA (K : PySem.W.Frag) (ta : TA) (Γ : List Sl) (Post : List Re → List Sl → Prop) : Prop := ∀ σ B H, Env K B H σ Γ → ∀ Q : List V → Hp → Prop,
  (∀ vs B' H' rs Γ', Go K σ B H Γ B' H' Γ' → AsOk K σ (Own σ Γ) (Own σ Γ') B' H H' vs rs → Post rs Γ' → Q vs H') → ta σ H Q
section
variable {K : PySem.W.Frag} {Γ : List Sl} {te : TE} {tr : TA}
theorem wa_nil {P : List Re → List Sl → Prop} (p : P [] Γ) : WA K tNil Γ P := fun σ B H E Q q => q [] B H [] Γ (.refl E) ⟨rfl, fun i v r a => by simp at a, fun i j ds es l a => by simp at a⟩ p
theorem wa_cons {P : List Re → List Sl → Prop} (h : WE K te Γ fun r Γ1 => WA K tr Γ1 fun rs Γ2 => P (r :: rs) Γ2) : WA K (tCons te tr) Γ P := fun σ B H E Q q => by
  refine h σ B H E _ fun x B1 H1 r Γ1 g1 k1 p1 => ?_
  refine p1 σ B1 H1 g1.env _ fun vs B2 H2 rs Γ2 g2 k2 p2 => ?_
  have k1' := ReOk.step k1 g2.mv g2.sub
  refine q (x :: vs) B2 H2 (r :: rs) Γ2 (g1.trans g2) ⟨by simp [k2.len], fun i v z a b => ?_, fun i j ds es l a b c d => ?_⟩ p2
  · cases i with
    | zero => simp at a b; subst a b; exact k1'
    | succ i => simp at a b; exact ReOk.earlier (k2.at_ i v z a b) g1.mv fun a h => .inl (g1.sub a h)
  · -- two new lists are apart
    have apart : ∀ (j : Nat) es, r = .new ds → rs[j]? = some (.new es) → x = .ref l → vs[j]? = some (.ref l) → False := fun j es hr hj hx hv => by
      subst hr
      obtain ⟨l1, us, e, _, n1, t1, _⟩ := k1
      rw [hx] at e; cases e
      obtain ⟨l2, us2, e2, f2, _⟩ := k2.at_ j _ _ hv hj
      cases e2
      rcases f2 with f2 | f2
      · exact n1 f2
      · rw [t1] at f2; cases f2
    cases i with
    | zero =>
      cases j with
      | zero => rfl
      | succ j => simp at a b c d; exact (apart j es a b c d).elim
    | succ i =>
      cases j with
      | zero =>
        simp at a b c d
        have : ∀ es', r = .new es' → False := fun es' hr => by
          subst hr
          obtain ⟨l1, us, e, _, n1, t1, _⟩ := k1
          rw [d] at e; cases e
          obtain ⟨l2, us2, e2, f2, _⟩ := k2.at_ i _ _ c a
          cases e2
          rcases f2 with f2 | f2
          · exact n1 f2
          · rw [t1] at f2; cases f2
        exact (this es b).elim
      | succ j =>
        simp at a b c d
        rw [k2.sep i j ds es l a b c d]
end
/-- what the callee gets -/
def argSl (Γ : List Sl) : Re → Sl
  | .val d => .val d
  | .new ds => .acc ds
  | .own i => match Γ[i]? with
    | some (.acc ds) => .acc ds
    | _ => .un
/-- what is put back -/
def putBack : List Re → List Sl → List Sl → List Sl
  | .own i :: rs, s :: as, Γ => putBack rs as (Γ.set i s)
  | _ :: rs, _ :: as, Γ => putBack rs as Γ
  | _, _, Γ => Γ
def ownsOf : List Re → List Nat
  | .own i :: rs => i :: ownsOf rs
  | _ :: rs => ownsOf rs
  | [] => []
def nodupB : List Nat → Bool
  | [] => true
  | x :: r => !r.contains x && nodupB r
theorem ownsOf_mem {i : Nat} : ∀ {rs : List Re}, i ∈ ownsOf rs ↔ ∃ j : Nat, rs[j]? = some (.own i)
  | [] => by simp [ownsOf]
  | r :: rs => by
    have ih := ownsOf_mem (i := i) (rs := rs)
    have split : (∃ j : Nat, (r :: rs)[j]? = some (.own i)) ↔ r = .own i ∨ ∃ j : Nat, rs[j]? = some (.own i) := by
      constructor
      · rintro ⟨j, h⟩
        cases j with
        | zero => simp at h; exact .inl h
        | succ j => simp at h; exact .inr ⟨j, h⟩
      · rintro (h | ⟨j, h⟩)
        · exact ⟨0, by simp [h]⟩
        · exact ⟨j + 1, by simp [h]⟩
    rw [split]
    cases r with
    | own k => simp only [ownsOf, List.mem_cons, ih, Re.own.injEq]; constructor <;> rintro (h | h) <;> first | exact .inl h.symm | exact .inr h
    | val d => simp [ownsOf, ih]
    | new ds => simp [ownsOf, ih]
theorem putBack_len : ∀ (rs : List Re) (as Γ : List Sl), (putBack rs as Γ).length = Γ.length
  | [], _, _ => by simp [putBack]
  | .own i :: rs, [], Γ => by simp [putBack]
  | .own i :: rs, s :: as, Γ => by rw [putBack, putBack_len]; simp
  | .val d :: rs, [], Γ => by simp [putBack]
  | .val d :: rs, s :: as, Γ => by rw [putBack, putBack_len]; simp
  | .new d :: rs, [], Γ => by simp [putBack]
  | .new d :: rs, s :: as, Γ => by rw [putBack, putBack_len]; simp
theorem putBack_other {i : Nat} : ∀ (rs : List Re) (as Γ : List Sl), i ∉ ownsOf rs → (putBack rs as Γ)[i]? = Γ[i]?
  | [], _, _, _ => by simp [putBack]
  | .own k :: rs, [], Γ, _ => by simp [putBack]
  | .own k :: rs, s :: as, Γ, h => by
    rw [ownsOf, List.mem_cons, not_or] at h
    rw [putBack, putBack_other rs as _ h.2, List.getElem?_set_ne (fun z => h.1 z.symm)]
  | .val d :: rs, [], Γ, _ => by simp [putBack]
  | .val d :: rs, s :: as, Γ, h => by rw [putBack]; exact putBack_other rs as _ h; all_goals simp
  | .new d :: rs, [], Γ, _ => by simp [putBack]
  | .new d :: rs, s :: as, Γ, h => by rw [putBack]; exact putBack_other rs as _ h; all_goals simp
theorem putBack_own {i : Nat} : ∀ (rs : List Re) (as Γ : List Sl) (j : Nat), nodupB (ownsOf rs) = true → rs[j]? = some (.own i) → j < as.length → i < Γ.length → (putBack rs as Γ)[i]? = as[j]?
  | [], _, _, _, _, h, _, _ => by simp at h
  | r :: rs, [], Γ, j, _, _, hj, _ => by simp at hj
  | .own k :: rs, s :: as, Γ, 0, nd, h, _, hi => by
    simp at h
    subst h
    rw [ownsOf, nodupB, Bool.and_eq_true] at nd
    have : k ∉ ownsOf rs := fun z => by
      have := List.contains_iff_mem.mpr z
      rw [this] at nd; exact absurd nd.1 (by decide)
    rw [putBack, putBack_other rs as _ this, List.getElem?_set_self hi]; rfl
  | .own k :: rs, s :: as, Γ, j + 1, nd, h, hj, hi => by
    simp at h hj
    rw [ownsOf, nodupB, Bool.and_eq_true] at nd
    rw [putBack, putBack_own rs as _ j nd.2 h hj (by simpa using hi)]; simp
  | .val d :: rs, s :: as, Γ, 0, nd, h, _, hi => by simp at h
  | .val d :: rs, s :: as, Γ, j + 1, nd, h, hj, hi => by
    simp at h hj
    rw [putBack, putBack_own rs as _ j nd h hj hi]; simp
    all_goals simp
  | .new d :: rs, s :: as, Γ, 0, nd, h, _, hi => by simp at h
  | .new d :: rs, s :: as, Γ, j + 1, nd, h, hj, hi => by
    simp at h hj
    rw [putBack, putBack_own rs as _ j nd h hj hi]; simp
    all_goals simp
theorem nodupB_ix {rs : List Re} {i : Nat} : ∀ {j k : Nat}, nodupB (ownsOf rs) = true → rs[j]? = some (.own i) → rs[k]? = some (.own i) → j = k := by
  induction rs with
  | nil => intro j k _ h; simp at h
  | cons r rs ih =>
    intro j k nd h1 h2
    have tail : nodupB (ownsOf rs) = true := by
      cases r with
      | own i => rw [ownsOf, nodupB, Bool.and_eq_true] at nd; exact nd.2
      | val d => exact nd
      | new d => exact nd
    have head : r = .own i → ∀ n : Nat, rs[n]? = some (.own i) → False := fun e n hn => by
      subst e
      rw [ownsOf, nodupB, Bool.and_eq_true] at nd
      have : i ∈ ownsOf rs := ownsOf_mem.mpr ⟨n, hn⟩
      rw [List.contains_iff_mem.mpr this] at nd
      exact absurd nd.1 (by decide)
    cases j with
    | zero =>
      cases k with
      | zero => rfl
      | succ k => simp at h1 h2; exact (head h1 k h2).elim
    | succ j =>
      cases k with
      | zero => simp at h1 h2; exact (head h2 j h1).elim
      | succ k => simp at h1 h2; rw [ih tail h1 h2]
theorem we_call {K : PySem.W.Frag} {Γ : List Sl} {Post : Re → List Sl → Prop} {ap : AP} {E0 : XK} {ta : TA} (h : WA K ta Γ fun rs Γ1 => nodupB (ownsOf rs) = true ∧ ap (rs.map (argSl Γ1)) fun r as' => Post r (putBack rs as' Γ1)) : WE K (tCall (toSp K ap) [] E0 ta) Γ Post := fun σ B H E Q q => by
  refine h σ B H E _ fun vs B1 H1 rs Γ1 g1 k1 p1 => ?_
  obtain ⟨nd, hap⟩ := p1
  rw [List.append_nil]
  have hl := k1.len
  have aget : ∀ {i : Nat} {s : Sl}, (rs.map (argSl Γ1))[i]? = some s → ∃ r, rs[i]? = some r ∧ s = argSl Γ1 r := fun {i s} h => by
    rw [List.getElem?_map] at h
    cases q : rs[i]? with
    | none => rw [q] at h; cases h
    | some r => rw [q] at h; simp at h; exact ⟨r, rfl, h.symm⟩
  have vget : ∀ {i : Nat} {r : Re}, rs[i]? = some r → ∃ v, vs[i]? = some v ∧ (vs.map some)[i]? = some (some v) ∧ ReOk K σ (Own σ Γ) (Own σ Γ1) B1 H H1 v r := fun {i r} h => by
    have hi : i < vs.length := by rw [hl]; exact (List.getElem?_eq_some_iff.mp h).1
    refine ⟨vs[i], List.getElem?_eq_getElem hi, by rw [List.getElem?_map, List.getElem?_eq_getElem hi]; rfl, k1.at_ i _ _ (List.getElem?_eq_getElem hi) h⟩
  -- an owned argument: new or a slot's
  have accArg : ∀ {i : Nat} {ds : List Dt}, (rs.map (argSl Γ1))[i]? = some (.acc ds) → (rs[i]? = some (.new ds)) ∨ ∃ k, rs[i]? = some (.own k) ∧ Γ1[k]? = some (.acc ds) := fun {i ds} h => by
    obtain ⟨r, h1, h2⟩ := aget h
    cases r with
    | val d => cases h2
    | new es => cases h2; exact .inl h1
    | own k =>
      have h2' : Sl.acc ds = (match Γ1[k]? with
        | some (.acc ds) => .acc ds
        | _ => .un) := h2
      split at h2'
      · rename_i es he
        cases h2'
        exact .inr ⟨k, h1, he⟩
      · cases h2'
  -- who is owned on the callee's side
  have ownArg : ∀ {a}, Own (vs.map some) (rs.map (argSl Γ1)) a → ((∃ (i : Nat) (ds : List Dt), rs[i]? = some (Re.new ds) ∧ vs[i]? = some (V.ref a)) ∨ ∃ (i k : Nat) (ds : List Dt), rs[i]? = some (Re.own k) ∧ Γ1[k]? = some (.acc ds) ∧ vs[i]? = some (.ref a) ∧ σ[k]? = some (some (.ref a))) := fun {a} ⟨i, ds, h1, h2⟩ => by
    rw [List.getElem?_map] at h2
    cases hv : vs[i]? with
    | none => rw [hv] at h2; cases h2
    | some v =>
      rw [hv] at h2
      simp at h2
      subst h2
      rcases accArg h1 with h | ⟨k, h, hk⟩
      · exact .inl ⟨i, ds, h, hv⟩
      · obtain ⟨v', e1, _, l, e2, e3⟩ := vget h
        rw [hv] at e1; cases e1; cases e2
        exact .inr ⟨i, k, ds, h, hk, hv, e3⟩
  have newOff : ∀ {i : Nat} {ds a}, rs[i]? = some (.new ds) → vs[i]? = some (.ref a) → (Own σ Γ a ∨ H a = none) ∧ ¬ Own σ Γ1 a := fun {i ds a} h1 h2 => by
    obtain ⟨v', e1, _, l, us, e2, e3, e4, _⟩ := vget h1
    rw [h2] at e1; cases e1; cases e2
    exact ⟨e3, e4⟩
  have ownBack : ∀ {a}, Own (vs.map some) (rs.map (argSl Γ1)) a → Own σ Γ a ∨ H a = none := fun {a} o => by
    rcases ownArg o with ⟨i, ds, h1, h2⟩ | ⟨i, k, ds, h1, h2, h3, h4⟩
    · exact (newOff h1 h2).1
    · exact .inl (g1.sub a ⟨k, ds, h2, h4⟩)
  have E2 : Env K B1 H1 (vs.map some) (rs.map (argSl Γ1)) := by
    refine ⟨by simp [hl], g1.env.bh, fun i d h => ?_, fun i ds h => ?_, fun i j ds es l h1 h2 h3 h4 => ?_⟩
    · obtain ⟨r, h1, h2⟩ := aget h
      cases r with
      | val d' => cases h2; obtain ⟨v, _, e1, e2⟩ := vget h1; exact ⟨v, e1, e2⟩
      | new es => cases h2
      | own k =>
        have h2' : Sl.val d = (match Γ1[k]? with
          | some (.acc ds) => .acc ds
          | _ => .un) := h2
        split at h2' <;> cases h2'
    · rcases accArg h with h1 | ⟨k, h1, hk⟩
      · obtain ⟨v, _, e1, l, us, e2, _, _, e3, e4, e5⟩ := vget h1
        subst e2
        exact ⟨l, us, e1, e3, e4, e5⟩
      · obtain ⟨v, _, e1, l, e2, e3⟩ := vget h1
        subst e2
        obtain ⟨c, us, f1, f2, f3, f4⟩ := g1.env.acc k ds hk
        rw [e3] at f1; cases f1
        exact ⟨l, us, e1, f2, f3, f4⟩
    · have v3 : vs[i]? = some (.ref l) := by
        rw [List.getElem?_map] at h3
        cases q : vs[i]? with
        | none => rw [q] at h3; cases h3
        | some v => rw [q] at h3; simp at h3; rw [h3]
      have v4 : vs[j]? = some (.ref l) := by
        rw [List.getElem?_map] at h4
        cases q : vs[j]? with
        | none => rw [q] at h4; cases h4
        | some v => rw [q] at h4; simp at h4; rw [h4]
      rcases accArg h1 with a1 | ⟨k, a1, b1⟩
      · rcases accArg h2 with a2 | ⟨k2, a2, b2⟩
        · exact k1.sep i j ds es l a1 a2 v3 v4
        · obtain ⟨v', e1, _, l2, e2, e3⟩ := vget a2
          rw [v4] at e1; cases e1; cases e2
          exact absurd ⟨k2, es, b2, e3⟩ (newOff a1 v3).2
      · obtain ⟨v', e1, _, l2, e2, e3⟩ := vget a1
        rw [v3] at e1; cases e1; cases e2
        rcases accArg h2 with a2 | ⟨k2, a2, b2⟩
        · exact absurd ⟨k, ds, b1, e3⟩ (newOff a2 v4).2
        · obtain ⟨v', f1, _, l2, f2, f3⟩ := vget a2
          rw [v4] at f1; cases f1; cases f2
          have := g1.env.sep k k2 ds es l b1 b2 e3 f3
          subst this
          exact nodupB_ix nd a1 a2
  refine ⟨B1, rs.map (argSl Γ1), _, E2, hap, fun v B2 H2 r as' g2 k2 p => ?_⟩
  have hal : as'.length = rs.length := by
    have := g2.env.len
    rw [List.length_map] at this
    omega
  -- slot i of the caller afterwards
  have slot : ∀ {i : Nat} {s : Sl}, (putBack rs as' Γ1)[i]? = some s → (∃ j : Nat, rs[j]? = some (.own i) ∧ as'[j]? = some s ∧ ∃ v, (vs.map some)[j]? = some (some v) ∧ σ[i]? = some (some v)) ∨ (i ∉ ownsOf rs ∧ Γ1[i]? = some s) := fun {i s} h => by
    by_cases hi : i ∈ ownsOf rs
    · obtain ⟨j, hj⟩ := ownsOf_mem.mp hi
      have hil : i < Γ1.length := by
        have := (List.getElem?_eq_some_iff.mp h).1
        rw [putBack_len] at this; exact this
      rw [putBack_own rs as' Γ1 j nd hj (by rw [hal]; exact (List.getElem?_eq_some_iff.mp hj).1) hil] at h
      obtain ⟨v, _, e1, l, e2, e3⟩ := vget hj
      exact .inl ⟨j, hj, h, v, e1, by rw [e2]; exact e3⟩
    · rw [putBack_other rs as' Γ1 hi] at h
      exact .inr ⟨hi, h⟩
  -- a slot's list that was not handed over
  have kept : ∀ {i : Nat} {ds : List Dt} {l : Addr}, i ∉ ownsOf rs → Γ1[i]? = some (.acc ds) → σ[i]? = some (some (.ref l)) → ¬ Own (vs.map some) (rs.map (argSl Γ1)) l := fun {i ds l} hi h1 h2 o => by
    rcases ownArg o with ⟨j, es, a1, a2⟩ | ⟨j, k, es, a1, a2, a3, a4⟩
    · exact (newOff a1 a2).2 ⟨i, ds, h1, h2⟩
    · have := g1.env.sep i k ds es l h1 a2 h2 a4
      subst this
      exact hi (ownsOf_mem.mpr ⟨j, a1⟩)
  have ac2 : ∀ (i : Nat) ds, (putBack rs as' Γ1)[i]? = some (.acc ds) → ∃ es, Γ1[i]? = some (.acc es) := fun i ds h1 => by
    rcases slot h1 with ⟨j, hj, ha, v, e1, e2⟩ | ⟨_, h⟩
    · obtain ⟨es, h⟩ := g2.ac j ds ha
      rcases accArg h with h | ⟨k, h, hk⟩
      · rw [hj] at h; cases h
      · rw [hj] at h; cases h; exact ⟨es, hk⟩
    · exact ⟨ds, h⟩
  have kOff : ∀ {a}, ¬ Own σ Γ a → H a ≠ none → ¬ Own (vs.map some) (rs.map (argSl Γ1)) a := fun {a} na ha o => (ownBack o).elim na ha
  have E3 : Env K B2 H2 σ (putBack rs as' Γ1) := by
    refine ⟨by rw [putBack_len]; exact g1.env.len, g2.env.bh, fun i d h => ?_, fun i ds h => ?_, fun i j ds es l h1 h2 h3 h4 => ?_⟩
    · rcases slot h with ⟨j, hj, ha, v, e1, e2⟩ | ⟨hi, h⟩
      · obtain ⟨v', f1, f2⟩ := g2.env.val j d ha
        rw [e1] at f1; cases f1
        exact ⟨v, e2, f2⟩
      · obtain ⟨v, f1, f2⟩ := g1.env.val i d h
        exact ⟨v, f1, f2.mono g2.mv.bb⟩
    · rcases slot h with ⟨j, hj, ha, v, e1, e2⟩ | ⟨hi, h⟩
      · obtain ⟨l, us, f1, f2⟩ := g2.env.acc j ds ha
        rw [e1] at f1; cases f1
        exact ⟨l, us, e2, f2⟩
      · obtain ⟨l, us, f1, f2, f3, f4⟩ := g1.env.acc i ds h
        have nk := kept hi h f1
        exact ⟨l, us, f1, g2.mv.kp l _ nk f2, g2.mv.off l nk (by rw [f2]; exact fun z => nomatch z) f3, f4.mono g2.mv.bb⟩
    · obtain ⟨d1, b1⟩ := ac2 i ds h1
      obtain ⟨d2, b2⟩ := ac2 j es h2
      exact g1.env.sep i j d1 d2 l b1 b2 h3 h4
  refine q v B2 H2 r _ ⟨⟨fun a o na e => ?_, g1.mv.bb.trans g2.mv.bb, fun a na ha hb => ?_⟩, fun i ds h => ?_, E3⟩ ?_ p
  · exact g2.mv.kp a o (kOff na (by rw [e]; exact fun z => nomatch z)) (g1.mv.kp a o na e)
  · refine g2.mv.off a (kOff na ha) ?_ (g1.mv.off a na ha hb)
    cases q : H a with
    | none => exact absurd q ha
    | some o => rw [g1.mv.kp a o na q]; exact fun z => nomatch z
  · obtain ⟨es, h1⟩ := ac2 i ds h
    exact g1.ac i es h1
  · cases r with
    | val d => exact k2
    | own i => obtain ⟨l, _, e⟩ := k2; simp at e
    | new ds =>
      obtain ⟨l, us, e, f1, f2, f3, f4, f5⟩ := k2
      refine ⟨l, us, e, ?_, ?_, f3, f4, f5⟩
      · rcases f1 with f1 | f1
        · exact ownBack f1
        · exact g1.mv.back f1
      · rintro ⟨i, es, h1, h2⟩
        rcases slot h1 with ⟨j, hj, ha, w, e1, e2⟩ | ⟨hi, h⟩
        · rw [h2] at e2; cases e2
          exact f2 ⟨j, es, ha, e1⟩
        · have nk := kept hi h h2
          rcases f1 with f1 | f1
          · exact nk f1
          · obtain ⟨us', t1, _⟩ := g1.env.tracked ⟨i, es, h, h2⟩
            rw [t1] at f1; cases f1
end Ab
namespace Ab
open PySem L2
/-! ### list comprehensions -/
def keepV : Option Sl → Sl
  | some (.val d) => .val d
  | _ => .un
section
variable {K : PySem.W.Frag} {σ : L2.St} {B H : Hp} {Γ : List Sl}
theorem keepV_acc {o : Option Sl} {ds : List Dt} (h : keepV o = .acc ds) : False := by
  unfold keepV at h
  split at h <;> cases h
/-- a list beside base and owner may change -/
theorem Env.updOff {D : Addr} {o : HO} (E : Env K B H σ Γ) (hb : B D = none) (hn : ¬ Own σ Γ D) : Env K B (upd H D o) σ Γ := by
  refine ⟨E.len, fun a u e => ?_, E.val, fun i ds h => ?_, E.sep⟩
  · rw [upd_ne (ne_of_none e hb)]; exact E.bh a u e
  · obtain ⟨l, vs, e, e1, e2, q⟩ := E.acc i ds h
    have : l ≠ D := fun z => by subst z; exact hn ⟨i, ds, h, e⟩
    exact ⟨l, vs, e, by rw [upd_ne this]; exact e1, e2, q⟩
theorem env_back {j : Nat} {x : Option V} {Γ0 : List Sl} {B0 H0 : Hp} (E0 : Env K B0 H0 σ Γ0) (bb : Same B0 B) (E : Env K B H (σ.set j x) Γ) (hj : j < Γ.length) : Env K B H σ (Γ.set j (keepV Γ0[j]?)) := by
  have ne : ∀ {k : Nat} {ds : List Dt}, (Γ.set j (keepV Γ0[j]?))[k]? = some (.acc ds) → j ≠ k := fun {k ds} h z => by
    subst z
    rw [List.getElem?_set_self hj] at h
    exact keepV_acc (Option.some.inj h)
  refine ⟨?_, E.bh, fun k d h => ?_, fun k ds h => ?_, fun i k ds es l h1 h2 h3 h4 => ?_⟩
  · have := E.len
    rw [List.length_set] at this ⊢
    exact this
  · by_cases hk : j = k
    · subst hk
      rw [List.getElem?_set_self hj] at h
      cases q : Γ0[j]? with
      | none => rw [q] at h; cases h
      | some s =>
        rw [q] at h
        cases s with
        | un => cases h
        | acc ds => cases h
        | val d' =>
          cases h
          obtain ⟨v, e1, e2⟩ := E0.val j d q
          exact ⟨v, e1, e2.mono bb⟩
    · rw [List.getElem?_set_ne hk] at h
      obtain ⟨v, e1, e2⟩ := E.val k d h
      rw [List.getElem?_set_ne hk] at e1
      exact ⟨v, e1, e2⟩
  · have hk := ne h
    rw [List.getElem?_set_ne hk] at h
    obtain ⟨l, vs, e1, e2⟩ := E.acc k ds h
    rw [List.getElem?_set_ne hk] at e1
    exact ⟨l, vs, e1, e2⟩
  · have a1 := ne h1
    have a2 := ne h2
    rw [List.getElem?_set_ne a1] at h1
    rw [List.getElem?_set_ne a2] at h2
    exact E.sep i k ds es l h1 h2 (by rw [List.getElem?_set_ne a1]; exact h3) (by rw [List.getElem?_set_ne a2]; exact h4)
theorem own_back {j : Nat} {x : Option V} {s : Sl} {a : Addr} (hs : ∀ ds, s ≠ .acc ds) (h : Own σ (Γ.set j s) a) : Own (σ.set j x) Γ a := by
  obtain ⟨k, ds, h1, h2⟩ := h
  by_cases hk : j = k
  · subst hk
    have hj : j < Γ.length := by
      have := (List.getElem?_eq_some_iff.mp h1).1
      simpa using this
    rw [List.getElem?_set_self hj] at h1
    exact absurd (Option.some.inj h1) (hs ds)
  · rw [List.getElem?_set_ne hk] at h1
    exact ⟨k, ds, h1, by rw [List.getElem?_set_ne hk]; exact h2⟩
theorem Mv.iff {m m1 : Addr → Prop} {B' H' : Hp} (h : ∀ a, m1 a → m a) (x : Mv m1 B H B' H') : Mv m B H B' H' := ⟨fun a o na e => x.kp a o (fun z => na (h a z)) e, x.bb, fun a na ha hb => x.off a (fun z => na (h a z)) ha hb⟩
structure LcSt (K : PySem.W.Frag) (σ : L2.St) (B H : Hp) (Γ : List Sl) (j : Nat) (D : Addr) (Inv : Nat → List Dt → List Sl → Prop) (i : Nat) (H' : Hp) (B' : Hp) (Γ' : List Sl) (vs : List V) (es : List Dt) : Prop where
  mv : Mv (Own σ Γ) B H B' H'
  ac : ∀ (k : Nat) ds, Γ'[k]? = some (.acc ds) → ∃ es, Γ[k]? = some (.acc es)
  env : Env K B' H' σ Γ'
  hD : H' D = some (.lst vs)
  bD : B' D = none
  oD : ¬ Own σ Γ' D
  its : IsA K B' vs es
  len : es.length ≤ i
  inv : Inv i es Γ'
theorem lc_run {j n : Nat} {J : It} {dt : Nat → Dt} {tt : TT} {te : TE} {Post : Re → List Sl → Prop} {Q : VK} (E : Env K B H σ Γ) (hj : j < Γ.length) (hja : ∀ ds, Γ[j]? ≠ some (.acc ds)) (hn : n ≤ 1000000)
    (Inv : Nat → List Dt → List Sl → Prop)
    (go : ∀ i B' H' es Γ', i < n → Same B B' → Env K B' H' σ Γ' → Inv i es Γ' → J.go i H') (yl : ∀ i H' x H'' B' es Γ', i < n → Same B B' → Env K B' H' σ Γ' → Inv i es Γ' → J.yld i H' x H'' → H'' = H' ∧ Is K B' x (dt i)) (stop : ∀ B' H' es Γ', Same B B' → Env K B' H' σ Γ' → Inv n es Γ' → J.stop n H')
    (i0 : Inv 0 [] Γ)
    (turn : ∀ i es Γ', i < n → Inv i es Γ' → WT K tt (Γ'.set j (.val (dt i))) fun b Γ2 => (b = true → WE K te Γ2 fun r Γ3 => ∃ d, r.dt? = some d ∧ Inv (i + 1) (es ++ [d]) (Γ3.set j (keepV Γ[j]?))) ∧ (b = false → Inv (i + 1) es (Γ2.set j (keepV Γ[j]?))))
    (done : ∀ es Γ', Inv n es Γ' → Post (.new es) Γ') (q : ∀ v B' H' r Γ', Go K σ B H Γ B' H' Γ' → ReOk K σ (Own σ Γ) (Own σ Γ') B' H H' v r → Post r Γ' → Q v H') :
    ∀ D, H D = none → ∃ W : Nat → Nat → Hp → Prop, (∃ m, W 0 m (upd H D (.lst []))) ∧ ∀ i m H, W i m H →
      (J.stop i H ∧ Q (.ref D) H) ∨ (J.go i H ∧ ∃ Nx : Hp → Prop, (∀ H', Nx H' → ∃ m', m' < m ∧ W (i + 1) m' H') ∧ ∀ x H', J.yld i H x H' → gName j x (wipe σ [j]) H' fun σ2 H2 => wipe σ2 [j] = wipe σ [j] ∧ tt σ2 H2 fun b H3 =>
        if b = true then te σ2 H3 fun y H4 => ∃ acc, H4 D = some (.lst acc) ∧ acc.length < sizeLine ∧ Nx (upd H4 D (.lst (acc ++ [y]))) else Nx H3) := by
  intro D hD
  have hjs : j < σ.length := by rw [E.len]; exact hj
  refine ⟨fun i m H' => m = n - i ∧ i ≤ n ∧ ∃ B' Γ' vs es, LcSt K σ B H Γ j D Inv i H' B' Γ' vs es, ⟨n, by simp, Nat.zero_le _, B, Γ, [], [], ⟨(Go.beside E hD).mv, fun k ds h => ⟨ds, h⟩, E.beside hD, upd_same, E.base_none hD, E.not_own hD, .nil, Nat.le_refl _, i0⟩⟩, ?_⟩
  rintro i m H' ⟨rfl, hi, B', Γ', vs, es, S⟩
  by_cases hlt : i < n
  · refine .inr ⟨go i B' H' es Γ' hlt S.mv.bb S.env S.inv, fun H2 => ∃ B' Γ' vs es, LcSt K σ B H Γ j D Inv (i + 1) H2 B' Γ' vs es, fun H2 ⟨B2, Γ2, vs2, es2, S2⟩ => ⟨n - (i + 1), by omega, rfl, hlt, B2, Γ2, vs2, es2, S2⟩, fun x H2 hy => ?_⟩
    obtain ⟨e, hx⟩ := yl i H' x H2 B' es Γ' hlt S.mv.bb S.env S.inv hy
    subst e
    have hj' : j < Γ'.length := by rw [← S.env.len]; exact hjs
    have es2 : (wipe σ [j]).set j (some x) = σ.set j (some x) := by
      show (σ.set j none).set j (some x) = _
      rw [List.set_set]
    show wipe ((wipe σ [j]).set j (some x)) [j] = wipe σ [j] ∧ _
    rw [es2]
    refine ⟨by show (σ.set j (some x)).set j none = σ.set j none; rw [List.set_set], ?_⟩
    have E2 := S.env.setV hj' hx
    -- owners within and without
    have ow1 : ∀ a, Own (σ.set j (some x)) (Γ'.set j (.val (dt i))) a → Own σ Γ' a := fun a h => h.set_ne fun ds z => nomatch z
    have nA : ¬ Own (σ.set j (some x)) (Γ'.set j (.val (dt i))) D := fun z => S.oD (ow1 D z)
    have tD : H2 D ≠ none := by rw [S.hD]; exact fun z => nomatch z
    -- what a turn comes to
    have fin : ∀ {B3 H3 : Hp} {Γ3 : List Sl}, Go K (σ.set j (some x)) B' H2 (Γ'.set j (.val (dt i))) B3 H3 Γ3 →
        Mv (Own σ Γ) B H B3 H3 ∧ (∀ (k : Nat) ds, (Γ3.set j (keepV Γ[j]?))[k]? = some (.acc ds) → ∃ es, Γ[k]? = some (.acc es)) ∧ Env K B3 H3 σ (Γ3.set j (keepV Γ[j]?)) ∧ H3 D = some (.lst vs) ∧ B3 D = none ∧ ¬ Own σ (Γ3.set j (keepV Γ[j]?)) D ∧ IsA K B3 vs es := by
      intro B3 H3 Γ3 g
      have hj3 : j < Γ3.length := by
        have h1 := g.env.len
        rw [List.length_set] at h1
        omega
      have subO : ∀ a, Own σ (Γ3.set j (keepV Γ[j]?)) a → Own (σ.set j (some x)) Γ3 a := fun a h => own_back (fun ds z => keepV_acc z) h
      refine ⟨S.mv.trans (m1 := Own σ Γ') (fun a ⟨k, ds, h1, h2⟩ => .inl (by obtain ⟨es, h⟩ := S.ac k ds h1; exact ⟨k, es, h, h2⟩)) (g.mv.iff ow1), fun k ds h => ?_, env_back E (S.mv.bb.trans g.mv.bb) g.env hj3, g.mv.kp D _ nA S.hD, g.mv.off D nA tD S.bD, fun z => nA (g.sub D (subO D z)), S.its.mono g.mv.bb⟩
      by_cases hk : j = k
      · subst hk
        rw [List.getElem?_set_self hj3] at h
        exact (keepV_acc (Option.some.inj h)).elim
      · rw [List.getElem?_set_ne hk] at h
        obtain ⟨es', h1⟩ := g.ac k ds h
        rw [List.getElem?_set_ne hk] at h1
        exact S.ac k es' h1
    refine turn i es Γ' hlt S.inv (σ.set j (some x)) B' H2 E2 _ fun b B3 H3 Γ3 g3 p => ?_
    cases b with
    | true =>
      show te (σ.set j (some x)) H3 _
      have p1 : WE K te Γ3 fun r Γ4 => ∃ d, r = .val d ∧ Inv (i + 1) (es ++ [d]) (Γ4.set j (keepV Γ[j]?)) := we_freeze (we_mono (p.1 rfl) fun r Γ4 ⟨d, hd, k⟩ => ⟨d, hd, d, rfl, k⟩)
      refine p1 (σ.set j (some x)) B3 H3 g3.env _ fun y B4 H4 r Γ4 g4 k4 p4 => ?_
      obtain ⟨d, rfl, inv⟩ := p4
      obtain ⟨f1, f2, f3, f4, f5, f6, f7⟩ := fin (g3.trans g4)
      refine ⟨vs, f4, ?_, B4, Γ4.set j (keepV Γ[j]?), vs ++ [y], es ++ [d], ?_⟩
      · rw [S.its.len]
        have := S.len
        exact Nat.lt_of_le_of_lt this (Nat.lt_of_lt_of_le hlt (Nat.le_trans hn (by decide)))
      · refine ⟨⟨fun a o na e => ?_, f1.bb, f1.off⟩, f2, f3.updOff f5 f6, upd_same, f5, f6, f7.snoc k4, by rw [List.length_append]; have := S.len; simp; omega, inv⟩
        rw [upd_ne (ne_of_none e hD)]
        exact f1.kp a o na e
    | false =>
      show ∃ B' Γ' vs es, _
      obtain ⟨f1, f2, f3, f4, f5, f6, f7⟩ := fin g3
      exact ⟨B3, Γ3.set j (keepV Γ[j]?), vs, es, ⟨f1, f2, f3, f4, f5, f6, f7, Nat.le_trans S.len (Nat.le_succ i), p.2 rfl⟩⟩
  · have e : i = n := by omega
    subst e
    exact .inl ⟨stop B' H' es Γ' S.mv.bb S.env S.inv, q (.ref D) B' H' (.new es) Γ' ⟨S.mv, S.ac, S.env⟩ ⟨D, vs, rfl, .inr hD, S.oD, S.hD, S.bD, S.its⟩ (done es Γ' S.inv)⟩
end
section
variable {K : PySem.W.Frag} {Γ : List Sl} {Post : Re → List Sl → Prop} {te tl : TE} {tt : TT} {j : Nat}
def notAcc : Option Sl → Bool
  | some (.acc _) => false
  | _ => true
theorem notAcc_ne {o : Option Sl} (h : notAcc o = true) (ds : List Dt) : o ≠ some (.acc ds) := fun z => by subst z; cases h
theorem we_lc1 {t1 : TA} (h : WD K t1 Γ fun ds Γ1 => ∃ n : Nat, ds = [.int n] ∧ n ≤ 1000000 ∧ decide (j < Γ1.length) = true ∧ notAcc Γ1[j]? = true ∧ ∃ Inv : Nat → List Dt → List Sl → Prop, Inv 0 [] Γ1 ∧
      (∀ i es Γ', i < n → Inv i es Γ' → WT K tt (Γ'.set j (.val (.int i))) fun b Γ2 => (b = true → WE K te Γ2 fun r Γ3 => ∃ d, r.dt? = some d ∧ Inv (i + 1) (es ++ [d]) (Γ3.set j (keepV Γ1[j]?))) ∧ (b = false → Inv (i + 1) es (Γ2.set j (keepV Γ1[j]?)))) ∧
      ∀ es Γ', Inv n es Γ' → Post (.new es) Γ') : WE K (tLc (iRng1 t1) (gName j) tt te [j]) Γ Post := fun σ B H E Q q => by
  refine h σ B H E _ fun vs B1 H1 ds Γ1 g1 k p => ?_
  obtain ⟨n, rfl, hn, hj, hja, Inv, i0, turn, done⟩ := p
  have ev : vs = [.int n] := IsA.rawsI (xs := [.int n]) k
  refine ⟨n, ev, by omega, by omega, ?_⟩
  have e0 : ((n : Int)).toNat = n := by omega
  rw [e0]
  refine lc_run (n := n) (dt := fun i => .int i) (J := Itr 0 n) g1.env (of_decide_eq_true hj) (notAcc_ne hja) hn Inv (fun i B' H' _ _ hi _ _ _ => hi) (fun i H' x H'' B' _ _ hi _ _ _ hy => ?_) (fun B' H' _ _ _ _ _ => Nat.le_refl _) i0 turn done fun v B2 H2 r Γ2 g2 k2 p2 => q v B2 H2 r Γ2 (g1.trans g2) (ReOk.earlier k2 g1.mv fun a h => .inl (g1.sub a h)) p2
  obtain ⟨e1, e2⟩ := hy
  subst e1 e2
  rw [Int.zero_add]
  exact ⟨rfl, .raw _⟩
theorem we_lc2 {t1 : TA} (h : WD K t1 Γ fun ds Γ1 => ∃ lo hi : Int, ds = [.int lo, .int hi] ∧ (-(2 ^ 62) ≤ lo ∧ lo < 2 ^ 62 ∧ -(2 ^ 62) ≤ hi ∧ hi < 2 ^ 62) ∧ (hi - lo).toNat ≤ 1000000 ∧ decide (j < Γ1.length) = true ∧ notAcc Γ1[j]? = true ∧ ∃ Inv : Nat → List Dt → List Sl → Prop, Inv 0 [] Γ1 ∧
      (∀ (i : Nat) es Γ', lo + i < hi → Inv i es Γ' → WT K tt (Γ'.set j (.val (.int (lo + i)))) fun b Γ2 => (b = true → WE K te Γ2 fun r Γ3 => ∃ d, r.dt? = some d ∧ Inv (i + 1) (es ++ [d]) (Γ3.set j (keepV Γ1[j]?))) ∧ (b = false → Inv (i + 1) es (Γ2.set j (keepV Γ1[j]?)))) ∧
      ∀ es Γ', Inv (hi - lo).toNat es Γ' → Post (.new es) Γ') : WE K (tLc (iRng2 t1) (gName j) tt te [j]) Γ Post := fun σ B H E Q q => by
  refine h σ B H E _ fun vs B1 H1 ds Γ1 g1 k p => ?_
  obtain ⟨lo, hi, rfl, hb, hn, hj, hja, Inv, i0, turn, done⟩ := p
  have ev : vs = [.int lo, .int hi] := IsA.rawsI (xs := [.int lo, .int hi]) k
  refine ⟨lo, hi, ev, hb, ?_⟩
  refine lc_run (n := (hi - lo).toNat) (dt := fun i => .int (lo + i)) (J := Itr lo (hi - lo).toNat) g1.env (of_decide_eq_true hj) (notAcc_ne hja) hn Inv (fun i B' H' _ _ hi _ _ _ => hi) (fun i H' x H'' B' _ _ hi _ _ _ hy => ?_) (fun B' H' _ _ _ _ _ => Nat.le_refl _) i0 (fun i es Γ' hi' => turn i es Γ' (by omega)) done fun v B2 H2 r Γ2 g2 k2 p2 => q v B2 H2 r Γ2 (g1.trans g2) (ReOk.earlier k2 g1.mv fun a h => .inl (g1.sub a h)) p2
  obtain ⟨e1, e2⟩ := hy
  subst e1 e2
  exact ⟨rfl, .raw _⟩
/-- over a tuple -/
theorem we_lcT (h : WE K tl Γ fun z Γ1 => ∃ ds, z = .val (.tup ds) ∧ ds.length ≤ 1000000 ∧ decide (j < Γ1.length) = true ∧ notAcc Γ1[j]? = true ∧ ∃ Inv : Nat → List Dt → List Sl → Prop, Inv 0 [] Γ1 ∧
      (∀ (i : Nat) d es Γ', ds[i]? = some d → Inv i es Γ' → WT K tt (Γ'.set j (.val d)) fun b Γ2 => (b = true → WE K te Γ2 fun r Γ3 => ∃ d, r.dt? = some d ∧ Inv (i + 1) (es ++ [d]) (Γ3.set j (keepV Γ1[j]?))) ∧ (b = false → Inv (i + 1) es (Γ2.set j (keepV Γ1[j]?)))) ∧
      ∀ es Γ', Inv ds.length es Γ' → Post (.new es) Γ') : WE K (tLc (iTup K tl) (gName j) tt te [j]) Γ Post := fun σ B H E Q q => by
  refine h σ B H E _ fun v B1 H1 z Γ1 g1 k p => ?_
  obtain ⟨ds, rfl, hn, hj, hja, Inv, i0, turn, done⟩ := p
  obtain ⟨a, xs, rfl, ha, hx⟩ := Is.tupR k
  refine ⟨a, rfl, ⟨xs, sqT_mono g1.env.bh ha⟩, ?_⟩
  have at_ : ∀ i, i < ds.length → ds[i]? = some (ds.getD i .non) := fun i hi => by rw [List.getD_eq_getElem?_getD, List.getElem?_eq_getElem hi]; rfl
  refine lc_run (n := ds.length) (dt := fun i => ds.getD i .non) (J := Itt K a) g1.env (of_decide_eq_true hj) (notAcc_ne hja) hn Inv (fun i B' H' _ _ hi b1 b2 _ => ?_) (fun i H' x H'' B' _ _ hi b1 b2 _ hy => ?_) (fun B' H' _ _ b1 b2 _ => ?_) i0 (fun i es Γ' hi' => turn i _ es Γ' (at_ i hi')) done fun v B2 H2 r Γ2 g2 k2 p2 => q v B2 H2 r Γ2 (g1.trans g2) (ReOk.earlier k2 g1.mv fun a h => .inl (g1.sub a h)) p2
  · obtain ⟨x, h1, _⟩ := hx.get (at_ i hi)
    exact ⟨xs, x, sqT_mono (b1.trans b2.bh) ha, h1⟩
  · obtain ⟨e1, e2⟩ := hy
    subst e1
    exact ⟨rfl, (hx.at_ i x _ (e2 xs (sqT_mono (b1.trans b2.bh) ha)) (at_ i hi)).mono b1⟩
  · exact ⟨xs, sqT_mono (b1.trans b2.bh) ha, by rw [hx.len]; exact Nat.le_refl _⟩
/-- over a list that is data or new -/
theorem we_lcL (h : WE K tl Γ fun z Γ1 => ∃ d ds, z.dt? = some d ∧ d = .lst ds ∧ ds.length ≤ 1000000 ∧ decide (j < Γ1.length) = true ∧ notAcc Γ1[j]? = true ∧ ∃ Inv : Nat → List Dt → List Sl → Prop, Inv 0 [] Γ1 ∧
      (∀ (i : Nat) d es Γ', ds[i]? = some d → Inv i es Γ' → WT K tt (Γ'.set j (.val d)) fun b Γ2 => (b = true → WE K te Γ2 fun r Γ3 => ∃ d, r.dt? = some d ∧ Inv (i + 1) (es ++ [d]) (Γ3.set j (keepV Γ1[j]?))) ∧ (b = false → Inv (i + 1) es (Γ2.set j (keepV Γ1[j]?)))) ∧
      ∀ es Γ', Inv ds.length es Γ' → Post (.new es) Γ') : WE K (tLc (iList K tl) (gName j) tt te [j]) Γ Post := fun σ B H E Q q => by
  have h' := we_freeze (Post := fun z Γ1 => ∃ ds, z = .val (.lst ds) ∧ ds.length ≤ 1000000 ∧ decide (j < Γ1.length) = true ∧ notAcc Γ1[j]? = true ∧ ∃ Inv : Nat → List Dt → List Sl → Prop, Inv 0 [] Γ1 ∧
      (∀ (i : Nat) d es Γ', ds[i]? = some d → Inv i es Γ' → WT K tt (Γ'.set j (.val d)) fun b Γ2 => (b = true → WE K te Γ2 fun r Γ3 => ∃ d, r.dt? = some d ∧ Inv (i + 1) (es ++ [d]) (Γ3.set j (keepV Γ1[j]?))) ∧ (b = false → Inv (i + 1) es (Γ2.set j (keepV Γ1[j]?)))) ∧
      ∀ es Γ', Inv ds.length es Γ' → Post (.new es) Γ') (we_mono h fun z Γ1 ⟨d, ds, hd, e, r⟩ => ⟨d, hd, ds, by rw [e], r⟩)
  refine h' σ B H E _ fun v B1 H1 z Γ1 g1 k p => ?_
  obtain ⟨ds, rfl, hn, hj, hja, Inv, i0, turn, done⟩ := p
  obtain ⟨a, xs, rfl, ha, hx⟩ := Is.lstR k
  refine ⟨a, rfl, ⟨xs, .inl (.inl (g1.env.bh _ _ ha))⟩, ?_⟩
  have at_ : ∀ i, i < ds.length → ds[i]? = some (ds.getD i .non) := fun i hi => by rw [List.getD_eq_getElem?_getD, List.getElem?_eq_getElem hi]; rfl
  refine lc_run (n := ds.length) (dt := fun i => ds.getD i .non) (J := Itl K a) g1.env (of_decide_eq_true hj) (notAcc_ne hja) hn Inv (fun i B' H' _ _ hi b1 b2 _ => ?_) (fun i H' x H'' B' _ _ hi b1 b2 _ hy => ?_) (fun B' H' _ _ b1 b2 _ => ?_) i0 (fun i es Γ' hi' => turn i _ es Γ' (at_ i hi')) done fun v B2 H2 r Γ2 g2 k2 p2 => q v B2 H2 r Γ2 (g1.trans g2) (ReOk.earlier k2 g1.mv fun a h => .inl (g1.sub a h)) p2
  · obtain ⟨x, h1, _⟩ := hx.get (at_ i hi)
    exact ⟨xs, x, .inl (.inl ((b1.trans b2.bh) _ _ ha)), h1⟩
  · obtain ⟨e1, e2⟩ := hy
    subst e1
    exact ⟨rfl, (hx.at_ i x _ (e2 xs (.inl (.inl ((b1.trans b2.bh) _ _ ha)))) (at_ i hi)).mono b1⟩
  · exact ⟨xs, .inl (.inl ((b1.trans b2.bh) _ _ ha)), by rw [hx.len]; exact Nat.le_refl _⟩
end
/-- over an owned list that the comprehension leaves as it is -/
theorem we_lcA {K : PySem.W.Frag} {Γ : List Sl} {Post : Re → List Sl → Prop} {te : TE} {tt : TT} {j k : Nat} {ds : List Dt} (h0 : Γ[k]? = some (.acc ds)) (hn : ds.length ≤ 1000000) (hj : decide (j < Γ.length) = true) (hja : notAcc Γ[j]? = true) (Inv : Nat → List Dt → List Sl → Prop) (i0 : Inv 0 [] Γ)
      (hk : ∀ i es Γ', Inv i es Γ' → Γ'[k]? = some (.acc ds))
      (turn : ∀ (i : Nat) d es Γ', ds[i]? = some d → Inv i es Γ' → WT K tt (Γ'.set j (.val d)) fun b Γ2 => (b = true → WE K te Γ2 fun r Γ3 => ∃ d, r.dt? = some d ∧ Inv (i + 1) (es ++ [d]) (Γ3.set j (keepV Γ[j]?))) ∧ (b = false → Inv (i + 1) es (Γ2.set j (keepV Γ[j]?))))
      (done : ∀ es Γ', Inv ds.length es Γ' → Post (.new es) Γ') : WE K (tLc (iList K (tVar k)) (gName j) tt te [j]) Γ Post := fun σ B H E Q q => by
  obtain ⟨l, xs, e0, e1, e2, hx⟩ := E.acc k ds h0
  have at_ : ∀ i, i < ds.length → ds[i]? = some (ds.getD i .non) := fun i hi => by rw [List.getD_eq_getElem?_getD, List.getElem?_eq_getElem hi]; rfl
  have items : ∀ {i es B' H' Γ'}, Env K B' H' σ Γ' → Inv i es Γ' → ∃ ys, H' l = some (.lst ys) ∧ IsA K B' ys ds := fun {i es B' H' Γ'} E' inv => by
    obtain ⟨c, ys, q1, q2, q3, q4⟩ := E'.acc k ds (hk i es Γ' inv)
    rw [e0] at q1
    cases q1
    exact ⟨ys, q2, q4⟩
  refine ⟨.ref l, e0, l, rfl, ⟨xs, .inl (.inl e1)⟩, ?_⟩
  refine lc_run (n := ds.length) (dt := fun i => ds.getD i .non) (J := Itl K l) E (of_decide_eq_true hj) (notAcc_ne hja) hn Inv (fun i B' H' es Γ' hi b1 b2 inv => ?_) (fun i H' x H'' B' es Γ' hi b1 b2 inv hy => ?_) (fun B' H' es Γ' b1 b2 inv => ?_) i0 (fun i es Γ' hi' => turn i _ es Γ' (at_ i hi')) done q
  · obtain ⟨ys, h1, h2⟩ := items b2 inv
    obtain ⟨x, h3, _⟩ := h2.get (at_ i hi)
    exact ⟨ys, x, .inl (.inl h1), h3⟩
  · obtain ⟨ys, h1, h2⟩ := items b2 inv
    obtain ⟨e1, e2⟩ := hy
    subst e1
    exact ⟨rfl, h2.at_ i x _ (e2 ys (.inl (.inl h1))) (at_ i hi)⟩
  · obtain ⟨ys, h1, h2⟩ := items b2 inv
    exact ⟨ys, .inl (.inl h1), by rw [h2.len]; exact Nat.le_refl _⟩
/-! ### == of data at any depth -/
mutual
def Dt.py : Dt → Option PyData
  | .raw .non => some .none
  | .raw (.bl b) => some (.bool b)
  | .raw (.int i) => some (.int i)
  | .raw (.str s) => some (.str s)
  | .raw _ => none
  | .tup ds => (pyAll ds).map .tuple
  | .lst ds => (pyAll ds).map .list
  | .obj _ _ => none
  | .scr ns => none
def pyAll : List Dt → Option (List PyData)
  | [] => some []
  | d :: ds => match Dt.py d, pyAll ds with
    | some p, some ps => some (p :: ps)
    | _, _ => none
end
section
variable {K : PySem.W.Frag} {B H : Hp}
theorem pyAll_dp : ∀ {ds : List Dt} {ps : List PyData} {vs : List V}, (∀ d p v, d ∈ ds → Dt.py d = some p → Is K B v d → Dp K B v p) → pyAll ds = some ps → IsA K B vs ds → DpAll K B vs ps
  | [], ps, vs, _, e, h => by
    rw [pyAll] at e
    cases e
    have : vs = [] := List.eq_nil_of_length_eq_zero (by rw [h.len]; rfl)
    subst this; exact .nil
  | d :: ds, ps, vs, f, e, h => by
    rw [pyAll] at e
    split at e
    · rename_i p qs h1 h2
      cases e
      cases vs with
      | nil => have := h.len; simp at this
      | cons v vs =>
        refine .cons (f d p v (List.mem_cons_self) h1 (h.at_ 0 v d rfl rfl)) (pyAll_dp (fun d p v hd => f d p v (List.mem_cons_of_mem _ hd)) h2 ⟨by have := h.len; simpa using this, fun i v d a b => h.at_ (i + 1) v d (by simpa using a) (by simpa using b)⟩)
    · cases e
theorem is_dp {v : V} {d : Dt} (h : Is K B v d) : ∀ {p : PyData}, d.py = some p → Dp K B v p := by
  induction h with
  | raw v =>
    intro p e
    cases v <;> (simp only [Dt.py] at e; cases e) <;> constructor
  | @tup a xs ds h hl hi ih =>
    intro p e
    rw [Dt.py] at e
    cases q : pyAll ds with
    | none => rw [q] at e; cases e
    | some ps =>
      rw [q] at e
      cases e
      refine .tup h ?_
      clear h
      induction ds generalizing xs ps with
      | nil =>
        rw [pyAll] at q; cases q
        have : xs = [] := List.eq_nil_of_length_eq_zero (by rw [hl]; rfl)
        subst this; exact .nil
      | cons d ds ihd =>
        rw [pyAll] at q
        split at q
        · rename_i p1 qs h1 h2
          cases q
          cases xs with
          | nil => simp at hl
          | cons x xs =>
            exact .cons (ih 0 x d rfl rfl h1) (ihd (by simpa using hl) (fun i v d a b => hi (i + 1) v d (by simpa using a) (by simpa using b)) (fun i v d a b => ih (i + 1) v d (by simpa using a) (by simpa using b)) qs h2)
        · cases q
  | @lst a xs ds h hl hi ih =>
    intro p e
    rw [Dt.py] at e
    cases q : pyAll ds with
    | none => rw [q] at e; cases e
    | some ps =>
      rw [q] at e
      cases e
      refine .lst (.inl (.inl h)) ?_
      clear h
      induction ds generalizing xs ps with
      | nil =>
        rw [pyAll] at q; cases q
        have : xs = [] := List.eq_nil_of_length_eq_zero (by rw [hl]; rfl)
        subst this; exact .nil
      | cons d ds ihd =>
        rw [pyAll] at q
        split at q
        · rename_i p1 qs h1 h2
          cases q
          cases xs with
          | nil => simp at hl
          | cons x xs =>
            exact .cons (ih 0 x d rfl rfl h1) (ihd (by simpa using hl) (fun i v d a b => hi (i + 1) v d (by simpa using a) (by simpa using b)) (fun i v d a b => ih (i + 1) v d (by simpa using a) (by simpa using b)) qs h2)
        · cases q
  | obj h hk hi ih => intro p e; rw [Dt.py] at e; cases e
  | scr h => intro p e; rw [Dt.py] at e; cases e
mutual
theorem dp_mono {B' : Hp} (s : Same B B') {v : V} : ∀ {p : PyData}, Dp K B v p → Dp K B' v p
  | _, .non => .non
  | _, .bl b => .bl b
  | _, .int i => .int i
  | _, .str x => .str x
  | _, .lst h hs => .lst (s.seq h) (dpAll_mono s hs)
  | _, .tup h hs => .tup (sqT_mono s h) (dpAll_mono s hs)
theorem dpAll_mono {B' : Hp} (s : Same B B') : ∀ {vs : List V} {ps : List PyData}, DpAll K B vs ps → DpAll K B' vs ps
  | _, _, .nil => .nil
  | _, _, .cons h hs => .cons (dp_mono s h) (dpAll_mono s hs)
end
end
/-- a result as data to be compared -/
def Re.py (Γ : List Sl) : Re → Option PyData
  | .val d => d.py
  | .new ds => (pyAll ds).map .list
  | .own i => match Γ[i]? with
    | some (.acc ds) => (pyAll ds).map .list
    | _ => none
section
variable {K : PySem.W.Frag} {Γ : List Sl} {Post : Re → List Sl → Prop} {ta tb : TE}
theorem rv_dp {σ : L2.St} {B H : Hp} {v : V} {r : Re} {p : PyData} (E : Env K B H σ Γ) (h : RvOk K σ B H Γ v r) (e : r.py Γ = some p) : Dp K H v p := by
  have lst : ∀ {ds : List Dt}, lstOf Γ r = some ds → (pyAll ds).map PyData.list = some p → Dp K H v p := fun {ds} h1 h2 => by
    obtain ⟨a, vs, rfl, hq, ha⟩ := rv_lst E h h1
    cases q : pyAll ds with
    | none => rw [q] at h2; cases h2
    | some ps =>
      rw [q] at h2
      cases h2
      exact .lst hq (dpAll_mono E.bh (pyAll_dp (fun d p v _ e k => is_dp k e) q ha))
  cases r with
  | val d => exact dp_mono E.bh (is_dp h e)
  | new ds => exact lst rfl e
  | own i =>
    have e' : (match Γ[i]? with
      | some (Sl.acc ds) => (pyAll ds).map PyData.list
      | _ => none) = some p := e
    split at e'
    · rename_i ds hi
      exact lst (by show (match Γ[i]? with | some (Sl.acc ds) => some ds | _ => none) = some ds; rw [hi]) e'
    · cases e'
theorem we_eqD (h : WE K ta Γ fun ra Γ1 => WE K tb Γ1 fun rb Γ2 => ∃ p q : PyData, ra.py Γ2 = some p ∧ rb.py Γ2 = some q ∧ SeqAt.shaped p = true ∧ SeqAt.shaped q = true ∧ Post (.val (.bl (PyData.eqv p q))) Γ2) : WE K (tOp (rEqD K) ta tb) Γ Post :=
  we_two' (we_mono h fun ra Γ1 h1 => we_mono h1 fun rb Γ2 ⟨p, q, e1, e2, s1, s2, pp⟩ => fun σ B H x y E kx ky Q k =>
    ⟨p, q, rv_dp E kx e1, rv_dp E ky e2, s1, s2, k _ B H _ Γ2 (.refl E) (.raw _) pp⟩)
theorem we_neD (h : WE K ta Γ fun ra Γ1 => WE K tb Γ1 fun rb Γ2 => ∃ p q : PyData, ra.py Γ2 = some p ∧ rb.py Γ2 = some q ∧ SeqAt.shaped p = true ∧ SeqAt.shaped q = true ∧ Post (.val (.bl (!PyData.eqv p q))) Γ2) : WE K (tOp (rNeD K) ta tb) Γ Post :=
  we_two' (we_mono h fun ra Γ1 h1 => we_mono h1 fun rb Γ2 ⟨p, q, e1, e2, s1, s2, pp⟩ => fun σ B H x y E kx ky Q k =>
    ⟨p, q, rv_dp E kx e1, rv_dp E ky e2, s1, s2, k _ B H _ Γ2 (.refl E) (.raw _) pp⟩)
end
end Ab
namespace Ab
open PySem L2
/-! ### operators of several kinds, one rule a node -/
abbrev rSubI : R2 := rI0 fun i j => .int (i - j)
abbrev rDivI : R2 := rI CDiv fun i j => .int (i / j)
abbrev rModI : R2 := rI (fun _ j => 0 < j) fun i j => .int (i % j)
abbrev rPowI : R2 := rI CPow fun i j => .int (i ^ j.toNat)
abbrev rLtI : R2 := rI0 fun i j => .bl (decide (i < j))
abbrev rLeI : R2 := rI0 fun i j => .bl (decide (i ≤ j))
abbrev rGtI : R2 := rI0 fun i j => .bl (decide (j < i))
abbrev rGeI : R2 := rI0 fun i j => .bl (decide (j ≤ i))
abbrev rNegI : V → Hp → VK → Prop := rU fun i => .int (-i)
def rAddG (K : PySem.W.Frag) : R2 := fun x y H Q => rI0 (fun i j => .int (i + j)) x y H Q ∨ (∃ i j, x = .str i ∧ y = .str j ∧ i.length + j.length ≤ sizeLine ∧ Q (.str (i ++ j)) H) ∨ rCatA K x y H Q ∨ rCat x y H Q
def rMulG (K : PySem.W.Frag) : R2 := fun x y H Q => rI CMul (fun i j => .int (i * j)) x y H Q ∨ rI CMulW (fun i j => .int (i * j)) x y H Q
def rEqG (K : PySem.W.Frag) : R2 := fun x y H Q => rEq x y H Q ∨ rEqD K x y H Q
def rNeG (K : PySem.W.Frag) : R2 := fun x y H Q => rNe x y H Q ∨ rNeD K x y H Q
def rLtG (K : PySem.W.Frag) : R2 := fun x y H Q => rI0 (fun i j => .bl (decide (i < j))) x y H Q ∨ (∃ i j, x = .str i ∧ y = .str j ∧ Q (.bl (decide (i.cps.toList < j.cps.toList))) H) ∨ rLtT K x y H Q
def rInG (K : PySem.W.Frag) : R2 := fun x y H Q => rIn K false x y H Q ∨ ∃ (c : Nat) (z : Str), x = .str ⟨#[c]⟩ ∧ y = .str z ∧ Q (.bl (decide (c ∈ z.cps.toList))) H
def rSlG (K : PySem.W.Frag) : V → Option Int → Option Int → Hp → VK → Prop := fun x lo hi H Q => rSlL K x lo hi H Q ∨ rSlA K x lo hi H Q ∨ rSlS x lo hi H Q
section
variable {X : Cx}
theorem op_addG : OpR X (binaryOp .Add) (rAddG X.K) := op_add.or (op_add_str.or (op_catA.or op_cat))
theorem op_mulG : OpR X (binaryOp .Mult) (rMulG X.K) := op_mul.or op_mulW
theorem op_eqG (hu : X.A.units + 64 < cLine) : OpR X (compareOp .Eq) (rEqG X.K) := op_eq.or (op_eqD hu)
theorem op_neG (hu : X.A.units + 64 < cLine) : OpR X (compareOp .NotEq) (rNeG X.K) := op_ne.or (op_neD hu)
theorem op_ltG (hu : X.A.units < cLine) : OpR X (compareOp .Lt) (rLtG X.K) := op_lt.or (op_lt_str.or (op_ltT hu))
theorem op_inG : OpR X (compareOp .In) (rInG X.K) := op_in_seq.or op_in_sign
theorem sl_G : SlR X (rSlG X.K) := sl_list.or (sl_tupA.or sl_str)
end
def Re.isScr : Re → Bool
  | .val (.scr _) => true
  | _ => false
def AddP (ra rb : Re) (Γ : List Sl) (Post : Re → List Sl → Prop) : Prop :=
  (∃ i j, ra = .val (.int i) ∧ rb = .val (.int j) ∧ Post (.val (.int (i + j))) Γ) ∨ (∃ s t : Str, ra = .val (.str s) ∧ rb = .val (.str t) ∧ s.length + t.length ≤ 1000000 ∧ Post (.val (.str (s ++ t))) Γ) ∨
  (∃ ds es, ra = .val (.tup ds) ∧ rb = .val (.tup es) ∧ ds.length + es.length ≤ 1000000 ∧ Post (.val (.tup (ds ++ es))) Γ) ∨ (∃ ds es, lstOf Γ ra = some ds ∧ lstOf Γ rb = some es ∧ ra.isScr = false ∧ rb.isScr = false ∧ ds.length + es.length ≤ 1000000 ∧ Post (.new (ds ++ es)) Γ)
def EqP (neg : Bool) (ra rb : Re) (Γ : List Sl) (Post : Re → List Sl → Prop) : Prop :=
  (∃ x y : V, ra = .val (.raw x) ∧ rb = .val (.raw y) ∧ scal x y = true ∧ Post (.val (.bl (neg ^^ decide (x = y)))) Γ) ∨
  (∃ p q : PyData, ra.py Γ = some p ∧ rb.py Γ = some q ∧ SeqAt.shaped p = true ∧ SeqAt.shaped q = true ∧ Post (.val (.bl (neg ^^ PyData.eqv p q))) Γ)
def MulP (ra rb : Re) (Γ : List Sl) (Post : Re → List Sl → Prop) : Prop := ∃ i j, ra = .val (.int i) ∧ rb = .val (.int j) ∧ (CMul i j ∨ CMulW i j) ∧ Post (.val (.int (i * j))) Γ
def IxP (ra rb : Re) (Γ : List Sl) (Post : Re → List Sl → Prop) : Prop :=
  (∃ ds k d, seqOf Γ ra = some ds ∧ rb = .val (.int k) ∧ atI ds k = some d ∧ Post (.val d) Γ) ∨ (∃ z k c, ra = .val (.str z) ∧ rb = .val (.int k) ∧ z.length ≤ 1000000 ∧ atI z.cps.toList k = some c ∧ Post (.val (.str ⟨#[c]⟩)) Γ)
def LenP (r : Re) (Γ : List Sl) (Post : Re → List Sl → Prop) : Prop := (∃ ds, seqOf Γ r = some ds ∧ Post (.val (.int ds.length)) Γ) ∨ (∃ z : Str, r = .val (.str z) ∧ z.length ≤ 1000000 ∧ Post (.val (.int z.length)) Γ)
def IntP (r : Re) (Γ : List Sl) (Post : Re → List Sl → Prop) : Prop := (∃ i, r = .val (.int i) ∧ Post (.val (.int i)) Γ) ∨ (∃ b, r = .val (.bl b) ∧ Post (.val (.int (if b then 1 else 0))) Γ)
section
variable {K : PySem.W.Frag} {Γ : List Sl} {Post : Re → List Sl → Prop} {ta tb tc te : TE}
theorem rv_lstH {σ : L2.St} {B H : Hp} {v : V} {r : Re} {ds : List Dt} (E : Env K B H σ Γ) (h : RvOk K σ B H Γ v r) (e : lstOf Γ r = some ds) (hs : r.isScr = false) : ∃ a vs, v = .ref a ∧ H a = some (.lst vs) ∧ IsA K B vs ds := by
  cases r with
  | val d =>
    cases d with
    | lst es => cases e; obtain ⟨a, xs, rfl, h1, h2⟩ := Is.lstR h; exact ⟨a, xs, rfl, E.bh _ _ h1, h2⟩
    | raw u => cases e
    | tup es => cases e
    | obj C fs => cases e
    | scr ns => cases hs
  | new es => cases e; obtain ⟨l, vs, rfl, _, h1, _, h2⟩ := h; exact ⟨l, vs, rfl, h1, h2⟩
  | own i =>
    obtain ⟨l, rfl, hl⟩ := h
    have e' : (match Γ[i]? with
      | some (Sl.acc ds) => some ds
      | _ => none) = some ds := e
    split at e'
    · rename_i es hi
      cases e'
      obtain ⟨c, us, q1, q2, q3, q4⟩ := E.acc i _ hi
      rw [hl] at q1; cases q1
      exact ⟨l, us, rfl, q2, q4⟩
    · cases e'
theorem we_addG (h : WE K ta Γ fun ra Γ1 => WE K tb Γ1 fun rb Γ2 => AddP ra rb Γ2 Post) : WE K (tOp (rAddG K) ta tb) Γ Post :=
  we_two' (we_mono h fun ra Γ1 h1 => we_mono h1 fun rb Γ2 hp => fun σ B H x y E kx ky Q q => by
    rcases hp with ⟨i, j, rfl, rfl, p⟩ | ⟨s, t, rfl, rfl, hz, p⟩ | ⟨ds, es, rfl, rfl, hz, p⟩ | ⟨ds, es, h1, h2, s1, s2, hz, p⟩
    · cases Is.rawI kx; cases Is.rawI ky
      exact .inl ⟨i, j, rfl, rfl, q _ B H _ Γ2 (.refl E) (.raw _) p⟩
    · cases Is.rawI kx; cases Is.rawI ky
      exact .inr (.inl ⟨s, t, rfl, rfl, Nat.le_trans hz (by decide), q _ B H _ Γ2 (.refl E) (.raw _) p⟩)
    · obtain ⟨a, xs, rfl, h1, h2⟩ := Is.tupR kx
      obtain ⟨b, ys, rfl, g1, g2⟩ := Is.tupR ky
      refine .inr (.inr (.inl ⟨a, b, xs, ys, rfl, rfl, sqT_mono E.bh h1, sqT_mono E.bh g1, Nat.le_trans (by rw [h2.len, g2.len]; exact hz) (by decide), fun e => ?_, fun e1 e => ?_, fun _ _ l hl => ?_⟩))
      · have : ds = [] := List.eq_nil_of_length_eq_zero (by rw [← h2.len, e]; rfl)
        subst this
        exact q _ B H (.val _) Γ2 (.refl E) (show Is K B _ _ from ky) p
      · have : es = [] := List.eq_nil_of_length_eq_zero (by rw [← g2.len, e]; rfl)
        subst this
        rw [List.append_nil] at p
        exact q _ B H (.val _) Γ2 (.refl E) (show Is K B _ _ from kx) p
      · exact q _ _ _ _ Γ2 (Go.laid E hl) (re_laidT E (h2.append g2) hl) p
    · obtain ⟨a, xs, rfl, a1, a2⟩ := rv_lstH E kx h1 s1
      obtain ⟨b, ys, rfl, b1, b2⟩ := rv_lstH E ky h2 s2
      exact .inr (.inr (.inr ⟨a, b, xs, ys, rfl, rfl, a1, b1, Nat.le_trans (by rw [a2.len, b2.len]; exact hz) (by decide), fun l hl => q _ _ _ _ Γ2 (Go.beside E hl) (re_newL E (a2.append b2) hl) p⟩)))
theorem we_mulG (h : WE K ta Γ fun ra Γ1 => WE K tb Γ1 fun rb Γ2 => MulP ra rb Γ2 Post) : WE K (tOp (rMulG K) ta tb) Γ Post :=
  we_two' (we_mono h fun ra Γ1 h1 => we_mono h1 fun rb Γ2 hp => fun σ B H x y E kx ky Q q => by
    obtain ⟨i, j, rfl, rfl, hc, p⟩ := hp
    cases Is.rawI kx; cases Is.rawI ky
    have fin := q _ B H _ Γ2 (.refl E) (.raw _) p
    rcases hc with hc | hc
    · exact .inl ⟨i, j, rfl, rfl, hc, fin⟩
    · exact .inr ⟨i, j, rfl, rfl, hc, fin⟩)
theorem we_eqG (h : WE K ta Γ fun ra Γ1 => WE K tb Γ1 fun rb Γ2 => EqP false ra rb Γ2 Post) : WE K (tOp (rEqG K) ta tb) Γ Post :=
  we_two' (we_mono h fun ra Γ1 h1 => we_mono h1 fun rb Γ2 hp => fun σ B H x y E kx ky Q q => by
    rcases hp with ⟨u, w, rfl, rfl, hs, p⟩ | ⟨a, b, e1, e2, s1, s2, p⟩
    · cases Is.rawI kx; cases Is.rawI ky
      rw [Bool.false_xor] at p
      exact .inl ⟨hs, q _ B H _ Γ2 (.refl E) (.raw _) p⟩
    · rw [Bool.false_xor] at p
      exact .inr ⟨a, b, rv_dp E kx e1, rv_dp E ky e2, s1, s2, q _ B H _ Γ2 (.refl E) (.raw _) p⟩)
theorem we_neG (h : WE K ta Γ fun ra Γ1 => WE K tb Γ1 fun rb Γ2 => EqP true ra rb Γ2 Post) : WE K (tOp (rNeG K) ta tb) Γ Post :=
  we_two' (we_mono h fun ra Γ1 h1 => we_mono h1 fun rb Γ2 hp => fun σ B H x y E kx ky Q q => by
    rcases hp with ⟨u, w, rfl, rfl, hs, p⟩ | ⟨a, b, e1, e2, s1, s2, p⟩
    · cases Is.rawI kx; cases Is.rawI ky
      rw [Bool.true_xor] at p
      exact .inl ⟨hs, q _ B H _ Γ2 (.refl E) (.raw _) p⟩
    · rw [Bool.true_xor] at p
      exact .inr ⟨a, b, rv_dp E kx e1, rv_dp E ky e2, s1, s2, q _ B H _ Γ2 (.refl E) (.raw _) p⟩)
theorem we_ixG (h : WE K ta Γ fun ra Γ1 => WE K tb Γ1 fun rb Γ2 => IxP ra rb Γ2 Post) : WE K (tOp (rIx K) ta tb) Γ Post :=
  we_two' (we_mono h fun ra Γ1 h1 => we_mono h1 fun rb Γ2 hp => fun σ B H x y E kx ky Q q => by
    rcases hp with ⟨ds, k, d, hs, rfl, hd, p⟩ | ⟨z, k, c, rfl, rfl, hz, hd, p⟩
    · cases Is.rawI ky
      obtain ⟨a, vs, rfl, hq, ha⟩ := rv_seq E kx hs
      obtain ⟨v, hv, hi⟩ := ha.atI hd
      have fin := q v B H (.val d) Γ2 (.refl E) hi p
      rcases hq with hq | hq
      · exact .inl ⟨a, vs, k, v, rfl, rfl, hq, hv, fin⟩
      · exact .inr (.inl ⟨a, vs, k, v, rfl, rfl, hq, hv, fin⟩)
    · cases Is.rawI ky
      cases Is.rawI kx
      exact .inr (.inr ⟨z, k, c, rfl, rfl, Nat.le_trans hz (by decide), hd, q _ B H _ Γ2 (.refl E) (.raw _) p⟩))
theorem we_lenG (h : WE K te Γ fun r Γ1 => LenP r Γ1 Post) : WE K (tCB (rLenV K) (tCons te tNil)) Γ Post :=
  we_cb1 (we_mono h fun r Γ1 hp => fun σ B H x E kx Q q => by
    rcases hp with ⟨ds, hs, p⟩ | ⟨z, rfl, hz, p⟩
    · obtain ⟨a, vs, rfl, hq, ha⟩ := rv_seq E kx hs
      have e : (ds.length : Int) = (vs.length : Int) := by rw [ha.len]
      rw [e] at p
      refine ⟨_, vs.length, rfl, ?_, q _ B H _ Γ1 (.refl E) (.raw _) p⟩
      rcases hq with hq | hq
      · exact .inl ⟨vs, hq, rfl⟩
      · exact .inr ⟨vs, hq, rfl⟩
    · cases Is.rawI kx
      exact ⟨_, z.length, rfl, ⟨Nat.le_trans hz (by decide), rfl⟩, q _ B H _ Γ1 (.refl E) (.raw _) p⟩)
theorem we_intG (h : WE K te Γ fun r Γ1 => IntP r Γ1 Post) : WE K (tCB rInt1 (tCons te tNil)) Γ Post :=
  we_cb1 (we_mono h fun r Γ1 hp => fun σ B H x E kx Q q => by
    rcases hp with ⟨i, rfl, p⟩ | ⟨b, rfl, p⟩
    · cases Is.rawI kx; exact .inl ⟨i, rfl, q _ B H _ Γ1 (.refl E) (.raw _) p⟩
    · cases Is.rawI kx; exact .inr ⟨b, rfl, q _ B H _ Γ1 (.refl E) (.raw _) p⟩)
/-! slices -/
def WO (K : PySem.W.Frag) (to : TO) (Γ : List Sl) (Post : Option Int → List Sl → Prop) : Prop := ∀ σ B H, Env K B H σ Γ → ∀ Q : Option Int → Hp → Prop, (∀ o B' H' Γ', Go K σ B H Γ B' H' Γ' → Post o Γ' → Q o H') → to σ H Q
theorem wo_none {P : Option Int → List Sl → Prop} (p : P none Γ) : WO K tNoPart Γ P := fun σ B H E Q q => q none B H Γ (.refl E) p
theorem wo_some {P : Option Int → List Sl → Prop} (h : WE K te Γ fun r Γ1 => ∃ i, r = .val (.int i) ∧ P (some i) Γ1) : WO K (tPart te) Γ P := fun σ B H E Q q => by
  refine h σ B H E _ fun v B1 H1 r Γ1 g k ⟨i, e, p⟩ => ?_
  subst e
  cases Is.rawI k
  exact ⟨i, rfl, q _ B1 H1 Γ1 g p⟩
/-- the items of a slice -/
def cutD (xs : List Dt) (lo hi : Option Int) : List Dt := (xs.drop (HT.sIx xs.length 0 lo)).take (HT.sIx xs.length xs.length hi - HT.sIx xs.length 0 lo)
def SlP (ra : Re) (lo hi : Option Int) (Γ : List Sl) (Post : Re → List Sl → Prop) : Prop :=
  (∃ ds, lstOf Γ ra = some ds ∧ Post (.new (cutD ds lo hi)) Γ) ∨ (∃ ds, ra = .val (.tup ds) ∧ Post (.val (.tup (cutD ds lo hi))) Γ) ∨ (∃ z : Str, ra = .val (.str z) ∧ z.length ≤ 1000000 ∧ Post (.val (.str (cutS z lo hi))) Γ)
theorem cut_is {B : Hp} {vs : List V} {ds : List Dt} (lo hi : Option Int) (h : IsA K B vs ds) : IsA K B (cutV vs lo hi) (cutD ds lo hi) := by
  unfold cutV cutD
  rw [h.len]
  exact (h.drop _).take _
theorem cut_whole {ds : List Dt} {lo hi : Option Int} (h : HT.sIx ds.length 0 lo = 0 ∧ HT.sIx ds.length ds.length hi = ds.length) : cutD ds lo hi = ds := by
  unfold cutD
  rw [h.1, h.2, List.drop_zero, Nat.sub_zero, List.take_length]
theorem we_slG {tl th : TO} (h : WE K ta Γ fun ra Γ1 => WO K tl Γ1 fun lo Γ2 => WO K th Γ2 fun hi Γ3 => SlP ra lo hi Γ3 Post) : WE K (tSl (rSlG K) ta tl th) Γ Post := fun σ B H E Q q => by
  refine h σ B H E _ fun x B1 H1 ra Γ1 g1 k1 p1 => ?_
  refine p1 σ B1 H1 g1.env _ fun lo B2 H2 Γ2 g2 p2 => ?_
  refine p2 σ B2 H2 g2.env _ fun hi B3 H3 Γ3 g3 p3 => ?_
  have g23 := g2.trans g3
  have kx := ReOk.rv (ReOk.step k1 g23.mv g23.sub)
  have g := g1.trans g23
  have fin : ∀ v B' H' z Γ', Go K σ B3 H3 Γ3 B' H' Γ' → ReOk K σ (Own σ Γ3) (Own σ Γ') B' H3 H' v z → Post z Γ' → Q v H' := fun v B' H' z Γ' g4 k4 p4 => q v B' H' z Γ' (g.trans g4) (ReOk.earlier k4 g.mv fun a h => .inl (g.sub a h)) p4
  rcases p3 with ⟨ds, hs, p⟩ | ⟨ds, rfl, p⟩ | ⟨z, rfl, hz, p⟩
  · obtain ⟨a, vs, rfl, hq, ha⟩ := rv_lst g3.env kx hs
    exact .inl ⟨a, vs, rfl, hq, fun l hl => fin _ _ _ _ Γ3 (Go.beside g3.env hl) (re_newL g3.env (cut_is lo hi ha) hl) p⟩
  · obtain ⟨a, vs, rfl, hq, ha⟩ := Is.tupR kx
    refine .inr (.inl ⟨a, vs, rfl, sqT_mono g3.env.bh hq, fun hw => ?_, fun _ l hl => fin _ _ _ _ Γ3 (Go.laid g3.env hl) (re_laidT g3.env (cut_is lo hi ha) hl) p⟩)
    rw [ha.len] at hw
    rw [cut_whole hw] at p
    exact fin _ B3 H3 (.val _) Γ3 (.refl g3.env) (show Is K B3 _ _ from kx) p
  · cases Is.rawI kx
    exact .inr (.inr ⟨z, rfl, Nat.le_trans hz (by decide), fin _ B3 H3 _ Γ3 (.refl g3.env) (.raw _) p⟩)
def InP (neg : Bool) (ra rb : Re) (Γ : List Sl) (Post : Re → List Sl → Prop) : Prop :=
  (∃ (x : V) (us : List V), ra = .val (.raw x) ∧ seqOf Γ rb = some (us.map Dt.raw) ∧ flatV x = true ∧ us.all flatV = true ∧ Post (.val (.bl (if neg then !inV x us else inV x us))) Γ)
theorem we_inG (h : WE K ta Γ fun ra Γ1 => WE K tb Γ1 fun rb Γ2 => InP false ra rb Γ2 Post ∨ ∃ (c : Nat) (z : Str), ra = .val (.str ⟨#[c]⟩) ∧ rb = .val (.str z) ∧ Post (.val (.bl (decide (c ∈ z.cps.toList)))) Γ2) : WE K (tOp (rInG K) ta tb) Γ Post :=
  we_two' (we_mono h fun ra Γ1 h1 => we_mono h1 fun rb Γ2 hp => fun σ B H y z E ky kz Q q => by
    rcases hp with ⟨x, us, rfl, hs, hx, hu, p⟩ | ⟨c, s, rfl, rfl, p⟩
    · cases Is.rawI ky
      obtain ⟨a, vs, rfl, hq, ha⟩ := rv_seq E kz hs
      cases ha.rawsI
      exact .inl ⟨a, _, rfl, hq, hx, hu, q _ B H _ Γ2 (.refl E) (.raw _) p⟩
    · cases Is.rawI ky; cases Is.rawI kz
      exact .inr ⟨c, s, rfl, rfl, q _ B H _ Γ2 (.refl E) (.raw _) p⟩)
theorem we_notInG (h : WE K ta Γ fun ra Γ1 => WE K tb Γ1 fun rb Γ2 => InP true ra rb Γ2 Post) : WE K (tOp (rIn K true) ta tb) Γ Post := we_in h
end
/-- < of ints, of texts, of tuples of ints -/
def LtP (ra rb : Re) (Γ : List Sl) (Post : Re → List Sl → Prop) : Prop :=
  (∃ i j, ra = .val (.int i) ∧ rb = .val (.int j) ∧ Post (.val (.bl (decide (i < j)))) Γ) ∨ (∃ s t : Str, ra = .val (.str s) ∧ rb = .val (.str t) ∧ Post (.val (.bl (decide (s.cps.toList < t.cps.toList)))) Γ) ∨
  (∃ ns ms : List Int, ra = .val (.tup (ns.map Dt.int)) ∧ rb = .val (.tup (ms.map Dt.int)) ∧ Post (.val (.bl (HT.lexLt ns ms))) Γ)
theorem we_ltG {K : PySem.W.Frag} {Γ : List Sl} {Post : Re → List Sl → Prop} {ta tb : TE} (h : WE K ta Γ fun ra Γ1 => WE K tb Γ1 fun rb Γ2 => LtP ra rb Γ2 Post) : WE K (tOp (rLtG K) ta tb) Γ Post :=
  we_two' (we_mono h fun ra Γ1 h1 => we_mono h1 fun rb Γ2 hp => fun σ B H x y E kx ky Q q => by
    rcases hp with ⟨i, j, rfl, rfl, p⟩ | ⟨s, t, rfl, rfl, p⟩ | ⟨ns, ms, rfl, rfl, p⟩
    · cases Is.rawI kx; cases Is.rawI ky
      exact .inl ⟨i, j, rfl, rfl, q _ B H _ Γ2 (.refl E) (.raw _) p⟩
    · cases Is.rawI kx; cases Is.rawI ky
      exact .inr (.inl ⟨s, t, rfl, rfl, q _ B H _ Γ2 (.refl E) (.raw _) p⟩)
    · obtain ⟨a, xs, rfl, h1, h2⟩ := Is.tupR kx
      obtain ⟨b, ys, rfl, g1, g2⟩ := Is.tupR ky
      have e1 : xs = ns.map V.int := IsA.rawsI (xs := ns.map V.int) (by rw [List.map_map]; exact h2)
      have e2 : ys = ms.map V.int := IsA.rawsI (xs := ms.map V.int) (by rw [List.map_map]; exact g2)
      subst e1 e2
      exact .inr (.inr ⟨a, b, ns, ms, rfl, rfl, sqT_mono E.bh h1, sqT_mono E.bh g1, q _ B H _ Γ2 (.refl E) (.raw _) p⟩))
/-- a def that is never called -/
theorem fn_never {P : Program} {w : World} {K : PySem.W.Frag} {mg : Str → Option Value} {base : Heap} {x qual : Str} {st : Stmt} {f : Addr} {fd : FuncData} {N ps : List Str} {k : Nat} (F : Fun K x qual st f fd) (S : FnScope N ps (defScope st)) :
    FnOk P w K mg base CX0 (k + 1) f fd ps (toSp K fun _ _ => False) := by
  refine F.ok S (fun vs H Q E h => ?_) (fun cdv A outer s H vs Q E hr h => ?_)
  · obtain ⟨_, _, _, _, z, _⟩ := h; exact z.elim
  · obtain ⟨_, _, _, _, z, _⟩ := h; exact z.elim
/-- the law's own start: the script -/
theorem law_sp {K : PySem.W.Frag} {ap : AP} {H : Hp} {a : Addr} {ns : List Int} {E : XK} (hS : SqL K H a (ns.map V.int)) (h : ∀ Post : Re → List Sl → Prop, (∀ as, Post (.val (.bl true)) as) → ap [.val (.scr ns)] Post) : toSp K ap [.ref a] H (fun v _ => v = .bl true) E := by
  refine ⟨H, [.val (.scr ns)], fun r _ => r = .val (.bl true), ⟨rfl, Same.refl H, fun i d hi => ?_, fun i ds hi => ?_, fun i j ds es l hi => ?_⟩, h _ (fun _ => rfl), fun v B' H' r as' g k p => ?_⟩
  · cases i with
    | zero => simp at hi; subst hi; exact ⟨.ref a, rfl, .scr hS⟩
    | succ i => simp at hi
  · cases i with
    | zero => simp at hi
    | succ i => simp at hi
  · cases i with
    | zero => simp at hi
    | succ i => simp at hi
  · subst p; exact Is.rawI k
/-! ### builtins' names -/
theorem bi_int : bootBuiltins "int" = some (.type "int") := by decide +kernel
theorem bi_bool : bootBuiltins "bool" = some (.type "bool") := by decide +kernel
theorem bi_str : bootBuiltins "str" = some (.type "str") := by decide +kernel
theorem bi_list : bootBuiltins "list" = some (.type "list") := by decide +kernel
theorem bi_tuple : bootBuiltins "tuple" = some (.type "tuple") := by decide +kernel
theorem bi_dict : bootBuiltins "dict" = some (.type "dict") := by decide +kernel
theorem bi_range : bootBuiltins "range" = some (.type "range") := by decide +kernel
theorem bi_len : bootBuiltins "len" = some (.builtin "len") := by decide +kernel
theorem bi_abs : bootBuiltins "abs" = some (.builtin "abs") := by decide +kernel
theorem bi_min : bootBuiltins "min" = some (.builtin "min") := by decide +kernel
theorem bi_max : bootBuiltins "max" = some (.builtin "max") := by decide +kernel
theorem bi_sum : bootBuiltins "sum" = some (.builtin "sum") := by decide +kernel
theorem bi_isinstance : bootBuiltins "isinstance" = some (.builtin "isinstance") := by decide +kernel
end Ab
namespace Ab
open PySem L2
section
variable {Γ : List Sl} {Post : Re → List Sl → Prop}
theorem addp_i {i j : Int} (p : Post (.val (.int (i + j))) Γ) : AddP (.val (.int i)) (.val (.int j)) Γ Post := .inl ⟨i, j, rfl, rfl, p⟩
theorem addp_s {s t : Str} (hz : s.length + t.length ≤ 1000000) (p : Post (.val (.str (s ++ t))) Γ) : AddP (.val (.str s)) (.val (.str t)) Γ Post := .inr (.inl ⟨s, t, rfl, rfl, hz, p⟩)
theorem addp_t {ds es : List Dt} (hz : ds.length + es.length ≤ 1000000) (p : Post (.val (.tup (ds ++ es))) Γ) : AddP (.val (.tup ds)) (.val (.tup es)) Γ Post := .inr (.inr (.inl ⟨ds, es, rfl, rfl, hz, p⟩))
theorem addp_l {ra rb : Re} {ds es : List Dt} (h1 : lstOf Γ ra = some ds) (h2 : lstOf Γ rb = some es) (s1 : ra.isScr = false) (s2 : rb.isScr = false) (hz : ds.length + es.length ≤ 1000000) (p : Post (.new (ds ++ es)) Γ) : AddP ra rb Γ Post := .inr (.inr (.inr ⟨ds, es, h1, h2, s1, s2, hz, p⟩))
theorem mulp_l {i j : Int} (hc : -(2 ^ 64) < i ∧ i < 2 ^ 64) (p : Post (.val (.int (i * j))) Γ) : MulP (.val (.int i)) (.val (.int j)) Γ Post := ⟨i, j, rfl, rfl, .inl (.inl hc), p⟩
theorem mulp_r {i j : Int} (hc : -(2 ^ 64) < j ∧ j < 2 ^ 64) (p : Post (.val (.int (i * j))) Γ) : MulP (.val (.int i)) (.val (.int j)) Γ Post := ⟨i, j, rfl, rfl, .inl (.inr hc), p⟩
theorem eqp_s {neg : Bool} {x y : V} (hs : scal x y = true) (p : Post (.val (.bl (neg ^^ decide (x = y)))) Γ) : EqP neg (.val (.raw x)) (.val (.raw y)) Γ Post := .inl ⟨x, y, rfl, rfl, hs, p⟩
theorem dec_i {i j : Int} : decide (V.int i = V.int j) = decide (i = j) := by
  by_cases h : i = j
  · subst h; simp
  · have : ¬ V.int i = V.int j := fun z => h (V.int.inj z)
    rw [decide_eq_false this, decide_eq_false h]
/-- == of ints -/
theorem eqp_i {i j : Int} (p : Post (.val (.bl (decide (i = j)))) Γ) : EqP false (.val (.int i)) (.val (.int j)) Γ Post := eqp_s rfl (by rw [dec_i, Bool.false_xor]; exact p)
theorem nep_i {i j : Int} (p : Post (.val (.bl (!decide (i = j)))) Γ) : EqP true (.val (.int i)) (.val (.int j)) Γ Post := eqp_s rfl (by rw [dec_i, Bool.true_xor]; exact p)
theorem eqp_d {neg : Bool} {ra rb : Re} {p q : PyData} (h1 : ra.py Γ = some p) (h2 : rb.py Γ = some q) (s1 : SeqAt.shaped p = true) (s2 : SeqAt.shaped q = true) (k : Post (.val (.bl (neg ^^ PyData.eqv p q))) Γ) : EqP neg ra rb Γ Post := .inr ⟨p, q, h1, h2, s1, s2, k⟩
theorem intp_i {i : Int} (p : Post (.val (.int i)) Γ) : IntP (.val (.int i)) Γ Post := .inl ⟨i, rfl, p⟩
theorem intp_b {b : Bool} (p : Post (.val (.int (if b then 1 else 0))) Γ) : IntP (.val (.bl b)) Γ Post := .inr ⟨b, rfl, p⟩
theorem ltp_i {i j : Int} (p : Post (.val (.bl (decide (i < j)))) Γ) : LtP (.val (.int i)) (.val (.int j)) Γ Post := .inl ⟨i, j, rfl, rfl, p⟩
theorem ixp {ra : Re} {ds : List Dt} {k : Int} {d : Dt} (h1 : seqOf Γ ra = some ds) (h2 : atI ds k = some d) (p : Post (.val d) Γ) : IxP ra (.val (.int k)) Γ Post := .inl ⟨ds, k, d, h1, rfl, h2, p⟩
theorem ixp_s {z : Str} {k : Int} {c : Nat} (hz : z.length ≤ 1000000) (h2 : atI z.cps.toList k = some c) (p : Post (.val (.str ⟨#[c]⟩)) Γ) : IxP (.val (.str z)) (.val (.int k)) Γ Post := .inr ⟨z, k, c, rfl, rfl, hz, h2, p⟩
theorem lenp {r : Re} {ds : List Dt} (h : seqOf Γ r = some ds) (p : Post (.val (.int ds.length)) Γ) : LenP r Γ Post := .inl ⟨ds, h, p⟩
theorem lenp_s {z : Str} (hz : z.length ≤ 1000000) (p : Post (.val (.int z.length)) Γ) : LenP (.val (.str z)) Γ Post := .inr ⟨z, rfl, hz, p⟩
theorem slp_t {ds : List Dt} {lo hi : Option Int} (p : Post (.val (.tup (cutD ds lo hi))) Γ) : SlP (.val (.tup ds)) lo hi Γ Post := .inr (.inl ⟨ds, rfl, p⟩)
theorem slp_s {z : Str} {lo hi : Option Int} (hz : z.length ≤ 1000000) (p : Post (.val (.str (cutS z lo hi))) Γ) : SlP (.val (.str z)) lo hi Γ Post := .inr (.inr ⟨z, rfl, hz, p⟩)
theorem slp_l {ra : Re} {ds : List Dt} {lo hi : Option Int} (h : lstOf Γ ra = some ds) (p : Post (.new (cutD ds lo hi)) Γ) : SlP ra lo hi Γ Post := .inl ⟨ds, h, p⟩
theorem atI_of {α : Type} {xs : List α} {k : Int} {j : Nat} {x : α} (e : k = (j : Int)) (h : xs[j]? = some x) : atI xs k = some x := by
  subst e
  have hj : j < xs.length := (List.getElem?_eq_some_iff.mp h).1
  unfold atI ixN
  rw [if_pos (by omega), if_pos (by omega)]
  simpa using h
end
section
variable {K : PySem.W.Frag} {Γ : List Sl} {Post : Re → List Sl → Prop} {te : TE}
def IsiP (c : String) (r : Re) (Γ : List Sl) (Post : Re → List Sl → Prop) : Prop := (∀ i, r = .own i → ∃ ds, Γ[i]? = some (.acc ds)) ∧ ∃ T b, tyOf r = some T ∧ kitB T c = some b ∧ Post (.val (.bl b)) Γ
theorem we_isiG {c : String} (h : WE K te Γ fun r Γ1 => IsiP c r Γ1 Post) : WE K (tCB (rIsi K) (tCons te (tCons (tC (.ty c)) tNil))) Γ Post := we_isi h
/-- isinstance of a borrowed list -/
theorem isi_own {i : Nat} {ds : List Dt} {c : String} {b : Bool} (h : Γ[i]? = some (.acc ds)) (hk : kitB "list" c = some b) (p : Post (.val (.bl b)) Γ) : IsiP c (.own i) Γ Post :=
  ⟨fun j e => by cases e; exact ⟨ds, h⟩, "list", b, rfl, hk, p⟩
theorem isi_val {d : Dt} {T c : String} {b : Bool} (ht : tyOf (.val d) = some T) (hk : kitB T c = some b) (p : Post (.val (.bl b)) Γ) : IsiP c (.val d) Γ Post :=
  ⟨(fun j e => nomatch e), T, b, ht, hk, p⟩
theorem isi_new {ds : List Dt} {c : String} {b : Bool} (hk : kitB "list" c = some b) (p : Post (.val (.bl b)) Γ) : IsiP c (.new ds) Γ Post :=
  ⟨(fun j e => nomatch e), "list", b, rfl, hk, p⟩
theorem kb_tt : kitB "tuple" "tuple" = some true := by decide +kernel
theorem kb_ll : kitB "list" "list" = some true := by decide +kernel
theorem kb_ii : kitB "int" "int" = some true := by decide +kernel
theorem kb_ib : kitB "int" "bool" = some false := by decide +kernel
theorem kb_bb : kitB "bool" "bool" = some true := by decide +kernel
theorem kb_bi : kitB "bool" "int" = some true := by decide +kernel
theorem kb_ss : kitB "str" "str" = some true := by decide +kernel
theorem kb_sb : kitB "str" "bool" = some false := by decide +kernel
theorem kb_si : kitB "str" "int" = some false := by decide +kernel
theorem kb_tb : kitB "tuple" "bool" = some false := by decide +kernel
theorem kb_ti : kitB "tuple" "int" = some false := by decide +kernel
theorem kb_ts : kitB "tuple" "str" = some false := by decide +kernel
theorem kb_tl : kitB "tuple" "list" = some false := by decide +kernel
theorem kb_lb : kitB "list" "bool" = some false := by decide +kernel
theorem kb_li : kitB "list" "int" = some false := by decide +kernel
theorem kb_ls : kitB "list" "str" = some false := by decide +kernel
theorem kb_lt : kitB "list" "tuple" = some false := by decide +kernel
theorem kb_is : kitB "int" "str" = some false := by decide +kernel
theorem kb_it : kitB "int" "tuple" = some false := by decide +kernel
theorem kb_il : kitB "int" "list" = some false := by decide +kernel
theorem kb_st : kitB "str" "tuple" = some false := by decide +kernel
theorem kb_sl : kitB "str" "list" = some false := by decide +kernel
theorem kb_nb : kitB "NoneType" "bool" = some false := by decide +kernel
theorem kb_ni : kitB "NoneType" "int" = some false := by decide +kernel
theorem kb_ns : kitB "NoneType" "str" = some false := by decide +kernel
theorem kb_nt : kitB "NoneType" "tuple" = some false := by decide +kernel
theorem kb_nl : kitB "NoneType" "list" = some false := by decide +kernel
theorem kb_bs : kitB "bool" "str" = some false := by decide +kernel
theorem kb_bt : kitB "bool" "tuple" = some false := by decide +kernel
theorem kb_bl : kitB "bool" "list" = some false := by decide +kernel
end
/-- a goal of one's own, at which the walk stops -/
inductive Hold (p : Prop) : Prop where
  | a (h : p)
  | b (h : p) (_ : True)
theorem Hold.get {p : Prop} (h : Hold p) : p := by
  cases h with
  | a h => exact h
  | b h _ => exact h
/-- a block behind what its first part comes to -/
theorem ws_cut {K : PySem.W.Frag} {pin : List Nat} {Γ : List Sl} {P : Ps} {t u : TS} (M : List Sl → Prop) (h : WS K pin t Γ { P with nx := fun G => Hold (M G) }) (k : ∀ G, M G → WS K pin u G P) : WS K pin (tSeq t u) Γ P := ws_seq (ws_mono h (fun G hG => k G hG.get) (fun _ _ h => h) (fun _ h => h) (fun _ h => h))
section
variable {K : PySem.W.Frag} {pin : List Nat} {Γ : List Sl} {P : Ps} {te tl : TE} {tt : TT} {tb : TS} {g : TG} {j : Nat} {Post : Re → List Sl → Prop}
theorem for_range1 {t1 : TA} (n : Int) (Inv : Nat → List Sl → Prop) (h : WD K t1 Γ fun ds Γ1 => Hold (ds = [.int n] ∧ -(2 ^ 62) ≤ n ∧ n < 2 ^ 62 ∧ Inv 0 Γ1))
    (turn : ∀ (i : Nat) G, (i : Int) < n → Inv i G → WG K pin g (.int i) G fun G2 => WS K pin tb G2 ⟨fun G => Hold (Inv (i + 1) G), P.rt, P.nx, fun G => Hold (Inv (i + 1) G)⟩) (done : ∀ G, Inv n.toNat G → P.nx G) : WS K pin (tFor (iRng1 t1) g tb) Γ P :=
  ws_for1 fun σ B H E Q q => h σ B H E Q fun vs B' H' ds Γ' g k p => q vs B' H' ds Γ' g k (by
    obtain ⟨e, h1, h2, h3⟩ := p.get
    exact ⟨n, e, h1, h2, fun i G => Hold (Inv i G), .a h3, fun i G hi hG => turn i G hi hG.get, fun G hG => done G hG.get⟩)
theorem for_range2 {t1 : TA} (lo m : Int) (Inv : Nat → List Sl → Prop) (h : WD K t1 Γ fun ds Γ1 => Hold (ds = [.int lo, .int m] ∧ (-(2 ^ 62) ≤ lo ∧ lo < 2 ^ 62 ∧ -(2 ^ 62) ≤ m ∧ m < 2 ^ 62) ∧ Inv 0 Γ1))
    (turn : ∀ (i : Nat) G, lo + (i : Int) < m → Inv i G → WG K pin g (.int (lo + i)) G fun G2 => WS K pin tb G2 ⟨fun G => Hold (Inv (i + 1) G), P.rt, P.nx, fun G => Hold (Inv (i + 1) G)⟩) (done : ∀ G, Inv (m - lo).toNat G → P.nx G) : WS K pin (tFor (iRng2 t1) g tb) Γ P :=
  ws_for2 fun σ B H E Q q => h σ B H E Q fun vs B' H' ds Γ' g k p => q vs B' H' ds Γ' g k (by
    obtain ⟨e, h1, h3⟩ := p.get
    exact ⟨lo, m, e, h1, fun i G => Hold (Inv i G), .a h3, fun i G hi hG => turn i G hi hG.get, fun G hG => done G hG.get⟩)
theorem for_tuple (ds : List Dt) (Inv : Nat → List Sl → Prop) (h : WE K te Γ fun z Γ1 => Hold (z = .val (.tup ds) ∧ Inv 0 Γ1))
    (turn : ∀ (i : Nat) d G, ds[i]? = some d → Inv i G → WG K pin g d G fun G2 => WS K pin tb G2 ⟨fun G => Hold (Inv (i + 1) G), P.rt, P.nx, fun G => Hold (Inv (i + 1) G)⟩) (done : ∀ G, Inv ds.length G → P.nx G) : WS K pin (tFor (iTup K te) g tb) Γ P :=
  ws_forT (we_mono h fun z Γ1 p => by
    obtain ⟨e, h3⟩ := p.get
    exact ⟨ds, e, fun i G => Hold (Inv i G), .a h3, fun i d G hd hG => turn i d G hd hG.get, fun G hG => done G hG.get⟩)
theorem for_lst (ds : List Dt) (Inv : Nat → List Sl → Prop) (h : WE K te Γ fun z Γ1 => Hold (z.dt? = some (.lst ds) ∧ Inv 0 Γ1))
    (turn : ∀ (i : Nat) d G, ds[i]? = some d → Inv i G → WG K pin g d G fun G2 => WS K pin tb G2 ⟨fun G => Hold (Inv (i + 1) G), P.rt, P.nx, fun G => Hold (Inv (i + 1) G)⟩) (done : ∀ G, Inv ds.length G → P.nx G) : WS K pin (tFor (iList K te) g tb) Γ P :=
  ws_forL (we_mono h fun z Γ1 p => by
    obtain ⟨e, h3⟩ := p.get
    exact ⟨_, ds, e, rfl, fun i G => Hold (Inv i G), .a h3, fun i d G hd hG => turn i d G hd hG.get, fun G hG => done G hG.get⟩)
theorem for_acc {k : Nat} (ds : List Dt) (Inv : Nat → List Sl → Prop) (h0 : Γ[k]? = some (.acc ds)) (i0 : Inv 0 Γ) (hk : ∀ i G, Inv i G → G[k]? = some (.acc ds))
    (turn : ∀ (i : Nat) d G, ds[i]? = some d → Inv i G → WG K (k :: pin) g d G fun G2 => WS K (k :: pin) tb G2 ⟨fun G => Hold (Inv (i + 1) G), P.rt, P.nx, fun G => Hold (Inv (i + 1) G)⟩) (done : ∀ G, Inv ds.length G → P.nx G) : WS K pin (tFor (iList K (tVar k)) g tb) Γ P :=
  ws_forA h0 (fun i G => Hold (Inv i G)) (.a i0) (fun i G hG => hk i G hG.get) (fun i d G hd hG => turn i d G hd hG.get) fun G hG => done G hG.get
theorem while_ab (Inv : Nat → List Sl → Prop) (m0 : Nat) (i0 : Inv m0 Γ)
    (turn : ∀ m G, Inv m G → WT K tt G fun z G1 => (z = true → WS K pin tb G1 ⟨fun G => Hold (∃ m', m' < m ∧ Inv m' G), P.rt, P.nx, fun G => Hold (∃ m', m' < m ∧ Inv m' G)⟩) ∧ (z = false → P.nx G1)) : WS K pin (tWhile tt tb) Γ P :=
  ws_while Inv m0 i0 fun m G hG => wt_mono (turn m G hG) fun b G1 ⟨h1, h2⟩ => ⟨fun e => ws_mono (h1 e) (fun G h => h.get) (fun _ _ h => h) (fun _ h => h) (fun G h => h.get), h2⟩
/-- comprehensions, by what is made so far -/
theorem lc_range1 {t1 : TA} (n : Nat) (Inv : Nat → List Dt → List Sl → Prop) (h : WD K t1 Γ fun ds Γ1 => Hold (ds = [.int n] ∧ n ≤ 1000000 ∧ decide (j < Γ1.length) = true ∧ notAcc Γ1[j]? = true ∧ keepV Γ1[j]? = keepV Γ[j]? ∧ Inv 0 [] Γ1))
    (turn : ∀ i es G, i < n → Inv i es G → WT K tt (G.set j (.val (.int i))) fun b G2 => (b = true → WE K te G2 fun r G3 => ∃ d, r.dt? = some d ∧ Hold (Inv (i + 1) (es ++ [d]) (G3.set j (keepV Γ[j]?)))) ∧ (b = false → Hold (Inv (i + 1) es (G2.set j (keepV Γ[j]?)))))
    (done : ∀ es G, Inv n es G → Post (.new es) G) : WE K (tLc (iRng1 t1) (gName j) tt te [j]) Γ Post :=
  we_lc1 fun σ B H E Q q => h σ B H E Q fun vs B' H' ds Γ1 g k p => q vs B' H' ds Γ1 g k (by
    obtain ⟨e, h1, h2, h3, h4, h5⟩ := p.get
    refine ⟨n, e, h1, h2, h3, fun i es G => Hold (Inv i es G), .a h5, fun i es G hi hG => ?_, fun es G hG => done es G hG.get⟩
    rw [h4]
    exact turn i es G hi hG.get)
theorem lc_range2 {t1 : TA} (lo hi : Int) (Inv : Nat → List Dt → List Sl → Prop) (h : WD K t1 Γ fun ds Γ1 => Hold (ds = [.int lo, .int hi] ∧ (-(2 ^ 62) ≤ lo ∧ lo < 2 ^ 62 ∧ -(2 ^ 62) ≤ hi ∧ hi < 2 ^ 62) ∧ (hi - lo).toNat ≤ 1000000 ∧ decide (j < Γ1.length) = true ∧ notAcc Γ1[j]? = true ∧ keepV Γ1[j]? = keepV Γ[j]? ∧ Inv 0 [] Γ1))
    (turn : ∀ (i : Nat) es G, lo + i < hi → Inv i es G → WT K tt (G.set j (.val (.int (lo + i)))) fun b G2 => (b = true → WE K te G2 fun r G3 => ∃ d, r.dt? = some d ∧ Hold (Inv (i + 1) (es ++ [d]) (G3.set j (keepV Γ[j]?)))) ∧ (b = false → Hold (Inv (i + 1) es (G2.set j (keepV Γ[j]?)))))
    (done : ∀ es G, Inv (hi - lo).toNat es G → Post (.new es) G) : WE K (tLc (iRng2 t1) (gName j) tt te [j]) Γ Post :=
  we_lc2 fun σ B H E Q q => h σ B H E Q fun vs B' H' ds Γ1 g k p => q vs B' H' ds Γ1 g k (by
    obtain ⟨e, h0, h1, h2, h3, h4, h5⟩ := p.get
    refine ⟨lo, hi, e, h0, h1, h2, h3, fun i es G => Hold (Inv i es G), .a h5, fun i es G hi hG => ?_, fun es G hG => done es G hG.get⟩
    rw [h4]
    exact turn i es G hi hG.get)
theorem lc_tuple (ds : List Dt) (Inv : Nat → List Dt → List Sl → Prop) (h : WE K tl Γ fun z Γ1 => Hold (z = .val (.tup ds) ∧ ds.length ≤ 1000000 ∧ decide (j < Γ1.length) = true ∧ notAcc Γ1[j]? = true ∧ keepV Γ1[j]? = keepV Γ[j]? ∧ Inv 0 [] Γ1))
    (turn : ∀ (i : Nat) d es G, ds[i]? = some d → Inv i es G → WT K tt (G.set j (.val d)) fun b G2 => (b = true → WE K te G2 fun r G3 => ∃ d, r.dt? = some d ∧ Hold (Inv (i + 1) (es ++ [d]) (G3.set j (keepV Γ[j]?)))) ∧ (b = false → Hold (Inv (i + 1) es (G2.set j (keepV Γ[j]?)))))
    (done : ∀ es G, Inv ds.length es G → Post (.new es) G) : WE K (tLc (iTup K tl) (gName j) tt te [j]) Γ Post :=
  we_lcT (we_mono h fun z Γ1 p => by
    obtain ⟨e, h1, h2, h3, h4, h5⟩ := p.get
    refine ⟨ds, e, h1, h2, h3, fun i es G => Hold (Inv i es G), .a h5, fun i d es G hi hG => ?_, fun es G hG => done es G hG.get⟩
    rw [h4]
    exact turn i d es G hi hG.get)
theorem lc_lst (ds : List Dt) (Inv : Nat → List Dt → List Sl → Prop) (h : WE K tl Γ fun z Γ1 => Hold (z.dt? = some (.lst ds) ∧ ds.length ≤ 1000000 ∧ decide (j < Γ1.length) = true ∧ notAcc Γ1[j]? = true ∧ keepV Γ1[j]? = keepV Γ[j]? ∧ Inv 0 [] Γ1))
    (turn : ∀ (i : Nat) d es G, ds[i]? = some d → Inv i es G → WT K tt (G.set j (.val d)) fun b G2 => (b = true → WE K te G2 fun r G3 => ∃ d, r.dt? = some d ∧ Hold (Inv (i + 1) (es ++ [d]) (G3.set j (keepV Γ[j]?)))) ∧ (b = false → Hold (Inv (i + 1) es (G2.set j (keepV Γ[j]?)))))
    (done : ∀ es G, Inv ds.length es G → Post (.new es) G) : WE K (tLc (iList K tl) (gName j) tt te [j]) Γ Post :=
  we_lcL (we_mono h fun z Γ1 p => by
    obtain ⟨e, h1, h2, h3, h4, h5⟩ := p.get
    refine ⟨_, ds, e, rfl, h1, h2, h3, fun i es G => Hold (Inv i es G), .a h5, fun i d es G hi hG => ?_, fun es G hG => done es G hG.get⟩
    rw [h4]
    exact turn i d es G hi hG.get)
theorem lc_acc {k : Nat} (ds : List Dt) (Inv : Nat → List Dt → List Sl → Prop) (h0 : Γ[k]? = some (.acc ds)) (hn : ds.length ≤ 1000000) (hj : decide (j < Γ.length) = true) (hja : notAcc Γ[j]? = true) (i0 : Inv 0 [] Γ) (hk : ∀ i es G, Inv i es G → G[k]? = some (.acc ds))
    (turn : ∀ (i : Nat) d es G, ds[i]? = some d → Inv i es G → WT K tt (G.set j (.val d)) fun b G2 => (b = true → WE K te G2 fun r G3 => ∃ d, r.dt? = some d ∧ Hold (Inv (i + 1) (es ++ [d]) (G3.set j (keepV Γ[j]?)))) ∧ (b = false → Hold (Inv (i + 1) es (G2.set j (keepV Γ[j]?)))))
    (done : ∀ es G, Inv ds.length es G → Post (.new es) G) : WE K (tLc (iList K (tVar k)) (gName j) tt te [j]) Γ Post :=
  we_lcA h0 hn hj hja (fun i es G => Hold (Inv i es G)) (.a i0) (fun i es G hG => hk i es G hG.get) (fun i d es G hi hG => turn i d es G hi hG.get) fun es G hG => done es G hG.get
/-- .. where the source is told by its evaluation -/
theorem lc_lstH (h : WE K tl Γ fun z Γ1 => Hold (∃ ds, z.dt? = some (.lst ds) ∧ ds.length ≤ 1000000 ∧ decide (j < Γ1.length) = true ∧ notAcc Γ1[j]? = true ∧ ∃ Inv : Nat → List Dt → List Sl → Prop, Inv 0 [] Γ1 ∧
      (∀ (i : Nat) d es Γ', ds[i]? = some d → Inv i es Γ' → WT K tt (Γ'.set j (.val d)) fun b Γ2 => (b = true → WE K te Γ2 fun r Γ3 => ∃ d, r.dt? = some d ∧ Hold (Inv (i + 1) (es ++ [d]) (Γ3.set j (keepV Γ1[j]?)))) ∧ (b = false → Hold (Inv (i + 1) es (Γ2.set j (keepV Γ1[j]?))))) ∧
      ∀ es Γ', Inv ds.length es Γ' → Post (.new es) Γ')) : WE K (tLc (iList K tl) (gName j) tt te [j]) Γ Post :=
  we_lcL (we_mono h fun z Γ1 p => by
    obtain ⟨ds, e, h1, h2, h3, Inv, i0, turn, done⟩ := p.get
    exact ⟨_, ds, e, rfl, h1, h2, h3, fun i es G => Hold (Inv i es G), .a i0, fun i d es G hi hG => turn i d es G hi hG.get, fun es G hG => done es G hG.get⟩)
theorem for_lstH (h : WE K te Γ fun z Γ1 => Hold (∃ ds, z.dt? = some (.lst ds) ∧ ∃ Inv : Nat → List Sl → Prop, Inv 0 Γ1 ∧
      (∀ (i : Nat) d Γ', ds[i]? = some d → Inv i Γ' → WG K pin g d Γ' fun Γ2 => WS K pin tb Γ2 ⟨fun G => Hold (Inv (i + 1) G), P.rt, P.nx, fun G => Hold (Inv (i + 1) G)⟩) ∧ ∀ Γ', Inv ds.length Γ' → P.nx Γ')) : WS K pin (tFor (iList K te) g tb) Γ P :=
  ws_forL (we_mono h fun z Γ1 p => by
    obtain ⟨ds, e, Inv, i0, turn, done⟩ := p.get
    exact ⟨_, ds, e, rfl, fun i G => Hold (Inv i G), .a i0, fun i d G hi hG => turn i d G hi hG.get, fun G hG => done G hG.get⟩)
theorem for_range1H {t1 : TA} (h : WD K t1 Γ fun ds Γ1 => Hold (∃ n : Int, ds = [.int n] ∧ -(2 ^ 62) ≤ n ∧ n < 2 ^ 62 ∧ ∃ Inv : Nat → List Sl → Prop, Inv 0 Γ1 ∧
      (∀ (i : Nat) Γ', (i : Int) < n → Inv i Γ' → WG K pin g (.int i) Γ' fun Γ2 => WS K pin tb Γ2 ⟨fun G => Hold (Inv (i + 1) G), P.rt, P.nx, fun G => Hold (Inv (i + 1) G)⟩) ∧ ∀ Γ', Inv n.toNat Γ' → P.nx Γ')) : WS K pin (tFor (iRng1 t1) g tb) Γ P :=
  ws_for1 fun σ B H E Q q => h σ B H E Q fun vs B' H' ds Γ' g k p => q vs B' H' ds Γ' g k (by
    obtain ⟨n, e, h1, h2, Inv, i0, turn, done⟩ := p.get
    exact ⟨n, e, h1, h2, fun i G => Hold (Inv i G), .a i0, fun i G hi hG => turn i G hi hG.get, fun G hG => done G hG.get⟩)
theorem lc_range1H {t1 : TA} (h : WD K t1 Γ fun ds Γ1 => Hold (∃ n : Nat, ds = [.int n] ∧ n ≤ 1000000 ∧ decide (j < Γ1.length) = true ∧ notAcc Γ1[j]? = true ∧ ∃ Inv : Nat → List Dt → List Sl → Prop, Inv 0 [] Γ1 ∧
      (∀ i es Γ', i < n → Inv i es Γ' → WT K tt (Γ'.set j (.val (.int i))) fun b Γ2 => (b = true → WE K te Γ2 fun r Γ3 => ∃ d, r.dt? = some d ∧ Hold (Inv (i + 1) (es ++ [d]) (Γ3.set j (keepV Γ1[j]?)))) ∧ (b = false → Hold (Inv (i + 1) es (Γ2.set j (keepV Γ1[j]?))))) ∧
      ∀ es Γ', Inv n es Γ' → Post (.new es) Γ')) : WE K (tLc (iRng1 t1) (gName j) tt te [j]) Γ Post :=
  we_lc1 fun σ B H E Q q => h σ B H E Q fun vs B' H' ds Γ1 g k p => q vs B' H' ds Γ1 g k (by
    obtain ⟨n, e, h1, h2, h3, Inv, i0, turn, done⟩ := p.get
    exact ⟨n, e, h1, h2, h3, fun i es G => Hold (Inv i es G), .a i0, fun i es G hi hG => turn i es G hi hG.get, fun es G hG => done es G hG.get⟩)
theorem wt_yes {Q : Bool → List Sl → Prop} (p : Q true Γ) : WT K tYes Γ Q := fun σ B H E R q => q true B H Γ (.refl E) p
end
/-- an owned list is data from now on -/
theorem ws_frz {K : PySem.W.Frag} {pin : List Nat} {Γ : List Sl} {P : Ps} {t : TS} (i : Nat) {ds : List Dt} (h : Γ[i]? = some (.acc ds)) (k : WS K pin t (Γ.set i (.val (.lst ds))) P) : WS K pin t Γ P := fun σ B H D E n r b c => by
  obtain ⟨B', g⟩ := go_frz h E
  exact ws_from k g.s n r b c
/-- sum of a list of ints -/
theorem we_sum {K : PySem.W.Frag} {Γ : List Sl} {Post : Re → List Sl → Prop} {te : TE} (h : WE K te Γ fun r Γ1 => Hold (∃ ns : List Int, lstOf Γ1 r = some (ns.map Dt.int) ∧ Post (.val (.int ns.sum)) Γ1)) : WE K (tCB (rSum K) (tCons te tNil)) Γ Post :=
  we_cb1 (we_mono h fun r Γ1 hp => fun σ B H x E kx Q q => by
    obtain ⟨ns, hs, p⟩ := hp.get
    obtain ⟨a, vs, rfl, hq, ha⟩ := rv_lst E kx hs
    have e : vs = ns.map V.int := IsA.rawsI (xs := ns.map V.int) (by rw [List.map_map]; exact ha)
    subst e
    exact ⟨a, ns, rfl, hq, q _ B H _ Γ1 (.refl E) (.raw _) p⟩)
/-! environments written out -/
def NormP (Γ : List Sl) (Q : List Sl → Prop) : Prop := Q Γ
theorem norm_intro {Γ Γ' : List Sl} {Q : List Sl → Prop} (e : Γ = Γ') (h : Q Γ') : NormP Γ Q := by
  subst e
  exact h
theorem norm_cons {a a' : Sl} {Γ Γt Γt' : List Sl} (e : Γ = a :: Γt) (ea : a = a') (et : Γt = Γt') : Γ = a' :: Γt' := by
  subst ea et
  exact e
theorem norm_v {d : Dt} : slOf (.val d) = .val d := rfl
theorem norm_n {ds : List Dt} : slOf (.new ds) = .acc ds := rfl
theorem norm_o {i : Nat} : slOf (.own i) = .un := rfl
theorem ws_asgN {K : PySem.W.Frag} {pin : List Nat} {Γ : List Sl} {P : Ps} {te : TE} {i : Nat} (hp : pin.contains i = false) (hi : decide (i < Γ.length) = true) (h : WE K te Γ fun z Γ1 => NormP (Γ1.set i (slOf z)) P.nx) : WS K pin (tAsg te (gName i)) Γ P := ws_asg hp hi h
theorem wg_nameN {K : PySem.W.Frag} {pin : List Nat} {Γ : List Sl} {i : Nat} {d : Dt} {Q : List Sl → Prop} (hp : pin.contains i = false) (hi : decide (i < Γ.length) = true) (p : NormP (Γ.set i (.val d)) Q) : WG K pin (gName i) d Γ Q := wg_name hp hi p
theorem we_appendN {K : PySem.W.Frag} {Γ : List Sl} {te : TE} {i : Nat} {ds0 : List Dt} {Post : Re → List Sl → Prop} (h0 : Γ[i]? = some (.acc ds0)) (h : WE K te Γ fun z Γ1 => ∃ d ds, z.dt? = some d ∧ Γ1[i]? = some (.acc ds) ∧ ds.length < 1000000 ∧ NormP (Γ1.set i (.acc (ds ++ [d]))) (Post (.val .non))) :
    WE K (tBM K "list" rAppend (tVar i) (tCons te tNil)) Γ Post := we_append h0 h
theorem ws_setN {K : PySem.W.Frag} {pin : List Nat} {Γ : List Sl} {P : Ps} {te tj : TE} {i : Nat} (h : WE K te Γ fun z Γ1 => ∃ d, z = .val d ∧ (∃ ds1, Γ1[i]? = some (.acc ds1)) ∧ WE K tj Γ1 fun y Γ2 => ∃ ds k j, y = .val (.int k) ∧ Γ2[i]? = some (.acc ds) ∧ ixN ds.length k = some j ∧ NormP (Γ2.set i (.acc (ds.set j d))) P.nx) :
    WS K pin (tAsg te (gSub (tVar i) tj rSetL)) Γ P := ws_setA h
theorem we_reverseN {K : PySem.W.Frag} {Γ : List Sl} {i : Nat} {ds : List Dt} {Post : Re → List Sl → Prop} (h0 : Γ[i]? = some (.acc ds)) (p : NormP (Γ.set i (.acc ds.reverse)) (Post (.val .non))) : WE K (tBM0 K "list" rReverse (tVar i)) Γ Post := we_reverse h0 p
theorem ws_augN {K : PySem.W.Frag} {pin : List Nat} {Γ : List Sl} {P : Ps} {te : TE} {i : Nat} {f : Int → Int → Int} {a : Int} (hx : Γ[i]? = some (.val (.int a))) (hp : pin.contains i = false) (h : WE K te Γ fun z Γ1 => ∃ b, z = .val (.int b) ∧ NormP (Γ1.set i (.val (.int (f a b)))) P.nx) : WS K pin (tAug i te (ipI f)) Γ P := ws_aug hx hp h
theorem we_popAtN {K : PySem.W.Frag} {Γ : List Sl} {te : TE} {i : Nat} {ds0 : List Dt} {Post : Re → List Sl → Prop} (h0 : Γ[i]? = some (.acc ds0)) (h : WE K te Γ fun z Γ1 => ∃ ds k j d, z = .val (.int k) ∧ Γ1[i]? = some (.acc ds) ∧ -(2 ^ 63) ≤ k ∧ k < 2 ^ 63 ∧ seqIndex? k ds.length = some j ∧ ds[j]? = some d ∧ NormP (Γ1.set i (.acc (ds.eraseIdx j))) (Post (.val d))) :
    WE K (tBM K "list" rPopAt (tVar i) (tCons te tNil)) Γ Post := we_popAt h0 h
theorem we_callH {K : PySem.W.Frag} {Γ : List Sl} {Post : Re → List Sl → Prop} {ap : AP} {E0 : XK} {ta : TA} (h : WA K ta Γ fun rs Γ1 => nodupB (ownsOf rs) = true ∧ Hold (ap (rs.map (argSl Γ1)) fun r as' => NormP (putBack rs as' Γ1) (Post r))) : WE K (tCall (toSp K ap) [] E0 ta) Γ Post :=
  we_call fun σ B H E Q q => h σ B H E Q fun vs B' H' rs Γ1 g k p => q vs B' H' rs Γ1 g k ⟨p.1, p.2.get⟩
theorem nd_t {c : Prop} [Decidable c] (h : (!decide c) = true) : ¬ c := by
  intro hc
  rw [decide_eq_true hc] at h
  cases h
theorem nd_f {c : Prop} [Decidable c] (h : (!decide c) = false) : c := by
  by_cases hc : c
  · exact hc
  · rw [decide_eq_false hc] at h; cases h
theorem len_map {α β : Type} (f : α → β) (xs : List α) : ((xs.map f).length : Int) = (xs.length : Int) := by rw [List.length_map]
theorem at_map {α β : Type} {f : α → β} {xs : List α} {k : Int} (h0 : 0 ≤ k) (h1 : k < xs.length) (d : α) : atI (xs.map f) k = some (f (xs.getD k.toNat d)) := by
  refine atI_of (j := k.toNat) (by omega) ?_
  rw [List.getElem?_map, List.getD_eq_getElem?_getD, List.getElem?_eq_getElem (by omega)]
  rfl
/-! ### == of plain data: ints, texts, None, tuples and lists of them; no bools -/
mutual
def plain : Dt → Bool
  | .raw .non => true
  | .raw (.int _) => true
  | .raw (.str s) => PyData.canLay0 (.str s)
  | .raw _ => false
  | .tup ds => plainAll ds
  | .lst ds => plainAll ds
  | .obj _ _ => false
  | .scr _ => false
def plainAll : List Dt → Bool
  | [] => true
  | d :: ds => plain d && plainAll ds
end
theorem eqv_pair {a b c d : Int} : PyData.eqv (.tuple [.int a, .int b]) (.tuple [.int c, .int d]) = decide (a = c ∧ b = d) := by
  simp only [PyData.eqv, PyData.eqvAll, Bool.and_true]
  rw [Bool.eq_iff_iff]
  simp
theorem shaped_pair {a b : Int} : SeqAt.shaped (.tuple [.int a, .int b]) = true := by
  simp [SeqAt.shaped, PyData.canLay0, PyData.canLayAll0, PyData.depth, PyData.depthAll]
theorem py_pair {Γ : List Sl} {a b : Int} : Re.py Γ (.val (.tup [.int a, .int b])) = some (.tuple [.int a, .int b]) := by
  simp [Re.py, Dt.py, pyAll]
theorem eqp_pair {Γ : List Sl} {Post : Re → List Sl → Prop} {neg : Bool} {a b c d : Int} (k : Post (.val (.bl (neg ^^ decide (a = c ∧ b = d)))) Γ) : EqP neg (.val (.tup [.int a, .int b])) (.val (.tup [.int c, .int d])) Γ Post :=
  eqp_d py_pair py_pair shaped_pair shaped_pair (by rw [eqv_pair]; exact k)
end Ab
namespace Ab
open PySem L2
local macro_rules | `(tactic| walk_at "no") => `(tactic| first
  | exact fun h => Bool.noConfusion (show true = false from h)
  | exact fun h => Bool.noConfusion (show false = true from h)
  | exact fun h => absurd (of_decide_eq_true h) (by omega)
  | exact fun h => absurd (by omega) (of_decide_eq_false h)
  | exact fun h => absurd (by omega) (nd_t h)
  | exact fun h => absurd (nd_f h) (by omega)
  | fail "no")
local macro_rules | `(tactic| walk_at "kb") => `(tactic| first | exact kb_tt | exact kb_ll | exact kb_ii | exact kb_ib | exact kb_ss | exact kb_sb | exact kb_si | exact kb_tb | exact kb_ti | exact kb_ts | exact kb_tl | exact kb_lb | exact kb_li | exact kb_ls | exact kb_lt | exact kb_is | exact kb_it | exact kb_il | exact kb_st | exact kb_sl | exact kb_bb | exact kb_bi | exact kb_nb | exact kb_ni | exact kb_ns | exact kb_nt | exact kb_nl | exact kb_bs | exact kb_bt | exact kb_bl | fail "kb")
local macro_rules | `(tactic| walk_at "norm") => `(tactic| first
  | exact (rfl : _ = ([] : List Sl))
  | ((refine' norm_cons (rfl : _ = _ :: _) ?ea ?et); (case ea => first | exact norm_v | exact norm_n | exact norm_o | exact rfl | fail "norm"); (case et => walk_at "norm"))
  | fail "norm")
local macro_rules | `(tactic| walk_at "e") => `(tactic| first
  | ((with_reducible refine' norm_intro ?hn ?_); (case hn => walk_at "norm"))
  | ((with_reducible refine' we_var ?hh ?_); (case hh => exact rfl))
  | ((with_reducible refine' we_own ?hh ?_); (case hh => exact rfl))
  | with_reducible refine we_c ?_
  | with_reducible refine we_addG ?_
  | with_reducible refine addp_i ?_
  | with_reducible refine we_opI0 ?_
  | with_reducible refine we_opI ?_
  | with_reducible refine we_mulG ?_
  | ((with_reducible refine' mulp_r ?h1 ?_); (case h1 => first | decide | omega | fail "m"))
  | ((with_reducible refine' mulp_l ?h1 ?_); (case h1 => first | decide | omega | fail "m"))
  | with_reducible refine we_neg ?_
  | with_reducible refine we_ltG ?_
  | with_reducible refine ltp_i ?_
  | with_reducible refine we_eqG ?_
  | with_reducible refine we_neG ?_
  | with_reducible refine eqp_i ?_
  | with_reducible refine nep_i ?_
  | with_reducible refine we_ixG ?_
  | ((with_reducible refine' ixp ?h1 ?h2 ?_); (case h1 => exact rfl); (case h2 => exact rfl))
  | with_reducible refine we_lenG ?_
  | ((with_reducible refine' lenp ?hh ?_); (case hh => exact rfl))
  | with_reducible refine we_intG ?_
  | with_reducible refine intp_i ?_
  | with_reducible refine intp_b ?_
  | with_reducible refine we_abs ?_
  | with_reducible refine we_tup ?_
  | with_reducible refine we_lst ?_
  | with_reducible refine we_tuple ?_
  | with_reducible refine we_list ?_
  | with_reducible refine we_sum ?_
  | with_reducible refine we_max2 ?_
  | with_reducible refine we_min2 ?_
  | with_reducible refine wd_cons ?_
  | with_reducible refine wd_nil ?_
  | with_reducible refine wa_cons ?_
  | with_reducible refine wa_nil ?_
  | with_reducible refine we_callH ?_
  | with_reducible refine we_isiG ?_
  | ((with_reducible refine' isi_own ?h1 ?h2 ?_); (case h1 => exact rfl); (case h2 => walk_at "kb"))
  | ((with_reducible refine' isi_val ?h1 ?h2 ?_); (case h1 => exact rfl); (case h2 => walk_at "kb"))
  | ((with_reducible refine' isi_new ?h2 ?_); (case h2 => walk_at "kb"))
  | with_reducible refine we_chainI ?_
  | with_reducible refine we_andV ?_
  | with_reducible refine we_orV ?_
  | with_reducible refine we_notV ?_
  | with_reducible refine wt_test ?_
  | with_reducible refine wt_B ?_
  | with_reducible refine wt_yes ?_
  | with_reducible refine wt_and ?_
  | with_reducible refine wt_or ?_
  | with_reducible refine wt_not ?_
  | with_reducible refine ws_seq ?_
  | ((with_reducible refine' ws_retA ?hh ?_); (case hh => exact rfl))
  | with_reducible refine ws_ret ?_
  | with_reducible refine ws_if ?_
  | with_reducible refine ws_nil ?_
  | with_reducible refine ws_expr ?_
  | with_reducible refine ws_asgN rfl rfl ?_
  | with_reducible refine ws_setN ?_
  | with_reducible refine ws_asgG ?_
  | ((with_reducible refine' wg_tup ?hh ?_); (case hh => exact rfl))
  | with_reducible refine wgs_cons ?_
  | with_reducible refine wgs_nil ?_
  | with_reducible refine wg_nameN rfl rfl ?_
  | ((with_reducible refine' we_appendN ?hh ?_); (case hh => exact rfl))
  | ((with_reducible refine' we_reverseN ?hh ?_); (case hh => exact rfl))
  | ((with_reducible refine' ws_augN ?h1 ?h2 ?_); (case h1 => exact rfl); (case h2 => exact rfl))
  | (refine ⟨_, rfl, ⟨_, rfl⟩, ?_⟩)
  | (refine ⟨_, rfl, ?_⟩)
  | (refine ⟨_, _, _, rfl, rfl, rfl, ?_⟩)
  | (refine ⟨_, _, rfl, rfl, (Nat.le_of_ble_eq_true rfl : _ ≤ _), ?_⟩)
  | (refine ⟨_, _, rfl, rfl, ?_⟩)
  | (refine ⟨(Nat.le_of_ble_eq_true rfl : _ ≤ _), ?_⟩)
  | (refine ⟨(rfl : _ = true), ?_⟩)
  | ((refine' ⟨fun _ => ?_, fun hY => absurd hY ?k2⟩); (case k2 => walk_at "no"))
  | ((refine' ⟨fun hY => absurd hY ?k2, fun _ => ?_⟩); (case k2 => walk_at "no"))
  | (refine ⟨⟨(by omega), (by omega)⟩, ?_⟩)
  | (refine ⟨⟨(by decide), (by decide), (by decide)⟩, ?_⟩)
  | (refine ⟨(by first | decide | omega | fail "c"), ?_⟩)
  | fail "stop")
local macro_rules | `(tactic| walk_at "es") => `(tactic| repeat' walk_at "e")
/-! ### the laws' pools: five numbers (PoolIs) or four (Pool4) -/
def PoolIs (c : Int) (ds : List Dt) : Prop := ∃ cell flag seed : Int, ds = [.int cell, .int c, .int flag, .int seed, .int 3] ∧ 0 ≤ cell ∧ 0 ≤ seed ∧ seed < 2147483647
def Pool4 (c : Int) (ds : List Dt) : Prop := ∃ cell flag seed : Int, ds = [.int cell, .int c, .int flag, .int seed] ∧ 0 ≤ cell ∧ 0 ≤ seed ∧ seed < 2147483647
def ap_pool : AP := fun as Post => ∃ (ns : List Int) (k : Int), as = [.val (.scr ns), .val (.int k)] ∧ 0 ≤ k ∧ k < 1000000 ∧ ∀ ds, PoolIs 0 ds → Post (.new ds) as
def ap_pool4 : AP := fun as Post => ∃ (ns : List Int) (k : Int), as = [.val (.scr ns), .val (.int k)] ∧ 0 ≤ k ∧ k < 1000000 ∧ ∀ ds, Pool4 0 ds → Post (.new ds) as
def ap_take : AP := fun as Post => ∃ ds c n, as = [.acc ds, .val (.int n)] ∧ PoolIs c ds ∧ 0 ≤ c ∧ c < 1000000000 ∧ 0 < n ∧ n < 1073741824 ∧ ∀ ds' g, PoolIs (c + 1) ds' → 0 ≤ g → g < n → Post (.val (.int g)) [.acc ds', .val (.int n)]
def ap_take4 : AP := fun as Post => ∃ ds c n, as = [.acc ds, .val (.int n)] ∧ Pool4 c ds ∧ 0 ≤ c ∧ c < 1000000000 ∧ 0 < n ∧ n < 1073741824 ∧ ∀ ds' g, Pool4 (c + 1) ds' → 0 ≤ g → g < n → Post (.val (.int g)) [.acc ds', .val (.int n)]
theorem len_pool (as : List Sl) (Post : Re → List Sl → Prop) (h : ap_pool as Post) : as.length = 2 := by obtain ⟨ns, k, rfl, _⟩ := h; rfl
theorem len_pool4 (as : List Sl) (Post : Re → List Sl → Prop) (h : ap_pool4 as Post) : as.length = 2 := by obtain ⟨ns, k, rfl, _⟩ := h; rfl
theorem len_take (as : List Sl) (Post : Re → List Sl → Prop) (h : ap_take as Post) : as.length = 2 := by obtain ⟨ds, c, n, rfl, _⟩ := h; rfl
theorem len_take4 (as : List Sl) (Post : Re → List Sl → Prop) (h : ap_take4 as Post) : as.length = 2 := by obtain ⟨ds, c, n, rfl, _⟩ := h; rfl
def tPool (K : PySem.W.Frag) : TS :=
    (tSeq (tAsg (tC (.int 0)) (gName 2))
    (tSeq (tIfS (tTest (tOp (rLtG K) (tVar 1) (tCB (rLenV K) (tCons (tVar 0) tNil)))) (tAsg (tCB rAbs (tCons (tCB rInt1 (tCons (tOp (rIx K) (tVar 0) (tVar 1)) tNil)) tNil)) (gName 2)) tNext)
    (tRet (tLst (tCons (tVar 2) (tCons (tC (.int 0)) (tCons (tCB rInt1 (tCons (tOp rGeI (tVar 2) (tOp rPowI (tC (.int 10)) (tC (.int 18)))) tNil)) (tCons (tOp rModI (tCB rInt1 (tCons (tOp (rAddG K) (tVar 2) (tOp (rMulG K) (tVar 1) (tC (.int 7919)))) tNil)) (tC (.int 2147483647))) (tCons (tC (.int 3)) tNil)))))))))
def tPool4 (K : PySem.W.Frag) : TS :=
    (tSeq (tAsg (tC (.int 0)) (gName 2))
    (tSeq (tIfS (tTest (tOp (rLtG K) (tVar 1) (tCB (rLenV K) (tCons (tVar 0) tNil)))) (tAsg (tCB rAbs (tCons (tCB rInt1 (tCons (tOp (rIx K) (tVar 0) (tVar 1)) tNil)) tNil)) (gName 2)) tNext)
    (tRet (tLst (tCons (tVar 2) (tCons (tC (.int 0)) (tCons (tCB rInt1 (tCons (tOp rGeI (tVar 2) (tOp rPowI (tC (.int 10)) (tC (.int 18)))) tNil)) (tCons (tOp rModI (tCB rInt1 (tCons (tOp (rAddG K) (tVar 2) (tOp (rMulG K) (tVar 1) (tC (.int 7919)))) tNil)) (tC (.int 2147483647))) tNil))))))))
def tTakeA (K : PySem.W.Frag) : TS :=
    (tSeq (tAsg (tOp (rAddG K) (tOp (rIx K) (tVar 0) (tC (.int 1))) (tC (.int 1))) (gSub (tVar 0) (tC (.int 1)) rSetL))
    (tSeq (tIfS (tTest (tOp (rEqG K) (tOp (rIx K) (tVar 0) (tC (.int 2))) (tC (.int 1)))) (tSeq (tAsg (tOp rModI (tCB rInt1 (tCons (tOp (rIx K) (tVar 0) (tC (.int 0))) tNil)) (tVar 1)) (gName 2))
    (tSeq (tAsg (tOp rDivI (tOp (rIx K) (tVar 0) (tC (.int 0))) (tVar 1)) (gSub (tVar 0) (tC (.int 0)) rSetL))
    (tRet (tVar 2)))) tNext)
    (tSeq (tAsg (tOp rModI (tCB rInt1 (tCons (tOp (rAddG K) (tOp (rAddG K) (tOp (rMulG K) (tOp (rIx K) (tVar 0) (tC (.int 3))) (tC (.int 48271))) (tOp (rMulG K) (tOp (rIx K) (tVar 0) (tC (.int 1))) (tC (.int 69621)))) (tC (.int 11))) tNil)) (tC (.int 2147483647))) (gName 3))
    (tSeq (tAsg (tOp rModI (tCB rInt1 (tCons (tOp (rAddG K) (tOp (rAddG K) (tOp (rMulG K) (tVar 3) (tC (.int 16807))) (tOp rDivI (tVar 3) (tC (.int 65536)))) (tOp (rMulG K) (tOp (rMulG K) (tOp (rIx K) (tVar 0) (tC (.int 1))) (tOp (rIx K) (tVar 0) (tC (.int 1)))) (tC (.int 40692)))) tNil)) (tC (.int 2147483399))) (gName 4))
    (tRet (tOp rModI (tCB rInt1 (tCons (tOp rDivI (tVar 4) (tOp (rAddG K) (tOp (rIx K) (tVar 0) (tC (.int 1))) (tC (.int 6)))) tNil)) (tVar 1)))))))
def tTakeB (K : PySem.W.Frag) : TS :=
    (tSeq (tAsg (tOp (rAddG K) (tOp (rIx K) (tVar 0) (tC (.int 1))) (tC (.int 1))) (gSub (tVar 0) (tC (.int 1)) rSetL))
    (tSeq (tIfS (tAnd (tTest (tOp (rEqG K) (tOp (rIx K) (tVar 0) (tC (.int 2))) (tC (.int 1)))) (tTest (tOp rGtI (tOp (rIx K) (tVar 0) (tC (.int 0))) (tC (.int 0))))) (tSeq (tAsg (tOp rModI (tCB rInt1 (tCons (tOp (rIx K) (tVar 0) (tC (.int 0))) tNil)) (tVar 1)) (gName 2))
    (tSeq (tAsg (tOp rDivI (tOp (rIx K) (tVar 0) (tC (.int 0))) (tVar 1)) (gSub (tVar 0) (tC (.int 0)) rSetL))
    (tRet (tVar 2)))) tNext)
    (tSeq (tAsg (tOp rModI (tCB rInt1 (tCons (tOp (rAddG K) (tOp (rAddG K) (tOp (rMulG K) (tOp (rIx K) (tVar 0) (tC (.int 3))) (tC (.int 48271))) (tOp (rMulG K) (tOp (rIx K) (tVar 0) (tC (.int 1))) (tC (.int 69621)))) (tC (.int 11))) tNil)) (tC (.int 2147483647))) (gName 3))
    (tSeq (tAsg (tOp rModI (tCB rInt1 (tCons (tOp (rAddG K) (tOp (rAddG K) (tOp (rMulG K) (tVar 3) (tC (.int 16807))) (tOp rDivI (tVar 3) (tC (.int 65536)))) (tOp (rMulG K) (tOp (rMulG K) (tOp (rIx K) (tVar 0) (tC (.int 1))) (tOp (rIx K) (tVar 0) (tC (.int 1)))) (tC (.int 40692)))) tNil)) (tC (.int 2147483399))) (gName 4))
    (tRet (tOp rModI (tCB rInt1 (tCons (tOp rDivI (tVar 4) (tOp (rAddG K) (tOp (rIx K) (tVar 0) (tC (.int 1))) (tC (.int 6)))) tNil)) (tVar 1)))))))
def tTakeC (K : PySem.W.Frag) : TS :=
    (tSeq (tAsg (tOp (rAddG K) (tOp (rIx K) (tVar 0) (tC (.int 1))) (tC (.int 1))) (gSub (tVar 0) (tC (.int 1)) rSetL))
    (tSeq (tIfS (tTest (tOp (rEqG K) (tOp (rIx K) (tVar 0) (tC (.int 2))) (tC (.int 1)))) (tSeq (tAsg (tOp rModI (tCB rInt1 (tCons (tOp (rIx K) (tVar 0) (tC (.int 0))) tNil)) (tVar 1)) (gName 2))
    (tSeq (tAsg (tOp rDivI (tOp (rIx K) (tVar 0) (tC (.int 0))) (tVar 1)) (gSub (tVar 0) (tC (.int 0)) rSetL))
    (tRet (tVar 2)))) tNext)
    (tSeq (tAsg (tOp rModI (tCB rInt1 (tCons (tOp (rAddG K) (tOp (rAddG K) (tOp (rMulG K) (tOp (rIx K) (tVar 0) (tC (.int 3))) (tC (.int 48271))) (tOp (rMulG K) (tOp (rIx K) (tVar 0) (tC (.int 1))) (tC (.int 69621)))) (tC (.int 11))) tNil)) (tC (.int 2147483647))) (gName 3))
    (tSeq (tAsg (tOp rModI (tCB rInt1 (tCons (tOp (rAddG K) (tOp (rAddG K) (tOp (rMulG K) (tVar 3) (tC (.int 16807))) (tOp rDivI (tVar 3) (tC (.int 65536)))) (tOp (rMulG K) (tOp (rMulG K) (tOp (rIx K) (tVar 0) (tC (.int 1))) (tOp (rIx K) (tVar 0) (tC (.int 1)))) (tC (.int 40692)))) tNil)) (tC (.int 2147483399))) (gName 4))
    (tRet (tOp rModI (tCB rInt1 (tCons (tVar 4) tNil)) (tVar 1)))))))
def tTakeD (K : PySem.W.Frag) : TS :=
    (tSeq (tAsg (tOp (rAddG K) (tOp (rIx K) (tVar 0) (tC (.int 1))) (tC (.int 1))) (gSub (tVar 0) (tC (.int 1)) rSetL))
    (tSeq (tIfS (tAnd (tTest (tOp (rEqG K) (tOp (rIx K) (tVar 0) (tC (.int 2))) (tC (.int 1)))) (tTest (tOp rGtI (tOp (rIx K) (tVar 0) (tC (.int 0))) (tC (.int 0))))) (tSeq (tAsg (tOp rModI (tCB rInt1 (tCons (tOp (rIx K) (tVar 0) (tC (.int 0))) tNil)) (tVar 1)) (gName 2))
    (tSeq (tAsg (tOp rDivI (tOp (rIx K) (tVar 0) (tC (.int 0))) (tVar 1)) (gSub (tVar 0) (tC (.int 0)) rSetL))
    (tRet (tVar 2)))) tNext)
    (tSeq (tAsg (tOp rModI (tCB rInt1 (tCons (tOp (rAddG K) (tOp (rAddG K) (tOp (rMulG K) (tOp (rIx K) (tVar 0) (tC (.int 3))) (tC (.int 48271))) (tOp (rMulG K) (tOp (rIx K) (tVar 0) (tC (.int 1))) (tC (.int 69621)))) (tC (.int 11))) tNil)) (tC (.int 2147483647))) (gName 3))
    (tSeq (tAsg (tOp rModI (tCB rInt1 (tCons (tOp (rAddG K) (tOp (rAddG K) (tOp (rMulG K) (tVar 3) (tC (.int 16807))) (tOp rDivI (tVar 3) (tC (.int 65536)))) (tOp (rMulG K) (tOp (rMulG K) (tOp (rIx K) (tVar 0) (tC (.int 1))) (tOp (rIx K) (tVar 0) (tC (.int 1)))) (tC (.int 40692)))) tNil)) (tC (.int 2147483399))) (gName 4))
    (tRet (tOp rModI (tCB rInt1 (tCons (tVar 4) tNil)) (tVar 1)))))))
theorem run_tPool {K : PySem.W.Frag} (as : List Sl) (Post : Re → List Sl → Prop) (h : ap_pool as Post) : WS K [] (tPool K) (as ++ List.replicate (3 - as.length) .un) ⟨fun G => Post (.val .non) (exitArgs [] G as), fun r G => Post r (exitArgs [] G as), fun _ => False, fun _ => False⟩ := by
  obtain ⟨ns, k, rfl, h0, hk, p⟩ := h
  unfold tPool
  show WS K [] _ [.val (.scr ns), .val (.int k), .un] _
  walk_at "e"; walk_at "e"; walk_at "e"
  refine ws_cut (fun G => ∃ c : Int, 0 ≤ c ∧ G = [.val (.scr ns), .val (.int k), .val (.int c)]) ?_ ?_
  · walk_at "es"
    refine ⟨fun h1 => ?_, fun h1 => ?_⟩
    · have h1' := of_decide_eq_true h1
      rw [len_map] at h1'
      walk_at "es"
      refine ixp rfl (at_map h0 h1' 0) ?_
      walk_at "es"
      refine .a ⟨_, ?_, rfl⟩
      split <;> omega
    · walk_at "es"
      exact .a ⟨0, Int.le_refl _, rfl⟩
  · rintro G ⟨c, hc, rfl⟩
    walk_at "es"
    exact p _ ⟨_, _, _, rfl, hc, Int.emod_nonneg _ (by decide), Int.emod_lt_of_pos _ (by decide)⟩
theorem run_tPool4 {K : PySem.W.Frag} (as : List Sl) (Post : Re → List Sl → Prop) (h : ap_pool4 as Post) : WS K [] (tPool4 K) (as ++ List.replicate (3 - as.length) .un) ⟨fun G => Post (.val .non) (exitArgs [] G as), fun r G => Post r (exitArgs [] G as), fun _ => False, fun _ => False⟩ := by
  obtain ⟨ns, k, rfl, h0, hk, p⟩ := h
  unfold tPool4
  show WS K [] _ [.val (.scr ns), .val (.int k), .un] _
  walk_at "e"; walk_at "e"; walk_at "e"
  refine ws_cut (fun G => ∃ c : Int, 0 ≤ c ∧ G = [.val (.scr ns), .val (.int k), .val (.int c)]) ?_ ?_
  · walk_at "es"
    refine ⟨fun h1 => ?_, fun h1 => ?_⟩
    · have h1' := of_decide_eq_true h1
      rw [len_map] at h1'
      walk_at "es"
      refine ixp rfl (at_map h0 h1' 0) ?_
      walk_at "es"
      refine .a ⟨_, ?_, rfl⟩
      split <;> omega
    · walk_at "es"
      exact .a ⟨0, Int.le_refl _, rfl⟩
  · rintro G ⟨c, hc, rfl⟩
    walk_at "es"
    exact p _ ⟨_, _, _, rfl, hc, Int.emod_nonneg _ (by decide), Int.emod_lt_of_pos _ (by decide)⟩
theorem run_tTakeA {K : PySem.W.Frag} (as : List Sl) (Post : Re → List Sl → Prop) (h : ap_take as Post) : WS K [0] (tTakeA K) (as ++ List.replicate (5 - as.length) .un) ⟨fun G => Post (.val .non) (exitArgs [0] G as), fun r G => Post r (exitArgs [0] G as), fun _ => False, fun _ => False⟩ := by
  obtain ⟨ds, c, n, rfl, ⟨cell, flag, seed, rfl, hc, hs, hs2⟩, hc0, hc1, hn, hn2, p⟩ := h
  unfold tTakeA
  show WS K [0] _ [.acc _, .val (.int n), .un, .un, .un] _
  walk_at "es"
  refine ⟨fun h1 => ?_, fun h1 => ?_⟩
  · walk_at "es"
    exact p _ _ ⟨_, _, _, rfl, Int.ediv_nonneg hc (by omega), hs, hs2⟩ (Int.emod_nonneg _ (by omega)) (Int.emod_lt_of_pos _ hn)
  · walk_at "es"
    exact p _ _ ⟨_, _, _, rfl, hc, hs, hs2⟩ (Int.emod_nonneg _ (by omega)) (Int.emod_lt_of_pos _ hn)
theorem run_tTakeB {K : PySem.W.Frag} (as : List Sl) (Post : Re → List Sl → Prop) (h : ap_take as Post) : WS K [0] (tTakeB K) (as ++ List.replicate (5 - as.length) .un) ⟨fun G => Post (.val .non) (exitArgs [0] G as), fun r G => Post r (exitArgs [0] G as), fun _ => False, fun _ => False⟩ := by
  obtain ⟨ds, c, n, rfl, ⟨cell, flag, seed, rfl, hc, hs, hs2⟩, hc0, hc1, hn, hn2, p⟩ := h
  unfold tTakeB
  show WS K [0] _ [.acc _, .val (.int n), .un, .un, .un] _
  walk_at "e"; walk_at "e"; walk_at "e"; walk_at "e"; walk_at "e"; walk_at "e"; walk_at "e"; walk_at "e"; walk_at "e"; walk_at "e"; walk_at "e"; walk_at "e"
  refine ws_cut (fun G => G = [.acc [.int cell, .int (c + 1), .int flag, .int seed, .int 3], .val (.int n), .un, .un, .un]) ?_ ?_
  · walk_at "es"
    refine ⟨fun h1 => ?_, fun h1 => ?_⟩
    · walk_at "es"
      refine ⟨fun h2 => ?_, fun h2 => ?_⟩
      · walk_at "es"
        exact p _ _ ⟨_, _, _, rfl, Int.ediv_nonneg hc (by omega), hs, hs2⟩ (Int.emod_nonneg _ (by omega)) (Int.emod_lt_of_pos _ hn)
      · walk_at "es"
        exact .a rfl
    · walk_at "es"
      exact .a rfl
  · rintro G rfl
    walk_at "es"
    exact p _ _ ⟨_, _, _, rfl, hc, hs, hs2⟩ (Int.emod_nonneg _ (by omega)) (Int.emod_lt_of_pos _ hn)
theorem run_tTakeC {K : PySem.W.Frag} (as : List Sl) (Post : Re → List Sl → Prop) (h : ap_take as Post) : WS K [0] (tTakeC K) (as ++ List.replicate (5 - as.length) .un) ⟨fun G => Post (.val .non) (exitArgs [0] G as), fun r G => Post r (exitArgs [0] G as), fun _ => False, fun _ => False⟩ := by
  obtain ⟨ds, c, n, rfl, ⟨cell, flag, seed, rfl, hc, hs, hs2⟩, hc0, hc1, hn, hn2, p⟩ := h
  unfold tTakeC
  show WS K [0] _ [.acc _, .val (.int n), .un, .un, .un] _
  walk_at "es"
  refine ⟨fun h1 => ?_, fun h1 => ?_⟩
  · walk_at "es"
    exact p _ _ ⟨_, _, _, rfl, Int.ediv_nonneg hc (by omega), hs, hs2⟩ (Int.emod_nonneg _ (by omega)) (Int.emod_lt_of_pos _ hn)
  · walk_at "es"
    exact p _ _ ⟨_, _, _, rfl, hc, hs, hs2⟩ (Int.emod_nonneg _ (by omega)) (Int.emod_lt_of_pos _ hn)
theorem run_tTakeD4 {K : PySem.W.Frag} (as : List Sl) (Post : Re → List Sl → Prop) (h : ap_take4 as Post) : WS K [0] (tTakeD K) (as ++ List.replicate (5 - as.length) .un) ⟨fun G => Post (.val .non) (exitArgs [0] G as), fun r G => Post r (exitArgs [0] G as), fun _ => False, fun _ => False⟩ := by
  obtain ⟨ds, c, n, rfl, ⟨cell, flag, seed, rfl, hc, hs, hs2⟩, hc0, hc1, hn, hn2, p⟩ := h
  unfold tTakeD
  show WS K [0] _ [.acc _, .val (.int n), .un, .un, .un] _
  walk_at "e"; walk_at "e"; walk_at "e"; walk_at "e"; walk_at "e"; walk_at "e"; walk_at "e"; walk_at "e"; walk_at "e"; walk_at "e"; walk_at "e"; walk_at "e"
  refine ws_cut (fun G => G = [.acc [.int cell, .int (c + 1), .int flag, .int seed], .val (.int n), .un, .un, .un]) ?_ ?_
  · walk_at "es"
    refine ⟨fun h1 => ?_, fun h1 => ?_⟩
    · walk_at "es"
      refine ⟨fun h2 => ?_, fun h2 => ?_⟩
      · walk_at "es"
        exact p _ _ ⟨_, _, _, rfl, Int.ediv_nonneg hc (by omega), hs, hs2⟩ (Int.emod_nonneg _ (by omega)) (Int.emod_lt_of_pos _ hn)
      · walk_at "es"
        exact .a rfl
    · walk_at "es"
      exact .a rfl
  · rintro G rfl
    walk_at "es"
    exact p _ _ ⟨_, _, _, rfl, hc, hs, hs2⟩ (Int.emod_nonneg _ (by omega)) (Int.emod_lt_of_pos _ hn)
end Ab
namespace Ab
open PySem L2
local macro_rules | `(tactic| walk_at "no") => `(tactic| first
  | exact fun h => Bool.noConfusion (show true = false from h)
  | exact fun h => Bool.noConfusion (show false = true from h)
  | exact fun h => absurd (of_decide_eq_true h) (by omega)
  | exact fun h => absurd (by omega) (of_decide_eq_false h)
  | exact fun h => absurd (by omega) (nd_t h)
  | exact fun h => absurd (nd_f h) (by omega)
  | fail "no")
local macro_rules | `(tactic| walk_at "kb") => `(tactic| first | exact kb_tt | exact kb_ll | exact kb_ii | exact kb_ib | exact kb_ss | exact kb_sb | exact kb_si | exact kb_tb | exact kb_ti | exact kb_ts | exact kb_tl | exact kb_lb | exact kb_li | exact kb_ls | exact kb_lt | exact kb_is | exact kb_it | exact kb_il | exact kb_st | exact kb_sl | exact kb_bb | exact kb_bi | exact kb_nb | exact kb_ni | exact kb_ns | exact kb_nt | exact kb_nl | exact kb_bs | exact kb_bt | exact kb_bl | fail "kb")
local macro_rules | `(tactic| walk_at "norm") => `(tactic| first
  | exact (rfl : _ = ([] : List Sl))
  | ((refine' norm_cons (rfl : _ = _ :: _) ?ea ?et); (case ea => first | exact norm_v | exact norm_n | exact norm_o | exact rfl | fail "norm"); (case et => walk_at "norm"))
  | fail "norm")
local macro_rules | `(tactic| walk_at "e") => `(tactic| first
  | ((with_reducible refine' norm_intro ?hn ?_); (case hn => walk_at "norm"))
  | ((with_reducible refine' we_var ?hh ?_); (case hh => exact rfl))
  | ((with_reducible refine' we_own ?hh ?_); (case hh => exact rfl))
  | with_reducible refine we_c ?_
  | with_reducible refine we_addG ?_
  | with_reducible refine addp_i ?_
  | with_reducible refine we_opI0 ?_
  | with_reducible refine we_opI ?_
  | with_reducible refine we_mulG ?_
  | ((with_reducible refine' mulp_r ?h1 ?_); (case h1 => first | decide | omega | fail "m"))
  | ((with_reducible refine' mulp_l ?h1 ?_); (case h1 => first | decide | omega | fail "m"))
  | with_reducible refine we_neg ?_
  | with_reducible refine we_ltG ?_
  | with_reducible refine ltp_i ?_
  | with_reducible refine we_eqG ?_
  | with_reducible refine we_neG ?_
  | with_reducible refine eqp_i ?_
  | with_reducible refine nep_i ?_
  | with_reducible refine we_ixG ?_
  | ((with_reducible refine' ixp ?h1 ?h2 ?_); (case h1 => exact rfl); (case h2 => exact rfl))
  | with_reducible refine we_lenG ?_
  | ((with_reducible refine' lenp ?hh ?_); (case hh => exact rfl))
  | with_reducible refine we_intG ?_
  | with_reducible refine intp_i ?_
  | with_reducible refine intp_b ?_
  | with_reducible refine we_abs ?_
  | with_reducible refine we_tup ?_
  | with_reducible refine we_lst ?_
  | with_reducible refine we_tuple ?_
  | with_reducible refine we_list ?_
  | with_reducible refine we_sum ?_
  | with_reducible refine we_max2 ?_
  | with_reducible refine we_min2 ?_
  | with_reducible refine wd_cons ?_
  | with_reducible refine wd_nil ?_
  | with_reducible refine wa_cons ?_
  | with_reducible refine wa_nil ?_
  | with_reducible refine we_callH ?_
  | with_reducible refine we_isiG ?_
  | ((with_reducible refine' isi_own ?h1 ?h2 ?_); (case h1 => exact rfl); (case h2 => walk_at "kb"))
  | ((with_reducible refine' isi_val ?h1 ?h2 ?_); (case h1 => exact rfl); (case h2 => walk_at "kb"))
  | ((with_reducible refine' isi_new ?h2 ?_); (case h2 => walk_at "kb"))
  | with_reducible refine we_chainI ?_
  | with_reducible refine we_andV ?_
  | with_reducible refine we_orV ?_
  | with_reducible refine we_notV ?_
  | with_reducible refine wt_test ?_
  | with_reducible refine wt_B ?_
  | with_reducible refine wt_yes ?_
  | with_reducible refine wt_and ?_
  | with_reducible refine wt_or ?_
  | with_reducible refine wt_not ?_
  | with_reducible refine ws_seq ?_
  | ((with_reducible refine' ws_retA ?hh ?_); (case hh => exact rfl))
  | with_reducible refine ws_ret ?_
  | with_reducible refine ws_if ?_
  | with_reducible refine ws_nil ?_
  | with_reducible refine ws_expr ?_
  | with_reducible refine ws_asgN rfl rfl ?_
  | with_reducible refine ws_setN ?_
  | with_reducible refine ws_asgG ?_
  | ((with_reducible refine' wg_tup ?hh ?_); (case hh => exact rfl))
  | with_reducible refine wgs_cons ?_
  | with_reducible refine wgs_nil ?_
  | with_reducible refine wg_nameN rfl rfl ?_
  | ((with_reducible refine' we_appendN ?hh ?_); (case hh => exact rfl))
  | ((with_reducible refine' we_reverseN ?hh ?_); (case hh => exact rfl))
  | ((with_reducible refine' ws_augN ?h1 ?h2 ?_); (case h1 => exact rfl); (case h2 => exact rfl))
  | (refine ⟨_, rfl, ⟨_, rfl⟩, ?_⟩)
  | (refine ⟨_, rfl, ?_⟩)
  | (refine ⟨_, _, _, rfl, rfl, rfl, ?_⟩)
  | (refine ⟨_, _, rfl, rfl, (Nat.le_of_ble_eq_true rfl : _ ≤ _), ?_⟩)
  | (refine ⟨_, _, rfl, rfl, ?_⟩)
  | (refine ⟨(Nat.le_of_ble_eq_true rfl : _ ≤ _), ?_⟩)
  | (refine ⟨(rfl : _ = true), ?_⟩)
  | ((refine' ⟨fun _ => ?_, fun hY => absurd hY ?k2⟩); (case k2 => walk_at "no"))
  | ((refine' ⟨fun hY => absurd hY ?k2, fun _ => ?_⟩); (case k2 => walk_at "no"))
  | (refine ⟨⟨(by omega), (by omega)⟩, ?_⟩)
  | (refine ⟨⟨(by decide), (by decide), (by decide)⟩, ?_⟩)
  | (refine ⟨(by first | decide | omega | fail "c"), ?_⟩)
  | fail "stop")
local macro_rules | `(tactic| walk_at "es") => `(tactic| repeat' walk_at "e")
/-! ### x is None -/
def isNonR : Re → Bool
  | .val (.raw v) => decide (v = .non)
  | _ => false
theorem we_isN {K : PySem.W.Frag} {Γ : List Sl} {Post : Re → List Sl → Prop} {ta : TE} (h : WE K ta Γ fun r Γ1 => Post (.val (.bl (isNonR r))) Γ1) : WE K (tIsN ta) Γ Post := fun σ B H E Q q => by
  refine h σ B H E _ fun x B1 H1 r Γ1 g k p => ?_
  have e : decide (x = V.non) = isNonR r := by
    cases r with
    | val d =>
      cases d with
      | raw v => cases Is.rawI k; rfl
      | tup ds => obtain ⟨a, xs, rfl, _⟩ := Is.tupR k; rfl
      | lst ds => obtain ⟨a, xs, rfl, _⟩ := Is.lstR k; rfl
      | obj C fs => cases k; rfl
      | scr ns => cases k; rfl
    | new ds => obtain ⟨l, vs, rfl, _⟩ := k; rfl
    | own i => obtain ⟨l, rfl, _⟩ := k; rfl
  rw [e]
  exact q _ B1 H1 _ Γ1 g (.raw _) p
theorem we_notN {K : PySem.W.Frag} {Γ : List Sl} {Post : Re → List Sl → Prop} {ta : TE} (h : WE K ta Γ fun r Γ1 => Post (.val (.bl (!isNonR r))) Γ1) : WE K (tNotN ta) Γ Post := fun σ B H E Q q => by
  refine h σ B H E _ fun x B1 H1 r Γ1 g k p => ?_
  have e : decide (x = V.non) = isNonR r := by
    cases r with
    | val d =>
      cases d with
      | raw v => cases Is.rawI k; rfl
      | tup ds => obtain ⟨a, xs, rfl, _⟩ := Is.tupR k; rfl
      | lst ds => obtain ⟨a, xs, rfl, _⟩ := Is.lstR k; rfl
      | obj C fs => cases k; rfl
      | scr ns => cases k; rfl
    | new ds => obtain ⟨l, vs, rfl, _⟩ := k; rfl
    | own i => obtain ⟨l, rfl, _⟩ := k; rfl
  rw [e]
  exact q _ B1 H1 _ Γ1 g (.raw _) p
local macro_rules | `(tactic| walk_at "e") => `(tactic| first | with_reducible refine we_isN ?_ | with_reducible refine we_notN ?_ | fail "is")
/-! ### _law_same: equal data are the same -/
mutual
def okD : Dt → Bool
  | .raw .non => true
  | .raw (.bl _) => true
  | .raw (.int _) => true
  | .raw (.str _) => true
  | .raw _ => false
  | .tup ds => decide (ds.length ≤ 1000000) && okAll ds
  | .lst ds => decide (ds.length ≤ 1000000) && okAll ds
  | .obj _ _ => false
  | .scr _ => false
def okAll : List Dt → Bool
  | [] => true
  | d :: ds => okD d && okAll ds
end
mutual
def depD : Dt → Nat
  | .raw _ => 0
  | .tup ds => depAll ds + 1
  | .lst ds => depAll ds + 1
  | .obj _ _ => 0
  | .scr _ => 0
def depAll : List Dt → Nat
  | [] => 0
  | d :: ds => max (depD d) (depAll ds)
end
theorem okAll_at : ∀ {ds : List Dt} {i : Nat} {d : Dt}, okAll ds = true → ds[i]? = some d → okD d = true
  | [], _, _, _, h => by simp at h
  | x :: r, 0, d, h, e => by
    rw [okAll, Bool.and_eq_true] at h
    simp at e; subst e; exact h.1
  | x :: r, i + 1, d, h, e => by
    rw [okAll, Bool.and_eq_true] at h
    exact okAll_at h.2 (by simpa using e)
theorem depAll_at : ∀ {ds : List Dt} {i : Nat} {d : Dt}, ds[i]? = some d → depD d ≤ depAll ds
  | [], _, _, h => by simp at h
  | x :: r, 0, d, e => by
    simp at e; subst e; rw [depAll]; omega
  | x :: r, i + 1, d, e => by
    have := depAll_at (ds := r) (i := i) (d := d) (by simpa using e)
    rw [depAll]; omega
def slDt : Sl → Option Dt
  | .val d => some d
  | .acc ds => some (.lst ds)
  | .un => none
def ap_same (n : Nat) : AP := fun as Post => ∃ s0 s1 d, as = [s0, s1] ∧ slDt s0 = some d ∧ slDt s1 = some d ∧ okD d = true ∧ depD d ≤ n ∧ Post (.val (.bl true)) [s0, s1]
theorem len_same {n : Nat} (as : List Sl) (Post : Re → List Sl → Prop) (h : ap_same n as Post) : as.length = 2 := by obtain ⟨s0, s1, d, rfl, _⟩ := h; rfl
def tSame (K : PySem.W.Frag) (ap__law_same : AP) : TS :=
    (tSeq (tIfS (tOr (tB (tCB (rIsi K) (tCons (tVar 0) (tCons (tC (.ty "bool")) tNil)))) (tB (tCB (rIsi K) (tCons (tVar 1) (tCons (tC (.ty "bool")) tNil))))) (tRet (tAndV (tCB (rIsi K) (tCons (tVar 0) (tCons (tC (.ty "bool")) tNil))) (tAndV (tCB (rIsi K) (tCons (tVar 1) (tCons (tC (.ty "bool")) tNil))) (tOp (rEqG K) (tVar 0) (tVar 1))))) tNext)
    (tSeq (tIfS (tAnd (tB (tCB (rIsi K) (tCons (tVar 0) (tCons (tC (.ty "int")) tNil)))) (tB (tCB (rIsi K) (tCons (tVar 1) (tCons (tC (.ty "int")) tNil))))) (tRet (tOp (rEqG K) (tVar 0) (tVar 1))) tNext)
    (tSeq (tIfS (tAnd (tB (tCB (rIsi K) (tCons (tVar 0) (tCons (tC (.ty "str")) tNil)))) (tB (tCB (rIsi K) (tCons (tVar 1) (tCons (tC (.ty "str")) tNil))))) (tRet (tOp (rEqG K) (tVar 0) (tVar 1))) tNext)
    (tSeq (tAsg (tAndV (tCB (rIsi K) (tCons (tVar 0) (tCons (tC (.ty "tuple")) tNil))) (tCB (rIsi K) (tCons (tVar 1) (tCons (tC (.ty "tuple")) tNil)))) (gName 2))
    (tSeq (tIfS (tOr (tB (tVar 2)) (tAnd (tB (tCB (rIsi K) (tCons (tVar 0) (tCons (tC (.ty "list")) tNil)))) (tB (tCB (rIsi K) (tCons (tVar 1) (tCons (tC (.ty "list")) tNil)))))) (tSeq (tIfS (tTest (tOp (rNeG K) (tCB (rLenV K) (tCons (tVar 0) tNil)) (tCB (rLenV K) (tCons (tVar 1) tNil)))) (tRet (tC (.bl false))) tNext)
    (tSeq (tFor (iRng1 (tCons (tCB (rLenV K) (tCons (tVar 0) tNil)) tNil)) (gName 3) (tIfS (tNot (tB (tCall (toSp K ap__law_same) [] E0 (tCons (tOp (rIx K) (tVar 0) (tVar 3)) (tCons (tOp (rIx K) (tVar 1) (tVar 3)) tNil))))) (tRet (tC (.bl false))) tNext))
    (tRet (tC (.bl true))))) tNext)
    (tRet (tAndV (tIsN (tVar 0)) (tIsN (tVar 1)))))))))
/-- what is asked of the calls within -/
def SameIn (n : Nat) (ap : AP) : Prop := ∀ d Post, okD d = true → depD d < n → Post (.val (.bl true)) [.val d, .val d] → ap [.val d, .val d] Post
theorem run_tSame {K : PySem.W.Frag} {n : Nat} {ap : AP} (hap : SameIn n ap) (as : List Sl) (Post : Re → List Sl → Prop) (h : ap_same n as Post) : WS K [0, 1] (tSame K ap) (as ++ List.replicate (4 - as.length) .un) ⟨fun G => Post (.val .non) (exitArgs [0, 1] G as), fun r G => Post r (exitArgs [0, 1] G as), fun _ => False, fun _ => False⟩ := by
  obtain ⟨s0, s1, d, rfl, h0, h1, ok, dp, p⟩ := h
  unfold tSame
  show WS K [0, 1] _ [s0, s1, .un, .un] _
  have acc0 : ∀ {s : Sl} {d : Dt}, slDt s = some d → s = .val d ∨ ∃ ds, d = .lst ds ∧ s = .acc ds := fun {s d} h => by
    cases s with
    | un => cases h
    | val e => cases h; exact .inl rfl
    | acc es => cases h; exact .inr ⟨es, rfl, rfl⟩
  have scal : ∀ v : V, d = .raw v → s0 = .val (.raw v) ∧ s1 = .val (.raw v) := fun v e => by
    subst e
    rcases acc0 h0 with rfl | ⟨ds, e, _⟩
    · rcases acc0 h1 with rfl | ⟨ds, e, _⟩
      · exact ⟨rfl, rfl⟩
      · cases e
    · cases e
  cases d with
  | obj C fs => simp [okD] at ok
  | scr ns => simp [okD] at ok
  | raw v =>
    obtain ⟨rfl, rfl⟩ := scal v rfl
    cases v with
    | non => walk_at "es"; exact p
    | bl b =>
      walk_at "es"
      refine eqp_s rfl ?_
      rw [decide_eq_true rfl]
      exact ⟨rfl, p⟩
    | int i =>
      walk_at "es"
      rw [decide_eq_true rfl]
      exact p
    | str x =>
      walk_at "es"
      refine eqp_s rfl ?_
      rw [decide_eq_true rfl]
      exact ⟨rfl, p⟩
    | byt b => simp [okD] at ok
    | flt b => simp [okD] at ok
    | ref a => simp [okD] at ok
    | ty t => simp [okD] at ok
  | tup ds =>
    rw [okD, Bool.and_eq_true, decide_eq_true_eq] at ok
    obtain ⟨hlen, ok⟩ := ok
    rw [depD] at dp
    have e0 : s0 = .val (.tup ds) := by
      rcases acc0 h0 with rfl | ⟨_, e, _⟩
      · rfl
      · cases e
    have e1 : s1 = .val (.tup ds) := by
      rcases acc0 h1 with rfl | ⟨_, e, _⟩
      · rfl
      · cases e
    subst e0 e1
    walk_at "es"
    refine for_range1 ds.length (fun i G => ∃ s3, G = [.val (.tup ds), .val (.tup ds), .val (.bl true), s3]) ?_ ?_ ?_
    · walk_at "es"
      exact .a ⟨rfl, by omega, by omega, _, rfl⟩
    · rintro i G hi ⟨s3, rfl⟩
      have hi' : i < ds.length := by omega
      have g := List.getElem?_eq_getElem hi'
      walk_at "es"
      refine ixp rfl (atI_of (j := i) rfl g) ?_
      walk_at "es"
      refine ixp rfl (atI_of (j := i) rfl g) ?_
      walk_at "es"
      refine .a (hap _ _ (okAll_at ok g) (by have := depAll_at g; omega) ?_)
      walk_at "es"
      exact .a ⟨_, rfl⟩
    · rintro G ⟨s3, rfl⟩
      walk_at "es"
      exact p
  | lst ds =>
    rw [okD, Bool.and_eq_true, decide_eq_true_eq] at ok
    obtain ⟨hlen, ok⟩ := ok
    rw [depD] at dp
    have e0 : s0 = .val (.lst ds) ∨ s0 = .acc ds := by
      rcases acc0 h0 with rfl | ⟨_, e, rfl⟩
      · exact .inl rfl
      · cases e; exact .inr rfl
    have e1 : s1 = .val (.lst ds) ∨ s1 = .acc ds := by
      rcases acc0 h1 with rfl | ⟨_, e, rfl⟩
      · exact .inl rfl
      · cases e; exact .inr rfl
    rcases e0 with rfl | rfl <;> rcases e1 with rfl | rfl
    · walk_at "es"
      refine for_range1 ds.length (fun i G => ∃ s3, G = [.val (.lst ds), .val (.lst ds), .val (.bl false), s3]) ?_ ?_ ?_
      · walk_at "es"
        exact .a ⟨rfl, by omega, by omega, _, rfl⟩
      · rintro i G hi ⟨s3, rfl⟩
        have hi' : i < ds.length := by omega
        have g := List.getElem?_eq_getElem hi'
        walk_at "es"
        refine ixp rfl (atI_of (j := i) rfl g) ?_
        walk_at "es"
        refine ixp rfl (atI_of (j := i) rfl g) ?_
        walk_at "es"
        refine .a (hap _ _ (okAll_at ok g) (by have := depAll_at g; omega) ?_)
        walk_at "es"
        exact .a ⟨_, rfl⟩
      · rintro G ⟨s3, rfl⟩
        walk_at "es"
        exact p
    · walk_at "es"
      refine for_range1 ds.length (fun i G => ∃ s3, G = [.val (.lst ds), .acc ds, .val (.bl false), s3]) ?_ ?_ ?_
      · walk_at "es"
        exact .a ⟨rfl, by omega, by omega, _, rfl⟩
      · rintro i G hi ⟨s3, rfl⟩
        have hi' : i < ds.length := by omega
        have g := List.getElem?_eq_getElem hi'
        walk_at "es"
        refine ixp rfl (atI_of (j := i) rfl g) ?_
        walk_at "es"
        refine ixp rfl (atI_of (j := i) rfl g) ?_
        walk_at "es"
        refine .a (hap _ _ (okAll_at ok g) (by have := depAll_at g; omega) ?_)
        walk_at "es"
        exact .a ⟨_, rfl⟩
      · rintro G ⟨s3, rfl⟩
        walk_at "es"
        exact p
    · walk_at "es"
      refine for_range1 ds.length (fun i G => ∃ s3, G = [.acc ds, .val (.lst ds), .val (.bl false), s3]) ?_ ?_ ?_
      · walk_at "es"
        exact .a ⟨rfl, by omega, by omega, _, rfl⟩
      · rintro i G hi ⟨s3, rfl⟩
        have hi' : i < ds.length := by omega
        have g := List.getElem?_eq_getElem hi'
        walk_at "es"
        refine ixp rfl (atI_of (j := i) rfl g) ?_
        walk_at "es"
        refine ixp rfl (atI_of (j := i) rfl g) ?_
        walk_at "es"
        refine .a (hap _ _ (okAll_at ok g) (by have := depAll_at g; omega) ?_)
        walk_at "es"
        exact .a ⟨_, rfl⟩
      · rintro G ⟨s3, rfl⟩
        walk_at "es"
        exact p
    · walk_at "es"
      refine for_range1 ds.length (fun i G => ∃ s3, G = [.acc ds, .acc ds, .val (.bl false), s3]) ?_ ?_ ?_
      · walk_at "es"
        exact .a ⟨rfl, by omega, by omega, _, rfl⟩
      · rintro i G hi ⟨s3, rfl⟩
        have hi' : i < ds.length := by omega
        have g := List.getElem?_eq_getElem hi'
        walk_at "es"
        refine ixp rfl (atI_of (j := i) rfl g) ?_
        walk_at "es"
        refine ixp rfl (atI_of (j := i) rfl g) ?_
        walk_at "es"
        refine .a (hap _ _ (okAll_at ok g) (by have := depAll_at g; omega) ?_)
        walk_at "es"
        exact .a ⟨_, rfl⟩
      · rintro G ⟨s3, rfl⟩
        walk_at "es"
        exact p
end Ab
namespace Lk61
open PySem L2 Ab
def topS (i : Nat) : Stmt := PySem.Challenge.pw_stylepages_k61_galley_of_paragraphs.main.body.getD i (.Pass ⟨0, 0, 0, 0⟩)
abbrev s_space_and_cut : Stmt := topS 1
abbrev N_space_and_cut : List Str := ["paragraph", "previous", "above", "keep", "below"]
theorem sc_space_and_cut : FnScope ["paragraph", "previous", "above", "keep", "below"] ["paragraph", "previous"] (defScope s_space_and_cut) := ⟨rfl, rfl, rfl, by decide +kernel, rfl, by decide +kernel, by decide +kernel⟩
abbrev s_paragraph_lines : Stmt := topS 2
abbrev N_paragraph_lines : List Str := ["paragraph", "previous", "lines", "lead", "least", "space", "cut", "found", "number", "notes", "floats"]
theorem sc_paragraph_lines : FnScope ["paragraph", "previous", "lines", "lead", "least", "space", "cut", "found", "number", "notes", "floats"] ["paragraph", "previous"] (defScope s_paragraph_lines) := ⟨rfl, rfl, rfl, by decide +kernel, rfl, by decide +kernel, by decide +kernel⟩
abbrev s_make_galley : Stmt := topS 3
abbrev N_make_galley : List Str := ["paragraphs", "galley", "previous", "paragraph"]
theorem sc_make_galley : FnScope ["paragraphs", "galley", "previous", "paragraph"] ["paragraphs"] (defScope s_make_galley) := ⟨rfl, rfl, rfl, by decide +kernel, rfl, by decide +kernel, by decide +kernel⟩
abbrev s__law_pool : Stmt := topS 5
abbrev N__law_pool : List Str := ["_law_script", "_law_at", "_law_cell"]
theorem sc__law_pool : FnScope ["_law_script", "_law_at", "_law_cell"] ["_law_script", "_law_at"] (defScope s__law_pool) := ⟨rfl, rfl, rfl, by decide +kernel, rfl, by decide +kernel, by decide +kernel⟩
abbrev s__law_take : Stmt := topS 6
abbrev N__law_take : List Str := ["_law_pool_here", "_law_many", "_law_got", "_law_one", "_law_two"]
theorem sc__law_take : FnScope ["_law_pool_here", "_law_many", "_law_got", "_law_one", "_law_two"] ["_law_pool_here", "_law_many"] (defScope s__law_take) := ⟨rfl, rfl, rfl, by decide +kernel, rfl, by decide +kernel, by decide +kernel⟩
abbrev s__law_same : Stmt := topS 7
abbrev N__law_same : List Str := ["_law_one", "_law_two", "_law_both", "_law_k"]
theorem sc__law_same : FnScope ["_law_one", "_law_two", "_law_both", "_law_k"] ["_law_one", "_law_two"] (defScope s__law_same) := ⟨rfl, rfl, rfl, by decide +kernel, rfl, by decide +kernel, by decide +kernel⟩
abbrev s__law_heights : Stmt := topS 8
abbrev N__law_heights : List Str := ["_law_pool_here", "_law_many", "_law_k"]
theorem sc__law_heights : FnScope ["_law_pool_here", "_law_many", "_law_k"] ["_law_pool_here", "_law_many"] (defScope s__law_heights) := ⟨rfl, rfl, rfl, by decide +kernel, rfl, by decide +kernel, by decide +kernel⟩
abbrev s__law_lines : Stmt := topS 9
abbrev N__law_lines : List Str := ["_law_pool_here", "_law_many", "_law_floats", "_law_lines_here", "_law_k", "_law_sort", "_law_notes", "_law_some", "_law_own"]
theorem sc__law_lines : FnScope ["_law_pool_here", "_law_many", "_law_floats", "_law_lines_here", "_law_k", "_law_sort", "_law_notes", "_law_some", "_law_own"] ["_law_pool_here", "_law_many", "_law_floats"] (defScope s__law_lines) := ⟨rfl, rfl, rfl, by decide +kernel, rfl, by decide +kernel, by decide +kernel⟩
abbrev s__law_paragraphs : Stmt := topS 10
abbrev N__law_paragraphs : List Str := ["_law_pool_here", "_law_marks", "_law_rows", "_law_floats", "_law_room", "_law_count", "_law_k", "_law_bound", "_law_many", "_law_lead", "_law_least", "_law_keep", "_law_above", "_law_below", "_law_lines_here", "_law_line"]
theorem sc__law_paragraphs : FnScope ["_law_pool_here", "_law_marks", "_law_rows", "_law_floats", "_law_room", "_law_count", "_law_k", "_law_bound", "_law_many", "_law_lead", "_law_least", "_law_keep", "_law_above", "_law_below", "_law_lines_here", "_law_line"] ["_law_pool_here", "_law_marks"] (defScope s__law_paragraphs) := ⟨rfl, rfl, rfl, by decide +kernel, rfl, by decide +kernel, by decide +kernel⟩
abbrev s__law_due : Stmt := topS 11
abbrev N__law_due : List Str := ["_law_rows", "_law_due_here", "_law_k", "_law_lines_here", "_law_j", "_law_over", "_law_cut"]
theorem sc__law_due : FnScope ["_law_rows", "_law_due_here", "_law_k", "_law_lines_here", "_law_j", "_law_over", "_law_cut"] ["_law_rows"] (defScope s__law_due) := ⟨rfl, rfl, rfl, by decide +kernel, rfl, by decide +kernel, by decide +kernel⟩
abbrev s_law : Stmt := topS 12
abbrev N_law : List Str := ["_law_script", "_law_rows", "_law_due_here", "_law_some", "_law_few", "_law_row"]
theorem sc_law : FnScope ["_law_script", "_law_rows", "_law_due_here", "_law_some", "_law_few", "_law_row"] ["_law_script"] (defScope s_law) := ⟨rfl, rfl, rfl, by decide +kernel, rfl, by decide +kernel, by decide +kernel⟩
/-- what the top has left -/
structure Txt (K : PySem.W.Frag) (mg : Str → Option Value) where
  m_abs : mg "abs" = none
  m_bool : mg "bool" = none
  m_int : mg "int" = none
  m_isinstance : mg "isinstance" = none
  m_len : mg "len" = none
  m_list : mg "list" = none
  m_max : mg "max" = none
  m_min : mg "min" = none
  m_range : mg "range" = none
  m_str : mg "str" = none
  m_sum : mg "sum" = none
  m_tuple : mg "tuple" = none
  f_space_and_cut : Addr
  fd_space_and_cut : FuncData
  F_space_and_cut : Fun K "space_and_cut" "space_and_cut" s_space_and_cut f_space_and_cut fd_space_and_cut
  g_space_and_cut : mg "space_and_cut" = some (.ref f_space_and_cut)
  b_space_and_cut : Binds K fd_space_and_cut ["paragraph", "previous"] []
  f_paragraph_lines : Addr
  fd_paragraph_lines : FuncData
  F_paragraph_lines : Fun K "paragraph_lines" "paragraph_lines" s_paragraph_lines f_paragraph_lines fd_paragraph_lines
  g_paragraph_lines : mg "paragraph_lines" = some (.ref f_paragraph_lines)
  b_paragraph_lines : Binds K fd_paragraph_lines ["paragraph", "previous"] []
  f_make_galley : Addr
  fd_make_galley : FuncData
  F_make_galley : Fun K "make_galley" "make_galley" s_make_galley f_make_galley fd_make_galley
  g_make_galley : mg "make_galley" = some (.ref f_make_galley)
  b_make_galley : Binds K fd_make_galley ["paragraphs"] []
  f__law_pool : Addr
  fd__law_pool : FuncData
  F__law_pool : Fun K "_law_pool" "_law_pool" s__law_pool f__law_pool fd__law_pool
  g__law_pool : mg "_law_pool" = some (.ref f__law_pool)
  b__law_pool : Binds K fd__law_pool ["_law_script", "_law_at"] []
  f__law_take : Addr
  fd__law_take : FuncData
  F__law_take : Fun K "_law_take" "_law_take" s__law_take f__law_take fd__law_take
  g__law_take : mg "_law_take" = some (.ref f__law_take)
  b__law_take : Binds K fd__law_take ["_law_pool_here", "_law_many"] []
  f__law_same : Addr
  fd__law_same : FuncData
  F__law_same : Fun K "_law_same" "_law_same" s__law_same f__law_same fd__law_same
  g__law_same : mg "_law_same" = some (.ref f__law_same)
  b__law_same : Binds K fd__law_same ["_law_one", "_law_two"] []
  f__law_heights : Addr
  fd__law_heights : FuncData
  F__law_heights : Fun K "_law_heights" "_law_heights" s__law_heights f__law_heights fd__law_heights
  g__law_heights : mg "_law_heights" = some (.ref f__law_heights)
  b__law_heights : Binds K fd__law_heights ["_law_pool_here", "_law_many"] []
  f__law_lines : Addr
  fd__law_lines : FuncData
  F__law_lines : Fun K "_law_lines" "_law_lines" s__law_lines f__law_lines fd__law_lines
  g__law_lines : mg "_law_lines" = some (.ref f__law_lines)
  b__law_lines : Binds K fd__law_lines ["_law_pool_here", "_law_many", "_law_floats"] []
  f__law_paragraphs : Addr
  fd__law_paragraphs : FuncData
  F__law_paragraphs : Fun K "_law_paragraphs" "_law_paragraphs" s__law_paragraphs f__law_paragraphs fd__law_paragraphs
  g__law_paragraphs : mg "_law_paragraphs" = some (.ref f__law_paragraphs)
  b__law_paragraphs : Binds K fd__law_paragraphs ["_law_pool_here", "_law_marks"] []
  f__law_due : Addr
  fd__law_due : FuncData
  F__law_due : Fun K "_law_due" "_law_due" s__law_due f__law_due fd__law_due
  g__law_due : mg "_law_due" = some (.ref f__law_due)
  b__law_due : Binds K fd__law_due ["_law_rows"] []
  f_law : Addr
  fd_law : FuncData
  F_law : Fun K "law" "law" s_law f_law fd_law
  g_law : mg "law" = some (.ref f_law)
  b_law : Binds K fd_law ["_law_script"] []
def t_space_and_cut (K : PySem.W.Frag) : TS :=
    (tSeq (tIfS (tB (tIsN (tVar 1))) (tRet (tTup (tCons (tC (.int 0)) (tCons (tC (.bl true)) tNil)))) tNext)
    (tSeq (tAsg (tOp (rIx K) (tVar 0) (tC (.int 4))) (gName 2))
    (tSeq (tAsg (tOp (rIx K) (tVar 1) (tC (.int 3))) (gName 3))
    (tSeq (tAsg (tOp (rIx K) (tVar 1) (tC (.int 5))) (gName 4))
    (tRet (tTup (tCons (tCB rMx2 (tCons (tVar 2) (tCons (tVar 4) tNil))) (tCons (tOp (rEqG K) (tVar 3) (tC (.str "no"))) tNil))))))))
def t_paragraph_lines (K : PySem.W.Frag) (ap_space_and_cut : AP) : TS :=
    (tSeq (tAsg (tSl (rSlG K) (tVar 0) tNoPart (tPart (tC (.int 3)))) (gTup K 3 (gCons (gName 2) (gCons (gName 3) (gCons (gName 4) gNil)))))
    (tSeq (tAsg (tCall (toSp K ap_space_and_cut) [] E0 (tCons (tVar 0) (tCons (tVar 1) tNil))) (gTup K 2 (gCons (gName 5) (gCons (gName 6) gNil))))
    (tSeq (tAsg (tLst tNil) (gName 7))
    (tSeq (tFor (iRng1 (tCons (tCB (rLenV K) (tCons (tVar 2) tNil)) tNil)) (gName 8) (tSeq (tIfS (tTest (tOp rGtI (tVar 8) (tC (.int 0)))) (tSeq (tAsg (tC (.int 0)) (gName 5))
    (tAsg (tAndV (tOp rGeI (tVar 8) (tVar 4)) (tOp rGeI (tOp rSubI (tCB (rLenV K) (tCons (tVar 2) tNil)) (tVar 8)) (tVar 4))) (gName 6))) tNext)
    (tSeq (tAsg (tOp (rIx K) (tVar 2) (tVar 8)) (gTup K 2 (gCons (gName 9) (gCons (gName 10) gNil))))
    (tDrop (tBM K "list" rAppend (tVar 7) (tCons (tTup (tCons (tVar 3) (tCons (tVar 5) (tCons (tVar 6) (tCons (tVar 9) (tCons (tVar 10) tNil)))))) tNil))))))
    (tRet (tVar 7))))))
def t_make_galley (K : PySem.W.Frag) (ap_paragraph_lines : AP) : TS :=
    (tSeq (tAsg (tLst tNil) (gName 1))
    (tSeq (tAsg (tC .non) (gName 2))
    (tSeq (tFor (iTup K (tVar 0)) (gName 3) (tSeq (tDrop (tBM K "list" rExtend (tVar 1) (tCons (tCall (toSp K ap_paragraph_lines) [] E0 (tCons (tVar 3) (tCons (tVar 2) tNil))) tNil)))
    (tAsg (tVar 3) (gName 2))))
    (tRet (tCB (rTupleOf K) (tCons (tVar 1) tNil))))))
def t__law_pool (K : PySem.W.Frag) : TS :=
    (tSeq (tAsg (tC (.int 0)) (gName 2))
    (tSeq (tIfS (tTest (tOp (rLtG K) (tVar 1) (tCB (rLenV K) (tCons (tVar 0) tNil)))) (tAsg (tCB rAbs (tCons (tCB rInt1 (tCons (tOp (rIx K) (tVar 0) (tVar 1)) tNil)) tNil)) (gName 2)) tNext)
    (tRet (tLst (tCons (tVar 2) (tCons (tC (.int 0)) (tCons (tCB rInt1 (tCons (tOp rGeI (tVar 2) (tOp rPowI (tC (.int 10)) (tC (.int 18)))) tNil)) (tCons (tOp rModI (tCB rInt1 (tCons (tOp (rAddG K) (tVar 2) (tOp (rMulG K) (tVar 1) (tC (.int 7919)))) tNil)) (tC (.int 2147483647))) tNil))))))))
def t__law_take (K : PySem.W.Frag) : TS :=
    (tSeq (tAsg (tOp (rAddG K) (tOp (rIx K) (tVar 0) (tC (.int 1))) (tC (.int 1))) (gSub (tVar 0) (tC (.int 1)) rSetL))
    (tSeq (tIfS (tAnd (tTest (tOp (rEqG K) (tOp (rIx K) (tVar 0) (tC (.int 2))) (tC (.int 1)))) (tTest (tOp rGtI (tOp (rIx K) (tVar 0) (tC (.int 0))) (tC (.int 0))))) (tSeq (tAsg (tOp rModI (tCB rInt1 (tCons (tOp (rIx K) (tVar 0) (tC (.int 0))) tNil)) (tVar 1)) (gName 2))
    (tSeq (tAsg (tOp rDivI (tOp (rIx K) (tVar 0) (tC (.int 0))) (tVar 1)) (gSub (tVar 0) (tC (.int 0)) rSetL))
    (tRet (tVar 2)))) tNext)
    (tSeq (tAsg (tOp rModI (tCB rInt1 (tCons (tOp (rAddG K) (tOp (rAddG K) (tOp (rMulG K) (tOp (rIx K) (tVar 0) (tC (.int 3))) (tC (.int 48271))) (tOp (rMulG K) (tOp (rIx K) (tVar 0) (tC (.int 1))) (tC (.int 69621)))) (tC (.int 11))) tNil)) (tC (.int 2147483647))) (gName 3))
    (tSeq (tAsg (tOp rModI (tCB rInt1 (tCons (tOp (rAddG K) (tOp (rAddG K) (tOp (rMulG K) (tVar 3) (tC (.int 16807))) (tOp rDivI (tVar 3) (tC (.int 65536)))) (tOp (rMulG K) (tOp (rMulG K) (tOp (rIx K) (tVar 0) (tC (.int 1))) (tOp (rIx K) (tVar 0) (tC (.int 1)))) (tC (.int 40692)))) tNil)) (tC (.int 2147483399))) (gName 4))
    (tRet (tOp rModI (tCB rInt1 (tCons (tVar 4) tNil)) (tVar 1)))))))
def t__law_same (K : PySem.W.Frag) (ap__law_same : AP) : TS :=
    (tSeq (tIfS (tOr (tB (tCB (rIsi K) (tCons (tVar 0) (tCons (tC (.ty "bool")) tNil)))) (tB (tCB (rIsi K) (tCons (tVar 1) (tCons (tC (.ty "bool")) tNil))))) (tRet (tAndV (tCB (rIsi K) (tCons (tVar 0) (tCons (tC (.ty "bool")) tNil))) (tAndV (tCB (rIsi K) (tCons (tVar 1) (tCons (tC (.ty "bool")) tNil))) (tOp (rEqG K) (tVar 0) (tVar 1))))) tNext)
    (tSeq (tIfS (tAnd (tB (tCB (rIsi K) (tCons (tVar 0) (tCons (tC (.ty "int")) tNil)))) (tB (tCB (rIsi K) (tCons (tVar 1) (tCons (tC (.ty "int")) tNil))))) (tRet (tOp (rEqG K) (tVar 0) (tVar 1))) tNext)
    (tSeq (tIfS (tAnd (tB (tCB (rIsi K) (tCons (tVar 0) (tCons (tC (.ty "str")) tNil)))) (tB (tCB (rIsi K) (tCons (tVar 1) (tCons (tC (.ty "str")) tNil))))) (tRet (tOp (rEqG K) (tVar 0) (tVar 1))) tNext)
    (tSeq (tAsg (tAndV (tCB (rIsi K) (tCons (tVar 0) (tCons (tC (.ty "tuple")) tNil))) (tCB (rIsi K) (tCons (tVar 1) (tCons (tC (.ty "tuple")) tNil)))) (gName 2))
    (tSeq (tIfS (tOr (tB (tVar 2)) (tAnd (tB (tCB (rIsi K) (tCons (tVar 0) (tCons (tC (.ty "list")) tNil)))) (tB (tCB (rIsi K) (tCons (tVar 1) (tCons (tC (.ty "list")) tNil)))))) (tSeq (tIfS (tTest (tOp (rNeG K) (tCB (rLenV K) (tCons (tVar 0) tNil)) (tCB (rLenV K) (tCons (tVar 1) tNil)))) (tRet (tC (.bl false))) tNext)
    (tSeq (tFor (iRng1 (tCons (tCB (rLenV K) (tCons (tVar 0) tNil)) tNil)) (gName 3) (tIfS (tNot (tB (tCall (toSp K ap__law_same) [] E0 (tCons (tOp (rIx K) (tVar 0) (tVar 3)) (tCons (tOp (rIx K) (tVar 1) (tVar 3)) tNil))))) (tRet (tC (.bl false))) tNext))
    (tRet (tC (.bl true))))) tNext)
    (tRet (tAndV (tIsN (tVar 0)) (tIsN (tVar 1)))))))))
def t__law_heights (K : PySem.W.Frag) (ap__law_take : AP) : TS :=
    (tRet (tCB (rTupleOf K) (tCons (tLc (iRng1 (tCons (tVar 1) tNil)) (gName 2) tYes (tOp (rAddG K) (tC (.int 1)) (tCall (toSp K ap__law_take) [] E0 (tCons (tVar 0) (tCons (tC (.int 2000)) tNil)))) [2]) tNil)))
def t__law_lines (K : PySem.W.Frag) (ap__law_take : AP) (ap__law_heights : AP) : TS :=
    (tSeq (tAsg (tLst tNil) (gName 3))
    (tSeq (tFor (iRng1 (tCons (tVar 1) tNil)) (gName 4) (tSeq (tAsg (tCall (toSp K ap__law_take) [] E0 (tCons (tVar 0) (tCons (tC (.int 12)) tNil))) (gName 5))
    (tSeq (tAsg (tCall (toSp K ap__law_heights) [] E0 (tCons (tVar 0) (tCons (tOp (rIx K) (tLst (tCons (tC (.int 0)) (tCons (tC (.int 0)) (tCons (tC (.int 0)) (tCons (tC (.int 0)) (tCons (tC (.int 0)) (tCons (tC (.int 0)) (tCons (tC (.int 0)) (tCons (tC (.int 1)) (tCons (tC (.int 0)) (tCons (tC (.int 2)) (tCons (tC (.int 0)) (tCons (tC (.int 1)) tNil))))))))))))) (tVar 5)) tNil))) (gName 6))
    (tSeq (tAsg (tCB rMn2 (tCons (tCB rInt1 (tCons (tOp rSubI (tC (.int 6)) (tVar 2)) tNil)) (tCons (tOp (rIx K) (tLst (tCons (tC (.int 0)) (tCons (tC (.int 0)) (tCons (tC (.int 0)) (tCons (tC (.int 0)) (tCons (tC (.int 0)) (tCons (tC (.int 0)) (tCons (tC (.int 0)) (tCons (tC (.int 0)) (tCons (tC (.int 1)) (tCons (tC (.int 0)) (tCons (tC (.int 2)) (tCons (tC (.int 1)) tNil))))))))))))) (tVar 5)) tNil))) (gName 7))
    (tSeq (tAsg (tCall (toSp K ap__law_heights) [] E0 (tCons (tVar 0) (tCons (tVar 7) tNil))) (gName 8))
    (tSeq (tAsg (tOp (rAddG K) (tVar 2) (tVar 7)) (gName 2))
    (tDrop (tBM K "list" rAppend (tVar 3) (tCons (tTup (tCons (tVar 6) (tCons (tVar 8) tNil))) tNil)))))))))
    (tRet (tCB (rTupleOf K) (tCons (tVar 3) tNil)))))
def t__law_paragraphs (K : PySem.W.Frag) (ap__law_take : AP) (ap__law_lines : AP) : TS :=
    (tSeq (tAsg (tLst tNil) (gName 2))
    (tSeq (tAsg (tC (.int 0)) (gName 3))
    (tSeq (tAsg (tC (.int 60)) (gName 4))
    (tSeq (tAsg (tCall (toSp K ap__law_take) [] E0 (tCons (tVar 0) (tCons (tOp (rIx K) (tLst (tCons (tC (.int 2)) (tCons (tC (.int 3)) (tCons (tC (.int 6)) (tCons (tC (.int 6)) tNil))))) (tCall (toSp K ap__law_take) [] E0 (tCons (tVar 0) (tCons (tC (.int 4)) tNil)))) tNil))) (gName 5))
    (tSeq (tFor (iRng1 (tCons (tVar 5) tNil)) (gName 6) (tSeq (tAsg (tCB rMn2 (tCons (tCB rInt1 (tCons (tOp (rAddG K) (tOp (rAddG K) (tOp rSubI (tVar 4) (tVar 5)) (tVar 6)) (tC (.int 1))) tNil)) (tCons (tOp (rIx K) (tLst (tCons (tC (.int 2)) (tCons (tC (.int 60)) (tCons (tC (.int 3)) (tCons (tC (.int 12)) tNil))))) (tCall (toSp K ap__law_take) [] E0 (tCons (tVar 0) (tCons (tC (.int 4)) tNil)))) tNil))) (gName 7))
    (tSeq (tAsg (tOp (rAddG K) (tC (.int 1)) (tCall (toSp K ap__law_take) [] E0 (tCons (tVar 0) (tCons (tVar 7) tNil)))) (gName 8))
    (tSeq (tAsg (tOp rSubI (tVar 4) (tVar 8)) (gName 4))
    (tSeq (tAsg (tOp (rAddG K) (tC (.int 1)) (tCall (toSp K ap__law_take) [] E0 (tCons (tVar 0) (tCons (tC (.int 99)) tNil)))) (gName 9))
    (tSeq (tAsg (tOp (rAddG K) (tC (.int 1)) (tCall (toSp K ap__law_take) [] E0 (tCons (tVar 0) (tCons (tC (.int 4)) tNil)))) (gName 10))
    (tSeq (tAsg (tOp (rIx K) (tLst (tCons (tC (.str "no")) (tCons (tC (.str "yes")) (tCons (tC (.str "no")) tNil)))) (tCall (toSp K ap__law_take) [] E0 (tCons (tVar 0) (tCons (tC (.int 3)) tNil)))) (gName 11))
    (tSeq (tAsg (tOp (rMulG K) (tCall (toSp K ap__law_take) [] E0 (tCons (tVar 0) (tCons (tC (.int 2)) tNil))) (tCall (toSp K ap__law_take) [] E0 (tCons (tVar 0) (tCons (tC (.int 100)) tNil)))) (gName 12))
    (tSeq (tAsg (tOp (rMulG K) (tCall (toSp K ap__law_take) [] E0 (tCons (tVar 0) (tCons (tC (.int 2)) tNil))) (tCall (toSp K ap__law_take) [] E0 (tCons (tVar 0) (tCons (tC (.int 100)) tNil)))) (gName 13))
    (tSeq (tAsg (tCall (toSp K ap__law_lines) [] E0 (tCons (tVar 1) (tCons (tVar 8) (tCons (tVar 3) tNil)))) (gName 14))
    (tSeq (tAsg (tOp (rAddG K) (tVar 3) (tCB (rSum K) (tCons (tLc (iTup K (tVar 14)) (gName 15) tYes (tCB (rLenV K) (tCons (tOp (rIx K) (tVar 15) (tC (.int 1))) tNil)) [15]) tNil))) (gName 3))
    (tDrop (tBM K "list" rAppend (tVar 2) (tCons (tTup (tCons (tVar 14) (tCons (tVar 9) (tCons (tVar 10) (tCons (tVar 11) (tCons (tVar 12) (tCons (tVar 13) tNil))))))) tNil))))))))))))))
    (tRet (tVar 2)))))))
def t__law_due (K : PySem.W.Frag) : TS :=
    (tSeq (tAsg (tLst tNil) (gName 1))
    (tSeq (tFor (iRng1 (tCons (tCB (rLenV K) (tCons (tVar 0) tNil)) tNil)) (gName 2) (tSeq (tAsg (tOp (rIx K) (tOp (rIx K) (tVar 0) (tVar 2)) (tC (.int 0))) (gName 3))
    (tFor (iRng1 (tCons (tCB (rLenV K) (tCons (tVar 3) tNil)) tNil)) (gName 4) (tSeq (tAsg (tC (.int 0)) (gName 5))
    (tSeq (tAsg (tOp rGeI (tCB rMn2 (tCons (tCB rInt1 (tCons (tVar 4) tNil)) (tCons (tCB rInt1 (tCons (tOp rSubI (tCB (rLenV K) (tCons (tVar 3) tNil)) (tVar 4)) tNil)) tNil))) (tOp (rIx K) (tOp (rIx K) (tVar 0) (tVar 2)) (tC (.int 2)))) (gName 6))
    (tSeq (tIfS (tTest (tOp (rEqG K) (tVar 4) (tC (.int 0)))) (tAsg (tC (.bl true)) (gName 6)) tNext)
    (tSeq (tIfS (tAnd (tTest (tOp (rEqG K) (tVar 4) (tC (.int 0)))) (tTest (tOp rGtI (tVar 2) (tC (.int 0))))) (tSeq (tAsg (tCB rMx2 (tCons (tCB rInt1 (tCons (tOp (rIx K) (tOp (rIx K) (tVar 0) (tVar 2)) (tC (.int 4))) tNil)) (tCons (tCB rInt1 (tCons (tOp (rIx K) (tOp (rIx K) (tVar 0) (tOp rSubI (tVar 2) (tC (.int 1)))) (tC (.int 5))) tNil)) tNil))) (gName 5))
    (tAsg (tOp (rEqG K) (tOp (rIx K) (tOp (rIx K) (tVar 0) (tOp rSubI (tVar 2) (tC (.int 1)))) (tC (.int 3))) (tC (.str "no"))) (gName 6))) tNext)
    (tDrop (tBM K "list" rAppend (tVar 1) (tCons (tTup (tCons (tOp (rIx K) (tOp (rIx K) (tVar 0) (tVar 2)) (tC (.int 1))) (tCons (tVar 5) (tCons (tVar 6) (tCons (tOp (rIx K) (tOp (rIx K) (tVar 3) (tVar 4)) (tC (.int 0))) (tCons (tOp (rIx K) (tOp (rIx K) (tVar 3) (tVar 4)) (tC (.int 1))) tNil)))))) tNil))))))))))
    (tRet (tVar 1))))
def t_law (K : PySem.W.Frag) (ap__law_paragraphs : AP) (ap__law_pool : AP) (ap__law_due : AP) (ap__law_take : AP) (ap__law_same : AP) (ap_make_galley : AP) : TS :=
    (tSeq (tAsg (tCall (toSp K ap__law_paragraphs) [] E0 (tCons (tCall (toSp K ap__law_pool) [] E0 (tCons (tVar 0) (tCons (tC (.int 0)) tNil))) (tCons (tCall (toSp K ap__law_pool) [] E0 (tCons (tVar 0) (tCons (tC (.int 1)) tNil))) tNil))) (gName 1))
    (tSeq (tAsg (tCall (toSp K ap__law_due) [] E0 (tCons (tVar 1) tNil)) (gName 2))
    (tSeq (tAsg (tCall (toSp K ap__law_take) [] E0 (tCons (tCall (toSp K ap__law_pool) [] E0 (tCons (tVar 0) (tCons (tC (.int 2)) tNil))) (tCons (tOp (rAddG K) (tCB (rLenV K) (tCons (tVar 1) tNil)) (tC (.int 1))) tNil))) (gName 3))
    (tSeq (tAsg (tCB (rSum K) (tCons (tLc (iList K (tSl (rSlG K) (tVar 1) tNoPart (tPart (tVar 3)))) (gName 5) tYes (tCB (rLenV K) (tCons (tOp (rIx K) (tVar 5) (tC (.int 0))) tNil)) [5]) tNil)) (gName 4))
    (tSeq (tIfS (tNot (tB (tCall (toSp K ap__law_same) [] E0 (tCons (tCall (toSp K ap_make_galley) [] E0 (tCons (tCB (rTupleOf K) (tCons (tSl (rSlG K) (tVar 1) tNoPart (tPart (tVar 3))) tNil)) tNil)) (tCons (tCB (rTupleOf K) (tCons (tSl (rSlG K) (tVar 2) tNoPart (tPart (tVar 4))) tNil)) tNil))))) (tRet (tC (.bl false))) tNext)
    (tSeq (tIfS (tNot (tB (tCall (toSp K ap__law_same) [] E0 (tCons (tCall (toSp K ap_make_galley) [] E0 (tCons (tCB (rTupleOf K) (tCons (tVar 1) tNil)) tNil)) (tCons (tCB (rTupleOf K) (tCons (tVar 2) tNil)) tNil))))) (tRet (tC (.bl false))) tNext)
    (tRet (tCall (toSp K ap__law_same) [] E0 (tCons (tCall (toSp K ap_make_galley) [] E0 (tCons (tCB (rTupleOf K) (tCons (tSl (rSlG K) (tVar 1) tNoPart (tPart (tVar 3))) tNil)) tNil)) (tCons (tCB (rTupleOf K) (tCons (tSl (rSlG K) (tVar 2) tNoPart (tPart (tVar 4))) tNil)) tNil))))))))))
section
variable {P : Program} {w : World} {K : PySem.W.Frag} {mg : Str → Option Value} {base : Heap}
theorem tm_space_and_cut (T : Txt K mg) (cdv : Value) (A : Around) (outer : List PySem.Env) (s : Shared) (H : Hp) (E : XK) (hr : Room 0 (A.deeper (PyProof.Rows.envOfC "space_and_cut" (defScope s_space_and_cut) s.heap.objs.size T.f_space_and_cut cdv))) :
    PSs (cxOf CX0 P w K mg base ["paragraph", "previous", "above", "keep", "below"] "space_and_cut" (defScope s_space_and_cut) T.f_space_and_cut cdv A outer s H E).nox (defBody s_space_and_cut) (t_space_and_cut K) :=
      (pss_cons (ps_if (pt_cmp (pc_isN (pv 1))) (pss_one (ps_ret (pe_tup (pa_cons pe_int (pa_cons pe_bl pa_nil))))) pss_nil)
      (pss_cons (ps_set (i := 2) sc_space_and_cut.nd rfl (Or.inl rfl) (pe_ix ix_seq (pv 0) pe_int (fun _ _ => rfl)))
      (pss_cons (ps_set (i := 3) sc_space_and_cut.nd rfl (Or.inl rfl) (pe_ix ix_seq (pv 1) pe_int (fun _ _ => rfl)))
      (pss_cons (ps_set (i := 4) sc_space_and_cut.nd rfl (Or.inl rfl) (pe_ix ix_seq (pv 1) pe_int (fun _ _ => rfl)))
      (pss_one (ps_ret (pe_tup (pa_cons (pe_callB (call_max2 rfl) (by rfl) T.m_max bi_max (pa_cons (pv 2) (pa_cons (pv 4) pa_nil))) (pa_cons (pe_cmpR (op_eqG hr.units) (pv 3) pe_str (nomark _)) pa_nil)))))))))
theorem tm_paragraph_lines {ap_space_and_cut : AP} (T : Txt K mg) (G_space_and_cut : FnOk P w K mg base CX0 1 T.f_space_and_cut T.fd_space_and_cut ["paragraph", "previous"] (toSp K ap_space_and_cut)) (cdv : Value) (A : Around) (outer : List PySem.Env) (s : Shared) (H : Hp) (E : XK) (hr : Room 1 (A.deeper (PyProof.Rows.envOfC "paragraph_lines" (defScope s_paragraph_lines) s.heap.objs.size T.f_paragraph_lines cdv))) :
    PSs (cxOf CX0 P w K mg base ["paragraph", "previous", "lines", "lead", "least", "space", "cut", "found", "number", "notes", "floats"] "paragraph_lines" (defScope s_paragraph_lines) T.f_paragraph_lines cdv A outer s H E).nox (defBody s_paragraph_lines) (t_paragraph_lines K ap_space_and_cut) :=
      (pss_cons (ps_asg (pe_slice sl_G (pv 0) po_none (po_some pe_int)) (pg_tup (by rfl) (pgs_cons (pg_name (i := 2) sc_paragraph_lines.nd rfl (Or.inl rfl)) (pgs_cons (pg_name (i := 3) sc_paragraph_lines.nd rfl (Or.inl rfl)) (pgs_cons (pg_name (i := 4) sc_paragraph_lines.nd rfl (Or.inl rfl)) pgs_nil)))))
      (pss_cons (ps_asg (pe_call G_space_and_cut (hr.mono (by decide)) (by rfl) T.g_space_and_cut T.F_space_and_cut.kp T.b_space_and_cut .nil pass0 (pa_cons (pv 0) (pa_cons (pv 1) pa_nil))) (pg_tup (by rfl) (pgs_cons (pg_name (i := 5) sc_paragraph_lines.nd rfl (Or.inl rfl)) (pgs_cons (pg_name (i := 6) sc_paragraph_lines.nd rfl (Or.inl rfl)) pgs_nil))))
      (pss_cons (ps_set (i := 7) sc_paragraph_lines.nd rfl (Or.inl rfl) (pe_lst pa_nil))
      (pss_cons (ps_for PassesOwn.never rfl (pi_range1 (by rfl) T.m_range (pa_cons (pe_callB call_len (by rfl) T.m_len bi_len (pa_cons (pv 2) pa_nil)) pa_nil)) (pg_name (i := 8) sc_paragraph_lines.nd rfl (Or.inl rfl)) (pss_cons (ps_if (pt_cmpR op_gt (pv 8) pe_int (nomark _)) (pss_cons (ps_set (i := 5) sc_paragraph_lines.nd rfl (Or.inl rfl) pe_int)
      (pss_one (ps_set (i := 6) sc_paragraph_lines.nd rfl (Or.inl rfl) (pe_and (pe_cmpR op_ge (pv 8) (pv 4) (nomark _)) (pe_one (pe_cmpR op_ge (pe_op op_sub (pe_callB call_len (by rfl) T.m_len bi_len (pa_cons (pv 2) pa_nil)) (pv 8)) (pv 4) (nomark _))))))) pss_nil)
      (pss_cons (ps_asg (pe_ix ix_seq (pv 2) (pv 8) (fun _ _ => rfl)) (pg_tup (by rfl) (pgs_cons (pg_name (i := 9) sc_paragraph_lines.nd rfl (Or.inl rfl)) (pgs_cons (pg_name (i := 10) sc_paragraph_lines.nd rfl (Or.inl rfl)) pgs_nil))))
      (pss_one (ps_expr (pe_bm PySem.F.plainAttrs_list PySem.F.slot_list_append PySem.F.type_list_append mt_append (pv 7) (pa_cons (pe_tup (pa_cons (pv 3) (pa_cons (pv 5) (pa_cons (pv 6) (pa_cons (pv 9) (pa_cons (pv 10) pa_nil)))))) pa_nil)))))))
      (pss_one (ps_ret (pv 7)))))))
theorem tm_make_galley {ap_paragraph_lines : AP} (T : Txt K mg) (G_paragraph_lines : FnOk P w K mg base CX0 2 T.f_paragraph_lines T.fd_paragraph_lines ["paragraph", "previous"] (toSp K ap_paragraph_lines)) (cdv : Value) (A : Around) (outer : List PySem.Env) (s : Shared) (H : Hp) (E : XK) (hr : Room 2 (A.deeper (PyProof.Rows.envOfC "make_galley" (defScope s_make_galley) s.heap.objs.size T.f_make_galley cdv))) :
    PSs (cxOf CX0 P w K mg base ["paragraphs", "galley", "previous", "paragraph"] "make_galley" (defScope s_make_galley) T.f_make_galley cdv A outer s H E).nox (defBody s_make_galley) (t_make_galley K ap_paragraph_lines) :=
      (pss_cons (ps_set (i := 1) sc_make_galley.nd rfl (Or.inl rfl) (pe_lst pa_nil))
      (pss_cons (ps_set (i := 2) sc_make_galley.nd rfl (Or.inl rfl) pe_non)
      (pss_cons (ps_for PassesOwn.never rfl (pi_tup (pv 0)) (pg_name (i := 3) sc_make_galley.nd rfl (Or.inl rfl)) (pss_cons (ps_expr (pe_bm PySem.F.plainAttrs_list PySem.F.slot_list_extend PySem.F.type_list_extend mt_extend (pv 1) (pa_cons (pe_call G_paragraph_lines (hr.mono (by decide)) (by rfl) T.g_paragraph_lines T.F_paragraph_lines.kp T.b_paragraph_lines .nil pass0 (pa_cons (pv 3) (pa_cons (pv 2) pa_nil))) pa_nil)))
      (pss_one (ps_set (i := 2) sc_make_galley.nd rfl (Or.inl rfl) (pv 3)))))
      (pss_one (ps_ret (pe_callTy call_tuple_of (by rfl) T.m_tuple bi_tuple (pa_cons (pv 1) pa_nil)))))))
theorem tm__law_pool (T : Txt K mg) (cdv : Value) (A : Around) (outer : List PySem.Env) (s : Shared) (H : Hp) (E : XK) (hr : Room 0 (A.deeper (PyProof.Rows.envOfC "_law_pool" (defScope s__law_pool) s.heap.objs.size T.f__law_pool cdv))) :
    PSs (cxOf CX0 P w K mg base ["_law_script", "_law_at", "_law_cell"] "_law_pool" (defScope s__law_pool) T.f__law_pool cdv A outer s H E).nox (defBody s__law_pool) (t__law_pool K) :=
      (pss_cons (ps_set (i := 2) sc__law_pool.nd rfl (Or.inl rfl) pe_int)
      (pss_cons (ps_if (pt_cmpR (op_ltG hr.units0) (pv 1) (pe_callB call_len (by rfl) T.m_len bi_len (pa_cons (pv 0) pa_nil)) (nomark _)) (pss_one (ps_set (i := 2) sc__law_pool.nd rfl (Or.inl rfl) (pe_callB call_abs (by rfl) T.m_abs bi_abs (pa_cons (pe_callTy call_int1 (by rfl) T.m_int bi_int (pa_cons (pe_ix ix_seq (pv 0) (pv 1) (fun _ _ => rfl)) pa_nil)) pa_nil)))) pss_nil)
      (pss_one (ps_ret (pe_lst (pa_cons (pv 2) (pa_cons pe_int (pa_cons (pe_callTy call_int1 (by rfl) T.m_int bi_int (pa_cons (pe_cmpR op_ge (pv 2) (pe_op op_pow pe_int pe_int) (nomark _)) pa_nil)) (pa_cons (pe_op op_mod (pe_callTy call_int1 (by rfl) T.m_int bi_int (pa_cons (pe_op op_addG (pv 2) (pe_op op_mulG (pv 1) pe_int)) pa_nil)) pe_int) pa_nil)))))))))
theorem tm__law_take (T : Txt K mg) (cdv : Value) (A : Around) (outer : List PySem.Env) (s : Shared) (H : Hp) (E : XK) (hr : Room 0 (A.deeper (PyProof.Rows.envOfC "_law_take" (defScope s__law_take) s.heap.objs.size T.f__law_take cdv))) :
    PSs (cxOf CX0 P w K mg base ["_law_pool_here", "_law_many", "_law_got", "_law_one", "_law_two"] "_law_take" (defScope s__law_take) T.f__law_take cdv A outer s H E).nox (defBody s__law_take) (t__law_take K) :=
      (pss_cons (ps_asg (pe_op op_addG (pe_ix ix_seq (pv 0) pe_int (fun _ _ => rfl)) pe_int) (pg_sub (pv 0) pe_int set_list))
      (pss_cons (ps_if (PW.pt (pw_and (pt_cmpR (op_eqG hr.units) (pe_ix ix_seq (pv 0) pe_int (fun _ _ => rfl)) pe_int (nomark _)) (pw_and1 (pt_cmpR op_gt (pe_ix ix_seq (pv 0) pe_int (fun _ _ => rfl)) pe_int (nomark _))))) (pss_cons (ps_set (i := 2) sc__law_take.nd rfl (Or.inl rfl) (pe_op op_mod (pe_callTy call_int1 (by rfl) T.m_int bi_int (pa_cons (pe_ix ix_seq (pv 0) pe_int (fun _ _ => rfl)) pa_nil)) (pv 1)))
      (pss_cons (ps_asg (pe_op op_fdiv (pe_ix ix_seq (pv 0) pe_int (fun _ _ => rfl)) (pv 1)) (pg_sub (pv 0) pe_int set_list))
      (pss_one (ps_ret (pv 2))))) pss_nil)
      (pss_cons (ps_set (i := 3) sc__law_take.nd rfl (Or.inl rfl) (pe_op op_mod (pe_callTy call_int1 (by rfl) T.m_int bi_int (pa_cons (pe_op op_addG (pe_op op_addG (pe_op op_mulG (pe_ix ix_seq (pv 0) pe_int (fun _ _ => rfl)) pe_int) (pe_op op_mulG (pe_ix ix_seq (pv 0) pe_int (fun _ _ => rfl)) pe_int)) pe_int) pa_nil)) pe_int))
      (pss_cons (ps_set (i := 4) sc__law_take.nd rfl (Or.inl rfl) (pe_op op_mod (pe_callTy call_int1 (by rfl) T.m_int bi_int (pa_cons (pe_op op_addG (pe_op op_addG (pe_op op_mulG (pv 3) pe_int) (pe_op op_fdiv (pv 3) pe_int)) (pe_op op_mulG (pe_op op_mulG (pe_ix ix_seq (pv 0) pe_int (fun _ _ => rfl)) (pe_ix ix_seq (pv 0) pe_int (fun _ _ => rfl))) pe_int)) pa_nil)) pe_int))
      (pss_one (ps_ret (pe_op op_mod (pe_callTy call_int1 (by rfl) T.m_int bi_int (pa_cons (pv 4) pa_nil)) (pv 1))))))))
theorem tm__law_same {ap__law_same : AP} (T : Txt K mg) {k : Nat} (G__law_same : FnOk P w K mg base CX0 k T.f__law_same T.fd__law_same ["_law_one", "_law_two"] (toSp K ap__law_same)) (cdv : Value) (A : Around) (outer : List PySem.Env) (s : Shared) (H : Hp) (E : XK) (hr : Room k (A.deeper (PyProof.Rows.envOfC "_law_same" (defScope s__law_same) s.heap.objs.size T.f__law_same cdv))) :
    PSs (cxOf CX0 P w K mg base ["_law_one", "_law_two", "_law_both", "_law_k"] "_law_same" (defScope s__law_same) T.f__law_same cdv A outer s H E).nox (defBody s__law_same) (t__law_same K ap__law_same) :=
      (pss_cons (ps_if (PW.pt (pw_or (pt_val (pe_callB call_isi (by rfl) T.m_isinstance bi_isinstance (pa_cons (pv 0) (pa_cons (pe_bltn (v := .ty "bool") (by rfl) T.m_bool bi_bool rfl) pa_nil)))) (pw_or1 (pt_val (pe_callB call_isi (by rfl) T.m_isinstance bi_isinstance (pa_cons (pv 1) (pa_cons (pe_bltn (v := .ty "bool") (by rfl) T.m_bool bi_bool rfl) pa_nil))))))) (pss_one (ps_ret (pe_and (pe_callB call_isi (by rfl) T.m_isinstance bi_isinstance (pa_cons (pv 0) (pa_cons (pe_bltn (v := .ty "bool") (by rfl) T.m_bool bi_bool rfl) pa_nil))) (pe_and (pe_callB call_isi (by rfl) T.m_isinstance bi_isinstance (pa_cons (pv 1) (pa_cons (pe_bltn (v := .ty "bool") (by rfl) T.m_bool bi_bool rfl) pa_nil))) (pe_one (pe_cmpR (op_eqG hr.units) (pv 0) (pv 1) (nomark _))))))) pss_nil)
      (pss_cons (ps_if (PW.pt (pw_and (pt_val (pe_callB call_isi (by rfl) T.m_isinstance bi_isinstance (pa_cons (pv 0) (pa_cons (pe_bltn (v := .ty "int") (by rfl) T.m_int bi_int rfl) pa_nil)))) (pw_and1 (pt_val (pe_callB call_isi (by rfl) T.m_isinstance bi_isinstance (pa_cons (pv 1) (pa_cons (pe_bltn (v := .ty "int") (by rfl) T.m_int bi_int rfl) pa_nil))))))) (pss_one (ps_ret (pe_cmpR (op_eqG hr.units) (pv 0) (pv 1) (nomark _)))) pss_nil)
      (pss_cons (ps_if (PW.pt (pw_and (pt_val (pe_callB call_isi (by rfl) T.m_isinstance bi_isinstance (pa_cons (pv 0) (pa_cons (pe_bltn (v := .ty "str") (by rfl) T.m_str bi_str rfl) pa_nil)))) (pw_and1 (pt_val (pe_callB call_isi (by rfl) T.m_isinstance bi_isinstance (pa_cons (pv 1) (pa_cons (pe_bltn (v := .ty "str") (by rfl) T.m_str bi_str rfl) pa_nil))))))) (pss_one (ps_ret (pe_cmpR (op_eqG hr.units) (pv 0) (pv 1) (nomark _)))) pss_nil)
      (pss_cons (ps_set (i := 2) sc__law_same.nd rfl (Or.inl rfl) (pe_and (pe_callB call_isi (by rfl) T.m_isinstance bi_isinstance (pa_cons (pv 0) (pa_cons (pe_bltn (v := .ty "tuple") (by rfl) T.m_tuple bi_tuple rfl) pa_nil))) (pe_one (pe_callB call_isi (by rfl) T.m_isinstance bi_isinstance (pa_cons (pv 1) (pa_cons (pe_bltn (v := .ty "tuple") (by rfl) T.m_tuple bi_tuple rfl) pa_nil))))))
      (pss_cons (ps_if (PW.pt (pw_or (pt_val (pv 2)) (pw_or1 (PW.pt (pw_and (pt_val (pe_callB call_isi (by rfl) T.m_isinstance bi_isinstance (pa_cons (pv 0) (pa_cons (pe_bltn (v := .ty "list") (by rfl) T.m_list bi_list rfl) pa_nil)))) (pw_and1 (pt_val (pe_callB call_isi (by rfl) T.m_isinstance bi_isinstance (pa_cons (pv 1) (pa_cons (pe_bltn (v := .ty "list") (by rfl) T.m_list bi_list rfl) pa_nil)))))))))) (pss_cons (ps_if (pt_cmpR (op_neG hr.units) (pe_callB call_len (by rfl) T.m_len bi_len (pa_cons (pv 0) pa_nil)) (pe_callB call_len (by rfl) T.m_len bi_len (pa_cons (pv 1) pa_nil)) (nomark _)) (pss_one (ps_ret pe_bl)) pss_nil)
      (pss_cons (ps_for PassesOwn.never rfl (pi_range1 (by rfl) T.m_range (pa_cons (pe_callB call_len (by rfl) T.m_len bi_len (pa_cons (pv 0) pa_nil)) pa_nil)) (pg_name (i := 3) sc__law_same.nd rfl (Or.inl rfl)) (pss_one (ps_if (pt_not (pt_val (pe_call G__law_same hr (by rfl) T.g__law_same T.F__law_same.kp T.b__law_same .nil pass0 (pa_cons (pe_ix ix_seq (pv 0) (pv 3) (fun _ _ => rfl)) (pa_cons (pe_ix ix_seq (pv 1) (pv 3) (fun _ _ => rfl)) pa_nil))))) (pss_one (ps_ret pe_bl)) pss_nil)))
      (pss_one (ps_ret pe_bl)))) pss_nil)
      (pss_one (ps_ret (pe_and (pe_cmp (pc_isN (pv 0))) (pe_one (pe_cmp (pc_isN (pv 1))))))))))))
theorem tm__law_heights {ap__law_take : AP} (T : Txt K mg) (G__law_take : FnOk P w K mg base CX0 1 T.f__law_take T.fd__law_take ["_law_pool_here", "_law_many"] (toSp K ap__law_take)) (cdv : Value) (A : Around) (outer : List PySem.Env) (s : Shared) (H : Hp) (E : XK) (hr : Room 1 (A.deeper (PyProof.Rows.envOfC "_law_heights" (defScope s__law_heights) s.heap.objs.size T.f__law_heights cdv))) :
    PSs (cxOf CX0 P w K mg base ["_law_pool_here", "_law_many", "_law_k"] "_law_heights" (defScope s__law_heights) T.f__law_heights cdv A outer s H E).nox (defBody s__law_heights) (t__law_heights K ap__law_take) :=
      (pss_one (ps_ret (pe_callTy call_tuple_of (by rfl) T.m_tuple bi_tuple (pa_cons (pe_lc (own := [("_law_k", 2)]) (g := (gName 2)) (tt := tYes) (by rfl) sc__law_heights.nd (pi_range1 (by rfl) T.m_range (pa_cons (pv 1) pa_nil)) (blkOk_by (own := [("_law_k", 2)]) (N := ["_law_pool_here", "_law_many", "_law_k"]) (sc := defScope s__law_heights) (by decide +kernel)) (fun _ _ _ _ _ => (pg_name (i := 2) sc__law_heights.nd rfl (Or.inl rfl))) (fun _ _ _ _ _ => pts_nil) (fun _ _ _ _ _ => (pe_op op_addG pe_int (pe_call G__law_take (hr.mono (by decide)) (by rfl) T.g__law_take T.F__law_take.kp T.b__law_take .nil pass0 (pa_cons (pv 0) (pa_cons pe_int pa_nil)))))) pa_nil))))
theorem tm__law_lines {ap__law_take : AP} {ap__law_heights : AP} (T : Txt K mg) (G__law_take : FnOk P w K mg base CX0 1 T.f__law_take T.fd__law_take ["_law_pool_here", "_law_many"] (toSp K ap__law_take)) (G__law_heights : FnOk P w K mg base CX0 2 T.f__law_heights T.fd__law_heights ["_law_pool_here", "_law_many"] (toSp K ap__law_heights)) (cdv : Value) (A : Around) (outer : List PySem.Env) (s : Shared) (H : Hp) (E : XK) (hr : Room 2 (A.deeper (PyProof.Rows.envOfC "_law_lines" (defScope s__law_lines) s.heap.objs.size T.f__law_lines cdv))) :
    PSs (cxOf CX0 P w K mg base ["_law_pool_here", "_law_many", "_law_floats", "_law_lines_here", "_law_k", "_law_sort", "_law_notes", "_law_some", "_law_own"] "_law_lines" (defScope s__law_lines) T.f__law_lines cdv A outer s H E).nox (defBody s__law_lines) (t__law_lines K ap__law_take ap__law_heights) :=
      (pss_cons (ps_set (i := 3) sc__law_lines.nd rfl (Or.inl rfl) (pe_lst pa_nil))
      (pss_cons (ps_for PassesOwn.never rfl (pi_range1 (by rfl) T.m_range (pa_cons (pv 1) pa_nil)) (pg_name (i := 4) sc__law_lines.nd rfl (Or.inl rfl)) (pss_cons (ps_set (i := 5) sc__law_lines.nd rfl (Or.inl rfl) (pe_call G__law_take (hr.mono (by decide)) (by rfl) T.g__law_take T.F__law_take.kp T.b__law_take .nil pass0 (pa_cons (pv 0) (pa_cons pe_int pa_nil))))
      (pss_cons (ps_set (i := 6) sc__law_lines.nd rfl (Or.inl rfl) (pe_call G__law_heights (hr.mono (by decide)) (by rfl) T.g__law_heights T.F__law_heights.kp T.b__law_heights .nil pass0 (pa_cons (pv 0) (pa_cons (pe_ix ix_seq (pe_lst (pa_cons pe_int (pa_cons pe_int (pa_cons pe_int (pa_cons pe_int (pa_cons pe_int (pa_cons pe_int (pa_cons pe_int (pa_cons pe_int (pa_cons pe_int (pa_cons pe_int (pa_cons pe_int (pa_cons pe_int pa_nil))))))))))))) (pv 5) (fun _ _ => rfl)) pa_nil))))
      (pss_cons (ps_set (i := 7) sc__law_lines.nd rfl (Or.inl rfl) (pe_callB (call_min2 rfl) (by rfl) T.m_min bi_min (pa_cons (pe_callTy call_int1 (by rfl) T.m_int bi_int (pa_cons (pe_op op_sub pe_int (pv 2)) pa_nil)) (pa_cons (pe_ix ix_seq (pe_lst (pa_cons pe_int (pa_cons pe_int (pa_cons pe_int (pa_cons pe_int (pa_cons pe_int (pa_cons pe_int (pa_cons pe_int (pa_cons pe_int (pa_cons pe_int (pa_cons pe_int (pa_cons pe_int (pa_cons pe_int pa_nil))))))))))))) (pv 5) (fun _ _ => rfl)) pa_nil))))
      (pss_cons (ps_set (i := 8) sc__law_lines.nd rfl (Or.inl rfl) (pe_call G__law_heights (hr.mono (by decide)) (by rfl) T.g__law_heights T.F__law_heights.kp T.b__law_heights .nil pass0 (pa_cons (pv 0) (pa_cons (pv 7) pa_nil))))
      (pss_cons (ps_set (i := 2) sc__law_lines.nd rfl (Or.inl rfl) (pe_op op_addG (pv 2) (pv 7)))
      (pss_one (ps_expr (pe_bm PySem.F.plainAttrs_list PySem.F.slot_list_append PySem.F.type_list_append mt_append (pv 3) (pa_cons (pe_tup (pa_cons (pv 6) (pa_cons (pv 8) pa_nil))) pa_nil))))))))))
      (pss_one (ps_ret (pe_callTy call_tuple_of (by rfl) T.m_tuple bi_tuple (pa_cons (pv 3) pa_nil))))))
theorem tm__law_paragraphs {ap__law_take : AP} {ap__law_lines : AP} (T : Txt K mg) (G__law_take : FnOk P w K mg base CX0 1 T.f__law_take T.fd__law_take ["_law_pool_here", "_law_many"] (toSp K ap__law_take)) (G__law_lines : FnOk P w K mg base CX0 3 T.f__law_lines T.fd__law_lines ["_law_pool_here", "_law_many", "_law_floats"] (toSp K ap__law_lines)) (cdv : Value) (A : Around) (outer : List PySem.Env) (s : Shared) (H : Hp) (E : XK) (hr : Room 3 (A.deeper (PyProof.Rows.envOfC "_law_paragraphs" (defScope s__law_paragraphs) s.heap.objs.size T.f__law_paragraphs cdv))) :
    PSs (cxOf CX0 P w K mg base ["_law_pool_here", "_law_marks", "_law_rows", "_law_floats", "_law_room", "_law_count", "_law_k", "_law_bound", "_law_many", "_law_lead", "_law_least", "_law_keep", "_law_above", "_law_below", "_law_lines_here", "_law_line"] "_law_paragraphs" (defScope s__law_paragraphs) T.f__law_paragraphs cdv A outer s H E).nox (defBody s__law_paragraphs) (t__law_paragraphs K ap__law_take ap__law_lines) :=
      (pss_cons (ps_set (i := 2) sc__law_paragraphs.nd rfl (Or.inl rfl) (pe_lst pa_nil))
      (pss_cons (ps_set (i := 3) sc__law_paragraphs.nd rfl (Or.inl rfl) pe_int)
      (pss_cons (ps_set (i := 4) sc__law_paragraphs.nd rfl (Or.inl rfl) pe_int)
      (pss_cons (ps_set (i := 5) sc__law_paragraphs.nd rfl (Or.inl rfl) (pe_call G__law_take (hr.mono (by decide)) (by rfl) T.g__law_take T.F__law_take.kp T.b__law_take .nil pass0 (pa_cons (pv 0) (pa_cons (pe_ix ix_seq (pe_lst (pa_cons pe_int (pa_cons pe_int (pa_cons pe_int (pa_cons pe_int pa_nil))))) (pe_call G__law_take (hr.mono (by decide)) (by rfl) T.g__law_take T.F__law_take.kp T.b__law_take .nil pass0 (pa_cons (pv 0) (pa_cons pe_int pa_nil))) (fun _ _ => rfl)) pa_nil))))
      (pss_cons (ps_for PassesOwn.never rfl (pi_range1 (by rfl) T.m_range (pa_cons (pv 5) pa_nil)) (pg_name (i := 6) sc__law_paragraphs.nd rfl (Or.inl rfl)) (pss_cons (ps_set (i := 7) sc__law_paragraphs.nd rfl (Or.inl rfl) (pe_callB (call_min2 rfl) (by rfl) T.m_min bi_min (pa_cons (pe_callTy call_int1 (by rfl) T.m_int bi_int (pa_cons (pe_op op_addG (pe_op op_addG (pe_op op_sub (pv 4) (pv 5)) (pv 6)) pe_int) pa_nil)) (pa_cons (pe_ix ix_seq (pe_lst (pa_cons pe_int (pa_cons pe_int (pa_cons pe_int (pa_cons pe_int pa_nil))))) (pe_call G__law_take (hr.mono (by decide)) (by rfl) T.g__law_take T.F__law_take.kp T.b__law_take .nil pass0 (pa_cons (pv 0) (pa_cons pe_int pa_nil))) (fun _ _ => rfl)) pa_nil))))
      (pss_cons (ps_set (i := 8) sc__law_paragraphs.nd rfl (Or.inl rfl) (pe_op op_addG pe_int (pe_call G__law_take (hr.mono (by decide)) (by rfl) T.g__law_take T.F__law_take.kp T.b__law_take .nil pass0 (pa_cons (pv 0) (pa_cons (pv 7) pa_nil)))))
      (pss_cons (ps_set (i := 4) sc__law_paragraphs.nd rfl (Or.inl rfl) (pe_op op_sub (pv 4) (pv 8)))
      (pss_cons (ps_set (i := 9) sc__law_paragraphs.nd rfl (Or.inl rfl) (pe_op op_addG pe_int (pe_call G__law_take (hr.mono (by decide)) (by rfl) T.g__law_take T.F__law_take.kp T.b__law_take .nil pass0 (pa_cons (pv 0) (pa_cons pe_int pa_nil)))))
      (pss_cons (ps_set (i := 10) sc__law_paragraphs.nd rfl (Or.inl rfl) (pe_op op_addG pe_int (pe_call G__law_take (hr.mono (by decide)) (by rfl) T.g__law_take T.F__law_take.kp T.b__law_take .nil pass0 (pa_cons (pv 0) (pa_cons pe_int pa_nil)))))
      (pss_cons (ps_set (i := 11) sc__law_paragraphs.nd rfl (Or.inl rfl) (pe_ix ix_seq (pe_lst (pa_cons pe_str (pa_cons pe_str (pa_cons pe_str pa_nil)))) (pe_call G__law_take (hr.mono (by decide)) (by rfl) T.g__law_take T.F__law_take.kp T.b__law_take .nil pass0 (pa_cons (pv 0) (pa_cons pe_int pa_nil))) (fun _ _ => rfl)))
      (pss_cons (ps_set (i := 12) sc__law_paragraphs.nd rfl (Or.inl rfl) (pe_op op_mulG (pe_call G__law_take (hr.mono (by decide)) (by rfl) T.g__law_take T.F__law_take.kp T.b__law_take .nil pass0 (pa_cons (pv 0) (pa_cons pe_int pa_nil))) (pe_call G__law_take (hr.mono (by decide)) (by rfl) T.g__law_take T.F__law_take.kp T.b__law_take .nil pass0 (pa_cons (pv 0) (pa_cons pe_int pa_nil)))))
      (pss_cons (ps_set (i := 13) sc__law_paragraphs.nd rfl (Or.inl rfl) (pe_op op_mulG (pe_call G__law_take (hr.mono (by decide)) (by rfl) T.g__law_take T.F__law_take.kp T.b__law_take .nil pass0 (pa_cons (pv 0) (pa_cons pe_int pa_nil))) (pe_call G__law_take (hr.mono (by decide)) (by rfl) T.g__law_take T.F__law_take.kp T.b__law_take .nil pass0 (pa_cons (pv 0) (pa_cons pe_int pa_nil)))))
      (pss_cons (ps_set (i := 14) sc__law_paragraphs.nd rfl (Or.inl rfl) (pe_call G__law_lines (hr.mono (by decide)) (by rfl) T.g__law_lines T.F__law_lines.kp T.b__law_lines .nil pass0 (pa_cons (pv 1) (pa_cons (pv 8) (pa_cons (pv 3) pa_nil)))))
      (pss_cons (ps_set (i := 3) sc__law_paragraphs.nd rfl (Or.inl rfl) (pe_op op_addG (pv 3) (pe_callB (cr_sum rfl) (by rfl) T.m_sum bi_sum (pa_cons (pe_lc (own := [("_law_line", 15)]) (g := (gName 15)) (tt := tYes) (by rfl) sc__law_paragraphs.nd (pi_tup (pv 14)) (blkOk_by (own := [("_law_line", 15)]) (N := ["_law_pool_here", "_law_marks", "_law_rows", "_law_floats", "_law_room", "_law_count", "_law_k", "_law_bound", "_law_many", "_law_lead", "_law_least", "_law_keep", "_law_above", "_law_below", "_law_lines_here", "_law_line"]) (sc := defScope s__law_paragraphs) (by decide +kernel)) (fun _ _ _ _ _ => (pg_name (i := 15) sc__law_paragraphs.nd rfl (Or.inl rfl))) (fun _ _ _ _ _ => pts_nil) (fun _ _ _ _ _ => (pe_callB call_len (by rfl) T.m_len bi_len (pa_cons (pe_ix ix_seq (pv 15) pe_int (fun _ _ => rfl)) pa_nil)))) pa_nil))))
      (pss_one (ps_expr (pe_bm PySem.F.plainAttrs_list PySem.F.slot_list_append PySem.F.type_list_append mt_append (pv 2) (pa_cons (pe_tup (pa_cons (pv 14) (pa_cons (pv 9) (pa_cons (pv 10) (pa_cons (pv 11) (pa_cons (pv 12) (pa_cons (pv 13) pa_nil))))))) pa_nil)))))))))))))))
      (pss_one (ps_ret (pv 2))))))))
theorem tm__law_due (T : Txt K mg) (cdv : Value) (A : Around) (outer : List PySem.Env) (s : Shared) (H : Hp) (E : XK) (hr : Room 0 (A.deeper (PyProof.Rows.envOfC "_law_due" (defScope s__law_due) s.heap.objs.size T.f__law_due cdv))) :
    PSs (cxOf CX0 P w K mg base ["_law_rows", "_law_due_here", "_law_k", "_law_lines_here", "_law_j", "_law_over", "_law_cut"] "_law_due" (defScope s__law_due) T.f__law_due cdv A outer s H E).nox (defBody s__law_due) (t__law_due K) :=
      (pss_cons (ps_set (i := 1) sc__law_due.nd rfl (Or.inl rfl) (pe_lst pa_nil))
      (pss_cons (ps_for PassesOwn.never rfl (pi_range1 (by rfl) T.m_range (pa_cons (pe_callB call_len (by rfl) T.m_len bi_len (pa_cons (pv 0) pa_nil)) pa_nil)) (pg_name (i := 2) sc__law_due.nd rfl (Or.inl rfl)) (pss_cons (ps_set (i := 3) sc__law_due.nd rfl (Or.inl rfl) (pe_ix ix_seq (pe_ix ix_seq (pv 0) (pv 2) (fun _ _ => rfl)) pe_int (fun _ _ => rfl)))
      (pss_one (ps_for PassesOwn.never rfl (pi_range1 (by rfl) T.m_range (pa_cons (pe_callB call_len (by rfl) T.m_len bi_len (pa_cons (pv 3) pa_nil)) pa_nil)) (pg_name (i := 4) sc__law_due.nd rfl (Or.inl rfl)) (pss_cons (ps_set (i := 5) sc__law_due.nd rfl (Or.inl rfl) pe_int)
      (pss_cons (ps_set (i := 6) sc__law_due.nd rfl (Or.inl rfl) (pe_cmpR op_ge (pe_callB (call_min2 rfl) (by rfl) T.m_min bi_min (pa_cons (pe_callTy call_int1 (by rfl) T.m_int bi_int (pa_cons (pv 4) pa_nil)) (pa_cons (pe_callTy call_int1 (by rfl) T.m_int bi_int (pa_cons (pe_op op_sub (pe_callB call_len (by rfl) T.m_len bi_len (pa_cons (pv 3) pa_nil)) (pv 4)) pa_nil)) pa_nil))) (pe_ix ix_seq (pe_ix ix_seq (pv 0) (pv 2) (fun _ _ => rfl)) pe_int (fun _ _ => rfl)) (nomark _)))
      (pss_cons (ps_if (pt_cmpR (op_eqG hr.units) (pv 4) pe_int (nomark _)) (pss_one (ps_set (i := 6) sc__law_due.nd rfl (Or.inl rfl) pe_bl)) pss_nil)
      (pss_cons (ps_if (PW.pt (pw_and (pt_cmpR (op_eqG hr.units) (pv 4) pe_int (nomark _)) (pw_and1 (pt_cmpR op_gt (pv 2) pe_int (nomark _))))) (pss_cons (ps_set (i := 5) sc__law_due.nd rfl (Or.inl rfl) (pe_callB (call_max2 rfl) (by rfl) T.m_max bi_max (pa_cons (pe_callTy call_int1 (by rfl) T.m_int bi_int (pa_cons (pe_ix ix_seq (pe_ix ix_seq (pv 0) (pv 2) (fun _ _ => rfl)) pe_int (fun _ _ => rfl)) pa_nil)) (pa_cons (pe_callTy call_int1 (by rfl) T.m_int bi_int (pa_cons (pe_ix ix_seq (pe_ix ix_seq (pv 0) (pe_op op_sub (pv 2) pe_int) (fun _ _ => rfl)) pe_int (fun _ _ => rfl)) pa_nil)) pa_nil))))
      (pss_one (ps_set (i := 6) sc__law_due.nd rfl (Or.inl rfl) (pe_cmpR (op_eqG hr.units) (pe_ix ix_seq (pe_ix ix_seq (pv 0) (pe_op op_sub (pv 2) pe_int) (fun _ _ => rfl)) pe_int (fun _ _ => rfl)) pe_str (nomark _))))) pss_nil)
      (pss_one (ps_expr (pe_bm PySem.F.plainAttrs_list PySem.F.slot_list_append PySem.F.type_list_append mt_append (pv 1) (pa_cons (pe_tup (pa_cons (pe_ix ix_seq (pe_ix ix_seq (pv 0) (pv 2) (fun _ _ => rfl)) pe_int (fun _ _ => rfl)) (pa_cons (pv 5) (pa_cons (pv 6) (pa_cons (pe_ix ix_seq (pe_ix ix_seq (pv 3) (pv 4) (fun _ _ => rfl)) pe_int (fun _ _ => rfl)) (pa_cons (pe_ix ix_seq (pe_ix ix_seq (pv 3) (pv 4) (fun _ _ => rfl)) pe_int (fun _ _ => rfl)) pa_nil)))))) pa_nil))))))))))))
      (pss_one (ps_ret (pv 1)))))
theorem tm_law {ap__law_paragraphs : AP} {ap__law_pool : AP} {ap__law_due : AP} {ap__law_take : AP} {ap__law_same : AP} {ap_make_galley : AP} (T : Txt K mg) (G__law_paragraphs : FnOk P w K mg base CX0 4 T.f__law_paragraphs T.fd__law_paragraphs ["_law_pool_here", "_law_marks"] (toSp K ap__law_paragraphs)) (G__law_pool : FnOk P w K mg base CX0 1 T.f__law_pool T.fd__law_pool ["_law_script", "_law_at"] (toSp K ap__law_pool)) (G__law_due : FnOk P w K mg base CX0 1 T.f__law_due T.fd__law_due ["_law_rows"] (toSp K ap__law_due)) (G__law_take : FnOk P w K mg base CX0 1 T.f__law_take T.fd__law_take ["_law_pool_here", "_law_many"] (toSp K ap__law_take)) (G__law_same : FnOk P w K mg base CX0 8 T.f__law_same T.fd__law_same ["_law_one", "_law_two"] (toSp K ap__law_same)) (G_make_galley : FnOk P w K mg base CX0 3 T.f_make_galley T.fd_make_galley ["paragraphs"] (toSp K ap_make_galley)) (cdv : Value) (A : Around) (outer : List PySem.Env) (s : Shared) (H : Hp) (E : XK) (hr : Room 8 (A.deeper (PyProof.Rows.envOfC "law" (defScope s_law) s.heap.objs.size T.f_law cdv))) :
    PSs (cxOf CX0 P w K mg base ["_law_script", "_law_rows", "_law_due_here", "_law_some", "_law_few", "_law_row"] "law" (defScope s_law) T.f_law cdv A outer s H E).nox (defBody s_law) (t_law K ap__law_paragraphs ap__law_pool ap__law_due ap__law_take ap__law_same ap_make_galley) :=
      (pss_cons (ps_set (i := 1) sc_law.nd rfl (Or.inl rfl) (pe_call G__law_paragraphs (hr.mono (by decide)) (by rfl) T.g__law_paragraphs T.F__law_paragraphs.kp T.b__law_paragraphs .nil pass0 (pa_cons (pe_call G__law_pool (hr.mono (by decide)) (by rfl) T.g__law_pool T.F__law_pool.kp T.b__law_pool .nil pass0 (pa_cons (pv 0) (pa_cons pe_int pa_nil))) (pa_cons (pe_call G__law_pool (hr.mono (by decide)) (by rfl) T.g__law_pool T.F__law_pool.kp T.b__law_pool .nil pass0 (pa_cons (pv 0) (pa_cons pe_int pa_nil))) pa_nil))))
      (pss_cons (ps_set (i := 2) sc_law.nd rfl (Or.inl rfl) (pe_call G__law_due (hr.mono (by decide)) (by rfl) T.g__law_due T.F__law_due.kp T.b__law_due .nil pass0 (pa_cons (pv 1) pa_nil)))
      (pss_cons (ps_set (i := 3) sc_law.nd rfl (Or.inl rfl) (pe_call G__law_take (hr.mono (by decide)) (by rfl) T.g__law_take T.F__law_take.kp T.b__law_take .nil pass0 (pa_cons (pe_call G__law_pool (hr.mono (by decide)) (by rfl) T.g__law_pool T.F__law_pool.kp T.b__law_pool .nil pass0 (pa_cons (pv 0) (pa_cons pe_int pa_nil))) (pa_cons (pe_op op_addG (pe_callB call_len (by rfl) T.m_len bi_len (pa_cons (pv 1) pa_nil)) pe_int) pa_nil))))
      (pss_cons (ps_set (i := 4) sc_law.nd rfl (Or.inl rfl) (pe_callB (cr_sum rfl) (by rfl) T.m_sum bi_sum (pa_cons (pe_lc (own := [("_law_row", 5)]) (g := (gName 5)) (tt := tYes) (by rfl) sc_law.nd (pi_list (pe_slice sl_G (pv 1) po_none (po_some (pv 3)))) (blkOk_by (own := [("_law_row", 5)]) (N := ["_law_script", "_law_rows", "_law_due_here", "_law_some", "_law_few", "_law_row"]) (sc := defScope s_law) (by decide +kernel)) (fun _ _ _ _ _ => (pg_name (i := 5) sc_law.nd rfl (Or.inl rfl))) (fun _ _ _ _ _ => pts_nil) (fun _ _ _ _ _ => (pe_callB call_len (by rfl) T.m_len bi_len (pa_cons (pe_ix ix_seq (pv 5) pe_int (fun _ _ => rfl)) pa_nil)))) pa_nil)))
      (pss_cons (ps_if (pt_not (pt_val (pe_call G__law_same (hr.mono (by decide)) (by rfl) T.g__law_same T.F__law_same.kp T.b__law_same .nil pass0 (pa_cons (pe_call G_make_galley (hr.mono (by decide)) (by rfl) T.g_make_galley T.F_make_galley.kp T.b_make_galley .nil pass0 (pa_cons (pe_callTy call_tuple_of (by rfl) T.m_tuple bi_tuple (pa_cons (pe_slice sl_G (pv 1) po_none (po_some (pv 3))) pa_nil)) pa_nil)) (pa_cons (pe_callTy call_tuple_of (by rfl) T.m_tuple bi_tuple (pa_cons (pe_slice sl_G (pv 2) po_none (po_some (pv 4))) pa_nil)) pa_nil))))) (pss_one (ps_ret pe_bl)) pss_nil)
      (pss_cons (ps_if (pt_not (pt_val (pe_call G__law_same (hr.mono (by decide)) (by rfl) T.g__law_same T.F__law_same.kp T.b__law_same .nil pass0 (pa_cons (pe_call G_make_galley (hr.mono (by decide)) (by rfl) T.g_make_galley T.F_make_galley.kp T.b_make_galley .nil pass0 (pa_cons (pe_callTy call_tuple_of (by rfl) T.m_tuple bi_tuple (pa_cons (pv 1) pa_nil)) pa_nil)) (pa_cons (pe_callTy call_tuple_of (by rfl) T.m_tuple bi_tuple (pa_cons (pv 2) pa_nil)) pa_nil))))) (pss_one (ps_ret pe_bl)) pss_nil)
      (pss_one (ps_ret (pe_call G__law_same (hr.mono (by decide)) (by rfl) T.g__law_same T.F__law_same.kp T.b__law_same .nil pass0 (pa_cons (pe_call G_make_galley (hr.mono (by decide)) (by rfl) T.g_make_galley T.F_make_galley.kp T.b_make_galley .nil pass0 (pa_cons (pe_callTy call_tuple_of (by rfl) T.m_tuple bi_tuple (pa_cons (pe_slice sl_G (pv 1) po_none (po_some (pv 3))) pa_nil)) pa_nil)) (pa_cons (pe_callTy call_tuple_of (by rfl) T.m_tuple bi_tuple (pa_cons (pe_slice sl_G (pv 2) po_none (po_some (pv 4))) pa_nil)) pa_nil)))))))))))
end
theorem txt_mk {K : PySem.W.Frag} {h : Heap} {mg : Str → Option Value} (X : K.In h) (G : h.Ns mainGlobals mg)
    {f0 : Addr} {od0 an0 : Option Addr} {sl0 : Array (Option Value)} {oc0 kV0 dc0 pm0 cd0 ct0 : Value}
    (a0 : PySem.W.nsIn K mainGlobals "space_and_cut" = some (some (.ref f0))) (l0 : K.lookup f0 = some ⟨oc0, od0, .func (PySem.W.fnOf "space_and_cut" "space_and_cut" (defArgs s_space_and_cut) (defBody s_space_and_cut) (defScope s_space_and_cut) .none kV0 dc0 pm0 an0 cd0 ct0), sl0⟩) (c0 : PySem.W.codeIn K cd0 "space_and_cut" = true) (k0 : PySem.W.keepIn K (.ref f0) = true)
    {f1 : Addr} {od1 an1 : Option Addr} {sl1 : Array (Option Value)} {oc1 kV1 dc1 pm1 cd1 ct1 : Value}
    (a1 : PySem.W.nsIn K mainGlobals "paragraph_lines" = some (some (.ref f1))) (l1 : K.lookup f1 = some ⟨oc1, od1, .func (PySem.W.fnOf "paragraph_lines" "paragraph_lines" (defArgs s_paragraph_lines) (defBody s_paragraph_lines) (defScope s_paragraph_lines) .none kV1 dc1 pm1 an1 cd1 ct1), sl1⟩) (c1 : PySem.W.codeIn K cd1 "paragraph_lines" = true) (k1 : PySem.W.keepIn K (.ref f1) = true)
    {f2 : Addr} {od2 an2 : Option Addr} {sl2 : Array (Option Value)} {oc2 kV2 dc2 pm2 cd2 ct2 : Value}
    (a2 : PySem.W.nsIn K mainGlobals "make_galley" = some (some (.ref f2))) (l2 : K.lookup f2 = some ⟨oc2, od2, .func (PySem.W.fnOf "make_galley" "make_galley" (defArgs s_make_galley) (defBody s_make_galley) (defScope s_make_galley) .none kV2 dc2 pm2 an2 cd2 ct2), sl2⟩) (c2 : PySem.W.codeIn K cd2 "make_galley" = true) (k2 : PySem.W.keepIn K (.ref f2) = true)
    {f3 : Addr} {od3 an3 : Option Addr} {sl3 : Array (Option Value)} {oc3 kV3 dc3 pm3 cd3 ct3 : Value}
    (a3 : PySem.W.nsIn K mainGlobals "_law_pool" = some (some (.ref f3))) (l3 : K.lookup f3 = some ⟨oc3, od3, .func (PySem.W.fnOf "_law_pool" "_law_pool" (defArgs s__law_pool) (defBody s__law_pool) (defScope s__law_pool) .none kV3 dc3 pm3 an3 cd3 ct3), sl3⟩) (c3 : PySem.W.codeIn K cd3 "_law_pool" = true) (k3 : PySem.W.keepIn K (.ref f3) = true)
    {f4 : Addr} {od4 an4 : Option Addr} {sl4 : Array (Option Value)} {oc4 kV4 dc4 pm4 cd4 ct4 : Value}
    (a4 : PySem.W.nsIn K mainGlobals "_law_take" = some (some (.ref f4))) (l4 : K.lookup f4 = some ⟨oc4, od4, .func (PySem.W.fnOf "_law_take" "_law_take" (defArgs s__law_take) (defBody s__law_take) (defScope s__law_take) .none kV4 dc4 pm4 an4 cd4 ct4), sl4⟩) (c4 : PySem.W.codeIn K cd4 "_law_take" = true) (k4 : PySem.W.keepIn K (.ref f4) = true)
    {f5 : Addr} {od5 an5 : Option Addr} {sl5 : Array (Option Value)} {oc5 kV5 dc5 pm5 cd5 ct5 : Value}
    (a5 : PySem.W.nsIn K mainGlobals "_law_same" = some (some (.ref f5))) (l5 : K.lookup f5 = some ⟨oc5, od5, .func (PySem.W.fnOf "_law_same" "_law_same" (defArgs s__law_same) (defBody s__law_same) (defScope s__law_same) .none kV5 dc5 pm5 an5 cd5 ct5), sl5⟩) (c5 : PySem.W.codeIn K cd5 "_law_same" = true) (k5 : PySem.W.keepIn K (.ref f5) = true)
    {f6 : Addr} {od6 an6 : Option Addr} {sl6 : Array (Option Value)} {oc6 kV6 dc6 pm6 cd6 ct6 : Value}
    (a6 : PySem.W.nsIn K mainGlobals "_law_heights" = some (some (.ref f6))) (l6 : K.lookup f6 = some ⟨oc6, od6, .func (PySem.W.fnOf "_law_heights" "_law_heights" (defArgs s__law_heights) (defBody s__law_heights) (defScope s__law_heights) .none kV6 dc6 pm6 an6 cd6 ct6), sl6⟩) (c6 : PySem.W.codeIn K cd6 "_law_heights" = true) (k6 : PySem.W.keepIn K (.ref f6) = true)
    {f7 : Addr} {od7 an7 : Option Addr} {sl7 : Array (Option Value)} {oc7 kV7 dc7 pm7 cd7 ct7 : Value}
    (a7 : PySem.W.nsIn K mainGlobals "_law_lines" = some (some (.ref f7))) (l7 : K.lookup f7 = some ⟨oc7, od7, .func (PySem.W.fnOf "_law_lines" "_law_lines" (defArgs s__law_lines) (defBody s__law_lines) (defScope s__law_lines) .none kV7 dc7 pm7 an7 cd7 ct7), sl7⟩) (c7 : PySem.W.codeIn K cd7 "_law_lines" = true) (k7 : PySem.W.keepIn K (.ref f7) = true)
    {f8 : Addr} {od8 an8 : Option Addr} {sl8 : Array (Option Value)} {oc8 kV8 dc8 pm8 cd8 ct8 : Value}
    (a8 : PySem.W.nsIn K mainGlobals "_law_paragraphs" = some (some (.ref f8))) (l8 : K.lookup f8 = some ⟨oc8, od8, .func (PySem.W.fnOf "_law_paragraphs" "_law_paragraphs" (defArgs s__law_paragraphs) (defBody s__law_paragraphs) (defScope s__law_paragraphs) .none kV8 dc8 pm8 an8 cd8 ct8), sl8⟩) (c8 : PySem.W.codeIn K cd8 "_law_paragraphs" = true) (k8 : PySem.W.keepIn K (.ref f8) = true)
    {f9 : Addr} {od9 an9 : Option Addr} {sl9 : Array (Option Value)} {oc9 kV9 dc9 pm9 cd9 ct9 : Value}
    (a9 : PySem.W.nsIn K mainGlobals "_law_due" = some (some (.ref f9))) (l9 : K.lookup f9 = some ⟨oc9, od9, .func (PySem.W.fnOf "_law_due" "_law_due" (defArgs s__law_due) (defBody s__law_due) (defScope s__law_due) .none kV9 dc9 pm9 an9 cd9 ct9), sl9⟩) (c9 : PySem.W.codeIn K cd9 "_law_due" = true) (k9 : PySem.W.keepIn K (.ref f9) = true)
    {f10 : Addr} {od10 an10 : Option Addr} {sl10 : Array (Option Value)} {oc10 kV10 dc10 pm10 cd10 ct10 : Value}
    (a10 : PySem.W.nsIn K mainGlobals "law" = some (some (.ref f10))) (l10 : K.lookup f10 = some ⟨oc10, od10, .func (PySem.W.fnOf "law" "law" (defArgs s_law) (defBody s_law) (defScope s_law) .none kV10 dc10 pm10 an10 cd10 ct10), sl10⟩) (c10 : PySem.W.codeIn K cd10 "law" = true) (k10 : PySem.W.keepIn K (.ref f10) = true)
    (z_abs : PySem.W.nsIn K mainGlobals "abs" = some none)
    (z_bool : PySem.W.nsIn K mainGlobals "bool" = some none)
    (z_int : PySem.W.nsIn K mainGlobals "int" = some none)
    (z_isinstance : PySem.W.nsIn K mainGlobals "isinstance" = some none)
    (z_len : PySem.W.nsIn K mainGlobals "len" = some none)
    (z_list : PySem.W.nsIn K mainGlobals "list" = some none)
    (z_max : PySem.W.nsIn K mainGlobals "max" = some none)
    (z_min : PySem.W.nsIn K mainGlobals "min" = some none)
    (z_range : PySem.W.nsIn K mainGlobals "range" = some none)
    (z_str : PySem.W.nsIn K mainGlobals "str" = some none)
    (z_sum : PySem.W.nsIn K mainGlobals "sum" = some none)
    (z_tuple : PySem.W.nsIn K mainGlobals "tuple" = some none)
    : ∃ T : Txt K mg, T.f_law = f10 ∧ ∀ (s : Shared) (v : Value), BindsTo s T.fd_law ⟨[v], []⟩ [("_law_script", v)] := by
  have F0 := fun_mk (st := s_space_and_cut) l0 c0 k0
  have b0 := F0.binds (ps := ["paragraph", "previous"]) fun _ _ _ _ _ _ us hl => match us, hl with | [_, _], _ => rfl
  have F1 := fun_mk (st := s_paragraph_lines) l1 c1 k1
  have b1 := F1.binds (ps := ["paragraph", "previous"]) fun _ _ _ _ _ _ us hl => match us, hl with | [_, _], _ => rfl
  have F2 := fun_mk (st := s_make_galley) l2 c2 k2
  have b2 := F2.binds (ps := ["paragraphs"]) fun _ _ _ _ _ _ us hl => match us, hl with | [_], _ => rfl
  have F3 := fun_mk (st := s__law_pool) l3 c3 k3
  have b3 := F3.binds (ps := ["_law_script", "_law_at"]) fun _ _ _ _ _ _ us hl => match us, hl with | [_, _], _ => rfl
  have F4 := fun_mk (st := s__law_take) l4 c4 k4
  have b4 := F4.binds (ps := ["_law_pool_here", "_law_many"]) fun _ _ _ _ _ _ us hl => match us, hl with | [_, _], _ => rfl
  have F5 := fun_mk (st := s__law_same) l5 c5 k5
  have b5 := F5.binds (ps := ["_law_one", "_law_two"]) fun _ _ _ _ _ _ us hl => match us, hl with | [_, _], _ => rfl
  have F6 := fun_mk (st := s__law_heights) l6 c6 k6
  have b6 := F6.binds (ps := ["_law_pool_here", "_law_many"]) fun _ _ _ _ _ _ us hl => match us, hl with | [_, _], _ => rfl
  have F7 := fun_mk (st := s__law_lines) l7 c7 k7
  have b7 := F7.binds (ps := ["_law_pool_here", "_law_many", "_law_floats"]) fun _ _ _ _ _ _ us hl => match us, hl with | [_, _, _], _ => rfl
  have F8 := fun_mk (st := s__law_paragraphs) l8 c8 k8
  have b8 := F8.binds (ps := ["_law_pool_here", "_law_marks"]) fun _ _ _ _ _ _ us hl => match us, hl with | [_, _], _ => rfl
  have F9 := fun_mk (st := s__law_due) l9 c9 k9
  have b9 := F9.binds (ps := ["_law_rows"]) fun _ _ _ _ _ _ us hl => match us, hl with | [_], _ => rfl
  have F10 := fun_mk (st := s_law) l10 c10 k10
  have b10 := F10.binds (ps := ["_law_script"]) fun _ _ _ _ _ _ us hl => match us, hl with | [_], _ => rfl
  exact ⟨{ m_abs := PySem.W.mg_none_of X G z_abs, m_bool := PySem.W.mg_none_of X G z_bool, m_int := PySem.W.mg_none_of X G z_int, m_isinstance := PySem.W.mg_none_of X G z_isinstance, m_len := PySem.W.mg_none_of X G z_len, m_list := PySem.W.mg_none_of X G z_list, m_max := PySem.W.mg_none_of X G z_max, m_min := PySem.W.mg_none_of X G z_min, m_range := PySem.W.mg_none_of X G z_range, m_str := PySem.W.mg_none_of X G z_str, m_sum := PySem.W.mg_none_of X G z_sum, m_tuple := PySem.W.mg_none_of X G z_tuple, f_space_and_cut := f0, fd_space_and_cut := _, F_space_and_cut := F0, g_space_and_cut := PySem.W.mg_of X G a0, b_space_and_cut := b0, f_paragraph_lines := f1, fd_paragraph_lines := _, F_paragraph_lines := F1, g_paragraph_lines := PySem.W.mg_of X G a1, b_paragraph_lines := b1, f_make_galley := f2, fd_make_galley := _, F_make_galley := F2, g_make_galley := PySem.W.mg_of X G a2, b_make_galley := b2, f__law_pool := f3, fd__law_pool := _, F__law_pool := F3, g__law_pool := PySem.W.mg_of X G a3, b__law_pool := b3, f__law_take := f4, fd__law_take := _, F__law_take := F4, g__law_take := PySem.W.mg_of X G a4, b__law_take := b4, f__law_same := f5, fd__law_same := _, F__law_same := F5, g__law_same := PySem.W.mg_of X G a5, b__law_same := b5, f__law_heights := f6, fd__law_heights := _, F__law_heights := F6, g__law_heights := PySem.W.mg_of X G a6, b__law_heights := b6, f__law_lines := f7, fd__law_lines := _, F__law_lines := F7, g__law_lines := PySem.W.mg_of X G a7, b__law_lines := b7, f__law_paragraphs := f8, fd__law_paragraphs := _, F__law_paragraphs := F8, g__law_paragraphs := PySem.W.mg_of X G a8, b__law_paragraphs := b8, f__law_due := f9, fd__law_due := _, F__law_due := F9, g__law_due := PySem.W.mg_of X G a9, b__law_due := b9, f_law := f10, fd_law := _, F_law := F10, g_law := PySem.W.mg_of X G a10, b_law := b10 }, rfl, fun s v => .of_eq rfl⟩
end Lk61
namespace Ab
open PySem L2
/-- xs.extend(e) -/
theorem we_extend {K : PySem.W.Frag} {Γ : List Sl} {te : TE} {i : Nat} {ds0 : List Dt} {Post : Re → List Sl → Prop} (h0 : Γ[i]? = some (.acc ds0)) (h : WE K te Γ fun z Γ1 => ∃ es ds, lstOf Γ1 z = some es ∧ z.isScr = false ∧ Γ1[i]? = some (.acc ds) ∧ ds.length + es.length ≤ 1000000 ∧ NormP (Γ1.set i (.acc (ds ++ es))) (Post (.val .non))) :
    WE K (tBM K "list" rExtend (tVar i) (tCons te tNil)) Γ Post := fun σ B H E Q q => by
  obtain ⟨l, vs, e0, e1, e2, k0⟩ := E.acc i ds0 h0
  refine ⟨.ref l, e0, .inl ⟨rfl, vs, .inl (.inl e1)⟩, ?_⟩
  refine h σ B H E _ fun y B1 H1 z Γ1 g k p => ?_
  obtain ⟨es, ds, hl, hs, hi, hz, p⟩ := p
  obtain ⟨l', us, f0, f1, f2, k1⟩ := g.env.acc i ds hi
  rw [e0] at f0; cases f0
  obtain ⟨b, zs, rfl, hb, kz⟩ := rv_lstH g.env k.rv hl hs
  refine ⟨l, b, us, zs, rfl, rfl, f1, hb, Nat.le_trans (by rw [k1.len, kz.len]; exact hz) (by decide), ?_⟩
  have g2 := Go.put g.env hi e0 (k1.append kz)
  exact q .non B1 _ (.val .non) _ (g.trans g2) (Is.raw _) p
theorem at_lit {α : Type} {f : α → Dt} {xs : List α} {k : Int} (h0 : 0 ≤ k) (h1 : k < xs.length) : ∃ v, v ∈ xs ∧ atI (xs.map f) k = some (f v) := by
  have hl : k.toNat < xs.length := by omega
  exact ⟨xs[k.toNat], List.getElem_mem hl, atI_of (j := k.toNat) (by omega) (by rw [List.getElem?_map, List.getElem?_eq_getElem hl]; rfl)⟩
theorem cut_take {α : Type} {f : α → Dt} {xs : List α} {m : Nat} (h : m ≤ xs.length) : cutD (xs.map f) none (some (m : Int)) = (xs.take m).map f := by
  unfold cutD
  rw [HT.sIx_none, HT.sIx_nat, List.length_map, Nat.min_eq_left h, List.drop_zero, Nat.sub_zero, List.map_take]
end Ab
namespace Lk61
open PySem L2 Ab
/-! ### lines, paragraphs, galleys -/
structure Ln where
  nt : List Int
  fl : List Int
structure Pg where
  ls : List Ln
  lead : Int
  least : Int
  kp : Str
  up : Int
  lo : Int
def Ln.dt (l : Ln) : Dt := .tup [.tup (l.nt.map Dt.int), .tup (l.fl.map Dt.int)]
def Pg.dt (p : Pg) : Dt := .tup [.tup (p.ls.map Ln.dt), .int p.lead, .int p.least, .str p.kp, .int p.up, .int p.lo]
def Ln.ok (l : Ln) : Prop := l.nt.length ≤ 6 ∧ l.fl.length ≤ 6
def Pg.ok (p : Pg) : Prop := p.ls.length ≤ 60 ∧ ∀ l ∈ p.ls, l.ok
def prevD : Option Pg → Dt
  | none => .non
  | some o => .tup [.tup (o.ls.map Ln.dt), .int o.lead, .int o.least, .str o.kp, .int o.up, .int o.lo]
def spc (p : Pg) : Option Pg → Int
  | none => 0
  | some o => if o.lo > p.up then o.lo else p.up
def cut0 : Option Pg → Bool
  | none => true
  | some o => (false ^^ decide (V.str o.kp = V.str "no"))
def ent (p : Pg) (sp : Int) (ct : Bool) (l : Ln) : Dt := .tup [.int p.lead, .int sp, .bl ct, .tup (l.nt.map Dt.int), .tup (l.fl.map Dt.int)]
def cutJ (p : Pg) (j : Nat) : Bool := decide (p.least ≤ (j : Int) ∧ p.least ≤ (p.ls.length : Int) - j)
def entJ (p : Pg) (o : Option Pg) (j : Nat) : Dt := if j = 0 then ent p (spc p o) (cut0 o) (p.ls.getD j ⟨[], []⟩) else ent p 0 (cutJ p j) (p.ls.getD j ⟨[], []⟩)
def lnsOf (p : Pg) (o : Option Pg) : List Dt := (List.range p.ls.length).map (entJ p o)
def gal : Option Pg → List Pg → List Dt
  | _, [] => []
  | o, p :: r => lnsOf p o ++ gal (some p) r
def lastOr : Option Pg → List Pg → Option Pg
  | o, [] => o
  | _, p :: r => lastOr (some p) r
theorem gal_app : ∀ (o : Option Pg) (a b : List Pg), gal o (a ++ b) = gal o a ++ gal (lastOr o a) b
  | o, [], b => rfl
  | o, p :: r, b => by
    show lnsOf p o ++ gal (some p) (r ++ b) = (lnsOf p o ++ gal (some p) r) ++ gal (lastOr (some p) r) b
    rw [gal_app, List.append_assoc]
theorem lastOr_snoc : ∀ (o : Option Pg) (a : List Pg) (p : Pg), lastOr o (a ++ [p]) = some p
  | o, [], p => rfl
  | o, q :: r, p => lastOr_snoc (some q) r p
theorem gal_snoc (o : Option Pg) (a : List Pg) (p : Pg) : gal o (a ++ [p]) = gal o a ++ lnsOf p (lastOr o a) := by
  rw [gal_app]
  show _ ++ (lnsOf p (lastOr o a) ++ []) = _
  rw [List.append_nil]
theorem lns_len (p : Pg) (o : Option Pg) : (lnsOf p o).length = p.ls.length := by unfold lnsOf; rw [List.length_map, List.length_range]
theorem gal_len : ∀ (o : Option Pg) (a : List Pg), (gal o a).length = (a.map fun p => p.ls.length).sum
  | o, [] => rfl
  | o, p :: r => by
    show (lnsOf p o ++ gal (some p) r).length = _
    rw [List.length_append, lns_len, gal_len]
    simp
theorem gal_take (o : Option Pg) (a : List Pg) (m : Nat) : (gal o a).take ((a.take m).map fun p => p.ls.length).sum = gal o (a.take m) := by
  have e := gal_app o (a.take m) (a.drop m)
  rw [List.take_append_drop] at e
  rw [e, ← gal_len o (a.take m), List.take_left]
theorem gal_le : ∀ (o : Option Pg) {a : List Pg}, (∀ p ∈ a, p.ok) → (gal o a).length ≤ 60 * a.length
  | o, [], _ => by simp [gal]
  | o, p :: r, h => by
    have := gal_le (some p) (a := r) fun q hq => h q (List.mem_cons_of_mem _ hq)
    have h1 := (h p List.mem_cons_self).1
    show (lnsOf p o ++ gal (some p) r).length ≤ _
    rw [List.length_append, lns_len, List.length_cons]
    omega
def ap_sc : AP := fun as Post => ∃ (p : Pg) (o : Option Pg), as = [.val p.dt, .val (prevD o)] ∧ Post (.val (.tup [.int (spc p o), .bl (cut0 o)])) as
def ap_pl : AP := fun as Post => ∃ (p : Pg) (o : Option Pg), as = [.val p.dt, .val (prevD o)] ∧ p.ok ∧ Post (.new (lnsOf p o)) as
def ap_mg : AP := fun as Post => ∃ (ps : List Pg), as = [.val (.tup (ps.map Pg.dt))] ∧ (∀ p ∈ ps, p.ok) ∧ ps.length ≤ 6 ∧ Post (.val (.tup (gal none ps))) as
theorem take_all {ps : List Pg} {i : Nat} {d : Dt} (h : (ps.map Pg.dt)[i]? = some d) : ∃ p, ps[i]? = some p ∧ d = p.dt := by
  rw [List.getElem?_map] at h
  cases e : ps[i]? with
  | none => rw [e] at h; cases h
  | some p => rw [e] at h; cases h; exact ⟨p, rfl, rfl⟩
end Lk61
namespace Lk61
open PySem L2 Ab
local macro_rules | `(tactic| walk_at "no") => `(tactic| first
  | exact fun h => Bool.noConfusion (show true = false from h)
  | exact fun h => Bool.noConfusion (show false = true from h)
  | exact fun h => absurd (of_decide_eq_true h) (by omega)
  | exact fun h => absurd (by omega) (of_decide_eq_false h)
  | exact fun h => absurd (by omega) (nd_t h)
  | exact fun h => absurd (nd_f h) (by omega)
  | fail "no")
local macro_rules | `(tactic| walk_at "kb") => `(tactic| first | exact kb_tt | exact kb_ll | exact kb_ii | exact kb_ib | exact kb_ss | exact kb_sb | exact kb_si | exact kb_tb | exact kb_ti | exact kb_ts | exact kb_tl | exact kb_lb | exact kb_li | exact kb_ls | exact kb_lt | exact kb_is | exact kb_it | exact kb_il | exact kb_st | exact kb_sl | exact kb_bb | exact kb_bi | exact kb_nb | exact kb_ni | exact kb_ns | exact kb_nt | exact kb_nl | exact kb_bs | exact kb_bt | exact kb_bl | fail "kb")
local macro_rules | `(tactic| walk_at "norm") => `(tactic| first
  | exact (rfl : _ = ([] : List Sl))
  | ((refine' norm_cons (rfl : _ = _ :: _) ?ea ?et); (case ea => first | exact norm_v | exact norm_n | exact norm_o | exact rfl | fail "norm"); (case et => walk_at "norm"))
  | fail "norm")
local macro_rules | `(tactic| walk_at "x") => `(tactic| first
  | ((with_reducible refine' norm_intro ?hn ?_); (case hn => walk_at "norm"))
  | ((with_reducible refine' we_var ?hh ?_); (case hh => exact rfl))
  | ((with_reducible refine' we_own ?hh ?_); (case hh => exact rfl))
  | with_reducible refine we_c ?_
  | with_reducible refine we_addG ?_
  | with_reducible refine addp_i ?_
  | with_reducible refine we_opI0 ?_
  | with_reducible refine we_opI ?_
  | with_reducible refine we_mulG ?_
  | ((with_reducible refine' mulp_r ?h1 ?_); (case h1 => first | decide | omega | fail "m"))
  | ((with_reducible refine' mulp_l ?h1 ?_); (case h1 => first | decide | omega | fail "m"))
  | with_reducible refine we_neg ?_
  | with_reducible refine we_ltG ?_
  | with_reducible refine ltp_i ?_
  | with_reducible refine we_eqG ?_
  | with_reducible refine we_neG ?_
  | with_reducible refine eqp_i ?_
  | with_reducible refine nep_i ?_
  | with_reducible refine we_ixG ?_
  | ((with_reducible refine' ixp ?h1 ?h2 ?_); (case h1 => exact rfl); (case h2 => exact rfl))
  | with_reducible refine we_lenG ?_
  | ((with_reducible refine' lenp ?hh ?_); (case hh => exact rfl))
  | with_reducible refine we_intG ?_
  | with_reducible refine intp_i ?_
  | with_reducible refine intp_b ?_
  | with_reducible refine we_abs ?_
  | with_reducible refine we_tup ?_
  | with_reducible refine we_lst ?_
  | with_reducible refine we_tuple ?_
  | with_reducible refine we_list ?_
  | with_reducible refine we_sum ?_
  | with_reducible refine we_max2 ?_
  | with_reducible refine we_min2 ?_
  | with_reducible refine wd_cons ?_
  | with_reducible refine wd_nil ?_
  | with_reducible refine wa_cons ?_
  | with_reducible refine wa_nil ?_
  | with_reducible refine we_callH ?_
  | with_reducible refine we_isiG ?_
  | ((with_reducible refine' isi_own ?h1 ?h2 ?_); (case h1 => exact rfl); (case h2 => walk_at "kb"))
  | ((with_reducible refine' isi_val ?h1 ?h2 ?_); (case h1 => exact rfl); (case h2 => walk_at "kb"))
  | ((with_reducible refine' isi_new ?h2 ?_); (case h2 => walk_at "kb"))
  | with_reducible refine we_chainI ?_
  | with_reducible refine we_andV ?_
  | with_reducible refine we_orV ?_
  | with_reducible refine we_notV ?_
  | with_reducible refine wt_test ?_
  | with_reducible refine wt_B ?_
  | with_reducible refine wt_yes ?_
  | with_reducible refine wt_and ?_
  | with_reducible refine wt_or ?_
  | with_reducible refine wt_not ?_
  | ((with_reducible refine' ws_retA ?hh ?_); (case hh => exact rfl))
  | with_reducible refine ws_ret ?_
  | with_reducible refine ws_if ?_
  | with_reducible refine ws_nil ?_
  | with_reducible refine ws_expr ?_
  | with_reducible refine ws_asgN rfl rfl ?_
  | with_reducible refine ws_setN ?_
  | with_reducible refine ws_asgG ?_
  | ((with_reducible refine' wg_tup ?hh ?_); (case hh => exact rfl))
  | with_reducible refine wgs_cons ?_
  | with_reducible refine wgs_nil ?_
  | with_reducible refine wg_nameN rfl rfl ?_
  | ((with_reducible refine' we_appendN ?hh ?_); (case hh => exact rfl))
  | ((with_reducible refine' we_reverseN ?hh ?_); (case hh => exact rfl))
  | ((with_reducible refine' ws_augN ?h1 ?h2 ?_); (case h1 => exact rfl); (case h2 => exact rfl))
  | (refine ⟨_, rfl, ⟨_, rfl⟩, ?_⟩)
  | (refine ⟨_, rfl, ?_⟩)
  | (refine ⟨_, _, _, rfl, rfl, rfl, ?_⟩)
  | (refine ⟨_, _, rfl, rfl, (Nat.le_of_ble_eq_true rfl : _ ≤ _), ?_⟩)
  | (refine ⟨_, _, rfl, rfl, ?_⟩)
  | (refine ⟨(Nat.le_of_ble_eq_true rfl : _ ≤ _), ?_⟩)
  | (refine ⟨(rfl : _ = true), ?_⟩)
  | ((refine' ⟨fun _ => ?_, fun hY => absurd hY ?k2⟩); (case k2 => walk_at "no"))
  | ((refine' ⟨fun hY => absurd hY ?k2, fun _ => ?_⟩); (case k2 => walk_at "no"))
  | (refine ⟨⟨(by omega), (by omega)⟩, ?_⟩)
  | (refine ⟨⟨(by decide), (by decide), (by decide)⟩, ?_⟩)
  | (refine ⟨(by first | decide | omega | fail "c"), ?_⟩)
  | fail "stop")
local macro_rules | `(tactic| walk_at "e") => `(tactic| first | with_reducible refine ws_seq ?_ | walk_at "x" | fail "stop")
local macro_rules | `(tactic| walk_at "xs") => `(tactic| repeat' walk_at "x")
local macro_rules | `(tactic| walk_at "es") => `(tactic| repeat' walk_at "e")
local macro_rules | `(tactic| walk_at "x") => `(tactic| first
  | with_reducible refine we_isN ?_
  | with_reducible refine we_notN ?_
  | with_reducible refine we_slG ?_
  | with_reducible refine wo_none ?_
  | with_reducible refine wo_some ?_
  | ((with_reducible refine' ixp ?h1 ?h2 ?_); (case h1 => exact rfl); (case h2 => assumption))
  | fail "x2")
section
variable {P : Program} {w : World} {K : PySem.W.Frag} {mg : Str → Option Value} {base : Heap}
theorem ok_sc (T : Txt K mg) : FnOk P w K mg base CX0 1 T.f_space_and_cut T.fd_space_and_cut ["paragraph", "previous"] (toSp K ap_sc) := by
  refine fn_ab [] T.F_space_and_cut sc_space_and_cut (by rintro as Post ⟨p, o, rfl, _⟩; rfl) rfl (fun cdv A outer s H E hr => ⟨_, tm_space_and_cut T cdv A outer s H E hr, ?_⟩)
  rintro as Post ⟨p, o, rfl, k⟩
  unfold t_space_and_cut
  cases o with
  | none =>
    show WS K [] _ [.val (.tup [.tup (p.ls.map Ln.dt), .int p.lead, .int p.least, .str p.kp, .int p.up, .int p.lo]), .val .non, .un, .un, .un] _
    walk_at "es"
    exact k
  | some o =>
    show WS K [] _ [.val (.tup [.tup (p.ls.map Ln.dt), .int p.lead, .int p.least, .str p.kp, .int p.up, .int p.lo]), .val (.tup [.tup (o.ls.map Ln.dt), .int o.lead, .int o.least, .str o.kp, .int o.up, .int o.lo]), .un, .un, .un] _
    walk_at "es"
    refine eqp_s rfl ?_
    walk_at "es"
    exact k
theorem ok_pl (T : Txt K mg) : FnOk P w K mg base CX0 2 T.f_paragraph_lines T.fd_paragraph_lines ["paragraph", "previous"] (toSp K ap_pl) := by
  have G := ok_sc (P := P) (w := w) (base := base) T
  refine fn_ab [] T.F_paragraph_lines sc_paragraph_lines (by rintro as Post ⟨p, o, rfl, _⟩; rfl) rfl (fun cdv A outer s H E hr => ⟨_, tm_paragraph_lines T G cdv A outer s H E hr, ?_⟩)
  rintro as Post ⟨p, o, rfl, ⟨hl, hk⟩, k⟩
  unfold t_paragraph_lines
  show WS K [] _ [.val (.tup [.tup (p.ls.map Ln.dt), .int p.lead, .int p.least, .str p.kp, .int p.up, .int p.lo]), .val (prevD o), .un, .un, .un, .un, .un, .un, .un, .un, .un] _
  walk_at "es"
  refine slp_t ?_
  refine ⟨.tup [.tup (p.ls.map Ln.dt), .int p.lead, .int p.least], rfl, ?_⟩
  walk_at "es"
  refine .a ⟨p, o, rfl, ?_⟩
  walk_at "es"
  refine for_range1 (p.ls.length : Int) (fun i G => ∃ (sp : Int) (ct : Bool) (s8 s9 s10 : Sl), (i = 0 → sp = spc p o ∧ ct = cut0 o) ∧ G = [.val p.dt, .val (prevD o), .val (.tup (p.ls.map Ln.dt)), .val (.int p.lead), .val (.int p.least), .val (.int sp), .val (.bl ct), .acc ((List.range i).map (entJ p o)), s8, s9, s10]) ?_ ?_ ?_
  · walk_at "es"
    rw [List.length_map]
    exact .a ⟨rfl, by omega, by omega, _, _, _, _, _, fun _ => ⟨rfl, rfl⟩, rfl⟩
  · rintro i G hi ⟨sp, ct, s8, s9, s10, h0, rfl⟩
    have hi' : i < p.ls.length := by omega
    have hg : p.ls.getD i ⟨[], []⟩ = p.ls[i] := by rw [List.getD_eq_getElem?_getD, List.getElem?_eq_getElem hi']; rfl
    have hat : atI (p.ls.map Ln.dt) (i : Int) = some (.tup [.tup ((p.ls.getD i ⟨[], []⟩).nt.map Dt.int), .tup ((p.ls.getD i ⟨[], []⟩).fl.map Dt.int)]) := atI_of (j := i) rfl (by rw [List.getElem?_map, List.getElem?_eq_getElem hi', hg]; rfl)
    have hlen : ((List.range i).map (entJ p o)).length < 1000000 := by rw [List.length_map, List.length_range]; omega
    have hlm : ((p.ls.map Ln.dt).length : Int) = p.ls.length := by rw [List.length_map]
    have fin : ∀ (sp : Int) (ct : Bool) (s9 s10 : Sl), entJ p o i = ent p sp ct (p.ls.getD i ⟨[], []⟩) → Hold (∃ (sp' : Int) (ct' : Bool) (s8 s9' s10' : Sl), (i + 1 = 0 → sp' = spc p o ∧ ct' = cut0 o) ∧ [Sl.val p.dt, .val (prevD o), .val (.tup (p.ls.map Ln.dt)), .val (.int p.lead), .val (.int p.least), .val (.int sp), .val (.bl ct), .acc ((List.range i).map (entJ p o) ++ [ent p sp ct (p.ls.getD i ⟨[], []⟩)]), .val (.int i), s9, s10] = [.val p.dt, .val (prevD o), .val (.tup (p.ls.map Ln.dt)), .val (.int p.lead), .val (.int p.least), .val (.int sp'), .val (.bl ct'), .acc ((List.range (i + 1)).map (entJ p o)), s8, s9', s10']) := fun sp ct s9 s10 e => by
      refine .a ⟨sp, ct, .val (.int i), s9, s10, fun h => absurd h (by omega), ?_⟩
      rw [List.range_succ, List.map_append, List.map_singleton, e]
    by_cases hz : i = 0
    · obtain ⟨e1, e2⟩ := h0 hz
      walk_at "es"
      refine fin sp ct _ _ ?_
      unfold entJ
      rw [if_pos hz, e1, e2]
    · walk_at "es"
      refine ⟨fun h => ?_, fun h => ?_⟩
      · have h := of_decide_eq_true h
        walk_at "es"
        refine fin 0 _ _ _ ?_
        unfold entJ cutJ
        rw [if_neg hz]
        rw [hlm, show (decide (p.least ≤ (i : Int) ∧ p.least ≤ (p.ls.length : Int) - i)) = decide (p.least ≤ (p.ls.length : Int) - i) from decide_eq_decide.mpr (by omega)]
      · have h := of_decide_eq_false h
        walk_at "es"
        refine fin 0 _ _ _ ?_
        unfold entJ cutJ
        rw [if_neg hz]
        rw [decide_eq_false (by omega)]
  · rintro G ⟨sp, ct, s8, s9, s10, h0, rfl⟩
    walk_at "es"
    exact k
theorem ok_mg (T : Txt K mg) : FnOk P w K mg base CX0 3 T.f_make_galley T.fd_make_galley ["paragraphs"] (toSp K ap_mg) := by
  have G := ok_pl (P := P) (w := w) (base := base) T
  refine fn_ab [] T.F_make_galley sc_make_galley (by rintro as Post ⟨ps, rfl, _⟩; rfl) rfl (fun cdv A outer s H E hr => ⟨_, tm_make_galley T G cdv A outer s H E hr, ?_⟩)
  rintro as Post ⟨ps, rfl, hok, hlen, k⟩
  unfold t_make_galley
  show WS K [] _ [.val (.tup (ps.map Pg.dt)), .un, .un, .un] _
  walk_at "es"
  refine for_tuple (ps.map Pg.dt) (fun i G => ∃ s3, G = [.val (.tup (ps.map Pg.dt)), .acc (gal none (ps.take i)), .val (prevD (lastOr none (ps.take i))), s3]) ?_ ?_ ?_
  · walk_at "es"
    exact .a ⟨rfl, _, rfl⟩
  · rintro i d G hd ⟨s3, rfl⟩
    obtain ⟨p, hp, rfl⟩ := take_all hd
    have po := hok p (List.mem_of_getElem? hp)
    have hgl := gal_le none (a := ps.take i) fun q hq => hok q (List.mem_of_mem_take hq)
    have hl2 : (ps.take i).length ≤ 6 := by rw [List.length_take]; omega
    have e1 : ps.take (i + 1) = ps.take i ++ [p] := by rw [List.take_add_one, hp]; rfl
    have po1 := po.1
    walk_at "es"
    refine we_extend rfl ?_
    walk_at "es"
    refine .a ⟨p, _, rfl, po, ?_⟩
    walk_at "es"
    refine ⟨_, _, rfl, rfl, rfl, by rw [lns_len]; omega, ?_⟩
    walk_at "es"
    refine .a ⟨.val p.dt, ?_⟩
    rw [e1, gal_snoc, lastOr_snoc]
    rfl
  · rintro G ⟨s3, rfl⟩
    rw [List.length_map, List.take_length]
    walk_at "es"
    exact k
end
end Lk61
namespace Lk61
open PySem L2 Ab
local macro_rules | `(tactic| walk_at "no") => `(tactic| first
  | exact fun h => Bool.noConfusion (show true = false from h)
  | exact fun h => Bool.noConfusion (show false = true from h)
  | exact fun h => absurd (of_decide_eq_true h) (by omega)
  | exact fun h => absurd (by omega) (of_decide_eq_false h)
  | exact fun h => absurd (by omega) (nd_t h)
  | exact fun h => absurd (nd_f h) (by omega)
  | fail "no")
local macro_rules | `(tactic| walk_at "kb") => `(tactic| first | exact kb_tt | exact kb_ll | exact kb_ii | exact kb_ib | exact kb_ss | exact kb_sb | exact kb_si | exact kb_tb | exact kb_ti | exact kb_ts | exact kb_tl | exact kb_lb | exact kb_li | exact kb_ls | exact kb_lt | exact kb_is | exact kb_it | exact kb_il | exact kb_st | exact kb_sl | exact kb_bb | exact kb_bi | exact kb_nb | exact kb_ni | exact kb_ns | exact kb_nt | exact kb_nl | exact kb_bs | exact kb_bt | exact kb_bl | fail "kb")
local macro_rules | `(tactic| walk_at "norm") => `(tactic| first
  | exact (rfl : _ = ([] : List Sl))
  | ((refine' norm_cons (rfl : _ = _ :: _) ?ea ?et); (case ea => first | exact norm_v | exact norm_n | exact norm_o | exact rfl | fail "norm"); (case et => walk_at "norm"))
  | fail "norm")
local macro_rules | `(tactic| walk_at "x") => `(tactic| first
  | ((with_reducible refine' norm_intro ?hn ?_); (case hn => walk_at "norm"))
  | ((with_reducible refine' we_var ?hh ?_); (case hh => exact rfl))
  | ((with_reducible refine' we_own ?hh ?_); (case hh => exact rfl))
  | with_reducible refine we_c ?_
  | with_reducible refine we_addG ?_
  | with_reducible refine addp_i ?_
  | with_reducible refine we_opI0 ?_
  | with_reducible refine we_opI ?_
  | with_reducible refine we_mulG ?_
  | ((with_reducible refine' mulp_r ?h1 ?_); (case h1 => first | decide | omega | fail "m"))
  | ((with_reducible refine' mulp_l ?h1 ?_); (case h1 => first | decide | omega | fail "m"))
  | with_reducible refine we_neg ?_
  | with_reducible refine we_ltG ?_
  | with_reducible refine ltp_i ?_
  | with_reducible refine we_eqG ?_
  | with_reducible refine we_neG ?_
  | with_reducible refine eqp_i ?_
  | with_reducible refine nep_i ?_
  | with_reducible refine we_ixG ?_
  | ((with_reducible refine' ixp ?h1 ?h2 ?_); (case h1 => exact rfl); (case h2 => exact rfl))
  | with_reducible refine we_lenG ?_
  | ((with_reducible refine' lenp ?hh ?_); (case hh => exact rfl))
  | with_reducible refine we_intG ?_
  | with_reducible refine intp_i ?_
  | with_reducible refine intp_b ?_
  | with_reducible refine we_abs ?_
  | with_reducible refine we_tup ?_
  | with_reducible refine we_lst ?_
  | with_reducible refine we_tuple ?_
  | with_reducible refine we_list ?_
  | with_reducible refine we_sum ?_
  | with_reducible refine we_max2 ?_
  | with_reducible refine we_min2 ?_
  | with_reducible refine wd_cons ?_
  | with_reducible refine wd_nil ?_
  | with_reducible refine wa_cons ?_
  | with_reducible refine wa_nil ?_
  | with_reducible refine we_callH ?_
  | with_reducible refine we_isiG ?_
  | ((with_reducible refine' isi_own ?h1 ?h2 ?_); (case h1 => exact rfl); (case h2 => walk_at "kb"))
  | ((with_reducible refine' isi_val ?h1 ?h2 ?_); (case h1 => exact rfl); (case h2 => walk_at "kb"))
  | ((with_reducible refine' isi_new ?h2 ?_); (case h2 => walk_at "kb"))
  | with_reducible refine we_chainI ?_
  | with_reducible refine we_andV ?_
  | with_reducible refine we_orV ?_
  | with_reducible refine we_notV ?_
  | with_reducible refine wt_test ?_
  | with_reducible refine wt_B ?_
  | with_reducible refine wt_yes ?_
  | with_reducible refine wt_and ?_
  | with_reducible refine wt_or ?_
  | with_reducible refine wt_not ?_
  | ((with_reducible refine' ws_retA ?hh ?_); (case hh => exact rfl))
  | with_reducible refine ws_ret ?_
  | with_reducible refine ws_if ?_
  | with_reducible refine ws_nil ?_
  | with_reducible refine ws_expr ?_
  | with_reducible refine ws_asgN rfl rfl ?_
  | with_reducible refine ws_setN ?_
  | with_reducible refine ws_asgG ?_
  | ((with_reducible refine' wg_tup ?hh ?_); (case hh => exact rfl))
  | with_reducible refine wgs_cons ?_
  | with_reducible refine wgs_nil ?_
  | with_reducible refine wg_nameN rfl rfl ?_
  | ((with_reducible refine' we_appendN ?hh ?_); (case hh => exact rfl))
  | ((with_reducible refine' we_reverseN ?hh ?_); (case hh => exact rfl))
  | ((with_reducible refine' ws_augN ?h1 ?h2 ?_); (case h1 => exact rfl); (case h2 => exact rfl))
  | (refine ⟨_, rfl, ⟨_, rfl⟩, ?_⟩)
  | (refine ⟨_, rfl, ?_⟩)
  | (refine ⟨_, _, _, rfl, rfl, rfl, ?_⟩)
  | (refine ⟨_, _, rfl, rfl, (Nat.le_of_ble_eq_true rfl : _ ≤ _), ?_⟩)
  | (refine ⟨_, _, rfl, rfl, ?_⟩)
  | (refine ⟨(Nat.le_of_ble_eq_true rfl : _ ≤ _), ?_⟩)
  | (refine ⟨(rfl : _ = true), ?_⟩)
  | ((refine' ⟨fun _ => ?_, fun hY => absurd hY ?k2⟩); (case k2 => walk_at "no"))
  | ((refine' ⟨fun hY => absurd hY ?k2, fun _ => ?_⟩); (case k2 => walk_at "no"))
  | (refine ⟨⟨(by omega), (by omega)⟩, ?_⟩)
  | (refine ⟨⟨(by decide), (by decide), (by decide)⟩, ?_⟩)
  | (refine ⟨(by first | decide | omega | fail "c"), ?_⟩)
  | fail "stop")
local macro_rules | `(tactic| walk_at "e") => `(tactic| first | with_reducible refine ws_seq ?_ | walk_at "x" | fail "stop")
local macro_rules | `(tactic| walk_at "xs") => `(tactic| repeat' walk_at "x")
local macro_rules | `(tactic| walk_at "es") => `(tactic| repeat' walk_at "e")
local macro_rules | `(tactic| walk_at "x") => `(tactic| first
  | with_reducible refine we_isN ?_
  | with_reducible refine we_notN ?_
  | with_reducible refine we_slG ?_
  | with_reducible refine wo_none ?_
  | with_reducible refine wo_some ?_
  | ((with_reducible refine' ixp ?h1 ?h2 ?_); (case h1 => exact rfl); (case h2 => assumption))
  | fail "x2")
def flSum (ls : List Ln) : Nat := (ls.map fun l => l.fl.length).sum
def ap_hts : AP := fun as Post => ∃ (ds : List Dt) (c : Int) (n : Nat), as = [.acc ds, .val (.int n)] ∧ Pool4 c ds ∧ 0 ≤ c ∧ c < 100000 ∧ n ≤ 2 ∧ ∀ ds' (hs : List Int), Pool4 (c + n) ds' → hs.length = n → Post (.val (.tup (hs.map Dt.int))) [.acc ds', .val (.int n)]
def ap_lns : AP := fun as Post => ∃ (ds : List Dt) (c : Int) (n fl : Nat), as = [.acc ds, .val (.int n), .val (.int fl)] ∧ Pool4 c ds ∧ 0 ≤ c ∧ c < 10000 ∧ n ≤ 60 ∧ fl ≤ 6 ∧ ∀ ds' c' (ls : List Ln), Pool4 c' ds' → c ≤ c' → c' ≤ c + 5 * n → ls.length = n → fl + flSum ls ≤ 6 → (∀ l ∈ ls, l.ok) → Post (.val (.tup (ls.map Ln.dt))) [.acc ds', .val (.int n), .val (.int fl)]
section
variable {P : Program} {w : World} {K : PySem.W.Frag} {mg : Str → Option Value} {base : Heap}
theorem ok_pool (T : Txt K mg) : FnOk P w K mg base CX0 1 T.f__law_pool T.fd__law_pool ["_law_script", "_law_at"] (toSp K ap_pool4) :=
  fn_ab [] T.F__law_pool sc__law_pool len_pool4 rfl (fun cdv A outer s H E hr => ⟨_, tm__law_pool T cdv A outer s H E hr, run_tPool4⟩)
theorem ok_take (T : Txt K mg) : FnOk P w K mg base CX0 1 T.f__law_take T.fd__law_take ["_law_pool_here", "_law_many"] (toSp K ap_take4) :=
  fn_ab [0] T.F__law_take sc__law_take len_take4 rfl (fun cdv A outer s H E hr => ⟨_, tm__law_take T cdv A outer s H E hr, run_tTakeD4⟩)
theorem ok_same (T : Txt K mg) : ∀ n, FnOk P w K mg base CX0 (n + 2) T.f__law_same T.fd__law_same ["_law_one", "_law_two"] (toSp K (ap_same n))
  | 0 => fn_ab [0, 1] T.F__law_same sc__law_same len_same rfl (fun cdv A outer s H E hr => ⟨_, tm__law_same T (fn_never (k := 0) T.F__law_same sc__law_same) cdv A outer s H E hr, run_tSame fun d Post _ h => absurd h (Nat.not_lt_zero _)⟩)
  | n + 1 => fn_ab [0, 1] T.F__law_same sc__law_same len_same rfl (fun cdv A outer s H E hr => ⟨_, tm__law_same T (ok_same T n) cdv A outer s H E hr, run_tSame fun d Post ok h p => ⟨.val d, .val d, d, rfl, rfl, rfl, ok, Nat.le_of_lt_succ h, p⟩⟩)
theorem ok_hts (T : Txt K mg) : FnOk P w K mg base CX0 2 T.f__law_heights T.fd__law_heights ["_law_pool_here", "_law_many"] (toSp K ap_hts) := by
  have G1 := ok_take (P := P) (w := w) (base := base) T
  refine fn_ab [0] T.F__law_heights sc__law_heights (by rintro as Post ⟨ds, c, n, rfl, _⟩; rfl) rfl (fun cdv A outer s H E hr => ⟨_, tm__law_heights T G1 cdv A outer s H E hr, ?_⟩)
  rintro as Post ⟨ds, c, n, rfl, h0, c0, c1, hn, k⟩
  unfold t__law_heights
  show WS K [0] _ [.acc ds, .val (.int n), .un] _
  walk_at "es"
  refine lc_range1 n (fun i es G => ∃ (d6 : List Dt) (hs : List Int), Pool4 (c + i) d6 ∧ hs.length = i ∧ es = hs.map Dt.int ∧ G = [.acc d6, .val (.int n), .un]) ?_ ?_ ?_
  · walk_at "es"
    exact .a ⟨rfl, by omega, rfl, rfl, rfl, ds, [], by rw [show c + ((0 : Nat) : Int) = c by omega]; exact h0, rfl, rfl, rfl⟩
  · rintro i es G hi ⟨d6, hs, h6, hl, rfl, rfl⟩
    show WT K _ [.acc d6, .val (.int n), .val (.int i)] _
    walk_at "es"
    refine .a ⟨d6, c + i, 2000, rfl, h6, by omega, by omega, by omega, by omega, fun d7 g h7 g0 g1 => ?_⟩
    walk_at "es"
    refine .a ⟨d7, hs ++ [1 + g], by rw [show c + ((i + 1 : Nat) : Int) = c + i + 1 by omega]; exact h7, by simp [hl], by simp, rfl⟩
  · rintro es G ⟨d6, hs, h6, hl, rfl, rfl⟩
    walk_at "es"
    exact k d6 hs h6 hl
theorem ok_lns (T : Txt K mg) : FnOk P w K mg base CX0 3 T.f__law_lines T.fd__law_lines ["_law_pool_here", "_law_many", "_law_floats"] (toSp K ap_lns) := by
  have G1 := ok_take (P := P) (w := w) (base := base) T
  have G2 := ok_hts (P := P) (w := w) (base := base) T
  refine fn_ab [0] T.F__law_lines sc__law_lines (by rintro as Post ⟨ds, c, n, fl, rfl, _⟩; rfl) rfl (fun cdv A outer s H E hr => ⟨_, tm__law_lines T G1 G2 cdv A outer s H E hr, ?_⟩)
  rintro as Post ⟨ds, c, n, fl, rfl, h0, c0, c1, hn, hfl, k⟩
  unfold t__law_lines
  show WS K [0] _ [.acc ds, .val (.int n), .val (.int fl), .un, .un, .un, .un, .un, .un] _
  walk_at "es"
  refine for_range1 n (fun i G => ∃ (d6 : List Dt) (c6 : Int) (ls : List Ln) (f6 : Nat) (s4 s5 s6 s7 s8 : Sl), Pool4 c6 d6 ∧ c ≤ c6 ∧ c6 ≤ c + 5 * i ∧ ls.length = i ∧ f6 = fl + flSum ls ∧ f6 ≤ 6 ∧ (∀ l ∈ ls, l.ok) ∧ G = [.acc d6, .val (.int n), .val (.int f6), .acc (ls.map Ln.dt), s4, s5, s6, s7, s8]) ?_ ?_ ?_
  · walk_at "es"
    exact .a ⟨rfl, by omega, by omega, ds, c, [], fl, .un, .un, .un, .un, .un, h0, by omega, by omega, rfl, rfl, hfl, (fun _ h => nomatch h), rfl⟩
  · rintro i G hi ⟨d6, c6, ls, f6, s4, s5, s6, s7, s8, h6, c60, c61, hl, ef, hf6, hok, rfl⟩
    have hll : (ls.map Ln.dt).length < 1000000 := by rw [List.length_map]; omega
    walk_at "es"
    refine .a ⟨d6, c6, 12, rfl, h6, by omega, by omega, by omega, by omega, fun d7 g h7 g0 g1 => ?_⟩
    obtain ⟨u, hu, eu⟩ := at_lit (f := Dt.int) (xs := [(0 : Nat), 0, 0, 0, 0, 0, 0, 1, 0, 2, 0, 1].map fun n : Nat => (n : Int)) (k := g) g0 g1
    obtain ⟨v, hv, ev⟩ := at_lit (f := Dt.int) (xs := [(0 : Nat), 0, 0, 0, 0, 0, 0, 0, 1, 0, 2, 1].map fun n : Nat => (n : Int)) (k := g) g0 g1
    obtain ⟨U, hU, rfl⟩ := List.mem_map.mp hu
    obtain ⟨V, hV, rfl⟩ := List.mem_map.mp hv
    have hU2 : U ≤ 2 := by
      have : ∀ x ∈ [(0 : Nat), 0, 0, 0, 0, 0, 0, 1, 0, 2, 0, 1], x ≤ 2 := by decide
      exact this U hU
    have hV2 : V ≤ 2 := by
      have : ∀ x ∈ [(0 : Nat), 0, 0, 0, 0, 0, 0, 0, 1, 0, 2, 1], x ≤ 2 := by decide
      exact this V hV
    have eu : atI [Dt.int 0, .int 0, .int 0, .int 0, .int 0, .int 0, .int 0, .int 1, .int 0, .int 2, .int 0, .int 1] g = some (.int (U : Int)) := eu
    have ev : atI [Dt.int 0, .int 0, .int 0, .int 0, .int 0, .int 0, .int 0, .int 0, .int 1, .int 0, .int 2, .int 1] g = some (.int (V : Int)) := ev
    walk_at "es"
    refine .a ⟨d7, c6 + 1, U, rfl, h7, by omega, by omega, hU2, fun d8 hs h8 hsl => ?_⟩
    walk_at "es"
    obtain ⟨W, hW, hW2, hW6⟩ : ∃ W : Nat, (if (V : Int) < 6 - (f6 : Int) then (V : Int) else 6 - (f6 : Int)) = (W : Int) ∧ W ≤ 2 ∧ f6 + W ≤ 6 := by
      by_cases hlt : (V : Int) < 6 - (f6 : Int)
      · exact ⟨V, by rw [if_pos hlt], hV2, by omega⟩
      · exact ⟨6 - f6, by rw [if_neg hlt]; omega, by omega, by omega⟩
    rw [hW]
    refine .a ⟨d8, c6 + 1 + U, W, rfl, h8, by omega, by omega, hW2, fun d9 ks h9 ksl => ?_⟩
    walk_at "es"
    refine .a ⟨d9, _, ls ++ [⟨hs, ks⟩], f6 + W, _, _, _, _, _, h9, by omega, by omega, by simp [hl], by unfold flSum at ef ⊢; simp [ksl]; omega, hW6, fun l hl => ?_, by rw [List.map_append]; rfl⟩
    rcases List.mem_append.mp hl with hl | hl
    · exact hok l hl
    · rw [List.mem_singleton.mp hl]; exact ⟨by show hs.length ≤ 6; omega, by show ks.length ≤ 6; omega⟩
  · rintro G ⟨d6, c6, ls, f6, s4, s5, s6, s7, s8, h6, c60, c61, hl, ef, hf6, hok, rfl⟩
    walk_at "es"
    exact k d6 c6 ls h6 c60 (by omega) (by omega) (by omega) hok
end
end Lk61
namespace Lk61
open PySem L2 Ab
local macro_rules | `(tactic| walk_at "no") => `(tactic| first
  | exact fun h => Bool.noConfusion (show true = false from h)
  | exact fun h => Bool.noConfusion (show false = true from h)
  | exact fun h => absurd (of_decide_eq_true h) (by omega)
  | exact fun h => absurd (by omega) (of_decide_eq_false h)
  | exact fun h => absurd (by omega) (nd_t h)
  | exact fun h => absurd (nd_f h) (by omega)
  | fail "no")
local macro_rules | `(tactic| walk_at "kb") => `(tactic| first | exact kb_tt | exact kb_ll | exact kb_ii | exact kb_ib | exact kb_ss | exact kb_sb | exact kb_si | exact kb_tb | exact kb_ti | exact kb_ts | exact kb_tl | exact kb_lb | exact kb_li | exact kb_ls | exact kb_lt | exact kb_is | exact kb_it | exact kb_il | exact kb_st | exact kb_sl | exact kb_bb | exact kb_bi | exact kb_nb | exact kb_ni | exact kb_ns | exact kb_nt | exact kb_nl | exact kb_bs | exact kb_bt | exact kb_bl | fail "kb")
local macro_rules | `(tactic| walk_at "norm") => `(tactic| first
  | exact (rfl : _ = ([] : List Sl))
  | ((refine' norm_cons (rfl : _ = _ :: _) ?ea ?et); (case ea => first | exact norm_v | exact norm_n | exact norm_o | exact rfl | fail "norm"); (case et => walk_at "norm"))
  | fail "norm")
local macro_rules | `(tactic| walk_at "x") => `(tactic| first
  | ((with_reducible refine' norm_intro ?hn ?_); (case hn => walk_at "norm"))
  | ((with_reducible refine' we_var ?hh ?_); (case hh => exact rfl))
  | ((with_reducible refine' we_own ?hh ?_); (case hh => exact rfl))
  | with_reducible refine we_c ?_
  | with_reducible refine we_addG ?_
  | with_reducible refine addp_i ?_
  | with_reducible refine we_opI0 ?_
  | with_reducible refine we_opI ?_
  | with_reducible refine we_mulG ?_
  | ((with_reducible refine' mulp_r ?h1 ?_); (case h1 => first | decide | omega | fail "m"))
  | ((with_reducible refine' mulp_l ?h1 ?_); (case h1 => first | decide | omega | fail "m"))
  | with_reducible refine we_neg ?_
  | with_reducible refine we_ltG ?_
  | with_reducible refine ltp_i ?_
  | with_reducible refine we_eqG ?_
  | with_reducible refine we_neG ?_
  | with_reducible refine eqp_i ?_
  | with_reducible refine nep_i ?_
  | with_reducible refine we_ixG ?_
  | ((with_reducible refine' ixp ?h1 ?h2 ?_); (case h1 => exact rfl); (case h2 => exact rfl))
  | with_reducible refine we_lenG ?_
  | ((with_reducible refine' lenp ?hh ?_); (case hh => exact rfl))
  | with_reducible refine we_intG ?_
  | with_reducible refine intp_i ?_
  | with_reducible refine intp_b ?_
  | with_reducible refine we_abs ?_
  | with_reducible refine we_tup ?_
  | with_reducible refine we_lst ?_
  | with_reducible refine we_tuple ?_
  | with_reducible refine we_list ?_
  | with_reducible refine we_sum ?_
  | with_reducible refine we_max2 ?_
  | with_reducible refine we_min2 ?_
  | with_reducible refine wd_cons ?_
  | with_reducible refine wd_nil ?_
  | with_reducible refine wa_cons ?_
  | with_reducible refine wa_nil ?_
  | with_reducible refine we_callH ?_
  | with_reducible refine we_isiG ?_
  | ((with_reducible refine' isi_own ?h1 ?h2 ?_); (case h1 => exact rfl); (case h2 => walk_at "kb"))
  | ((with_reducible refine' isi_val ?h1 ?h2 ?_); (case h1 => exact rfl); (case h2 => walk_at "kb"))
  | ((with_reducible refine' isi_new ?h2 ?_); (case h2 => walk_at "kb"))
  | with_reducible refine we_chainI ?_
  | with_reducible refine we_andV ?_
  | with_reducible refine we_orV ?_
  | with_reducible refine we_notV ?_
  | with_reducible refine wt_test ?_
  | with_reducible refine wt_B ?_
  | with_reducible refine wt_yes ?_
  | with_reducible refine wt_and ?_
  | with_reducible refine wt_or ?_
  | with_reducible refine wt_not ?_
  | ((with_reducible refine' ws_retA ?hh ?_); (case hh => exact rfl))
  | with_reducible refine ws_ret ?_
  | with_reducible refine ws_if ?_
  | with_reducible refine ws_nil ?_
  | with_reducible refine ws_expr ?_
  | with_reducible refine ws_asgN rfl rfl ?_
  | with_reducible refine ws_setN ?_
  | with_reducible refine ws_asgG ?_
  | ((with_reducible refine' wg_tup ?hh ?_); (case hh => exact rfl))
  | with_reducible refine wgs_cons ?_
  | with_reducible refine wgs_nil ?_
  | with_reducible refine wg_nameN rfl rfl ?_
  | ((with_reducible refine' we_appendN ?hh ?_); (case hh => exact rfl))
  | ((with_reducible refine' we_reverseN ?hh ?_); (case hh => exact rfl))
  | ((with_reducible refine' ws_augN ?h1 ?h2 ?_); (case h1 => exact rfl); (case h2 => exact rfl))
  | (refine ⟨_, rfl, ⟨_, rfl⟩, ?_⟩)
  | (refine ⟨_, rfl, ?_⟩)
  | (refine ⟨_, _, _, rfl, rfl, rfl, ?_⟩)
  | (refine ⟨_, _, rfl, rfl, (Nat.le_of_ble_eq_true rfl : _ ≤ _), ?_⟩)
  | (refine ⟨_, _, rfl, rfl, ?_⟩)
  | (refine ⟨(Nat.le_of_ble_eq_true rfl : _ ≤ _), ?_⟩)
  | (refine ⟨(rfl : _ = true), ?_⟩)
  | ((refine' ⟨fun _ => ?_, fun hY => absurd hY ?k2⟩); (case k2 => walk_at "no"))
  | ((refine' ⟨fun hY => absurd hY ?k2, fun _ => ?_⟩); (case k2 => walk_at "no"))
  | (refine ⟨⟨(by omega), (by omega)⟩, ?_⟩)
  | (refine ⟨⟨(by decide), (by decide), (by decide)⟩, ?_⟩)
  | (refine ⟨(by first | decide | omega | fail "c"), ?_⟩)
  | fail "stop")
local macro_rules | `(tactic| walk_at "e") => `(tactic| first | with_reducible refine ws_seq ?_ | walk_at "x" | fail "stop")
local macro_rules | `(tactic| walk_at "xs") => `(tactic| repeat' walk_at "x")
local macro_rules | `(tactic| walk_at "es") => `(tactic| repeat' walk_at "e")
local macro_rules | `(tactic| walk_at "x") => `(tactic| first
  | with_reducible refine we_isN ?_
  | with_reducible refine we_notN ?_
  | with_reducible refine we_slG ?_
  | with_reducible refine wo_none ?_
  | with_reducible refine wo_some ?_
  | ((with_reducible refine' ixp ?h1 ?h2 ?_); (case h1 => exact rfl); (case h2 => assumption))
  | fail "x2")
def ap_due : AP := fun as Post => ∃ (ps : List Pg), as = [.val (.lst (ps.map Pg.dt))] ∧ (∀ p ∈ ps, p.ok) ∧ ps.length ≤ 6 ∧ Post (.new (gal none ps)) as
def ap_pars : AP := fun as Post => ∃ (d0 d1 : List Dt), as = [.acc d0, .acc d1] ∧ Pool4 0 d0 ∧ Pool4 0 d1 ∧ ∀ (d2 d3 : List Dt) (ps : List Pg), (∀ p ∈ ps, p.ok) → ps.length ≤ 6 → Post (.new (ps.map Pg.dt)) [.acc d2, .acc d3]
theorem lns_at {p : Pg} {o : Option Pg} {j : Nat} (h : j < p.ls.length) : (lnsOf p o).take (j + 1) = (lnsOf p o).take j ++ [entJ p o j] := by
  rw [List.take_add_one]
  unfold lnsOf
  rw [List.getElem?_map, List.getElem?_range h]
  rfl
theorem last_take {ps : List Pg} {k : Nat} {q : Pg} (h : ps[k]? = some q) : lastOr none (ps.take (k + 1)) = some q := by
  rw [List.take_add_one, h]
  exact lastOr_snoc _ _ _
theorem cast_sum : ∀ (ls : List Ln), (ls.map fun l => (l.fl.length : Int)).sum = (flSum ls : Int)
  | [] => rfl
  | l :: r => by
    have := cast_sum r
    unfold flSum at this ⊢
    rw [List.map_cons, List.map_cons, List.sum_cons, List.sum_cons, this]
    omega
section
variable {P : Program} {w : World} {K : PySem.W.Frag} {mg : Str → Option Value} {base : Heap}
theorem ok_due (T : Txt K mg) : FnOk P w K mg base CX0 1 T.f__law_due T.fd__law_due ["_law_rows"] (toSp K ap_due) := by
  refine fn_ab [] T.F__law_due sc__law_due (by rintro as Post ⟨ps, rfl, _⟩; rfl) rfl (fun cdv A outer s H E hr => ⟨_, tm__law_due T cdv A outer s H E hr, ?_⟩)
  rintro as Post ⟨ps, rfl, hok, hlen, fk⟩
  unfold t__law_due
  show WS K [] _ [.val (.lst (ps.map Pg.dt)), .un, .un, .un, .un, .un, .un] _
  walk_at "es"
  refine for_range1 (ps.length : Int) (fun k G => ∃ s2 s3 s4 s5 s6, G = [.val (.lst (ps.map Pg.dt)), .acc (gal none (ps.take k)), s2, s3, s4, s5, s6]) ?_ ?_ ?_
  · walk_at "es"
    rw [List.length_map]
    exact .a ⟨rfl, by omega, by omega, _, _, _, _, _, rfl⟩
  · rintro k G hk ⟨s2, s3, s4, s5, s6, rfl⟩
    have hk' : k < ps.length := by omega
    obtain ⟨p, hp⟩ : ∃ p, ps[k]? = some p := ⟨_, List.getElem?_eq_getElem hk'⟩
    have po := hok p (List.mem_of_getElem? hp)
    have po1 := po.1
    have hgl := gal_le none (a := ps.take k) fun q hq => hok q (List.mem_of_mem_take hq)
    have hl2 : (ps.take k).length ≤ 6 := by rw [List.length_take]; omega
    have e1 : ps.take (k + 1) = ps.take k ++ [p] := by rw [List.take_add_one, hp]; rfl
    have hat : atI (ps.map Pg.dt) (k : Int) = some (.tup [.tup (p.ls.map Ln.dt), .int p.lead, .int p.least, .str p.kp, .int p.up, .int p.lo]) := atI_of (j := k) rfl (by rw [List.getElem?_map, hp]; rfl)
    generalize ho : lastOr none (ps.take k) = o
    walk_at "es"
    refine for_range1 (p.ls.length : Int) (fun j G => ∃ s4 s5 s6, G = [.val (.lst (ps.map Pg.dt)), .acc (gal none (ps.take k) ++ (lnsOf p o).take j), .val (.int k), .val (.tup (p.ls.map Ln.dt)), s4, s5, s6]) ?_ ?_ ?_
    · walk_at "es"
      rw [List.length_map]
      exact .a ⟨rfl, by omega, by omega, s4, s5, s6, by rw [List.take_zero, List.append_nil]⟩
    · rintro j G hj ⟨s4, s5, s6, rfl⟩
      have hj' : j < p.ls.length := by omega
      have hg : p.ls.getD j ⟨[], []⟩ = p.ls[j] := by rw [List.getD_eq_getElem?_getD, List.getElem?_eq_getElem hj']; rfl
      have hat2 : atI (p.ls.map Ln.dt) (j : Int) = some (.tup [.tup ((p.ls.getD j ⟨[], []⟩).nt.map Dt.int), .tup ((p.ls.getD j ⟨[], []⟩).fl.map Dt.int)]) := atI_of (j := j) rfl (by rw [List.getElem?_map, List.getElem?_eq_getElem hj', hg]; rfl)
      have hlen2 : (gal none (ps.take k) ++ (lnsOf p o).take j).length < 1000000 := by rw [List.length_append, List.length_take, lns_len]; omega
      have hlm : ((p.ls.map Ln.dt).length : Int) = p.ls.length := by rw [List.length_map]
      have fin : ∀ (sp : Int) (ct : Bool), entJ p o j = ent p sp ct (p.ls.getD j ⟨[], []⟩) → Hold (∃ s4 s5 s6 : Sl, [Sl.val (.lst (ps.map Pg.dt)), .acc ((gal none (ps.take k) ++ (lnsOf p o).take j) ++ [ent p sp ct (p.ls.getD j ⟨[], []⟩)]), .val (.int k), .val (.tup (p.ls.map Ln.dt)), .val (.int j), .val (.int sp), .val (.bl ct)] = [.val (.lst (ps.map Pg.dt)), .acc (gal none (ps.take k) ++ (lnsOf p o).take (j + 1)), .val (.int k), .val (.tup (p.ls.map Ln.dt)), s4, s5, s6]) := fun sp ct e => by
        refine .a ⟨.val (.int j), .val (.int sp), .val (.bl ct), ?_⟩
        rw [lns_at hj', e, List.append_assoc]
      by_cases hz : j = 0
      · by_cases hk0 : k = 0
        · have ho' : o = none := by rw [← ho, hk0]; rfl
          walk_at "es"
          refine fin 0 true ?_
          unfold entJ
          rw [if_pos hz, ho']
          rfl
        · obtain ⟨q, hq⟩ : ∃ q, ps[k - 1]? = some q := ⟨_, List.getElem?_eq_getElem (by omega)⟩
          have ho' : o = some q := by rw [← ho, show k = (k - 1) + 1 by omega, last_take hq]
          have hat3 : atI (ps.map Pg.dt) ((k : Int) - 1) = some (.tup [.tup (q.ls.map Ln.dt), .int q.lead, .int q.least, .str q.kp, .int q.up, .int q.lo]) := atI_of (j := k - 1) (by omega) (by rw [List.getElem?_map, hq]; rfl)
          walk_at "es"
          refine eqp_s rfl ?_
          walk_at "es"
          refine fin _ _ ?_
          unfold entJ
          rw [if_pos hz, ho']
          rfl
      · walk_at "es"
        refine fin 0 _ ?_
        unfold entJ cutJ
        rw [if_neg hz, hlm]
        congr 1
        refine decide_eq_decide.mpr ?_
        split <;> omega
    · rintro G ⟨s4, s5, s6, rfl⟩
      refine .a ⟨.val (.int k), .val (.tup (p.ls.map Ln.dt)), s4, s5, s6, ?_⟩
      rw [e1, gal_snoc, ho, List.take_of_length_le (l := lnsOf p o) (by rw [lns_len]; omega)]
  · rintro G ⟨s2, s3, s4, s5, s6, rfl⟩
    have e : ps.take (ps.length : Int).toNat = ps := by rw [Int.toNat_natCast, List.take_length]
    rw [e]
    walk_at "es"
    exact fk
theorem ok_pars (T : Txt K mg) : FnOk P w K mg base CX0 4 T.f__law_paragraphs T.fd__law_paragraphs ["_law_pool_here", "_law_marks"] (toSp K ap_pars) := by
  have G1 := ok_take (P := P) (w := w) (base := base) T
  have G2 := ok_lns (P := P) (w := w) (base := base) T
  refine fn_ab [0, 1] T.F__law_paragraphs sc__law_paragraphs (by rintro as Post ⟨d0, d1, rfl, _⟩; rfl) rfl (fun cdv A outer s H E hr => ⟨_, tm__law_paragraphs T G1 G2 cdv A outer s H E hr, ?_⟩)
  rintro as Post ⟨d0, d1, rfl, h0, h1, fk⟩
  unfold t__law_paragraphs
  show WS K [0, 1] _ [.acc d0, .acc d1, .un, .un, .un, .un, .un, .un, .un, .un, .un, .un, .un, .un, .un, .un] _
  walk_at "es"
  refine .a ⟨d0, 0, 4, rfl, h0, by omega, by omega, by omega, by omega, fun d2 g h2 g0 g1 => ?_⟩
  obtain ⟨u, hu, eu⟩ := at_lit (f := Dt.int) (xs := [2, 3, 6, 6]) (k := g) g0 g1
  have eu : atI [Dt.int 2, .int 3, .int 6, .int 6] g = some (.int u) := eu
  have hu2 : 2 ≤ u ∧ u ≤ 6 := by
    have : ∀ x ∈ [(2 : Int), 3, 6, 6], 2 ≤ x ∧ x ≤ 6 := by decide
    exact this u hu
  walk_at "es"
  refine .a ⟨d2, 0 + 1, u, rfl, h2, by omega, by omega, by omega, by omega, fun d3 n h3 n0 n1 => ?_⟩
  obtain ⟨N, rfl⟩ : ∃ N : Nat, n = (N : Int) := ⟨n.toNat, by omega⟩
  walk_at "es"
  refine for_range1 (N : Int) (fun i G => ∃ (d6 d7 : List Dt) (c6 c7 : Int) (ps : List Pg) (fl : Nat) (room : Int) (s6 s7 s8 s9 s10 s11 s12 s13 s14 : Sl), Pool4 c6 d6 ∧ 0 ≤ c6 ∧ c6 ≤ 10 + 20 * i ∧ Pool4 c7 d7 ∧ 0 ≤ c7 ∧ c7 ≤ 300 * i ∧ ps.length = i ∧ (∀ p ∈ ps, p.ok) ∧ fl ≤ 6 ∧ N - i ≤ room ∧ room ≤ 60 ∧ G = [.acc d6, .acc d7, .acc (ps.map Pg.dt), .val (.int fl), .val (.int room), .val (.int N), s6, s7, s8, s9, s10, s11, s12, s13, s14, .un]) ?_ ?_ ?_
  · walk_at "es"
    exact .a ⟨rfl, by omega, by omega, d3, d1, _, _, [], 0, 60, _, _, _, _, _, _, _, _, _, h3, by omega, by omega, h1, by omega, by omega, rfl, (fun _ h => nomatch h), by omega, by omega, by omega, rfl⟩
  · rintro i G hi ⟨d6, d7, c6, c7, ps, fl, room, s6, s7, s8, s9, s10, s11, s12, s13, s14, h6, c60, c61, h7, c70, c71, hpl, hok, hfl, hr0, hr1, rfl⟩
    have hpl2 : (ps.map Pg.dt).length < 1000000 := by rw [List.length_map]; omega
    walk_at "es"
    refine .a ⟨d6, c6, 4, rfl, h6, by omega, by omega, by omega, by omega, fun d8 b h8 b0 b1 => ?_⟩
    obtain ⟨v, hv, ev⟩ := at_lit (f := Dt.int) (xs := [2, 60, 3, 12]) (k := b) b0 b1
    have ev : atI [Dt.int 2, .int 60, .int 3, .int 12] b = some (.int v) := ev
    have hv2 : 2 ≤ v ∧ v ≤ 60 := by
      have : ∀ x ∈ [(2 : Int), 60, 3, 12], 2 ≤ x ∧ x ≤ 60 := by decide
      exact this v hv
    walk_at "es"
    generalize hbd : (if v < room - (N : Int) + i + 1 then v else room - (N : Int) + i + 1) = bd
    have hbd2 : 1 ≤ bd ∧ bd ≤ 60 ∧ bd ≤ room - (N : Int) + i + 1 := by rw [← hbd]; split <;> omega
    refine .a ⟨d8, c6 + 1, bd, rfl, h8, by omega, by omega, by omega, by omega, fun d9 m h9 m0 m1 => ?_⟩
    walk_at "es"
    obtain ⟨M, hM⟩ : ∃ M : Nat, 1 + m = (M : Int) := ⟨(1 + m).toNat, by omega⟩
    rw [hM]
    refine .a ⟨d9, c6 + 1 + 1, 99, rfl, h9, by omega, by omega, by omega, by omega, fun d10 ld h10 ld0 ld1 => ?_⟩
    walk_at "es"
    refine .a ⟨d10, c6 + 1 + 1 + 1, 4, rfl, h10, by omega, by omega, by omega, by omega, fun d11 lt h11 lt0 lt1 => ?_⟩
    walk_at "es"
    refine .a ⟨d11, c6 + 1 + 1 + 1 + 1, 3, rfl, h11, by omega, by omega, by omega, by omega, fun d12 kx h12 kx0 kx1 => ?_⟩
    obtain ⟨z, hz, ez⟩ := at_lit (f := Dt.str) (xs := [("no" : Str), "yes", "no"]) (k := kx) kx0 kx1
    have ez : atI [Dt.str "no", .str "yes", .str "no"] kx = some (.str z) := ez
    walk_at "es"
    refine .a ⟨d12, c6 + 1 + 1 + 1 + 1 + 1, 2, rfl, h12, by omega, by omega, by omega, by omega, fun d13 a1 h13 a10 a11 => ?_⟩
    walk_at "es"
    refine .a ⟨d13, c6 + 1 + 1 + 1 + 1 + 1 + 1, 100, rfl, h13, by omega, by omega, by omega, by omega, fun d14 a2 h14 a20 a21 => ?_⟩
    walk_at "es"
    refine .a ⟨d14, c6 + 1 + 1 + 1 + 1 + 1 + 1 + 1, 2, rfl, h14, by omega, by omega, by omega, by omega, fun d15 a3 h15 a30 a31 => ?_⟩
    walk_at "es"
    refine .a ⟨d15, c6 + 1 + 1 + 1 + 1 + 1 + 1 + 1 + 1, 100, rfl, h15, by omega, by omega, by omega, by omega, fun d16 a4 h16 a40 a41 => ?_⟩
    walk_at "es"
    refine .a ⟨d7, c7, M, fl, rfl, h7, by omega, by omega, by omega, by omega, fun d17 c17 ls h17 c170 c171 hll hfs hlok => ?_⟩
    walk_at "es"
    refine lc_tuple (ls.map Ln.dt) (fun j es G => es = ((ls.take j).map fun l => (l.fl.length : Int)).map Dt.int ∧ G = [.acc d16, .acc d17, .acc (ps.map Pg.dt), .val (.int fl), .val (.int (room - M)), .val (.int N), .val (.int i), .val (.int bd), .val (.int M), .val (.int (1 + ld)), .val (.int (1 + lt)), .val (.str z), .val (.int (a1 * a2)), .val (.int (a3 * a4)), .val (.tup (ls.map Ln.dt)), .un]) ?_ ?_ ?_
    · walk_at "es"
      exact .a ⟨rfl, by rw [List.length_map]; omega, rfl, rfl, rfl, rfl, rfl⟩
    · rintro j d es G hd ⟨rfl, rfl⟩
      rw [List.getElem?_map] at hd
      cases hq : ls[j]? with
      | none => rw [hq] at hd; cases hd
      | some l =>
        rw [hq] at hd
        cases hd
        show WT K _ [.acc d16, .acc d17, .acc (ps.map Pg.dt), .val (.int fl), .val (.int (room - M)), .val (.int N), .val (.int i), .val (.int bd), .val (.int M), .val (.int (1 + ld)), .val (.int (1 + lt)), .val (.str z), .val (.int (a1 * a2)), .val (.int (a3 * a4)), .val (.tup (ls.map Ln.dt)), .val (.tup [.tup (l.nt.map Dt.int), .tup (l.fl.map Dt.int)])] _
        walk_at "es"
        refine .a ⟨?_, rfl⟩
        rw [List.take_add_one, hq, List.map_append, List.map_append, List.length_map]
        rfl
    · rintro es G ⟨rfl, rfl⟩
      rw [List.length_map, List.take_length]
      refine .a ⟨ls.map fun l => (l.fl.length : Int), rfl, ?_⟩
      rw [cast_sum]
      walk_at "es"
      refine .a ⟨d16, d17, _, c17, ps ++ [⟨ls, 1 + ld, 1 + lt, z, a1 * a2, a3 * a4⟩], fl + flSum ls, room - M, _, _, _, _, _, _, _, _, _, h16, by omega, by omega, h17, by omega, by omega, by simp [hpl], fun p hp => ?_, hfs, by omega, by omega, by rw [List.map_append]; rfl⟩
      rcases List.mem_append.mp hp with hp | hp
      · exact hok p hp
      · rw [List.mem_singleton.mp hp]; exact ⟨by show ls.length ≤ 60; omega, hlok⟩
  · rintro G ⟨d6, d7, c6, c7, ps, fl, room, s6, s7, s8, s9, s10, s11, s12, s13, s14, h6, c60, c61, h7, c70, c71, hpl, hok, hfl, hr0, hr1, rfl⟩
    walk_at "es"
    exact fk d6 d7 ps hok (by omega)
end
end Lk61
namespace Lk61
open PySem L2 Ab
theorem okAll_ints : ∀ (ns : List Int), okAll (ns.map Dt.int) = true
  | [] => by rw [List.map_nil, okAll]
  | n :: r => by rw [List.map_cons, okAll, okAll_ints r]; rfl
theorem depAll_ints : ∀ (ns : List Int), depAll (ns.map Dt.int) = 0
  | [] => by rw [List.map_nil, depAll]
  | n :: r => by rw [List.map_cons, depAll, depAll_ints r]; rfl
theorem okD_ent {p : Pg} {sp : Int} {ct : Bool} {l : Ln} (h : l.ok) : okD (ent p sp ct l) = true ∧ depD (ent p sp ct l) ≤ 2 := by
  obtain ⟨h1, h2⟩ := h
  have a1 := okAll_ints l.nt
  have a2 := okAll_ints l.fl
  have b1 := depAll_ints l.nt
  have b2 := depAll_ints l.fl
  have o1 : okD (.tup (l.nt.map Dt.int)) = true := by
    rw [okD, Bool.and_eq_true, decide_eq_true_eq, List.length_map]; exact ⟨by omega, a1⟩
  have o2 : okD (.tup (l.fl.map Dt.int)) = true := by
    rw [okD, Bool.and_eq_true, decide_eq_true_eq, List.length_map]; exact ⟨by omega, a2⟩
  have d1 : depD (.tup (l.nt.map Dt.int)) = 1 := by rw [depD, b1]
  have d2 : depD (.tup (l.fl.map Dt.int)) = 1 := by rw [depD, b2]
  constructor
  · unfold ent
    rw [okD, okAll, okAll, okAll, okAll, okAll, okAll, o1, o2]
    rfl
  · unfold ent
    rw [depD, depAll, depAll, depAll, depAll, depAll, depAll, d1, d2]
    have z1 : depD (Dt.int p.lead) = 0 := rfl
    have z2 : depD (Dt.int sp) = 0 := rfl
    have z3 : depD (Dt.bl ct) = 0 := rfl
    rw [z1, z2, z3]
    decide
theorem okAll_of : ∀ {ds : List Dt}, (∀ d ∈ ds, okD d = true ∧ depD d ≤ 2) → okAll ds = true ∧ depAll ds ≤ 2
  | [], _ => by rw [okAll, depAll]; exact ⟨rfl, by omega⟩
  | d :: r, h => by
    obtain ⟨h1, h2⟩ := okAll_of (ds := r) fun x hx => h x (List.mem_cons_of_mem _ hx)
    obtain ⟨h3, h4⟩ := h d List.mem_cons_self
    rw [okAll, depAll, h1, h3]
    exact ⟨rfl, by omega⟩
theorem gal_each : ∀ (o : Option Pg) {ps : List Pg}, (∀ p ∈ ps, p.ok) → ∀ d ∈ gal o ps, okD d = true ∧ depD d ≤ 2
  | o, [], _, d, hd => nomatch hd
  | o, p :: r, h, d, hd => by
    rcases List.mem_append.mp (show d ∈ lnsOf p o ++ gal (some p) r from hd) with hd | hd
    · obtain ⟨j, hj, rfl⟩ := List.mem_map.mp hd
      have hj := List.mem_range.mp hj
      have hl : (p.ls.getD j ⟨[], []⟩).ok := by
        rw [List.getD_eq_getElem?_getD, List.getElem?_eq_getElem hj]
        exact (h p List.mem_cons_self).2 _ (List.getElem_mem hj)
      unfold entJ
      split
      · exact okD_ent hl
      · exact okD_ent hl
    · exact gal_each (some p) (fun q hq => h q (List.mem_cons_of_mem _ hq)) d hd
theorem gal_ok {ps : List Pg} (h : ∀ p ∈ ps, p.ok) (hl : ps.length ≤ 6) : okD (.tup (gal none ps)) = true ∧ depD (.tup (gal none ps)) ≤ 6 := by
  obtain ⟨h1, h2⟩ := okAll_of (gal_each none h)
  have := gal_le none h
  constructor
  · rw [okD, Bool.and_eq_true, decide_eq_true_eq]
    exact ⟨by omega, h1⟩
  · rw [depD]; omega
theorem cast_len : ∀ (ps : List Pg), (ps.map fun p => (p.ls.length : Int)).sum = (((ps.map fun p => p.ls.length).sum : Nat) : Int)
  | [] => rfl
  | p :: r => by
    rw [List.map_cons, List.map_cons, List.sum_cons, List.sum_cons, cast_len r]
    omega
end Lk61
namespace Lk61
open PySem L2 Ab
local macro_rules | `(tactic| walk_at "no") => `(tactic| first
  | exact fun h => Bool.noConfusion (show true = false from h)
  | exact fun h => Bool.noConfusion (show false = true from h)
  | exact fun h => absurd (of_decide_eq_true h) (by omega)
  | exact fun h => absurd (by omega) (of_decide_eq_false h)
  | exact fun h => absurd (by omega) (nd_t h)
  | exact fun h => absurd (nd_f h) (by omega)
  | fail "no")
local macro_rules | `(tactic| walk_at "kb") => `(tactic| first | exact kb_tt | exact kb_ll | exact kb_ii | exact kb_ib | exact kb_ss | exact kb_sb | exact kb_si | exact kb_tb | exact kb_ti | exact kb_ts | exact kb_tl | exact kb_lb | exact kb_li | exact kb_ls | exact kb_lt | exact kb_is | exact kb_it | exact kb_il | exact kb_st | exact kb_sl | exact kb_bb | exact kb_bi | exact kb_nb | exact kb_ni | exact kb_ns | exact kb_nt | exact kb_nl | exact kb_bs | exact kb_bt | exact kb_bl | fail "kb")
local macro_rules | `(tactic| walk_at "norm") => `(tactic| first
  | exact (rfl : _ = ([] : List Sl))
  | ((refine' norm_cons (rfl : _ = _ :: _) ?ea ?et); (case ea => first | exact norm_v | exact norm_n | exact norm_o | exact rfl | fail "norm"); (case et => walk_at "norm"))
  | fail "norm")
local macro_rules | `(tactic| walk_at "x") => `(tactic| first
  | ((with_reducible refine' norm_intro ?hn ?_); (case hn => walk_at "norm"))
  | ((with_reducible refine' we_var ?hh ?_); (case hh => exact rfl))
  | ((with_reducible refine' we_own ?hh ?_); (case hh => exact rfl))
  | with_reducible refine we_c ?_
  | with_reducible refine we_addG ?_
  | with_reducible refine addp_i ?_
  | with_reducible refine we_opI0 ?_
  | with_reducible refine we_opI ?_
  | with_reducible refine we_mulG ?_
  | ((with_reducible refine' mulp_r ?h1 ?_); (case h1 => first | decide | omega | fail "m"))
  | ((with_reducible refine' mulp_l ?h1 ?_); (case h1 => first | decide | omega | fail "m"))
  | with_reducible refine we_neg ?_
  | with_reducible refine we_ltG ?_
  | with_reducible refine ltp_i ?_
  | with_reducible refine we_eqG ?_
  | with_reducible refine we_neG ?_
  | with_reducible refine eqp_i ?_
  | with_reducible refine nep_i ?_
  | with_reducible refine we_ixG ?_
  | ((with_reducible refine' ixp ?h1 ?h2 ?_); (case h1 => exact rfl); (case h2 => exact rfl))
  | with_reducible refine we_lenG ?_
  | ((with_reducible refine' lenp ?hh ?_); (case hh => exact rfl))
  | with_reducible refine we_intG ?_
  | with_reducible refine intp_i ?_
  | with_reducible refine intp_b ?_
  | with_reducible refine we_abs ?_
  | with_reducible refine we_tup ?_
  | with_reducible refine we_lst ?_
  | with_reducible refine we_tuple ?_
  | with_reducible refine we_list ?_
  | with_reducible refine we_sum ?_
  | with_reducible refine we_max2 ?_
  | with_reducible refine we_min2 ?_
  | with_reducible refine wd_cons ?_
  | with_reducible refine wd_nil ?_
  | with_reducible refine wa_cons ?_
  | with_reducible refine wa_nil ?_
  | with_reducible refine we_callH ?_
  | with_reducible refine we_isiG ?_
  | ((with_reducible refine' isi_own ?h1 ?h2 ?_); (case h1 => exact rfl); (case h2 => walk_at "kb"))
  | ((with_reducible refine' isi_val ?h1 ?h2 ?_); (case h1 => exact rfl); (case h2 => walk_at "kb"))
  | ((with_reducible refine' isi_new ?h2 ?_); (case h2 => walk_at "kb"))
  | with_reducible refine we_chainI ?_
  | with_reducible refine we_andV ?_
  | with_reducible refine we_orV ?_
  | with_reducible refine we_notV ?_
  | with_reducible refine wt_test ?_
  | with_reducible refine wt_B ?_
  | with_reducible refine wt_yes ?_
  | with_reducible refine wt_and ?_
  | with_reducible refine wt_or ?_
  | with_reducible refine wt_not ?_
  | ((with_reducible refine' ws_retA ?hh ?_); (case hh => exact rfl))
  | with_reducible refine ws_ret ?_
  | with_reducible refine ws_if ?_
  | with_reducible refine ws_nil ?_
  | with_reducible refine ws_expr ?_
  | with_reducible refine ws_asgN rfl rfl ?_
  | with_reducible refine ws_setN ?_
  | with_reducible refine ws_asgG ?_
  | ((with_reducible refine' wg_tup ?hh ?_); (case hh => exact rfl))
  | with_reducible refine wgs_cons ?_
  | with_reducible refine wgs_nil ?_
  | with_reducible refine wg_nameN rfl rfl ?_
  | ((with_reducible refine' we_appendN ?hh ?_); (case hh => exact rfl))
  | ((with_reducible refine' we_reverseN ?hh ?_); (case hh => exact rfl))
  | ((with_reducible refine' ws_augN ?h1 ?h2 ?_); (case h1 => exact rfl); (case h2 => exact rfl))
  | (refine ⟨_, rfl, ⟨_, rfl⟩, ?_⟩)
  | (refine ⟨_, rfl, ?_⟩)
  | (refine ⟨_, _, _, rfl, rfl, rfl, ?_⟩)
  | (refine ⟨_, _, rfl, rfl, (Nat.le_of_ble_eq_true rfl : _ ≤ _), ?_⟩)
  | (refine ⟨_, _, rfl, rfl, ?_⟩)
  | (refine ⟨(Nat.le_of_ble_eq_true rfl : _ ≤ _), ?_⟩)
  | (refine ⟨(rfl : _ = true), ?_⟩)
  | ((refine' ⟨fun _ => ?_, fun hY => absurd hY ?k2⟩); (case k2 => walk_at "no"))
  | ((refine' ⟨fun hY => absurd hY ?k2, fun _ => ?_⟩); (case k2 => walk_at "no"))
  | (refine ⟨⟨(by omega), (by omega)⟩, ?_⟩)
  | (refine ⟨⟨(by decide), (by decide), (by decide)⟩, ?_⟩)
  | (refine ⟨(by first | decide | omega | fail "c"), ?_⟩)
  | fail "stop")
local macro_rules | `(tactic| walk_at "e") => `(tactic| first | with_reducible refine ws_seq ?_ | walk_at "x" | fail "stop")
local macro_rules | `(tactic| walk_at "xs") => `(tactic| repeat' walk_at "x")
local macro_rules | `(tactic| walk_at "es") => `(tactic| repeat' walk_at "e")
local macro_rules | `(tactic| walk_at "x") => `(tactic| first
  | with_reducible refine we_isN ?_
  | with_reducible refine we_notN ?_
  | with_reducible refine we_slG ?_
  | with_reducible refine wo_none ?_
  | with_reducible refine wo_some ?_
  | ((with_reducible refine' ixp ?h1 ?h2 ?_); (case h1 => exact rfl); (case h2 => assumption))
  | fail "x2")
def ap_law : AP := fun as Post => ∃ ns, as = [.val (.scr ns)] ∧ Post (.val (.bl true)) [.val (.scr ns)]
section
variable {P : Program} {w : World} {K : PySem.W.Frag} {mg : Str → Option Value} {base : Heap}
theorem ok_law (T : Txt K mg) : FnOk P w K mg base CX0 9 T.f_law T.fd_law ["_law_script"] (toSp K ap_law) := by
  have G1 := ok_pars (P := P) (w := w) (base := base) T
  have G2 := ok_pool (P := P) (w := w) (base := base) T
  have G3 := ok_due (P := P) (w := w) (base := base) T
  have G4 := ok_take (P := P) (w := w) (base := base) T
  have G5 := ok_same (P := P) (w := w) (base := base) T 6
  have G6 := ok_mg (P := P) (w := w) (base := base) T
  refine fn_ab [] T.F_law sc_law (by rintro as Post ⟨ns, rfl, _⟩; rfl) rfl (fun cdv A outer s H E hr => ⟨_, tm_law T G1 G2 G3 G4 G5 G6 cdv A outer s H E hr, ?_⟩)
  rintro as Post ⟨ns, rfl, fk⟩
  unfold t_law
  show WS K [] _ [.val (.scr ns), .un, .un, .un, .un, .un] _
  walk_at "es"
  refine .a ⟨ns, 0, rfl, by omega, by omega, fun d0 h0 => ?_⟩
  walk_at "es"
  refine .a ⟨ns, 1, rfl, by omega, by omega, fun d1 h1 => ?_⟩
  walk_at "es"
  refine .a ⟨d0, d1, rfl, h0, h1, fun d2 d3 ps hok hlen => ?_⟩
  walk_at "xs"
  refine ws_frz 1 rfl ?_
  show WS K [] _ [.val (.scr ns), .val (.lst (ps.map Pg.dt)), .un, .un, .un, .un] _
  walk_at "es"
  refine .a ⟨ps, rfl, hok, hlen, ?_⟩
  walk_at "xs"
  refine ws_frz 2 rfl ?_
  show WS K [] _ [.val (.scr ns), .val (.lst (ps.map Pg.dt)), .val (.lst (gal none ps)), .un, .un, .un] _
  walk_at "es"
  refine .a ⟨ns, 2, rfl, by omega, by omega, fun d4 h4 => ?_⟩
  walk_at "es"
  refine .a ⟨d4, 0, _, rfl, h4, by omega, by omega, by omega, by rw [List.length_map]; omega, fun d5 g h5 g0 g1 => ?_⟩
  rw [List.length_map] at g1
  obtain ⟨m, rfl⟩ : ∃ m : Nat, g = (m : Int) := ⟨g.toNat, by omega⟩
  have hm : m ≤ ps.length := by omega
  have hct := cut_take (f := Pg.dt) hm
  have hkt : ∀ p ∈ ps.take m, p.ok := fun p hp => hok p (List.mem_of_mem_take hp)
  have hlt : (ps.take m).length ≤ 6 := by rw [List.length_take]; omega
  walk_at "xs"
  walk_at "e"
  walk_at "x"; walk_at "x"
  refine lc_lst ((ps.take m).map Pg.dt) (fun j es G => es = (((ps.take m).take j).map fun p => (p.ls.length : Int)).map Dt.int ∧ G = [.val (.scr ns), .val (.lst (ps.map Pg.dt)), .val (.lst (gal none ps)), .val (.int m), .un, .un]) ?_ ?_ ?_
  · walk_at "es"
    refine slp_l rfl ?_
    rw [hct]
    exact .a ⟨rfl, by rw [List.length_map]; omega, rfl, rfl, rfl, rfl, rfl⟩
  · rintro j d es G hd ⟨rfl, rfl⟩
    obtain ⟨p, hp, rfl⟩ := take_all hd
    show WT K _ [.val (.scr ns), .val (.lst (ps.map Pg.dt)), .val (.lst (gal none ps)), .val (.int m), .un, .val (.tup [.tup (p.ls.map Ln.dt), .int p.lead, .int p.least, .str p.kp, .int p.up, .int p.lo])] _
    walk_at "es"
    refine .a ⟨?_, rfl⟩
    rw [List.take_add_one, hp, List.map_append, List.map_append, List.length_map]
    rfl
  · rintro es G ⟨rfl, rfl⟩
    rw [List.length_map, List.take_length]
    refine .a ⟨(ps.take m).map fun p => (p.ls.length : Int), rfl, ?_⟩
    rw [cast_len]
    have hfl : ((ps.take m).map fun p => p.ls.length).sum ≤ (gal none ps).length := by
      rw [← gal_len none (ps.take m), ← gal_take none ps m, List.length_take]
      exact Nat.min_le_right _ _
    have hc2 : cutD (gal none ps) none (some ((((ps.take m).map fun p => p.ls.length).sum : Nat) : Int)) = gal none (ps.take m) := by
      rw [← gal_take none ps m]
      have := cut_take (f := fun d : Dt => d) hfl
      rw [List.map_id', List.map_id'] at this
      exact this
    walk_at "es"
    refine slp_l rfl ?_
    rw [hct]
    walk_at "es"
    refine .a ⟨ps.take m, rfl, hkt, hlt, ?_⟩
    walk_at "es"
    refine slp_l rfl ?_
    rw [hc2]
    walk_at "es"
    refine .a ⟨_, _, .tup (gal none (ps.take m)), rfl, rfl, rfl, (gal_ok hkt hlt).1, (gal_ok hkt hlt).2, ?_⟩
    walk_at "es"
    refine .a ⟨ps, rfl, hok, hlen, ?_⟩
    walk_at "es"
    refine .a ⟨_, _, .tup (gal none ps), rfl, rfl, rfl, (gal_ok hok hlen).1, (gal_ok hok hlen).2, ?_⟩
    walk_at "es"
    refine slp_l rfl ?_
    rw [hct]
    walk_at "es"
    refine .a ⟨ps.take m, rfl, hkt, hlt, ?_⟩
    walk_at "es"
    refine slp_l rfl ?_
    rw [hc2]
    walk_at "es"
    refine .a ⟨_, _, .tup (gal none (ps.take m)), rfl, rfl, rfl, (gal_ok hkt hlt).1, (gal_ok hkt hlt).2, ?_⟩
    walk_at "es"
    exact fk
end
end Lk61
namespace Lk61
open PySem L2 Ab
theorem law_pre {ns : List Int} (hl : ns.length ≤ 63) {Post : Re → List Sl → Prop} (hp : ∀ as, Post (.val (.bl true)) as) : ap_law [.val (.scr ns)] Post := ⟨ns, rfl, hp _⟩
end Lk61
namespace Lk61
open PySem L2 Ab
theorem fin_mk {l : PySem.W.OpenLaw} {w : World} {K : PySem.W.Frag} {h : Heap} {mg : Str → Option Value} {fa : Addr} (X : K.In h) (G : h.Ns mainGlobals mg) (hfa : mg "law" = some (.ref fa))
    {f0 : Addr} {od0 an0 : Option Addr} {sl0 : Array (Option Value)} {oc0 kV0 dc0 pm0 cd0 ct0 : Value}
    (a0 : PySem.W.nsIn K mainGlobals "space_and_cut" = some (some (.ref f0))) (l0 : K.lookup f0 = some ⟨oc0, od0, .func (PySem.W.fnOf "space_and_cut" "space_and_cut" (defArgs s_space_and_cut) (defBody s_space_and_cut) (defScope s_space_and_cut) .none kV0 dc0 pm0 an0 cd0 ct0), sl0⟩) (c0 : PySem.W.codeIn K cd0 "space_and_cut" = true) (k0 : PySem.W.keepIn K (.ref f0) = true)
    {f1 : Addr} {od1 an1 : Option Addr} {sl1 : Array (Option Value)} {oc1 kV1 dc1 pm1 cd1 ct1 : Value}
    (a1 : PySem.W.nsIn K mainGlobals "paragraph_lines" = some (some (.ref f1))) (l1 : K.lookup f1 = some ⟨oc1, od1, .func (PySem.W.fnOf "paragraph_lines" "paragraph_lines" (defArgs s_paragraph_lines) (defBody s_paragraph_lines) (defScope s_paragraph_lines) .none kV1 dc1 pm1 an1 cd1 ct1), sl1⟩) (c1 : PySem.W.codeIn K cd1 "paragraph_lines" = true) (k1 : PySem.W.keepIn K (.ref f1) = true)
    {f2 : Addr} {od2 an2 : Option Addr} {sl2 : Array (Option Value)} {oc2 kV2 dc2 pm2 cd2 ct2 : Value}
    (a2 : PySem.W.nsIn K mainGlobals "make_galley" = some (some (.ref f2))) (l2 : K.lookup f2 = some ⟨oc2, od2, .func (PySem.W.fnOf "make_galley" "make_galley" (defArgs s_make_galley) (defBody s_make_galley) (defScope s_make_galley) .none kV2 dc2 pm2 an2 cd2 ct2), sl2⟩) (c2 : PySem.W.codeIn K cd2 "make_galley" = true) (k2 : PySem.W.keepIn K (.ref f2) = true)
    {f3 : Addr} {od3 an3 : Option Addr} {sl3 : Array (Option Value)} {oc3 kV3 dc3 pm3 cd3 ct3 : Value}
    (a3 : PySem.W.nsIn K mainGlobals "_law_pool" = some (some (.ref f3))) (l3 : K.lookup f3 = some ⟨oc3, od3, .func (PySem.W.fnOf "_law_pool" "_law_pool" (defArgs s__law_pool) (defBody s__law_pool) (defScope s__law_pool) .none kV3 dc3 pm3 an3 cd3 ct3), sl3⟩) (c3 : PySem.W.codeIn K cd3 "_law_pool" = true) (k3 : PySem.W.keepIn K (.ref f3) = true)
    {f4 : Addr} {od4 an4 : Option Addr} {sl4 : Array (Option Value)} {oc4 kV4 dc4 pm4 cd4 ct4 : Value}
    (a4 : PySem.W.nsIn K mainGlobals "_law_take" = some (some (.ref f4))) (l4 : K.lookup f4 = some ⟨oc4, od4, .func (PySem.W.fnOf "_law_take" "_law_take" (defArgs s__law_take) (defBody s__law_take) (defScope s__law_take) .none kV4 dc4 pm4 an4 cd4 ct4), sl4⟩) (c4 : PySem.W.codeIn K cd4 "_law_take" = true) (k4 : PySem.W.keepIn K (.ref f4) = true)
    {f5 : Addr} {od5 an5 : Option Addr} {sl5 : Array (Option Value)} {oc5 kV5 dc5 pm5 cd5 ct5 : Value}
    (a5 : PySem.W.nsIn K mainGlobals "_law_same" = some (some (.ref f5))) (l5 : K.lookup f5 = some ⟨oc5, od5, .func (PySem.W.fnOf "_law_same" "_law_same" (defArgs s__law_same) (defBody s__law_same) (defScope s__law_same) .none kV5 dc5 pm5 an5 cd5 ct5), sl5⟩) (c5 : PySem.W.codeIn K cd5 "_law_same" = true) (k5 : PySem.W.keepIn K (.ref f5) = true)
    {f6 : Addr} {od6 an6 : Option Addr} {sl6 : Array (Option Value)} {oc6 kV6 dc6 pm6 cd6 ct6 : Value}
    (a6 : PySem.W.nsIn K mainGlobals "_law_heights" = some (some (.ref f6))) (l6 : K.lookup f6 = some ⟨oc6, od6, .func (PySem.W.fnOf "_law_heights" "_law_heights" (defArgs s__law_heights) (defBody s__law_heights) (defScope s__law_heights) .none kV6 dc6 pm6 an6 cd6 ct6), sl6⟩) (c6 : PySem.W.codeIn K cd6 "_law_heights" = true) (k6 : PySem.W.keepIn K (.ref f6) = true)
    {f7 : Addr} {od7 an7 : Option Addr} {sl7 : Array (Option Value)} {oc7 kV7 dc7 pm7 cd7 ct7 : Value}
    (a7 : PySem.W.nsIn K mainGlobals "_law_lines" = some (some (.ref f7))) (l7 : K.lookup f7 = some ⟨oc7, od7, .func (PySem.W.fnOf "_law_lines" "_law_lines" (defArgs s__law_lines) (defBody s__law_lines) (defScope s__law_lines) .none kV7 dc7 pm7 an7 cd7 ct7), sl7⟩) (c7 : PySem.W.codeIn K cd7 "_law_lines" = true) (k7 : PySem.W.keepIn K (.ref f7) = true)
    {f8 : Addr} {od8 an8 : Option Addr} {sl8 : Array (Option Value)} {oc8 kV8 dc8 pm8 cd8 ct8 : Value}
    (a8 : PySem.W.nsIn K mainGlobals "_law_paragraphs" = some (some (.ref f8))) (l8 : K.lookup f8 = some ⟨oc8, od8, .func (PySem.W.fnOf "_law_paragraphs" "_law_paragraphs" (defArgs s__law_paragraphs) (defBody s__law_paragraphs) (defScope s__law_paragraphs) .none kV8 dc8 pm8 an8 cd8 ct8), sl8⟩) (c8 : PySem.W.codeIn K cd8 "_law_paragraphs" = true) (k8 : PySem.W.keepIn K (.ref f8) = true)
    {f9 : Addr} {od9 an9 : Option Addr} {sl9 : Array (Option Value)} {oc9 kV9 dc9 pm9 cd9 ct9 : Value}
    (a9 : PySem.W.nsIn K mainGlobals "_law_due" = some (some (.ref f9))) (l9 : K.lookup f9 = some ⟨oc9, od9, .func (PySem.W.fnOf "_law_due" "_law_due" (defArgs s__law_due) (defBody s__law_due) (defScope s__law_due) .none kV9 dc9 pm9 an9 cd9 ct9), sl9⟩) (c9 : PySem.W.codeIn K cd9 "_law_due" = true) (k9 : PySem.W.keepIn K (.ref f9) = true)
    {f10 : Addr} {od10 an10 : Option Addr} {sl10 : Array (Option Value)} {oc10 kV10 dc10 pm10 cd10 ct10 : Value}
    (a10 : PySem.W.nsIn K mainGlobals "law" = some (some (.ref f10))) (l10 : K.lookup f10 = some ⟨oc10, od10, .func (PySem.W.fnOf "law" "law" (defArgs s_law) (defBody s_law) (defScope s_law) .none kV10 dc10 pm10 an10 cd10 ct10), sl10⟩) (c10 : PySem.W.codeIn K cd10 "law" = true) (k10 : PySem.W.keepIn K (.ref f10) = true)
    (z_abs : PySem.W.nsIn K mainGlobals "abs" = some none)
    (z_bool : PySem.W.nsIn K mainGlobals "bool" = some none)
    (z_int : PySem.W.nsIn K mainGlobals "int" = some none)
    (z_isinstance : PySem.W.nsIn K mainGlobals "isinstance" = some none)
    (z_len : PySem.W.nsIn K mainGlobals "len" = some none)
    (z_list : PySem.W.nsIn K mainGlobals "list" = some none)
    (z_max : PySem.W.nsIn K mainGlobals "max" = some none)
    (z_min : PySem.W.nsIn K mainGlobals "min" = some none)
    (z_range : PySem.W.nsIn K mainGlobals "range" = some none)
    (z_str : PySem.W.nsIn K mainGlobals "str" = some none)
    (z_sum : PySem.W.nsIn K mainGlobals "sum" = some none)
    (z_tuple : PySem.W.nsIn K mainGlobals "tuple" = some none)
    : ∃ fd : FuncData, (∀ (s : Shared) (v : Value), BindsTo s fd ⟨[v], []⟩ [("_law_script", v)]) ∧ ∀ base : Heap, K.In base → base.Ns mainGlobals mg → FnOk l.prog w K mg base CX0 9 fa fd ["_law_script"] (toSp K ap_law) := by
  obtain ⟨T, e, hb⟩ := txt_mk X G a0 l0 c0 k0 a1 l1 c1 k1 a2 l2 c2 k2 a3 l3 c3 k3 a4 l4 c4 k4 a5 l5 c5 k5 a6 l6 c6 k6 a7 l7 c7 k7 a8 l8 c8 k8 a9 l9 c9 k9 a10 l10 c10 k10 z_abs z_bool z_int z_isinstance z_len z_list z_max z_min z_range z_str z_sum z_tuple
  have e2 : T.f_law = fa := by
    have := T.g_law
    rw [hfa] at this
    cases this
    rfl
  exact ⟨T.fd_law, hb, fun base _ _ => by rw [← e2]; exact ok_law T⟩
end Lk61
open PySem PySem.W PyProof.Rows
set_option maxRecDepth 100000 in
set_option maxHeartbeats 0 in
theorem PySem.Challenge.cw_stylepages_k61_galley_of_paragraphs_holds : PySem.Challenge.rw_stylepages_k61_galley_of_paragraphs.Holds := by
  w_on; o_law; k_head; (case hw => w_witness2)
  k_fill
  refine L2.walk_of (l := PySem.Challenge.rw_stylepages_k61_galley_of_paragraphs) (n := 63) (k := 9) (x := "_law_script") (CX := fun _ => L2.CX0) (sp := fun w => Ab.toSp _ Lk61.ap_law) rfl (by decide) rfl ⟨rfl, by decide, by decide⟩ (fun w h Y => PySem.W.kIn_of Y) ?F (fun _ _ a ns hl _ hS => Ab.law_sp hS (fun Post hp => Lk61.law_pre hl hp)) (fun _ _ _ _ _ h => h)
  case F =>
    intro w mg fa h KX G hmg
    refine' Lk61.fin_mk KX G hmg ?a0 ?l0 ?c0 ?k0 ?a1 ?l1 ?c1 ?k1 ?a2 ?l2 ?c2 ?k2 ?a3 ?l3 ?c3 ?k3 ?a4 ?l4 ?c4 ?k4 ?a5 ?l5 ?c5 ?k5 ?a6 ?l6 ?c6 ?k6 ?a7 ?l7 ?c7 ?k7 ?a8 ?l8 ?c8 ?k8 ?a9 ?l9 ?c9 ?k9 ?a10 ?l10 ?c10 ?k10 ?z_abs ?z_bool ?z_int ?z_isinstance ?z_len ?z_list ?z_max ?z_min ?z_range ?z_str ?z_sum ?z_tuple
    (case a0 => k_is); (case l0 => k_is); (case c0 => k_is); (case k0 => k_is); (case a1 => k_is); (case l1 => k_is); (case c1 => k_is); (case k1 => k_is); (case a2 => k_is); (case l2 => k_is); (case c2 => k_is); (case k2 => k_is); (case a3 => k_is); (case l3 => k_is); (case c3 => k_is); (case k3 => k_is); (case a4 => k_is); (case l4 => k_is); (case c4 => k_is); (case k4 => k_is); (case a5 => k_is); (case l5 => k_is); (case c5 => k_is); (case k5 => k_is); (case a6 => k_is); (case l6 => k_is); (case c6 => k_is); (case k6 => k_is); (case a7 => k_is); (case l7 => k_is); (case c7 => k_is); (case k7 => k_is); (case a8 => k_is); (case l8 => k_is); (case c8 => k_is); (case k8 => k_is); (case a9 => k_is); (case l9 => k_is); (case c9 => k_is); (case k9 => k_is); (case a10 => k_is); (case l10 => k_is); (case c10 => k_is); (case k10 => k_is); (case z_abs => k_is); (case z_bool => k_is); (case z_int => k_is); (case z_isinstance => k_is); (case z_len => k_is); (case z_list => k_is); (case z_max => k_is); (case z_min => k_is); (case z_range => k_is); (case z_str => k_is); (case z_sum => k_is); (case z_tuple => k_is)
