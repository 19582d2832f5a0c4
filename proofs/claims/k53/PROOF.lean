import PyProof.Rows.All
import Wide.All
import OpenK.AllK
import Wide.FinOn
import HandS.ForMost
import HandS.IsInst
import HandS.TupAny
import HandS.Wide
import HandS.Flow
import KE.KTupSum
import HandS.MakeKwOnly
import HandS.ClsMeth
import PySem.Challenge.RW_stylepages_k53_rivers_and_twins
set_option Elab.async false
set_option linter.all false
set_option maxRecDepth 100000
set_option maxHeartbeats 4000000
/-! An own layer over HandS: environments of pure data, owned lists, symbolic runs. -/
namespace Ab
open PySem L2

/-! ### data -/
inductive Dt where
  | raw (v : V)
  | tup (ds : List Dt)
  | lst (ds : List Dt)
  | obj (C : Addr) (fs : List (Str × Dt))
  | scr (ns : List Int)
abbrev Dt.int (i : Int) : Dt := .raw (.int i)
abbrev Dt.bl (b : Bool) : Dt := .raw (.bl b)
abbrev Dt.str (s : Str) : Dt := .raw (.str s)
abbrev Dt.non : Dt := .raw .non

inductive Is (K : PySem.W.Frag) (B : Hp) : V → Dt → Prop where
  | raw (v : V) : Is K B v (.raw v)
  | tup {a : Addr} {xs : List V} {ds : List Dt} (h : SqT K B a xs) (hl : xs.length = ds.length) (hi : ∀ (i : Nat) v d, xs[i]? = some v → ds[i]? = some d → Is K B v d) : Is K B (.ref a) (.tup ds)
  | lst {a : Addr} {xs : List V} {ds : List Dt} (h : B a = some (.lst xs)) (hl : xs.length = ds.length) (hi : ∀ (i : Nat) v d, xs[i]? = some v → ds[i]? = some d → Is K B v d) : Is K B (.ref a) (.lst ds)
  | obj {a dx C : Addr} {fs : List (Str × V)} {gs : List (Str × Dt)} (h : B a = some (.ins C dx fs)) (hk : ∀ f : Str, (fs.lookup f).isSome = (gs.lookup f).isSome) (hi : ∀ (f : Str) v d, fs.lookup f = some v → gs.lookup f = some d → Is K B v d) : Is K B (.ref a) (.obj C gs)
  | scr {a : Addr} {ns : List Int} (h : SqL K B a (ns.map V.int)) : Is K B (.ref a) (.scr ns)
/-- items -/
structure IsA (K : PySem.W.Frag) (B : Hp) (vs : List V) (ds : List Dt) : Prop where
  len : vs.length = ds.length
  at_ : ∀ (i : Nat) v d, vs[i]? = some v → ds[i]? = some d → Is K B v d

section
variable {K : PySem.W.Frag} {B B' H H' : Hp} {v : V} {d : Dt} {vs : List V} {ds : List Dt}
theorem sqT_mono {a : Addr} {xs : List V} (e : Same B B') (h : SqT K B a xs) : SqT K B' a xs := by
  rcases h with (h | ⟨o, h⟩) | h
  · exact .inl (.inl (e _ _ h))
  · exact .inl (.inr ⟨o, e _ _ h⟩)
  · exact .inr h
theorem Is.mono (e : Same B B') (h : Is K B v d) : Is K B' v d := by
  induction h with
  | raw v => exact .raw v
  | tup h hl hi ih => exact .tup (sqT_mono e h) hl ih
  | lst h hl hi ih => exact .lst (e _ _ h) hl ih
  | obj h hk hi ih => exact .obj (e _ _ h) hk ih
  | scr h => exact .scr (e.seq h)
theorem IsA.mono (e : Same B B') (h : IsA K B vs ds) : IsA K B' vs ds := ⟨h.len, fun i v d a b => (h.at_ i v d a b).mono e⟩
theorem Is.rawI (h : Is K B v (.raw u)) : v = u := by cases h; rfl
theorem IsA.nil : IsA K B [] [] := ⟨rfl, fun i v d a => by simp at a⟩
theorem IsA.snoc (h : IsA K B vs ds) (hv : Is K B v d) : IsA K B (vs ++ [v]) (ds ++ [d]) := by
  refine ⟨by simp [h.len], fun i w e a b => ?_⟩
  by_cases hi : i < vs.length
  · rw [List.getElem?_append_left hi] at a
    rw [List.getElem?_append_left (by rw [← h.len]; exact hi)] at b
    exact h.at_ i w e a b
  · rw [List.getElem?_append_right (by omega)] at a
    rw [List.getElem?_append_right (by rw [← h.len]; omega)] at b
    rw [← h.len] at b
    generalize i - vs.length = j at a b
    cases j with
    | zero => simp at a b; subst a b; exact hv
    | succ j => simp at a
theorem IsA.cons (hv : Is K B v d) (h : IsA K B vs ds) : IsA K B (v :: vs) (d :: ds) := by
  refine ⟨by simp [h.len], fun i w e a b => ?_⟩
  cases i with
  | zero => simp at a b; subst a b; exact hv
  | succ j => simp at a b; exact h.at_ j w e a b
theorem IsA.append {us : List V} {es : List Dt} (h : IsA K B vs ds) (h' : IsA K B us es) : IsA K B (vs ++ us) (ds ++ es) := by
  refine ⟨by simp [h.len, h'.len], fun i w e a b => ?_⟩
  by_cases hi : i < vs.length
  · rw [List.getElem?_append_left hi] at a
    rw [List.getElem?_append_left (by rw [← h.len]; exact hi)] at b
    exact h.at_ i w e a b
  · rw [List.getElem?_append_right (by omega)] at a
    rw [List.getElem?_append_right (by rw [← h.len]; omega)] at b
    rw [← h.len] at b
    exact h'.at_ _ w e a b
theorem IsA.get {i : Nat} (h : IsA K B vs ds) (e : ds[i]? = some d) : ∃ v, vs[i]? = some v ∧ Is K B v d := by
  have hi : i < ds.length := (List.getElem?_eq_some_iff.mp e).1
  have hv : i < vs.length := by rw [h.len]; exact hi
  exact ⟨vs[i], List.getElem?_eq_getElem hv, h.at_ i _ d (List.getElem?_eq_getElem hv) e⟩
theorem IsA.set {j : Nat} (h : IsA K B vs ds) (hv : Is K B v d) : IsA K B (vs.set j v) (ds.set j d) := by
  refine ⟨by simp [h.len], fun i w e a b => ?_⟩
  by_cases hij : j = i
  · subst hij
    have h1 : j < (vs.set j v).length := (List.getElem?_eq_some_iff.mp a).1
    rw [List.length_set] at h1
    rw [List.getElem?_set_self h1] at a
    rw [List.getElem?_set_self (by rw [← h.len]; exact h1)] at b
    cases a; cases b; exact hv
  · rw [List.getElem?_set_ne hij] at a b
    exact h.at_ i w e a b
theorem IsA.drop (n : Nat) (h : IsA K B vs ds) : IsA K B (vs.drop n) (ds.drop n) := by
  refine ⟨by simp [h.len], fun i w e a b => ?_⟩
  rw [List.getElem?_drop] at a b
  exact h.at_ _ w e a b
theorem IsA.take (n : Nat) (h : IsA K B vs ds) : IsA K B (vs.take n) (ds.take n) := by
  refine ⟨by simp [h.len], fun i w e a b => ?_⟩
  rw [List.getElem?_take] at a b
  split at a
  · rename_i hi
    rw [if_pos hi] at b
    exact h.at_ _ w e a b
  · cases a
theorem IsA.reverse (h : IsA K B vs ds) : IsA K B vs.reverse ds.reverse := by
  refine ⟨by simp [h.len], fun i w e a b => ?_⟩
  have hi : i < vs.length := by
    have := (List.getElem?_eq_some_iff.mp a).1
    simpa using this
  rw [List.getElem?_reverse hi] at a
  rw [List.getElem?_reverse (by rw [← h.len]; exact hi)] at b
  rw [← h.len] at b
  exact h.at_ _ w e a b
theorem IsA.eraseIdx (j : Nat) (h : IsA K B vs ds) : IsA K B (vs.eraseIdx j) (ds.eraseIdx j) := by
  refine ⟨by simp [List.length_eraseIdx, h.len], fun i w e a b => ?_⟩
  rw [List.getElem?_eraseIdx] at a b
  split at a
  · rename_i hi; rw [if_pos hi] at b; exact h.at_ _ w e a b
  · rename_i hi; rw [if_neg hi] at b; exact h.at_ _ w e a b
theorem IsA.tupI {a : Addr} (h : Is K B (.ref a) (.tup ds)) : ∃ xs, SqT K B a xs ∧ IsA K B xs ds := by
  cases h with
  | tup h hl hi => exact ⟨_, h, hl, hi⟩
theorem IsA.lstI {a : Addr} (h : Is K B (.ref a) (.lst ds)) : ∃ xs, B a = some (.lst xs) ∧ IsA K B xs ds := by
  cases h with
  | lst h hl hi => exact ⟨_, h, hl, hi⟩
theorem Is.tupR (h : Is K B v (.tup ds)) : ∃ a xs, v = .ref a ∧ SqT K B a xs ∧ IsA K B xs ds := by
  cases h with
  | tup h hl hi => exact ⟨_, _, rfl, h, hl, hi⟩
theorem Is.lstR (h : Is K B v (.lst ds)) : ∃ a xs, v = .ref a ∧ B a = some (.lst xs) ∧ IsA K B xs ds := by
  cases h with
  | lst h hl hi => exact ⟨_, _, rfl, h, hl, hi⟩
theorem IsA.atI {i : Int} {d : Dt} (h : IsA K B vs ds) (e : L2.atI ds i = some d) : ∃ v, L2.atI vs i = some v ∧ Is K B v d := by
  unfold L2.atI at e ⊢
  rw [h.len]
  cases q : ixN ds.length i with
  | none => rw [q] at e; cases e
  | some j =>
    rw [q] at e
    exact h.get e
theorem IsA.raws : ∀ {xs : List V}, IsA K B xs (xs.map Dt.raw)
  | [] => .nil
  | x :: r => .cons (.raw x) IsA.raws
theorem IsA.rawsI : ∀ {us xs : List V}, IsA K B us (xs.map Dt.raw) → us = xs
  | [], [], _ => rfl
  | [], _ :: _, h => by have := h.len; simp at this
  | _ :: _, [], h => by have := h.len; simp at this
  | u :: us, x :: xs, h => by
    have h0 := h.at_ 0 u (.raw x) rfl rfl
    have ht : IsA K B us (xs.map Dt.raw) := ⟨by have := h.len; simpa using this, fun i v d a b => h.at_ (i + 1) v d (by simpa using a) (by simpa using b)⟩
    rw [h0.rawI, ht.rawsI]
end

/-! ### environments -/
inductive Sl where
  | un
  | val (d : Dt)
  | acc (ds : List Dt)
def Own (σ : L2.St) (Γ : List Sl) (a : Addr) : Prop := ∃ (i : Nat) (ds : List Dt), Γ[i]? = some (.acc ds) ∧ σ[i]? = some (some (.ref a))
structure Env (K : PySem.W.Frag) (B H : Hp) (σ : L2.St) (Γ : List Sl) : Prop where
  len : σ.length = Γ.length
  bh : Same B H
  val : ∀ (i : Nat) d, Γ[i]? = some (.val d) → ∃ v, σ[i]? = some (some v) ∧ Is K B v d
  acc : ∀ (i : Nat) ds, Γ[i]? = some (.acc ds) → ∃ l vs, σ[i]? = some (some (.ref l)) ∧ H l = some (.lst vs) ∧ B l = none ∧ IsA K B vs ds
  sep : ∀ (i j : Nat) ds es l, Γ[i]? = some (.acc ds) → Γ[j]? = some (.acc es) → σ[i]? = some (some (.ref l)) → σ[j]? = some (some (.ref l)) → i = j
/-- from (B, H) to (B', H'): what is not owned (m) stays -/
structure Mv (m : Addr → Prop) (B H B' H' : Hp) : Prop where
  kp : ∀ a o, ¬ m a → H a = some o → H' a = some o
  bb : Same B B'
  off : ∀ a, ¬ m a → H a ≠ none → B a = none → B' a = none
theorem Mv.refl (m : Addr → Prop) (B H : Hp) : Mv m B H B H := ⟨fun _ _ _ h => h, Same.refl B, fun _ _ _ h => h⟩
theorem Mv.trans {m m1 : Addr → Prop} {B H B1 H1 B2 H2 : Hp} (x : Mv m B H B1 H1) (hm : ∀ a, m1 a → m a ∨ H a = none) (y : Mv m1 B1 H1 B2 H2) : Mv m B H B2 H2 := by
  have nm : ∀ a, ¬ m a → H a ≠ none → ¬ m1 a := fun a na ha z => (hm a z).elim na ha
  refine ⟨fun a o na e => ?_, x.bb.trans y.bb, fun a na ha hb => ?_⟩
  · exact y.kp a o (nm a na (by rw [e]; exact fun z => nomatch z)) (x.kp a o na e)
  · refine y.off a (nm a na ha) ?_ (x.off a na ha hb)
    cases q : H a with
    | none => exact absurd q ha
    | some o => rw [x.kp a o na q]; exact fun z => nomatch z
theorem Mv.back {m : Addr → Prop} {B H B1 H1 : Hp} (x : Mv m B H B1 H1) {a : Addr} (h : H1 a = none) : m a ∨ H a = none := by
  by_cases hm : m a
  · exact .inl hm
  · refine .inr ?_
    cases q : H a with
    | none => rfl
    | some o => rw [x.kp a o hm q] at h; cases h
/-- results: data, a new list, or the owned list of a slot (borrowed) -/
inductive Re where
  | val (d : Dt)
  | new (ds : List Dt)
  | own (i : Nat)
def Re.dt? : Re → Option Dt
  | .val d => some d
  | .new ds => some (.lst ds)
  | .own _ => none
def ReOk (K : PySem.W.Frag) (σ : L2.St) (m m' : Addr → Prop) (B' H H' : Hp) (v : V) : Re → Prop
  | .val d => Is K B' v d
  | .new ds => ∃ l vs, v = .ref l ∧ (m l ∨ H l = none) ∧ ¬ m' l ∧ H' l = some (.lst vs) ∧ B' l = none ∧ IsA K B' vs ds
  | .own i => ∃ l, v = .ref l ∧ σ[i]? = some (some (.ref l))
/-- an expression went from (B, H, Γ) to (B', H', Γ') -/
structure Go (K : PySem.W.Frag) (σ : L2.St) (B H : Hp) (Γ : List Sl) (B' H' : Hp) (Γ' : List Sl) : Prop where
  mv : Mv (Own σ Γ) B H B' H'
  ac : ∀ (i : Nat) ds, Γ'[i]? = some (.acc ds) → ∃ es, Γ[i]? = some (.acc es)
  env : Env K B' H' σ Γ'
theorem Go.sub {K : PySem.W.Frag} {σ : L2.St} {B H B' H' : Hp} {Γ Γ' : List Sl} (g : Go K σ B H Γ B' H' Γ') : ∀ a, Own σ Γ' a → Own σ Γ a := fun a ⟨i, ds, h1, h2⟩ => by
  obtain ⟨es, h⟩ := g.ac i ds h1
  exact ⟨i, es, h, h2⟩
section
variable {K : PySem.W.Frag} {σ : L2.St} {B H B1 H1 B2 H2 : Hp} {Γ Γ1 Γ2 : List Sl} {v : V} {r : Re}
theorem Go.refl (E : Env K B H σ Γ) : Go K σ B H Γ B H Γ := ⟨Mv.refl _ _ _, fun _ ds h => ⟨ds, h⟩, E⟩
theorem Go.trans (x : Go K σ B H Γ B1 H1 Γ1) (y : Go K σ B1 H1 Γ1 B2 H2 Γ2) : Go K σ B H Γ B2 H2 Γ2 :=
  ⟨x.mv.trans (fun a h => .inl (x.sub a h)) y.mv, fun i ds h => by
    obtain ⟨es, h1⟩ := y.ac i ds h
    exact x.ac i es h1, y.env⟩
theorem Env.tracked (E : Env K B H σ Γ) {a : Addr} (h : Own σ Γ a) : ∃ vs, H a = some (.lst vs) ∧ B a = none := by
  obtain ⟨i, ds, h1, h2⟩ := h
  obtain ⟨l, vs, e1, e2, e3, _⟩ := E.acc i ds h1
  rw [h2] at e1
  cases e1
  exact ⟨vs, e2, e3⟩
theorem ReOk.raw {m m' : Addr → Prop} (v : V) : ReOk K σ m m' B1 H H1 v (.val (.raw v)) := Is.raw v
/-- a result stays while later parts run -/
theorem ReOk.step {m m1 m2 : Addr → Prop} (h : ReOk K σ m m1 B1 H H1 v r) (y : Mv m1 B1 H1 B2 H2) (hs : ∀ a, m2 a → m1 a) : ReOk K σ m m2 B2 H H2 v r := by
  cases r with
  | val d => exact Is.mono y.bb h
  | new ds =>
    obtain ⟨l, vs, e, h1, h2, h3, h4, h5⟩ := h
    exact ⟨l, vs, e, h1, fun z => h2 (hs l z), y.kp l _ h2 h3, y.off l h2 (by rw [h3]; exact fun z => nomatch z) h4, h5.mono y.bb⟩
  | own i => exact h
/-- seen from an earlier start -/
theorem ReOk.earlier {m m1 m2 : Addr → Prop} (h : ReOk K σ m1 m2 B2 H1 H2 v r) (x : Mv m B H B1 H1) (hm : ∀ a, m1 a → m a ∨ H a = none) : ReOk K σ m m2 B2 H H2 v r := by
  cases r with
  | val d => exact h
  | new ds =>
    obtain ⟨l, vs, e, h1, h2, h3⟩ := h
    refine ⟨l, vs, e, ?_, h2, h3⟩
    rcases h1 with h1 | h1
    · exact hm l h1
    · exact x.back h1
  | own i => exact h
/-- new data are laid on the base -/
theorem Env.laid (E : Env K B H σ Γ) {p : Addr} {o : HO} (hp : H p = none) : Env K (upd B p o) (upd H p o) σ Γ := by
  have hb : B p = none := by
    cases q : B p with
    | none => rfl
    | some u => rw [E.bh p u q] at hp; cases hp
  have sB : Same B (upd B p o) := fun a u e => by rw [upd_ne (ne_of_none e hb)]; exact e
  refine ⟨E.len, fun a u e => ?_, fun i d h => ?_, fun i ds h => ?_, E.sep⟩
  · by_cases ha : a = p
    · subst ha; rw [upd_same] at e ⊢; exact e
    · rw [upd_ne ha] at e ⊢; exact E.bh a u e
  · obtain ⟨v, e, q⟩ := E.val i d h
    exact ⟨v, e, q.mono sB⟩
  · obtain ⟨l, vs, e, e1, e2, q⟩ := E.acc i ds h
    have hl : l ≠ p := ne_of_none e1 hp
    exact ⟨l, vs, e, by rw [upd_ne hl]; exact e1, by rw [upd_ne hl]; exact e2, q.mono sB⟩
theorem Go.laid (E : Env K B H σ Γ) {p : Addr} {o : HO} (hp : H p = none) : Go K σ B H Γ (upd B p o) (upd H p o) Γ := by
  have hb : B p = none := by
    cases q : B p with
    | none => rfl
    | some u => rw [E.bh p u q] at hp; cases hp
  refine ⟨⟨fun a u _ e => by rw [upd_ne (ne_of_none e hp)]; exact e, fun a u e => by rw [upd_ne (ne_of_none e hb)]; exact e, fun a _ ha hb' => ?_⟩, fun _ ds h => ⟨ds, h⟩, E.laid hp⟩
  have : a ≠ p := fun z => by subst z; exact ha hp
  rw [upd_ne this]; exact hb'
/-- a new object beside the base -/
theorem Env.beside (E : Env K B H σ Γ) {p : Addr} {o : HO} (hp : H p = none) : Env K B (upd H p o) σ Γ := by
  refine ⟨E.len, fun a u e => ?_, E.val, fun i ds h => ?_, E.sep⟩
  · have h := E.bh a u e
    rw [upd_ne (ne_of_none h hp)]; exact h
  · obtain ⟨l, vs, e, e1, e2, q⟩ := E.acc i ds h
    exact ⟨l, vs, e, by rw [upd_ne (ne_of_none e1 hp)]; exact e1, e2, q⟩
theorem Go.beside (E : Env K B H σ Γ) {p : Addr} {o : HO} (hp : H p = none) : Go K σ B H Γ B (upd H p o) Γ :=
  ⟨⟨fun a u _ e => by rw [upd_ne (ne_of_none e hp)]; exact e, Same.refl B, fun _ _ _ h => h⟩, fun _ ds h => ⟨ds, h⟩, E.beside hp⟩
theorem Env.base_none (E : Env K B H σ Γ) {p : Addr} (hp : H p = none) : B p = none := by
  cases q : B p with
  | none => rfl
  | some u => rw [E.bh p u q] at hp; cases hp
theorem Env.not_own (E : Env K B H σ Γ) {p : Addr} (hp : H p = none) : ¬ Own σ Γ p := fun z => by
  obtain ⟨vs, h, _⟩ := E.tracked z
  rw [hp] at h; cases h
end

/-! ### expressions, tests, arguments -/
def WE (K : PySem.W.Frag) (te : TE) (Γ : List Sl) (Post : Re → List Sl → Prop) : Prop := ∀ σ B H, Env K B H σ Γ → ∀ Q : VK,
  (∀ v B' H' r Γ', Go K σ B H Γ B' H' Γ' → ReOk K σ (Own σ Γ) (Own σ Γ') B' H H' v r → Post r Γ' → Q v H') → te σ H Q
def WT (K : PySem.W.Frag) (tt : TT) (Γ : List Sl) (Post : Bool → List Sl → Prop) : Prop := ∀ σ B H, Env K B H σ Γ → ∀ Q : Bool → Hp → Prop,
  (∀ b B' H' Γ', Go K σ B H Γ B' H' Γ' → Post b Γ' → Q b H') → tt σ H Q
/-- a list of data (what is new is laid on the base) -/
def WD (K : PySem.W.Frag) (ta : TA) (Γ : List Sl) (Post : List Dt → List Sl → Prop) : Prop := ∀ σ B H, Env K B H σ Γ → ∀ Q : List V → Hp → Prop,
  (∀ vs B' H' ds Γ', Go K σ B H Γ B' H' Γ' → IsA K B' vs ds → Post ds Γ' → Q vs H') → ta σ H Q
section
variable {K : PySem.W.Frag} {Γ : List Sl} {Post : Re → List Sl → Prop} {ta tb tc te : TE} {t u : TT}
theorem we_mono {Post' : Re → List Sl → Prop} (h : WE K te Γ Post) (hp : ∀ r Γ', Post r Γ' → Post' r Γ') : WE K te Γ Post' := fun σ B H E Q q => h σ B H E Q fun v B' H' r Γ' g k p => q v B' H' r Γ' g k (hp r Γ' p)
theorem we_var {i : Nat} {d : Dt} (h : Γ[i]? = some (.val d)) (p : Post (.val d) Γ) : WE K (tVar i) Γ Post := fun σ B H E Q q => by
  obtain ⟨v, e, k⟩ := E.val i d h
  exact ⟨v, e, q v B H (.val d) Γ (.refl E) k p⟩
theorem we_c {v : V} (p : Post (.val (.raw v)) Γ) : WE K (tC v) Γ Post := fun σ B H E Q q => q v B H (.val (.raw v)) Γ (.refl E) (.raw v) p
/-- an owned list is read -/
theorem we_own {i : Nat} {ds : List Dt} (h : Γ[i]? = some (.acc ds)) (p : Post (.own i) Γ) : WE K (tVar i) Γ Post := fun σ B H E Q q => by
  obtain ⟨l, vs, e, e1, e2, k⟩ := E.acc i ds h
  exact ⟨.ref l, e, q (.ref l) B H (.own i) Γ (.refl E) ⟨l, rfl, e⟩ p⟩
/-- an owned list becomes data from now on -/
theorem go_frz {σ : L2.St} {B H : Hp} {i : Nat} {ds : List Dt} (h : Γ[i]? = some (.acc ds)) (E : Env K B H σ Γ) : ∃ B', Go K σ B H Γ B' H (Γ.set i (.val (.lst ds))) := by
  obtain ⟨l, vs, e, e1, e2, k⟩ := E.acc i ds h
  have hl : i < Γ.length := (List.getElem?_eq_some_iff.mp h).1
  have sB : Same B (upd B l (.lst vs)) := fun a u e => by rw [upd_ne (ne_of_none e e2)]; exact e
  have sub : ∀ {j : Nat} {s : Sl}, (Γ.set i (.val (.lst ds)))[j]? = some s → j ≠ i → Γ[j]? = some s := fun {j s} hj hn => by
    rw [List.getElem?_set_ne (fun z => hn z.symm)] at hj
    exact hj
  have acc : ∀ {j : Nat} {es : List Dt}, (Γ.set i (.val (.lst ds)))[j]? = some (.acc es) → j ≠ i := fun {j es} hj z => by
    subst z
    rw [List.getElem?_set_self hl] at hj
    cases hj
  refine ⟨upd B l (.lst vs), ⟨fun a o _ q => q, sB, fun a na ha hb => ?_⟩, fun j es h1 => ⟨es, sub h1 (acc h1)⟩, by rw [List.length_set]; exact E.len, fun a u q => ?_, fun j d hj => ?_, fun j es hj => ?_, fun j k ds es l h1 h2 => E.sep j k ds es l (sub h1 (acc h1)) (sub h2 (acc h2))⟩
  · have : a ≠ l := fun z => by
      subst z
      exact na ⟨i, ds, h, e⟩
    rw [upd_ne this]; exact hb
  · by_cases ha : a = l
    · subst ha; rw [upd_same] at q; cases q; exact e1
    · rw [upd_ne ha] at q; exact E.bh a u q
  · by_cases hji : j = i
    · subst hji
      rw [List.getElem?_set_self hl] at hj
      cases hj
      have k2 := k.mono sB
      exact ⟨.ref l, e, .lst upd_same k2.len k2.at_⟩
    · obtain ⟨w, q1, q2⟩ := E.val j d (sub hj hji)
      exact ⟨w, q1, q2.mono sB⟩
  · obtain ⟨c, us, q1, q2, q3, q4⟩ := E.acc j es (sub hj (acc hj))
    have hc : c ≠ l := fun z => by
      subst z
      exact acc hj (E.sep j i es ds c (sub hj (acc hj)) h q1 e)
    exact ⟨c, us, q1, q2, by rw [upd_ne hc]; exact q3, q4.mono sB⟩
theorem we_frz {i : Nat} {ds : List Dt} (h : Γ[i]? = some (.acc ds)) (k : WE K te (Γ.set i (.val (.lst ds))) Post) : WE K te Γ Post := fun σ B H E Q q => by
  obtain ⟨B', g⟩ := go_frz h E
  exact k σ B' H g.env Q fun v B2 H2 r Γ2 g2 k2 p => q v B2 H2 r Γ2 (g.trans g2) (ReOk.earlier k2 g.mv fun a h => .inl (g.sub a h)) p
/-- an owned list is handed on: its slot is empty from now on -/
theorem we_move {i : Nat} {ds : List Dt} (h : Γ[i]? = some (.acc ds)) (p : Post (.new ds) (Γ.set i .un)) : WE K (tVar i) Γ Post := fun σ B H E Q q => by
  obtain ⟨l, vs, e, e1, e2, k⟩ := E.acc i ds h
  have hl : i < Γ.length := (List.getElem?_eq_some_iff.mp h).1
  have ne : ∀ {j : Nat} {s : Sl}, (Γ.set i .un)[j]? = some s → s ≠ .un → j ≠ i := fun {j s} hj hs z => by
    subst z
    rw [List.getElem?_set_self hl] at hj
    cases hj; exact hs rfl
  have sub : ∀ {j : Nat} {s : Sl}, (Γ.set i .un)[j]? = some s → s ≠ .un → Γ[j]? = some s := fun {j s} hj hs => by
    have := ne hj hs
    rw [List.getElem?_set_ne (fun z => this z.symm)] at hj
    exact hj
  have E' : Env K B H σ (Γ.set i .un) := ⟨by rw [List.length_set]; exact E.len, E.bh, fun j d hj => E.val j d (sub hj (fun z => nomatch z)), fun j es hj => E.acc j es (sub hj (fun z => nomatch z)),
    fun j k ds es l h1 h2 => E.sep j k ds es l (sub h1 (fun z => nomatch z)) (sub h2 (fun z => nomatch z))⟩
  have sb : ∀ (j : Nat) es, (Γ.set i .un)[j]? = some (.acc es) → ∃ es', Γ[j]? = some (.acc es') := fun j es h1 => ⟨es, sub h1 (fun z => nomatch z)⟩
  refine ⟨.ref l, e, q (.ref l) B H (.new ds) _ ⟨Mv.refl _ _ _, sb, E'⟩ ⟨l, vs, rfl, .inl ⟨i, ds, h, e⟩, ?_, e1, e2, k⟩ p⟩
  rintro ⟨j, es, h1, h2⟩
  exact ne h1 (fun z => nomatch z) (E.sep j i es ds l (sub h1 (fun z => nomatch z)) h h2 e)
/-- a new list becomes data -/
theorem we_freeze (h : WE K te Γ fun r Γ1 => ∃ d, r.dt? = some d ∧ Post (.val d) Γ1) : WE K te Γ Post := fun σ B H E Q q => by
  refine h σ B H E Q fun v B1 H1 r Γ1 g k p => ?_
  obtain ⟨d, hd, p⟩ := p
  cases r with
  | own i => cases hd
  | val d =>
    cases hd
    exact q v B1 H1 (.val d) Γ1 g k p
  | new ds =>
    cases hd
    obtain ⟨l, vs, rfl, h1, h2, h3, h4, h5⟩ := k
    have sB : Same B1 (upd B1 l (.lst vs)) := fun a u e => by rw [upd_ne (ne_of_none e h4)]; exact e
    refine q (.ref l) (upd B1 l (.lst vs)) H1 (.val (.lst ds)) Γ1 ⟨⟨g.mv.kp, g.mv.bb.trans sB, fun a na ha hb => ?_⟩, g.ac, ?_⟩ ?_ p
    · have hal : a ≠ l := fun z => by
        subst z
        exact h1.elim na ha
      rw [upd_ne hal]; exact g.mv.off a na ha hb
    · refine ⟨g.env.len, fun a u e => ?_, fun i d hi => ?_, fun i es hi => ?_, g.env.sep⟩
      · by_cases ha : a = l
        · subst ha; rw [upd_same] at e; cases e; exact h3
        · rw [upd_ne ha] at e; exact g.env.bh a u e
      · obtain ⟨w, e, k⟩ := g.env.val i d hi
        exact ⟨w, e, k.mono sB⟩
      · obtain ⟨c, us, e, e1, e2, k⟩ := g.env.acc i es hi
        have hc : c ≠ l := fun z => by
          subst z
          exact h2 ⟨i, es, hi, e⟩
        exact ⟨c, us, e, e1, by rw [upd_ne hc]; exact e2, k.mono sB⟩
    · have h5' := h5.mono sB
      exact .lst upd_same h5'.len h5'.at_
/-! operations on ints -/
theorem we_opI {C : Int → Int → Prop} {g : Int → Int → V} (h : WE K ta Γ fun ra Γ1 => ∃ i, ra = .val (.int i) ∧ WE K tb Γ1 fun rb Γ2 => ∃ j, rb = .val (.int j) ∧ C i j ∧ Post (.val (.raw (g i j))) Γ2) : WE K (tOp (rI C g) ta tb) Γ Post := fun σ B H E Q q => by
  refine h σ B H E _ fun x B1 H1 ra Γ1 g1 k1 p1 => ?_
  obtain ⟨i, rfl, p1⟩ := p1
  refine p1 σ B1 H1 g1.env _ fun y B2 H2 rb Γ2 g2 k2 p2 => ?_
  obtain ⟨j, rfl, hc, p⟩ := p2
  cases Is.rawI k1
  cases Is.rawI k2
  exact ⟨i, j, rfl, rfl, hc, q _ B2 H2 _ Γ2 (g1.trans g2) (.raw _) p⟩
theorem we_opI0 {g : Int → Int → V} (h : WE K ta Γ fun ra Γ1 => ∃ i, ra = .val (.int i) ∧ WE K tb Γ1 fun rb Γ2 => ∃ j, rb = .val (.int j) ∧ Post (.val (.raw (g i j))) Γ2) : WE K (tOp (rI0 g) ta tb) Γ Post := fun σ B H E Q q => by
  refine h σ B H E _ fun x B1 H1 ra Γ1 g1 k1 p1 => ?_
  obtain ⟨i, rfl, p1⟩ := p1
  refine p1 σ B1 H1 g1.env _ fun y B2 H2 rb Γ2 g2 k2 p2 => ?_
  obtain ⟨j, rfl, p⟩ := p2
  cases Is.rawI k1
  cases Is.rawI k2
  exact ⟨i, j, rfl, rfl, q _ B2 H2 _ Γ2 (g1.trans g2) (.raw _) p⟩
theorem we_neg (h : WE K ta Γ fun ra Γ1 => ∃ i, ra = .val (.int i) ∧ Post (.val (.int (-i))) Γ1) : WE K (tUn (rU fun i => .int (-i)) ta) Γ Post := fun σ B H E Q q => by
  refine h σ B H E _ fun x B1 H1 ra Γ1 g1 k1 p1 => ?_
  obtain ⟨i, rfl, p⟩ := p1
  cases Is.rawI k1
  exact ⟨i, rfl, q _ B1 H1 _ Γ1 g1 (.raw _) p⟩
/-- two values in order; both are data then -/
theorem we_two {r : R2} (h : WE K ta Γ fun ra Γ1 => WE K tb Γ1 fun rb Γ2 => ∃ d e : Dt, ra = .val d ∧ rb = .val e ∧
      ∀ σ B H x y, Env K B H σ Γ2 → Is K B x d → Is K B y e → ∀ Q : VK, (∀ v B' H' z Γ', Go K σ B H Γ2 B' H' Γ' → ReOk K σ (Own σ Γ2) (Own σ Γ') B' H H' v z → Post z Γ' → Q v H') → r x y H Q) : WE K (tOp r ta tb) Γ Post := fun σ B H E Q q => by
  refine h σ B H E _ fun x B1 H1 ra Γ1 g1 k1 p1 => ?_
  refine p1 σ B1 H1 g1.env _ fun y B2 H2 rb Γ2 g2 k2 p2 => ?_
  obtain ⟨d, e, rfl, rfl, p⟩ := p2
  exact p σ B2 H2 x y g2.env (Is.mono g2.mv.bb k1) k2 Q fun v B' H' z Γ' g3 k3 p3 => q v B' H' z Γ' ((g1.trans g2).trans g3) (ReOk.earlier k3 (g1.trans g2).mv fun a h => .inl ((g1.trans g2).sub a h)) p3
/-- == of scalars -/
theorem we_eqS (h : WE K ta Γ fun ra Γ1 => WE K tb Γ1 fun rb Γ2 => ∃ x y : V, ra = .val (.raw x) ∧ rb = .val (.raw y) ∧ scal x y = true ∧ Post (.val (.bl (decide (x = y)))) Γ2) : WE K (tOp rEq ta tb) Γ Post :=
  we_two (we_mono h fun ra Γ1 h1 => we_mono h1 fun rb Γ2 ⟨x, y, e1, e2, hs, p⟩ => ⟨_, _, e1, e2, fun σ B H u w E ku kw Q q => by
    cases ku.rawI; cases kw.rawI
    exact ⟨hs, q _ B H _ Γ2 (.refl E) (.raw _) p⟩⟩)
theorem we_neS (h : WE K ta Γ fun ra Γ1 => WE K tb Γ1 fun rb Γ2 => ∃ x y : V, ra = .val (.raw x) ∧ rb = .val (.raw y) ∧ scal x y = true ∧ Post (.val (.bl (!decide (x = y)))) Γ2) : WE K (tOp rNe ta tb) Γ Post :=
  we_two (we_mono h fun ra Γ1 h1 => we_mono h1 fun rb Γ2 ⟨x, y, e1, e2, hs, p⟩ => ⟨_, _, e1, e2, fun σ B H u w E ku kw Q q => by
    cases ku.rawI; cases kw.rawI
    exact ⟨hs, q _ B H _ Γ2 (.refl E) (.raw _) p⟩⟩)
/-! tests -/
theorem wt_mono {P P' : Bool → List Sl → Prop} (h : WT K t Γ P) (hp : ∀ b Γ', P b Γ' → P' b Γ') : WT K t Γ P' := fun σ B H E Q q => h σ B H E Q fun b B' H' Γ' g p => q b B' H' Γ' g (hp b Γ' p)
theorem wt_test {P : Bool → List Sl → Prop} (h : WE K te Γ fun r Γ1 => ∃ b, r = .val (.bl b) ∧ P b Γ1) : WT K (tTest te) Γ P := fun σ B H E Q q => by
  refine h σ B H E _ fun x B1 H1 r Γ1 g k p => ?_
  obtain ⟨b, rfl, p⟩ := p
  cases Is.rawI k
  exact ⟨b, rfl, q b B1 H1 Γ1 g p⟩
theorem wt_B {P : Bool → List Sl → Prop} (h : WE K te Γ fun r Γ1 => ∃ b, r = .val (.bl b) ∧ P b Γ1) : WT K (tB te) Γ P := wt_test h
theorem wt_and {P : Bool → List Sl → Prop} (h : WT K t Γ fun b Γ1 => (b = true → WT K u Γ1 P) ∧ (b = false → P false Γ1)) : WT K (tAnd t u) Γ P := fun σ B H E Q q => by
  refine h σ B H E _ fun b B1 H1 Γ1 g p => ?_
  cases b with
  | true =>
    show u σ H1 Q
    exact p.1 rfl σ B1 H1 g.env Q fun b B' H' Γ' g' p' => q b B' H' Γ' (g.trans g') p'
  | false =>
    show Q false H1
    exact q false B1 H1 Γ1 g (p.2 rfl)
theorem wt_or {P : Bool → List Sl → Prop} (h : WT K t Γ fun b Γ1 => (b = false → WT K u Γ1 P) ∧ (b = true → P true Γ1)) : WT K (tOr t u) Γ P := fun σ B H E Q q => by
  refine h σ B H E _ fun b B1 H1 Γ1 g p => ?_
  cases b with
  | false =>
    show u σ H1 Q
    exact p.1 rfl σ B1 H1 g.env Q fun b B' H' Γ' g' p' => q b B' H' Γ' (g.trans g') p'
  | true =>
    show Q true H1
    exact q true B1 H1 Γ1 g (p.2 rfl)
theorem wt_not {P : Bool → List Sl → Prop} (h : WT K t Γ fun b Γ1 => P (!b) Γ1) : WT K (tNot t) Γ P := fun σ B H E Q q => h σ B H E _ fun b B1 H1 Γ1 g p => q (!b) B1 H1 Γ1 g p
theorem we_andV (h : WE K ta Γ fun ra Γ1 => ∃ b, ra = .val (.bl b) ∧ (b = true → WE K tb Γ1 Post) ∧ (b = false → Post (.val (.bl false)) Γ1)) : WE K (tAndV ta tb) Γ Post := fun σ B H E Q q => by
  refine h σ B H E _ fun x B1 H1 ra Γ1 g k p => ?_
  obtain ⟨b, rfl, p1, p2⟩ := p
  cases Is.rawI k
  refine ⟨b, rfl, ?_⟩
  cases b with
  | true =>
    show tb σ H1 Q
    exact p1 rfl σ B1 H1 g.env Q fun v B' H' r Γ' g' k' p' => q v B' H' r Γ' (g.trans g') (ReOk.earlier k' g.mv fun a h => .inl (g.sub a h)) p'
  | false =>
    show Q (.bl false) H1
    exact q _ B1 H1 _ Γ1 g (.raw _) (p2 rfl)
theorem we_orV (h : WE K ta Γ fun ra Γ1 => ∃ b, ra = .val (.bl b) ∧ (b = false → WE K tb Γ1 Post) ∧ (b = true → Post (.val (.bl true)) Γ1)) : WE K (tOrV ta tb) Γ Post := fun σ B H E Q q => by
  refine h σ B H E _ fun x B1 H1 ra Γ1 g k p => ?_
  obtain ⟨b, rfl, p1, p2⟩ := p
  cases Is.rawI k
  refine ⟨b, rfl, ?_⟩
  cases b with
  | false =>
    show tb σ H1 Q
    exact p1 rfl σ B1 H1 g.env Q fun v B' H' r Γ' g' k' p' => q v B' H' r Γ' (g.trans g') (ReOk.earlier k' g.mv fun a h => .inl (g.sub a h)) p'
  | true =>
    show Q (.bl true) H1
    exact q _ B1 H1 _ Γ1 g (.raw _) (p2 rfl)
theorem we_notV (h : WE K ta Γ fun ra Γ1 => ∃ b, ra = .val (.bl b) ∧ Post (.val (.bl (!b))) Γ1) : WE K (tNotV ta) Γ Post := fun σ B H E Q q => by
  refine h σ B H E _ fun x B1 H1 ra Γ1 g k p => ?_
  obtain ⟨b, rfl, p⟩ := p
  cases Is.rawI k
  exact ⟨b, rfl, q _ B1 H1 _ Γ1 g (.raw _) p⟩
theorem we_if (h : WT K t Γ fun b Γ1 => (b = true → WE K ta Γ1 Post) ∧ (b = false → WE K tb Γ1 Post)) : WE K (tIf t ta tb) Γ Post := fun σ B H E Q q => by
  refine h σ B H E _ fun b B1 H1 Γ1 g p => ?_
  cases b with
  | true =>
    show ta σ H1 Q
    exact p.1 rfl σ B1 H1 g.env Q fun v B' H' r Γ' g' k' p' => q v B' H' r Γ' (g.trans g') (ReOk.earlier k' g.mv fun a h => .inl (g.sub a h)) p'
  | false =>
    show tb σ H1 Q
    exact p.2 rfl σ B1 H1 g.env Q fun v B' H' r Γ' g' k' p' => q v B' H' r Γ' (g.trans g') (ReOk.earlier k' g.mv fun a h => .inl (g.sub a h)) p'
/-! lists of data -/
theorem wd_nil {P : List Dt → List Sl → Prop} (p : P [] Γ) : WD K tNil Γ P := fun σ B H E Q q => q [] B H [] Γ (.refl E) .nil p
theorem wd_cons {P : List Dt → List Sl → Prop} {tr : TA} (h : WE K te Γ fun r Γ1 => ∃ d, r.dt? = some d ∧ WD K tr Γ1 fun ds Γ2 => P (d :: ds) Γ2) : WD K (tCons te tr) Γ P := fun σ B H E Q q => by
  have h' : WE K te Γ fun r Γ1 => ∃ d, r = .val d ∧ WD K tr Γ1 fun ds Γ2 => P (d :: ds) Γ2 := we_freeze (we_mono h fun r Γ1 ⟨d, hd, k⟩ => ⟨d, hd, d, rfl, k⟩)
  refine h' σ B H E _ fun x B1 H1 ra Γ1 g1 k1 p1 => ?_
  obtain ⟨d, rfl, p1⟩ := p1
  refine p1 σ B1 H1 g1.env _ fun vs B2 H2 ds Γ2 g2 k2 p2 => ?_
  exact q (x :: vs) B2 H2 (d :: ds) Γ2 (g1.trans g2) (.cons (Is.mono g2.mv.bb k1) k2) p2
theorem we_tup {t : TA} (h : WD K t Γ fun ds Γ1 => ds.length ≤ 1000000 ∧ Post (.val (.tup ds)) Γ1) : WE K (tTup t) Γ Post := fun σ B H E Q q => by
  refine h σ B H E _ fun vs B1 H1 ds Γ1 g k p => ?_
  refine ⟨Nat.le_trans (by rw [k.len]; exact p.1) (by decide), fun a ha => ?_⟩
  have g2 := Go.laid (o := .tup vs) g.env ha
  have k2 := k.mono g2.mv.bb
  exact q (.ref a) _ _ (.val (.tup ds)) Γ1 (g.trans g2) (.tup (.inl (.inl upd_same)) k2.len k2.at_) p.2
theorem we_lst {t : TA} (h : WD K t Γ fun ds Γ1 => ds.length ≤ 1000000 ∧ Post (.new ds) Γ1) : WE K (tLst t) Γ Post := fun σ B H E Q q => by
  refine h σ B H E _ fun vs B1 H1 ds Γ1 g k p => ?_
  refine ⟨Nat.le_trans (by rw [k.len]; exact p.1) (by decide), fun a ha => ?_⟩
  have g2 := Go.beside (o := .lst vs) g.env ha
  refine q (.ref a) _ _ (.new ds) Γ1 (g.trans g2) ⟨a, vs, rfl, g.mv.back ha, g.env.not_own ha, upd_same, g.env.base_none ha, k⟩ p.2
/-- a call of a builtin on data -/
theorem we_cb {r : List V → Hp → VK → Prop} {t : TA} (h : WD K t Γ fun ds Γ1 => ∀ σ B H vs, Env K B H σ Γ1 → IsA K B vs ds → ∀ Q : VK, (∀ v B' H' z Γ', Go K σ B H Γ1 B' H' Γ' → ReOk K σ (Own σ Γ1) (Own σ Γ') B' H H' v z → Post z Γ' → Q v H') → r vs H Q) : WE K (tCB r t) Γ Post := fun σ B H E Q q => by
  refine h σ B H E _ fun vs B1 H1 ds Γ1 g k p => ?_
  exact p σ B1 H1 vs g.env k Q fun v B' H' z Γ' g' k' p' => q v B' H' z Γ' (g.trans g') (ReOk.earlier k' g.mv fun a h => .inl (g.sub a h)) p'
end
end Ab
namespace Ab
open PySem L2
/-! ### values at hand -/
def RvOk (K : PySem.W.Frag) (σ : L2.St) (B H : Hp) (Γ : List Sl) (v : V) : Re → Prop
  | .val d => Is K B v d
  | .new ds => ∃ l vs, v = .ref l ∧ ¬ Own σ Γ l ∧ H l = some (.lst vs) ∧ B l = none ∧ IsA K B vs ds
  | .own i => ∃ l, v = .ref l ∧ σ[i]? = some (some (.ref l))
/-- the items of a result -/
def seqOf (Γ : List Sl) : Re → Option (List Dt)
  | .val (.tup ds) => some ds
  | .val (.lst ds) => some ds
  | .val (.scr ns) => some (ns.map Dt.int)
  | .val _ => none
  | .new ds => some ds
  | .own i => match Γ[i]? with
    | some (.acc ds) => some ds
    | _ => none
/-- the items of a list -/
def lstOf (Γ : List Sl) : Re → Option (List Dt)
  | .val (.lst ds) => some ds
  | .val (.scr ns) => some (ns.map Dt.int)
  | .val _ => none
  | .new ds => some ds
  | .own i => match Γ[i]? with
    | some (.acc ds) => some ds
    | _ => none
def tyOf : Re → Option String
  | .val (.raw .non) => some "NoneType"
  | .val (.raw (.bl _)) => some "bool"
  | .val (.raw (.int _)) => some "int"
  | .val (.raw (.str _)) => some "str"
  | .val (.tup _) => some "tuple"
  | .val (.lst _) => some "list"
  | .new _ => some "list"
  | .own _ => some "list"
  | _ => none
section
variable {K : PySem.W.Frag} {σ : L2.St} {B H B1 H1 B2 H2 : Hp} {Γ Γ1 Γ2 : List Sl} {v : V} {r : Re} {ds : List Dt} {m m' : Addr → Prop}
theorem ReOk.rv (h : ReOk K σ m (Own σ Γ) B H1 H v r) : RvOk K σ B H Γ v r := by
  cases r with
  | val d => exact h
  | new ds => obtain ⟨l, vs, e, _, h2, h3⟩ := h; exact ⟨l, vs, e, h2, h3⟩
  | own i => exact h
theorem rv_lst (E : Env K B H σ Γ) (h : RvOk K σ B H Γ v r) (e : lstOf Γ r = some ds) : ∃ a vs, v = .ref a ∧ SqL K H a vs ∧ IsA K B vs ds := by
  cases r with
  | val d =>
    cases d with
    | lst es => cases e; obtain ⟨a, xs, rfl, h1, h2⟩ := Is.lstR h; exact ⟨a, xs, rfl, .inl (.inl (E.bh _ _ h1)), h2⟩
    | scr ns =>
      cases e
      cases h with
      | scr h => exact ⟨_, _, rfl, E.bh.seq h, by
          have := IsA.raws (K := K) (B := B) (xs := ns.map V.int)
          rwa [List.map_map] at this⟩
    | raw u => cases e
    | tup es => cases e
    | obj C fs => cases e
  | new es => cases e; obtain ⟨l, vs, rfl, _, h1, _, h2⟩ := h; exact ⟨l, vs, rfl, .inl (.inl h1), h2⟩
  | own i =>
    obtain ⟨l, rfl, hl⟩ := h
    have e' : (match Γ[i]? with
      | some (Sl.acc ds) => some ds
      | _ => none) = some ds := e
    split at e'
    · rename_i es hi
      cases e'
      obtain ⟨c, us, q1, q2, q3, q4⟩ := E.acc i _ hi
      rw [hl] at q1; cases q1
      exact ⟨l, us, rfl, .inl (.inl q2), q4⟩
    · cases e'
theorem rv_seq (E : Env K B H σ Γ) (h : RvOk K σ B H Γ v r) (e : seqOf Γ r = some ds) : ∃ a vs, v = .ref a ∧ (SqL K H a vs ∨ SqT K H a vs) ∧ IsA K B vs ds := by
  cases r with
  | val d =>
    cases d with
    | tup es => cases e; obtain ⟨a, xs, rfl, h1, h2⟩ := Is.tupR h; exact ⟨a, xs, rfl, .inr (sqT_mono E.bh h1), h2⟩
    | lst es => obtain ⟨a, xs, rfl, h1, h2⟩ := rv_lst E h e; exact ⟨a, xs, rfl, .inl h1, h2⟩
    | scr es => obtain ⟨a, xs, rfl, h1, h2⟩ := rv_lst E h e; exact ⟨a, xs, rfl, .inl h1, h2⟩
    | raw u => cases e
    | obj C fs => cases e
  | new es => obtain ⟨a, xs, rfl, h1, h2⟩ := rv_lst E h e; exact ⟨a, xs, rfl, .inl h1, h2⟩
  | own i => obtain ⟨a, xs, rfl, h1, h2⟩ := rv_lst E h e; exact ⟨a, xs, rfl, .inl h1, h2⟩
theorem ty_sqL {a : Addr} {xs : List V} (h : SqL K H a xs) : TyX K H (.ref a) (.type "list") := by
  rcases h with (h | ⟨o, h⟩) | ⟨o, its, n, h1, h2, _⟩
  · exact .base (.lst h)
  · exact .base (.frz h)
  · exact .kList h1 h2
theorem ty_sqT {a : Addr} {xs : List V} (h : SqT K H a xs) : TyX K H (.ref a) (.type "tuple") := by
  rcases h with (h | ⟨o, h⟩) | ⟨o, its, n, h1, h2, _⟩
  · exact .base (.tup h)
  · exact .fTuple h
  · exact .kTuple h1 h2
theorem rv_ty {T : String} (E : Env K B H σ Γ) (hi : ∀ i, r = .own i → ∃ ds, Γ[i]? = some (.acc ds)) (h : RvOk K σ B H Γ v r) (e : tyOf r = some T) : TyX K H v (.type T) := by
  cases r with
  | val d =>
    cases d with
    | raw u =>
      have hv : v = u := Is.rawI h
      subst hv
      cases v <;> first | (cases e; first | exact .base .non | exact .base (.bl _) | exact .base (.int _) | exact .base (.str _)) | cases e
    | tup es => cases e; obtain ⟨a, xs, rfl, h1, h2⟩ := Is.tupR h; exact ty_sqT (sqT_mono E.bh h1)
    | lst es => cases e; obtain ⟨a, xs, rfl, h1, h2⟩ := Is.lstR h; exact .base (.lst (E.bh _ _ h1))
    | scr es => cases e
    | obj C fs => cases e
  | new es => cases e; obtain ⟨l, vs, rfl, _, h1, _⟩ := h; exact .base (.lst h1)
  | own i =>
    cases e
    obtain ⟨l, rfl, hl⟩ := h
    obtain ⟨ds, hd⟩ := hi i rfl
    obtain ⟨c, us, q1, q2, _⟩ := E.acc i _ hd
    rw [hl] at q1; cases q1
    exact .base (.lst q2)
end
section
variable {K : PySem.W.Frag} {Γ : List Sl} {Post : Re → List Sl → Prop} {ta tb tc te : TE} {t u : TT}
/-- two parts, then an operation on the values at hand -/
theorem we_two' {r : R2} (h : WE K ta Γ fun ra Γ1 => WE K tb Γ1 fun rb Γ2 =>
      ∀ σ B H x y, Env K B H σ Γ2 → RvOk K σ B H Γ2 x ra → RvOk K σ B H Γ2 y rb → ∀ Q : VK, (∀ v B' H' z Γ', Go K σ B H Γ2 B' H' Γ' → ReOk K σ (Own σ Γ2) (Own σ Γ') B' H H' v z → Post z Γ' → Q v H') → r x y H Q) : WE K (tOp r ta tb) Γ Post := fun σ B H E Q q => by
  refine h σ B H E _ fun x B1 H1 ra Γ1 g1 k1 p1 => ?_
  refine p1 σ B1 H1 g1.env _ fun y B2 H2 rb Γ2 g2 k2 p2 => ?_
  exact p2 σ B2 H2 x y g2.env (ReOk.rv (ReOk.step k1 g2.mv g2.sub)) k2.rv Q fun v B' H' z Γ' g3 k3 p3 => q v B' H' z Γ' ((g1.trans g2).trans g3) (ReOk.earlier k3 (g1.trans g2).mv fun a h => .inl ((g1.trans g2).sub a h)) p3
/-- one part, then an operation on the value at hand -/
theorem we_one' {r : V → Hp → VK → Prop} (h : WE K ta Γ fun ra Γ1 => ∀ σ B H x, Env K B H σ Γ1 → RvOk K σ B H Γ1 x ra → ∀ Q : VK, (∀ v B' H' z Γ', Go K σ B H Γ1 B' H' Γ' → ReOk K σ (Own σ Γ1) (Own σ Γ') B' H H' v z → Post z Γ' → Q v H') → r x H Q) :
    ∀ σ B H, Env K B H σ Γ → ∀ Q : VK, (∀ v B' H' r Γ', Go K σ B H Γ B' H' Γ' → ReOk K σ (Own σ Γ) (Own σ Γ') B' H H' v r → Post r Γ' → Q v H') → ta σ H (fun x H1 => r x H1 Q) := fun σ B H E Q q => by
  refine h σ B H E _ fun x B1 H1 ra Γ1 g1 k1 p1 => ?_
  exact p1 σ B1 H1 x g1.env k1.rv Q fun v B' H' z Γ' g3 k3 p3 => q v B' H' z Γ' (g1.trans g3) (ReOk.earlier k3 g1.mv fun a h => .inl (g1.sub a h)) p3
/-- x[i] of a list, a tuple -/
theorem we_ix (h : WE K ta Γ fun ra Γ1 => WE K tb Γ1 fun rb Γ2 => ∃ ds k d, seqOf Γ2 ra = some ds ∧ rb = .val (.int k) ∧ atI ds k = some d ∧ Post (.val d) Γ2) : WE K (tOp (rIx K) ta tb) Γ Post :=
  we_two' (we_mono h fun ra Γ1 h1 => we_mono h1 fun rb Γ2 ⟨ds, k, d, hs, e, hd, p⟩ => fun σ B H x y E kx ky Q q => by
    subst e
    cases Is.rawI ky
    obtain ⟨a, vs, rfl, hq, ha⟩ := rv_seq E kx hs
    obtain ⟨v, hv, hi⟩ := ha.atI hd
    have fin := q v B H (.val d) Γ2 (.refl E) hi p
    rcases hq with hq | hq
    · exact .inl ⟨a, vs, k, v, rfl, rfl, hq, hv, fin⟩
    · exact .inr (.inl ⟨a, vs, k, v, rfl, rfl, hq, hv, fin⟩))
/-- s[i] of a text -/
theorem we_ixS (h : WE K ta Γ fun ra Γ1 => WE K tb Γ1 fun rb Γ2 => ∃ z k c, ra = .val (.str z) ∧ rb = .val (.int k) ∧ z.length ≤ 1000000 ∧ atI z.cps.toList k = some c ∧ Post (.val (.str ⟨#[c]⟩)) Γ2) : WE K (tOp (rIx K) ta tb) Γ Post :=
  we_two' (we_mono h fun ra Γ1 h1 => we_mono h1 fun rb Γ2 ⟨z, k, c, e1, e, hz, hd, p⟩ => fun σ B H x y E kx ky Q q => by
    subst e e1
    cases Is.rawI ky
    cases Is.rawI kx
    exact .inr (.inr ⟨z, k, c, rfl, rfl, Nat.le_trans hz (by decide), hd, q _ B H _ Γ2 (.refl E) (.raw _) p⟩))
/-! calls of built-ins with one argument -/
theorem we_cb1 {r : List V → Hp → VK → Prop} (h : WE K te Γ fun ra Γ1 => ∀ σ B H x, Env K B H σ Γ1 → RvOk K σ B H Γ1 x ra → ∀ Q : VK, (∀ v B' H' z Γ', Go K σ B H Γ1 B' H' Γ' → ReOk K σ (Own σ Γ1) (Own σ Γ') B' H H' v z → Post z Γ' → Q v H') → r [x] H Q) : WE K (tCB r (tCons te tNil)) Γ Post :=
  we_one' (r := fun x H Q => r [x] H Q) h
def rLenV (K : PySem.W.Frag) : List V → Hp → VK → Prop := fun xs H Q => ∃ x n, xs = [x] ∧ LenV K x H n ∧ Q (.int n) H
theorem we_len (h : WE K te Γ fun r Γ1 => ∃ ds, seqOf Γ1 r = some ds ∧ Post (.val (.int ds.length)) Γ1) : WE K (tCB (rLenV K) (tCons te tNil)) Γ Post :=
  we_cb1 (we_mono h fun r Γ1 ⟨ds, hs, p⟩ => fun σ B H x E kx Q q => by
    obtain ⟨a, vs, rfl, hq, ha⟩ := rv_seq E kx hs
    have e : (ds.length : Int) = (vs.length : Int) := by rw [ha.len]
    rw [e] at p
    refine ⟨_, vs.length, rfl, ?_, q _ B H _ Γ1 (.refl E) (.raw _) p⟩
    rcases hq with hq | hq
    · exact .inl ⟨vs, hq, rfl⟩
    · exact .inr ⟨vs, hq, rfl⟩)
theorem we_lenS (h : WE K te Γ fun r Γ1 => ∃ z, r = .val (.str z) ∧ z.length ≤ 1000000 ∧ Post (.val (.int z.length)) Γ1) : WE K (tCB (rLenV K) (tCons te tNil)) Γ Post :=
  we_cb1 (we_mono h fun r Γ1 ⟨z, e, hz, p⟩ => fun σ B H x E kx Q q => by
    subst e
    cases Is.rawI kx
    exact ⟨_, z.length, rfl, ⟨Nat.le_trans hz (by decide), rfl⟩, q _ B H _ Γ1 (.refl E) (.raw _) p⟩)
def rAbs : List V → Hp → VK → Prop := fun xs H Q => ∃ i, xs = [.int i] ∧ Q (.int (if i < 0 then -i else i)) H
theorem we_abs (h : WE K te Γ fun r Γ1 => ∃ i, r = .val (.int i) ∧ Post (.val (.int (if i < 0 then -i else i))) Γ1) : WE K (tCB rAbs (tCons te tNil)) Γ Post :=
  we_cb1 (we_mono h fun r Γ1 ⟨i, e, p⟩ => fun σ B H x E kx Q q => by
    subst e
    cases Is.rawI kx
    exact ⟨i, rfl, q _ B H _ Γ1 (.refl E) (.raw _) p⟩)
def rInt1 : List V → Hp → VK → Prop := fun xs H Q => (∃ i, xs = [.int i] ∧ Q (.int i) H) ∨ ∃ k, xs = [.bl k] ∧ Q (.int (if k then 1 else 0)) H
theorem we_int (h : WE K te Γ fun r Γ1 => ∃ i, r = .val (.int i) ∧ Post (.val (.int i)) Γ1) : WE K (tCB rInt1 (tCons te tNil)) Γ Post :=
  we_cb1 (we_mono h fun r Γ1 ⟨i, e, p⟩ => fun σ B H x E kx Q q => by
    subst e
    cases Is.rawI kx
    exact .inl ⟨i, rfl, q _ B H _ Γ1 (.refl E) (.raw _) p⟩)
theorem we_intB (h : WE K te Γ fun r Γ1 => ∃ k, r = .val (.bl k) ∧ Post (.val (.int (if k then 1 else 0))) Γ1) : WE K (tCB rInt1 (tCons te tNil)) Γ Post :=
  we_cb1 (we_mono h fun r Γ1 ⟨i, e, p⟩ => fun σ B H x E kx Q q => by
    subst e
    cases Is.rawI kx
    exact .inr ⟨i, rfl, q _ B H _ Γ1 (.refl E) (.raw _) p⟩)
def rTupleOf (K : PySem.W.Frag) : List V → Hp → VK → Prop := fun xs H Q => ∃ p ys, xs = [.ref p] ∧ ((SqL K H p ys ∧ ∀ l, H l = none → Q (.ref l) (upd H l (.tup ys))) ∨ (SqT K H p ys ∧ Q (.ref p) H))
def rListOf (K : PySem.W.Frag) : List V → Hp → VK → Prop := fun xs H Q => ∃ p ys, xs = [.ref p] ∧ (SqL K H p ys ∨ SqT K H p ys) ∧ ∀ l, H l = none → Q (.ref l) (upd H l (.lst ys))
theorem re_laidT {σ : L2.St} {B H : Hp} {vs : List V} {ds : List Dt} {a : Addr} (E : Env K B H σ Γ) (k : IsA K B vs ds) (ha : H a = none) : ReOk K σ (Own σ Γ) (Own σ Γ) (upd B a (.tup vs)) H (upd H a (.tup vs)) (.ref a) (.val (.tup ds)) := by
  have k2 := k.mono (Go.laid (o := .tup vs) E ha).mv.bb
  exact Is.tup (.inl (.inl upd_same)) k2.len k2.at_
theorem re_newL {σ : L2.St} {B H : Hp} {vs : List V} {ds : List Dt} {a : Addr} (E : Env K B H σ Γ) (k : IsA K B vs ds) (ha : H a = none) : ReOk K σ (Own σ Γ) (Own σ Γ) B H (upd H a (.lst vs)) (.ref a) (.new ds) :=
  ⟨a, vs, rfl, .inr ha, E.not_own ha, upd_same, E.base_none ha, k⟩
theorem we_tuple (h : WE K te Γ fun r Γ1 => ∃ ds, seqOf Γ1 r = some ds ∧ Post (.val (.tup ds)) Γ1) : WE K (tCB (rTupleOf K) (tCons te tNil)) Γ Post :=
  we_cb1 (we_mono h fun r Γ1 ⟨ds, hs, p⟩ => fun σ B H x E kx Q q => by
    obtain ⟨a, vs, rfl, hq, ha⟩ := rv_seq E kx hs
    rcases hq with hq | hq
    · exact ⟨a, vs, rfl, .inl ⟨hq, fun l hl => q _ _ _ _ Γ1 (Go.laid E hl) (re_laidT E ha hl) p⟩⟩
    · cases r with
      | val d =>
        cases d with
        | tup es =>
          cases hs
          exact ⟨a, vs, rfl, .inr ⟨hq, q _ B H (.val (.tup ds)) Γ1 (.refl E) kx p⟩⟩
        | lst es =>
          obtain ⟨c, us, e, h1, h2⟩ := rv_lst (ds := ds) E kx hs
          cases e
          exact ⟨a, us, rfl, .inl ⟨h1, fun l hl => q _ _ _ _ Γ1 (Go.laid E hl) (re_laidT E h2 hl) p⟩⟩
        | raw u => cases hs
        | scr es =>
          obtain ⟨c, us, e, h1, h2⟩ := rv_lst (ds := ds) E kx hs
          cases e
          exact ⟨a, us, rfl, .inl ⟨h1, fun l hl => q _ _ _ _ Γ1 (Go.laid E hl) (re_laidT E h2 hl) p⟩⟩
        | obj C fs => cases hs
      | new es =>
        obtain ⟨c, us, e, h1, h2⟩ := rv_lst (ds := ds) E kx hs
        cases e
        exact ⟨a, us, rfl, .inl ⟨h1, fun l hl => q _ _ _ _ Γ1 (Go.laid E hl) (re_laidT E h2 hl) p⟩⟩
      | own i =>
        obtain ⟨c, us, e, h1, h2⟩ := rv_lst (ds := ds) E kx hs
        cases e
        exact ⟨a, us, rfl, .inl ⟨h1, fun l hl => q _ _ _ _ Γ1 (Go.laid E hl) (re_laidT E h2 hl) p⟩⟩)
theorem we_list (h : WE K te Γ fun r Γ1 => ∃ ds, seqOf Γ1 r = some ds ∧ Post (.new ds) Γ1) : WE K (tCB (rListOf K) (tCons te tNil)) Γ Post :=
  we_cb1 (we_mono h fun r Γ1 ⟨ds, hs, p⟩ => fun σ B H x E kx Q q => by
    obtain ⟨a, vs, rfl, hq, ha⟩ := rv_seq E kx hs
    exact ⟨a, vs, rfl, hq, fun l hl => q _ _ _ _ Γ1 (Go.beside E hl) (re_newL E ha hl) p⟩)
/-- isinstance(x, T), T a built-in type -/
theorem we_isi {c : String} (h : WE K te Γ fun r Γ1 => (∀ i, r = .own i → ∃ ds, Γ1[i]? = some (.acc ds)) ∧ ∃ T b, tyOf r = some T ∧ kitB T c = some b ∧ Post (.val (.bl b)) Γ1) : WE K (tCB (rIsi K) (tCons te (tCons (tC (.ty c)) tNil))) Γ Post :=
  we_one' (r := fun x H Q => rIsi K [x, .ty c] H Q) (we_mono h fun r Γ1 ⟨ho, T, b, ht, hk, p⟩ => fun σ B H x E kx Q q =>
    ⟨x, .ty c, .type T, .type c, b, rfl, .ty c, rv_ty E ho kx ht, kit_ty hk, q _ B H _ Γ1 (.refl E) (.raw _) p⟩)
/-- min, max of two ints -/
def rMx2 : List V → Hp → VK → Prop := fun xs H Q => ∃ i j, xs = [.int i, .int j] ∧ Q (.int (if j > i then j else i)) H
def rMn2 : List V → Hp → VK → Prop := fun xs H Q => ∃ i j, xs = [.int i, .int j] ∧ Q (.int (if j < i then j else i)) H
theorem we_max2 (h : WE K ta Γ fun ra Γ1 => ∃ i, ra = .val (.int i) ∧ WE K tb Γ1 fun rb Γ2 => ∃ j, rb = .val (.int j) ∧ Post (.val (.int (if j > i then j else i))) Γ2) : WE K (tCB rMx2 (tCons ta (tCons tb tNil))) Γ Post :=
  we_two' (r := fun x y H Q => rMx2 [x, y] H Q) (we_mono h fun ra Γ1 ⟨i, ei, h1⟩ => we_mono h1 fun rb Γ2 ⟨j, ej, p⟩ => fun σ B H x y E kx ky Q q => by
    subst ei ej
    cases Is.rawI kx; cases Is.rawI ky
    exact ⟨i, j, rfl, q _ B H _ Γ2 (.refl E) (.raw _) p⟩)
theorem we_min2 (h : WE K ta Γ fun ra Γ1 => ∃ i, ra = .val (.int i) ∧ WE K tb Γ1 fun rb Γ2 => ∃ j, rb = .val (.int j) ∧ Post (.val (.int (if j < i then j else i))) Γ2) : WE K (tCB rMn2 (tCons ta (tCons tb tNil))) Γ Post :=
  we_two' (r := fun x y H Q => rMn2 [x, y] H Q) (we_mono h fun ra Γ1 ⟨i, ei, h1⟩ => we_mono h1 fun rb Γ2 ⟨j, ej, p⟩ => fun σ B H x y E kx ky Q q => by
    subst ei ej
    cases Is.rawI kx; cases Is.rawI ky
    exact ⟨i, j, rfl, q _ B H _ Γ2 (.refl E) (.raw _) p⟩)
/-- a op b op' c over ints -/
theorem we_chainI {g g' : Int → Int → Bool} (h : WE K ta Γ fun ra Γ1 => ∃ i, ra = .val (.int i) ∧ WE K tb Γ1 fun rb Γ2 => ∃ j, rb = .val (.int j) ∧
      (g i j = true → WE K tc Γ2 fun rc Γ3 => ∃ k, rc = .val (.int k) ∧ Post (.val (.bl (g' j k))) Γ3) ∧ (g i j = false → Post (.val (.bl false)) Γ2)) :
    WE K (tChain (rI0 fun i j => .bl (g i j)) (rI0 fun i j => .bl (g' i j)) ta tb tc) Γ Post := fun σ B H E Q q => by
  refine h σ B H E _ fun x B1 H1 ra Γ1 g1 k1 p1 => ?_
  obtain ⟨i, rfl, p1⟩ := p1
  refine p1 σ B1 H1 g1.env _ fun y B2 H2 rb Γ2 g2 k2 p2 => ?_
  obtain ⟨j, rfl, p2, p3⟩ := p2
  cases Is.rawI k1; cases Is.rawI k2
  refine ⟨i, j, rfl, rfl, g i j, rfl, ?_⟩
  cases hg : g i j with
  | true =>
    show tc σ H2 fun w' H4 => rI0 (fun i j => .bl (g' i j)) (.int j) w' H4 Q
    refine p2 hg σ B2 H2 g2.env _ fun z B3 H3 rc Γ3 g3 k3 p3 => ?_
    obtain ⟨k, rfl, p⟩ := p3
    cases Is.rawI k3
    exact ⟨j, k, rfl, rfl, q _ B3 H3 _ Γ3 ((g1.trans g2).trans g3) (.raw _) p⟩
  | false =>
    show Q (.bl false) H2
    exact q _ B2 H2 _ Γ2 (g1.trans g2) (.raw _) (p3 hg)
/-- x in xs, x not in xs: flat things -/
def rawV : Dt → Option V
  | .raw v => some v
  | _ => none
theorem raws_of {B : Hp} : ∀ {vs : List V} {ds : List Dt} {us : List V}, IsA K B vs ds → ds = us.map Dt.raw → vs = us := fun h e => by subst e; exact h.rawsI
theorem we_in {neg : Bool} (h : WE K ta Γ fun ra Γ1 => WE K tb Γ1 fun rb Γ2 => ∃ (x : V) (us : List V), ra = .val (.raw x) ∧ seqOf Γ2 rb = some (us.map Dt.raw) ∧ flatV x = true ∧ us.all flatV = true ∧ Post (.val (.bl (if neg then !inV x us else inV x us))) Γ2) : WE K (tOp (rIn K neg) ta tb) Γ Post :=
  we_two' (we_mono h fun ra Γ1 h1 => we_mono h1 fun rb Γ2 ⟨x, us, e, hs, hx, hu, p⟩ => fun σ B H y z E ky kz Q q => by
    subst e
    cases Is.rawI ky
    obtain ⟨a, vs, rfl, hq, ha⟩ := rv_seq E kz hs
    cases ha.rawsI
    exact ⟨a, _, rfl, hq, hx, hu, q _ B H _ Γ2 (.refl E) (.raw _) p⟩)
end
end Ab
namespace Ab
open PySem L2
/-! ### statements -/
structure GoS (K : PySem.W.Frag) (pin : List Nat) (σ : L2.St) (B H : Hp) (Γ : List Sl) (σ' : L2.St) (B' H' : Hp) (Γ' : List Sl) : Prop where
  mv : Mv (Own σ Γ) B H B' H'
  new : ∀ a, Own σ' Γ' a → Own σ Γ a ∨ H a = none
  env : Env K B' H' σ' Γ'
  pin : ∀ i, i ∈ pin → σ'[i]? = σ[i]?
structure Ps where
  nx : List Sl → Prop
  rt : Re → List Sl → Prop
  bk : List Sl → Prop := fun _ => False
  ct : List Sl → Prop := fun _ => False
def Re.free : Re → Bool
  | .own _ => false
  | _ => true
def WS (K : PySem.W.Frag) (pin : List Nat) (ts : TS) (Γ : List Sl) (P : Ps) : Prop := ∀ σ B H (D : Ends), Env K B H σ Γ →
  (∀ σ' B' H' Γ', GoS K pin σ B H Γ σ' B' H' Γ' → P.nx Γ' → D.nx σ' H') →
  (∀ v σ' B' H' r Γ', GoS K pin σ B H Γ σ' B' H' Γ' → ReOk K [] (Own σ Γ) (Own σ' Γ') B' H H' v r → P.rt r Γ' → D.rt v H') →
  (∀ σ' B' H' Γ', GoS K pin σ B H Γ σ' B' H' Γ' → P.bk Γ' → D.bk σ' H') →
  (∀ σ' B' H' Γ', GoS K pin σ B H Γ σ' B' H' Γ' → P.ct Γ' → D.ct σ' H') → ts D σ H
/-- a target -/
def WG (K : PySem.W.Frag) (pin : List Nat) (g : TG) (d : Dt) (Γ : List Sl) (P : List Sl → Prop) : Prop := ∀ σ B H x, Env K B H σ Γ → Is K B x d → ∀ Q : L2.St → Hp → Prop,
  (∀ σ' Γ', GoS K pin σ B H Γ σ' B H Γ' → P Γ' → Q σ' H) → g x σ H Q
section
variable {K : PySem.W.Frag} {pin : List Nat} {σ σ1 σ2 : L2.St} {B H B1 H1 B2 H2 : Hp} {Γ Γ1 Γ2 : List Sl} {v : V} {r : Re} {P : Ps}
theorem GoS.refl (E : Env K B H σ Γ) : GoS K pin σ B H Γ σ B H Γ := ⟨Mv.refl _ _ _, fun _ h => .inl h, E, fun _ _ => rfl⟩
theorem GoS.trans (x : GoS K pin σ B H Γ σ1 B1 H1 Γ1) (y : GoS K pin σ1 B1 H1 Γ1 σ2 B2 H2 Γ2) : GoS K pin σ B H Γ σ2 B2 H2 Γ2 :=
  ⟨x.mv.trans x.new y.mv, fun a h => (y.new a h).elim (fun z => x.new a z) fun z => x.mv.back z, y.env, fun i hi => (y.pin i hi).trans (x.pin i hi)⟩
theorem Go.s (x : Go K σ B H Γ B1 H1 Γ1) : GoS K pin σ B H Γ σ B1 H1 Γ1 := ⟨x.mv, fun a h => .inl (x.sub a h), x.env, fun _ _ => rfl⟩
theorem ReOk.off {m m' : Addr → Prop} (h : ReOk K σ m m' B1 H H1 v r) (hf : r.free = true) : ReOk K [] m m' B1 H H1 v r := by
  cases r with
  | val d => exact h
  | new ds => exact h
  | own i => cases hf
theorem Own.set_ne {i : Nat} {x : Option V} {s : Sl} {a : Addr} (h : Own (σ.set i x) (Γ.set i s) a) (hs : ∀ ds, s = .acc ds → x ≠ some (.ref a)) : Own σ Γ a := by
  obtain ⟨j, ds, h1, h2⟩ := h
  by_cases hij : i = j
  · subst hij
    have hi : i < Γ.length := by
      have := (List.getElem?_eq_some_iff.mp h1).1
      simpa using this
    have hi2 : i < σ.length := by
      have := (List.getElem?_eq_some_iff.mp h2).1
      simpa using this
    rw [List.getElem?_set_self hi] at h1
    rw [List.getElem?_set_self hi2] at h2
    exact absurd (Option.some.inj h2) (hs ds (Option.some.inj h1))
  · rw [List.getElem?_set_ne hij] at h1 h2
    exact ⟨j, ds, h1, h2⟩
/-- a slot gets a result -/
def slOf : Re → Sl
  | .val d => .val d
  | .new ds => .acc ds
  | .own _ => .un
theorem Env.setV (E : Env K B H σ Γ) {i : Nat} {d : Dt} (hi : i < Γ.length) (hv : Is K B v d) : Env K B H (σ.set i (some v)) (Γ.set i (.val d)) := by
  have hi2 : i < σ.length := by rw [E.len]; exact hi
  have nac : ∀ {j : Nat} {es : List Dt}, (Γ.set i (.val d))[j]? = some (.acc es) → i ≠ j := fun {j es} h z => by
    subst z
    rw [List.getElem?_set_self hi] at h; cases h
  refine ⟨by simp [E.len], E.bh, fun j e h => ?_, fun j es h => ?_, fun j k ds es l h1 h2 h3 h4 => ?_⟩
  · by_cases hij : i = j
    · subst hij
      rw [List.getElem?_set_self hi] at h
      cases h
      exact ⟨v, List.getElem?_set_self hi2, hv⟩
    · rw [List.getElem?_set_ne hij] at h ⊢
      exact E.val j e h
  · have hij := nac h
    rw [List.getElem?_set_ne hij] at h ⊢
    exact E.acc j es h
  · have a1 := nac h1
    have a2 := nac h2
    rw [List.getElem?_set_ne a1] at h1 h3
    rw [List.getElem?_set_ne a2] at h2 h4
    exact E.sep j k ds es l h1 h2 h3 h4
theorem Env.setU (E : Env K B H σ Γ) {i : Nat} (x : Option V) (hi : i < Γ.length) : Env K B H (σ.set i x) (Γ.set i .un) := by
  have nac : ∀ {j : Nat} {s : Sl}, (Γ.set i .un)[j]? = some s → s ≠ .un → i ≠ j := fun {j s} h hs z => by
    subst z
    rw [List.getElem?_set_self hi] at h; cases h; exact hs rfl
  refine ⟨by simp [E.len], E.bh, fun j e h => ?_, fun j es h => ?_, fun j k ds es l h1 h2 h3 h4 => ?_⟩
  · have hij := nac h (fun z => nomatch z)
    rw [List.getElem?_set_ne hij] at h ⊢
    exact E.val j e h
  · have hij := nac h (fun z => nomatch z)
    rw [List.getElem?_set_ne hij] at h ⊢
    exact E.acc j es h
  · have a1 := nac h1 (fun z => nomatch z)
    have a2 := nac h2 (fun z => nomatch z)
    rw [List.getElem?_set_ne a1] at h1 h3
    rw [List.getElem?_set_ne a2] at h2 h4
    exact E.sep j k ds es l h1 h2 h3 h4
theorem Env.setA (E : Env K B H σ Γ) {i : Nat} {l : Addr} {vs : List V} {ds : List Dt} (hi : i < Γ.length) (hn : ¬ Own σ Γ l) (hl : H l = some (.lst vs)) (hb : B l = none) (ha : IsA K B vs ds) : Env K B H (σ.set i (some (.ref l))) (Γ.set i (.acc ds)) := by
  have hi2 : i < σ.length := by rw [E.len]; exact hi
  refine ⟨by simp [E.len], E.bh, fun j e h => ?_, fun j es h => ?_, fun j k ds' es l' h1 h2 h3 h4 => ?_⟩
  · by_cases hij : i = j
    · subst hij
      rw [List.getElem?_set_self hi] at h
      cases h
    · rw [List.getElem?_set_ne hij] at h ⊢
      exact E.val j e h
  · by_cases hij : i = j
    · subst hij
      rw [List.getElem?_set_self hi] at h
      cases h
      exact ⟨l, vs, List.getElem?_set_self hi2, hl, hb, ha⟩
    · rw [List.getElem?_set_ne hij] at h ⊢
      exact E.acc j es h
  · by_cases h1i : i = j
    · by_cases h2i : i = k
      · exact h1i.symm.trans h2i
      · subst h1i
        rw [List.getElem?_set_self hi2] at h3
        rw [List.getElem?_set_ne h2i] at h2 h4
        cases h3
        exact absurd ⟨k, es, h2, h4⟩ hn
    · by_cases h2i : i = k
      · subst h2i
        rw [List.getElem?_set_self hi2] at h4
        rw [List.getElem?_set_ne h1i] at h1 h3
        cases h4
        exact absurd ⟨j, ds', h1, h3⟩ hn
      · rw [List.getElem?_set_ne h1i] at h1 h3
        rw [List.getElem?_set_ne h2i] at h2 h4
        exact E.sep j k ds' es l' h1 h2 h3 h4
theorem pin_set {i : Nat} {x : Option V} (hp : pin.contains i = false) : ∀ j, j ∈ pin → (σ.set i x)[j]? = σ[j]? := fun j hj => by
  have : i ≠ j := fun z => by
    subst z
    have := List.contains_iff_mem.mpr hj
    rw [hp] at this; cases this
  exact List.getElem?_set_ne this
/-- a result goes to slot i -/
theorem goS_set (g : Go K σ B H Γ B1 H1 Γ1) (k : ReOk K σ (Own σ Γ) (Own σ Γ1) B1 H H1 v r) {i : Nat} (hp : pin.contains i = false) (hi : i < Γ1.length) : GoS K pin σ B H Γ (σ.set i (some v)) B1 H1 (Γ1.set i (slOf r)) := by
  cases r with
  | val d => exact ⟨g.mv, fun a h => .inl (g.sub a (h.set_ne fun ds z => nomatch z)), g.env.setV hi k, pin_set hp⟩
  | own j => exact ⟨g.mv, fun a h => .inl (g.sub a (h.set_ne fun ds z => nomatch z)), g.env.setU _ hi, pin_set hp⟩
  | new ds =>
    obtain ⟨l, vs, rfl, h1, h2, h3, h4, h5⟩ := k
    refine ⟨g.mv, fun a h => ?_, g.env.setA hi h2 h3 h4 h5, pin_set hp⟩
    by_cases ha : a = l
    · subst ha; exact h1
    · exact .inl (g.sub a (h.set_ne fun ds _ z => ha (by cases z; rfl)))
end
section
variable {K : PySem.W.Frag} {pin : List Nat} {Γ : List Sl} {P : Ps} {te ta tb : TE} {tt : TT} {t u tb' : TS} {g : TG}
theorem ws_mono {P' : Ps} (h : WS K pin t Γ P) (h1 : ∀ G, P.nx G → P'.nx G) (h2 : ∀ r G, P.rt r G → P'.rt r G) (h3 : ∀ G, P.bk G → P'.bk G) (h4 : ∀ G, P.ct G → P'.ct G) : WS K pin t Γ P' := fun σ B H D E n r b c =>
  h σ B H D E (fun σ' B' H' Γ' g p => n σ' B' H' Γ' g (h1 _ p)) (fun v σ' B' H' z Γ' g k p => r v σ' B' H' z Γ' g k (h2 _ _ p)) (fun σ' B' H' Γ' g p => b σ' B' H' Γ' g (h3 _ p)) (fun σ' B' H' Γ' g p => c σ' B' H' Γ' g (h4 _ p))
/-- from a later state -/
theorem ws_from {σ σ1 : L2.St} {B H B1 H1 : Hp} {Γ1 : List Sl} {D : Ends} (h : WS K pin t Γ1 P) (g : GoS K pin σ B H Γ σ1 B1 H1 Γ1)
    (n : ∀ σ' B' H' Γ', GoS K pin σ B H Γ σ' B' H' Γ' → P.nx Γ' → D.nx σ' H')
    (r : ∀ v σ' B' H' r Γ', GoS K pin σ B H Γ σ' B' H' Γ' → ReOk K [] (Own σ Γ) (Own σ' Γ') B' H H' v r → P.rt r Γ' → D.rt v H')
    (b : ∀ σ' B' H' Γ', GoS K pin σ B H Γ σ' B' H' Γ' → P.bk Γ' → D.bk σ' H')
    (c : ∀ σ' B' H' Γ', GoS K pin σ B H Γ σ' B' H' Γ' → P.ct Γ' → D.ct σ' H') : t D σ1 H1 :=
  h σ1 B1 H1 D g.env (fun σ' B' H' Γ' g' p => n σ' B' H' Γ' (g.trans g') p) (fun v σ' B' H' z Γ' g' k p => r v σ' B' H' z Γ' (g.trans g') (ReOk.earlier k g.mv g.new) p)
    (fun σ' B' H' Γ' g' p => b σ' B' H' Γ' (g.trans g') p) (fun σ' B' H' Γ' g' p => c σ' B' H' Γ' (g.trans g') p)
theorem ws_seq (h : WS K pin t Γ { P with nx := fun Γ1 => WS K pin u Γ1 P }) : WS K pin (tSeq t u) Γ P := fun σ B H D E n r b c =>
  h σ B H { D with nx := u D } E (fun σ' B' H' Γ' g p => ws_from (t := u) (D := D) p g n r b c) r b c
theorem ws_nil (p : P.nx Γ) : WS K pin tNext Γ P := fun σ B H D E n r b c => n σ B H Γ (.refl E) p
theorem ws_brk (p : P.bk Γ) : WS K pin tBreak Γ P := fun σ B H D E n r b c => b σ B H Γ (.refl E) p
theorem ws_cont (p : P.ct Γ) : WS K pin tCont Γ P := fun σ B H D E n r b c => c σ B H Γ (.refl E) p
theorem ws_expr (h : WE K te Γ fun _ Γ1 => P.nx Γ1) : WS K pin (tDrop te) Γ P := fun σ B H D E n r b c =>
  h σ B H E _ fun v B1 H1 z Γ1 g k p => n σ B1 H1 Γ1 g.s p
theorem ws_ret (h : WE K te Γ fun z Γ1 => z.free = true ∧ P.rt z Γ1) : WS K pin (tRet te) Γ P := fun σ B H D E n r b c =>
  h σ B H E _ fun v B1 H1 z Γ1 g k ⟨hf, p⟩ => r v σ B1 H1 z Γ1 g.s (k.off hf) p
theorem ws_retN (p : P.rt (.val .non) Γ) : WS K pin tRetN Γ P := fun σ B H D E n r b c => r .non σ B H (.val .non) Γ (.refl E) (Is.raw _) p
/-- return of an owned list -/
theorem ws_retA {i : Nat} {ds : List Dt} (h : Γ[i]? = some (.acc ds)) (p : P.rt (.new ds) (Γ.set i .un)) : WS K pin (tRet (tVar i)) Γ P := ws_ret (we_move h ⟨rfl, p⟩)
theorem ws_if (h : WT K tt Γ fun b Γ1 => (b = true → WS K pin t Γ1 P) ∧ (b = false → WS K pin u Γ1 P)) : WS K pin (tIfS tt t u) Γ P := fun σ B H D E n r b c =>
  h σ B H E _ fun z B1 H1 Γ1 g p => by
    cases z with
    | true =>
      show t D σ H1
      exact ws_from (p.1 rfl) g.s n r b c
    | false =>
      show u D σ H1
      exact ws_from (p.2 rfl) g.s n r b c
theorem ws_asg {i : Nat} (hp : pin.contains i = false) (hi : decide (i < Γ.length) = true) (h : WE K te Γ fun z Γ1 => P.nx (Γ1.set i (slOf z))) : WS K pin (tAsg te (gName i)) Γ P := fun σ B H D E n r b c =>
  h σ B H E _ fun v B1 H1 z Γ1 g k p => n _ B1 H1 _ (goS_set g k hp (by rw [← g.env.len, E.len]; exact of_decide_eq_true hi)) p
/-- the whole of a frozen list, a tuple .. to a target -/
theorem ws_asgG (h : WE K te Γ fun z Γ1 => ∃ d, z = .val d ∧ WG K pin g d Γ1 P.nx) : WS K pin (tAsg te g) Γ P := fun σ B H D E n r b c =>
  h σ B H E _ fun v B1 H1 z Γ1 g1 k p => by
    obtain ⟨d, rfl, p⟩ := p
    exact p σ B1 H1 v g1.env k _ fun σ' Γ' g2 p2 => n σ' B1 H1 Γ' (g1.s.trans g2) p2
theorem wg_name {i : Nat} {d : Dt} {Q : List Sl → Prop} (hp : pin.contains i = false) (hi : decide (i < Γ.length) = true) (p : Q (Γ.set i (.val d))) : WG K pin (gName i) d Γ Q := fun σ B H x E k R q =>
  q _ _ (goS_set (r := .val d) (.refl E) k hp (of_decide_eq_true hi)) p
def WGs (K : PySem.W.Frag) (pin : List Nat) (g : TGs) (ds : List Dt) (Γ : List Sl) (P : List Sl → Prop) : Prop := ∀ σ B H xs, Env K B H σ Γ → IsA K B xs ds → ∀ Q : L2.St → Hp → Prop,
  (∀ σ' Γ', GoS K pin σ B H Γ σ' B H Γ' → P Γ' → Q σ' H) → g xs σ H Q
theorem wgs_nil {Q : List Sl → Prop} (p : Q Γ) : WGs K pin gNil [] Γ Q := fun σ B H xs E k R q => by
  have : xs = [] := List.eq_nil_of_length_eq_zero (by rw [k.len]; rfl)
  exact ⟨this, q σ Γ (.refl E) p⟩
theorem wgs_cons {g1 : TG} {g2 : TGs} {d : Dt} {ds : List Dt} {Q : List Sl → Prop} (h : WG K pin g1 d Γ fun Γ1 => WGs K pin g2 ds Γ1 Q) : WGs K pin (gCons g1 g2) (d :: ds) Γ Q := fun σ B H xs E k R q => by
  cases xs with
  | nil => have := k.len; simp at this
  | cons x r =>
    refine ⟨x, r, rfl, h σ B H x E (k.at_ 0 x d rfl rfl) _ fun σ1 Γ1 e1 p1 => ?_⟩
    exact p1 σ1 B H r e1.env ⟨by have := k.len; simpa using this, fun i v d a b => k.at_ (i + 1) v d (by simpa using a) (by simpa using b)⟩ R fun σ2 Γ2 e2 p2 => q σ2 Γ2 (e1.trans e2) p2
theorem wg_tup {n : Nat} {g2 : TGs} {ds : List Dt} {Q : List Sl → Prop} (hn : ds.length = n) (h : WGs K pin g2 ds Γ Q) : WG K pin (gTup K n g2) (.tup ds) Γ Q := fun σ B H x E k R q => by
  obtain ⟨a, xs, rfl, h1, h2⟩ := Is.tupR k
  exact ⟨a, xs, rfl, sqT_mono E.bh h1, by rw [h2.len]; exact hn, h σ B H xs E h2 R q⟩
/-- x op= e on ints -/
theorem ws_aug {i : Nat} {f : Int → Int → Int} {a : Int} (hx : Γ[i]? = some (.val (.int a))) (hp : pin.contains i = false) (h : WE K te Γ fun z Γ1 => ∃ b, z = .val (.int b) ∧ P.nx (Γ1.set i (.val (.int (f a b))))) : WS K pin (tAug i te (ipI f)) Γ P := fun σ B H D E n r b c => by
  obtain ⟨v, hv, hk⟩ := E.val i _ hx
  cases hk.rawI
  refine ⟨_, hv, h σ B H E _ fun y B1 H1 z Γ1 g k p => ?_⟩
  obtain ⟨b, rfl, p⟩ := p
  cases Is.rawI k
  exact ⟨a, b, rfl, rfl, n _ B1 H1 _ (goS_set (r := .val (.int (f a b))) g (Is.raw _) hp (by rw [← g.env.len, E.len]; exact (List.getElem?_eq_some_iff.mp hx).1)) p⟩
/-- an owned list is changed -/
theorem Env.put {σ : L2.St} {B H : Hp} {i : Nat} {ds es : List Dt} {l : Addr} {ys : List V} (E : Env K B H σ Γ) (h : Γ[i]? = some (.acc ds)) (hl : σ[i]? = some (some (.ref l))) (ha : IsA K B ys es) : Env K B (upd H l (.lst ys)) σ (Γ.set i (.acc es)) := by
  have hi : i < Γ.length := (List.getElem?_eq_some_iff.mp h).1
  obtain ⟨l', vs, q1, q2, q3, q4⟩ := E.acc i ds h
  rw [hl] at q1; cases q1
  have up : ∀ {j : Nat} {es' : List Dt}, (Γ.set i (.acc es))[j]? = some (.acc es') → ∃ ds', Γ[j]? = some (.acc ds') := fun {j es'} hj => by
    by_cases hij : i = j
    · subst hij; exact ⟨ds, h⟩
    · rw [List.getElem?_set_ne hij] at hj; exact ⟨es', hj⟩
  refine ⟨by simp [E.len], fun a u e => ?_, fun j e hj => ?_, fun j es' hj => ?_, fun j k ds' es' l' h1 h2 h3 h4 => ?_⟩
  · rw [upd_ne (ne_of_none e q3)]; exact E.bh a u e
  · by_cases hij : i = j
    · subst hij; rw [List.getElem?_set_self hi] at hj; cases hj
    · rw [List.getElem?_set_ne hij] at hj; exact E.val j e hj
  · by_cases hij : i = j
    · subst hij; rw [List.getElem?_set_self hi] at hj; cases hj
      exact ⟨l, ys, hl, upd_same, q3, ha⟩
    · rw [List.getElem?_set_ne hij] at hj
      obtain ⟨c, us, e1, e2, e3, e4⟩ := E.acc j es' hj
      have hc : c ≠ l := fun z => by
        subst z
        exact hij (E.sep i j ds es' c h hj hl e1)
      exact ⟨c, us, e1, by rw [upd_ne hc]; exact e2, e3, e4⟩
  · obtain ⟨d1, g1⟩ := up h1
    obtain ⟨d2, g2⟩ := up h2
    exact E.sep j k d1 d2 l' g1 g2 h3 h4
theorem Own.put {σ : L2.St} {i : Nat} {ds es : List Dt} {a : Addr} (h : Γ[i]? = some (.acc ds)) (o : Own σ (Γ.set i (.acc es)) a) : Own σ Γ a := by
  obtain ⟨j, es', h1, h2⟩ := o
  by_cases hij : i = j
  · subst hij; exact ⟨i, ds, h, h2⟩
  · rw [List.getElem?_set_ne hij] at h1; exact ⟨j, es', h1, h2⟩
theorem Go.put {σ : L2.St} {B H : Hp} {i : Nat} {ds es : List Dt} {l : Addr} {ys : List V} (E : Env K B H σ Γ) (h : Γ[i]? = some (.acc ds)) (hl : σ[i]? = some (some (.ref l))) (ha : IsA K B ys es) : Go K σ B H Γ B (upd H l (.lst ys)) (Γ.set i (.acc es)) :=
  ⟨⟨fun a o na e => by rw [upd_ne (fun z => na (by subst z; exact ⟨i, ds, h, hl⟩))]; exact e, Same.refl B, fun _ _ _ e => e⟩, fun j es' hj => by
    by_cases hij : i = j
    · subst hij; exact ⟨ds, h⟩
    · rw [List.getElem?_set_ne hij] at hj; exact ⟨es', hj⟩, E.put h hl ha⟩
/-- xs.append(e) -/
theorem we_append {i : Nat} {ds0 : List Dt} {Post : Re → List Sl → Prop} (h0 : Γ[i]? = some (.acc ds0)) (h : WE K te Γ fun z Γ1 => ∃ d ds, z.dt? = some d ∧ Γ1[i]? = some (.acc ds) ∧ ds.length < 1000000 ∧ Post (.val .non) (Γ1.set i (.acc (ds ++ [d])))) :
    WE K (tBM K "list" rAppend (tVar i) (tCons te tNil)) Γ Post := fun σ B H E Q q => by
  obtain ⟨l, vs, e0, e1, e2, k0⟩ := E.acc i ds0 h0
  refine ⟨.ref l, e0, .inl ⟨rfl, vs, .inl (.inl e1)⟩, ?_⟩
  have h' : WE K te Γ fun z Γ1 => ∃ d ds, z = .val d ∧ Γ1[i]? = some (.acc ds) ∧ ds.length < 1000000 ∧ Post (.val .non) (Γ1.set i (.acc (ds ++ [d]))) := we_freeze (we_mono h fun z Γ1 ⟨d, ds, hd, r⟩ => ⟨d, hd, d, ds, rfl, r⟩)
  refine h' σ B H E _ fun y B1 H1 z Γ1 g k p => ?_
  obtain ⟨d, ds, rfl, hi, hz, p⟩ := p
  obtain ⟨l', us, f0, f1, f2, k1⟩ := g.env.acc i ds hi
  rw [e0] at f0; cases f0
  refine ⟨l, us, y, rfl, rfl, f1, Nat.lt_trans (by rw [k1.len]; exact hz) (by decide), ?_⟩
  have g2 := Go.put g.env hi e0 (k1.snoc k)
  exact q .non B1 _ (.val .non) _ (g.trans g2) (Is.raw _) p
/-- xs[j] = e -/
theorem ws_setA {i : Nat} {tj : TE} (h : WE K te Γ fun z Γ1 => ∃ d, z = .val d ∧ (∃ ds1, Γ1[i]? = some (.acc ds1)) ∧ WE K tj Γ1 fun y Γ2 => ∃ ds k j, y = .val (.int k) ∧ Γ2[i]? = some (.acc ds) ∧ ixN ds.length k = some j ∧ P.nx (Γ2.set i (.acc (ds.set j d)))) :
    WS K pin (tAsg te (gSub (tVar i) tj rSetL)) Γ P := fun σ B H D E n r b c => by
  refine h σ B H E _ fun v B1 H1 z Γ1 g1 k1 p1 => ?_
  obtain ⟨d, rfl, ⟨ds1, h1⟩, p1⟩ := p1
  obtain ⟨l, vs, e0, e1, e2, k0⟩ := g1.env.acc i ds1 h1
  refine ⟨.ref l, e0, p1 σ B1 H1 g1.env _ fun y B2 H2 w Γ2 g2 k2 p2 => ?_⟩
  obtain ⟨ds, k, j, rfl, hi, hj, p⟩ := p2
  cases Is.rawI k2
  obtain ⟨l', us, f0, f1, f2, k3⟩ := g2.env.acc i ds hi
  rw [e0] at f0; cases f0
  refine ⟨l, us, k, j, rfl, rfl, f1, by rw [k3.len]; exact hj, ?_⟩
  exact n _ B2 _ _ ((g1.trans g2).trans (Go.put g2.env hi e0 (k3.set (Is.mono g2.mv.bb k1)))).s p
theorem we_reverse {i : Nat} {ds : List Dt} {Post : Re → List Sl → Prop} (h0 : Γ[i]? = some (.acc ds)) (p : Post (.val .non) (Γ.set i (.acc ds.reverse))) : WE K (tBM0 K "list" rReverse (tVar i)) Γ Post := fun σ B H E Q q => by
  obtain ⟨l, vs, e0, e1, e2, k0⟩ := E.acc i ds h0
  exact ⟨.ref l, e0, .inl ⟨rfl, vs, .inl (.inl e1)⟩, l, vs, rfl, rfl, e1, q .non B _ (.val .non) _ (Go.put E h0 e0 k0.reverse) (Is.raw _) p⟩
/-- xs.pop(k) -/
theorem we_popAt {i : Nat} {ds0 : List Dt} {Post : Re → List Sl → Prop} (h0 : Γ[i]? = some (.acc ds0)) (h : WE K te Γ fun z Γ1 => ∃ ds k j d, z = .val (.int k) ∧ Γ1[i]? = some (.acc ds) ∧ -(2 ^ 63) ≤ k ∧ k < 2 ^ 63 ∧ seqIndex? k ds.length = some j ∧ ds[j]? = some d ∧ Post (.val d) (Γ1.set i (.acc (ds.eraseIdx j)))) :
    WE K (tBM K "list" rPopAt (tVar i) (tCons te tNil)) Γ Post := fun σ B H E Q q => by
  obtain ⟨l, vs, e0, e1, e2, k0⟩ := E.acc i ds0 h0
  refine ⟨.ref l, e0, .inl ⟨rfl, vs, .inl (.inl e1)⟩, ?_⟩
  refine h σ B H E _ fun y B1 H1 z Γ1 g k p => ?_
  obtain ⟨ds, m, j, d, rfl, hi, hz, hz2, hj, hd, p⟩ := p
  cases Is.rawI k
  obtain ⟨l', us, f0, f1, f2, k1⟩ := g.env.acc i ds hi
  rw [e0] at f0; cases f0
  obtain ⟨w, hw, kw⟩ := k1.get hd
  refine ⟨l, us, m, j, w, rfl, rfl, f1, hz, hz2, by rw [k1.len]; exact hj, hw, ?_⟩
  have g2 := Go.put g.env hi e0 (k1.eraseIdx j)
  exact q w B1 _ (.val d) _ (g.trans g2) kw p
/-! ### loops -/
theorem ws_for1 {t1 : TA} (h : WD K t1 Γ fun ds Γ1 => ∃ n : Int, ds = [.int n] ∧ -(2 ^ 62) ≤ n ∧ n < 2 ^ 62 ∧ ∃ Inv : Nat → List Sl → Prop, Inv 0 Γ1 ∧
      (∀ (i : Nat) Γ', (i : Int) < n → Inv i Γ' → WG K pin g (.int i) Γ' fun Γ2 => WS K pin tb' Γ2 ⟨Inv (i + 1), P.rt, P.nx, Inv (i + 1)⟩) ∧ ∀ Γ', Inv n.toNat Γ' → P.nx Γ') : WS K pin (tFor (iRng1 t1) g tb') Γ P := fun σ B H D E n r b c => by
  refine h σ B H E _ fun vs B1 H1 ds Γ1 g1 k p => ?_
  obtain ⟨m, rfl, hlo, hhi, Inv, i0, turn, done⟩ := p
  have ev : vs = [.int m] := IsA.rawsI (xs := [.int m]) k
  refine ⟨m, ev, hlo, hhi, ?_⟩
  refine for_range (lo := 0) (n := m.toNat) (fun i σ' H' => ∃ B' Γ', GoS K pin σ B H Γ σ' B' H' Γ' ∧ Inv i Γ') ⟨B1, Γ1, g1.s, i0⟩ ?_ ?_
  · rintro i σ' H' hi ⟨B', Γ', g2, inv⟩
    have e0 : (0 : Int) + (i : Int) = (i : Int) := Int.zero_add _
    rw [e0]
    refine turn i Γ' (by omega) inv σ' B' H' _ g2.env (.raw _) _ fun σ2 Γ2 g3 w => ?_
    exact ws_from w (g2.trans g3) (fun σ3 B3 H3 Γ3 g4 p => ⟨B3, Γ3, g4, p⟩) r (fun σ3 B3 H3 Γ3 g4 p => n σ3 B3 H3 Γ3 g4 p) (fun σ3 B3 H3 Γ3 g4 p => ⟨B3, Γ3, g4, p⟩)
  · rintro σ' H' ⟨B', Γ', g2, inv⟩
    exact n σ' B' H' Γ' g2 (done Γ' inv)
theorem ws_for2 {t1 : TA} (h : WD K t1 Γ fun ds Γ1 => ∃ lo m : Int, ds = [.int lo, .int m] ∧ (-(2 ^ 62) ≤ lo ∧ lo < 2 ^ 62 ∧ -(2 ^ 62) ≤ m ∧ m < 2 ^ 62) ∧ ∃ Inv : Nat → List Sl → Prop, Inv 0 Γ1 ∧
      (∀ (i : Nat) Γ', lo + (i : Int) < m → Inv i Γ' → WG K pin g (.int (lo + i)) Γ' fun Γ2 => WS K pin tb' Γ2 ⟨Inv (i + 1), P.rt, P.nx, Inv (i + 1)⟩) ∧ ∀ Γ', Inv (m - lo).toNat Γ' → P.nx Γ') : WS K pin (tFor (iRng2 t1) g tb') Γ P := fun σ B H D E n r b c => by
  refine h σ B H E _ fun vs B1 H1 ds Γ1 g1 k p => ?_
  obtain ⟨lo, m, rfl, hb, Inv, i0, turn, done⟩ := p
  have ev : vs = [.int lo, .int m] := IsA.rawsI (xs := [.int lo, .int m]) k
  refine ⟨lo, m, ev, hb, ?_⟩
  refine for_range (lo := lo) (n := (m - lo).toNat) (fun i σ' H' => ∃ B' Γ', GoS K pin σ B H Γ σ' B' H' Γ' ∧ Inv i Γ') ⟨B1, Γ1, g1.s, i0⟩ ?_ ?_
  · rintro i σ' H' hi ⟨B', Γ', g2, inv⟩
    refine turn i Γ' (by omega) inv σ' B' H' _ g2.env (.raw _) _ fun σ2 Γ2 g3 w => ?_
    exact ws_from w (g2.trans g3) (fun σ3 B3 H3 Γ3 g4 p => ⟨B3, Γ3, g4, p⟩) r (fun σ3 B3 H3 Γ3 g4 p => n σ3 B3 H3 Γ3 g4 p) (fun σ3 B3 H3 Γ3 g4 p => ⟨B3, Γ3, g4, p⟩)
  · rintro σ' H' ⟨B', Γ', g2, inv⟩
    exact n σ' B' H' Γ' g2 (done Γ' inv)
/-- over a tuple -/
theorem ws_forT (h : WE K te Γ fun z Γ1 => ∃ ds, z = .val (.tup ds) ∧ ∃ Inv : Nat → List Sl → Prop, Inv 0 Γ1 ∧
      (∀ (i : Nat) d Γ', ds[i]? = some d → Inv i Γ' → WG K pin g d Γ' fun Γ2 => WS K pin tb' Γ2 ⟨Inv (i + 1), P.rt, P.nx, Inv (i + 1)⟩) ∧ ∀ Γ', Inv ds.length Γ' → P.nx Γ') : WS K pin (tFor (iTup K te) g tb') Γ P := fun σ B H D E n r b c => by
  refine h σ B H E _ fun v B1 H1 z Γ1 g1 k p => ?_
  obtain ⟨ds, rfl, Inv, i0, turn, done⟩ := p
  obtain ⟨a, xs, rfl, ha, hx⟩ := Is.tupR k
  refine ⟨a, rfl, ⟨xs, sqT_mono g1.env.bh ha⟩, for_tup (xs := xs) (fun i σ' H' => ∃ B' Γ', Same B1 B' ∧ GoS K pin σ B H Γ σ' B' H' Γ' ∧ Inv i Γ') ⟨B1, Γ1, Same.refl _, g1.s, i0⟩ ?_ ?_ ?_⟩
  · rintro i σ' H' _ ⟨B', Γ', sb, g2, _⟩
    exact sqT_mono (sb.trans g2.env.bh) ha
  · rintro i x σ' H' hi ⟨B', Γ', sb, g2, inv⟩
    have hlt : i < ds.length := by rw [← hx.len]; exact (List.getElem?_eq_some_iff.mp hi).1
    refine turn i ds[i] Γ' (List.getElem?_eq_getElem hlt) inv σ' B' H' x g2.env ((hx.at_ i x _ hi (List.getElem?_eq_getElem hlt)).mono sb) _ fun σ2 Γ2 g3 w => ?_
    have g23 := g2.trans g3
    refine w σ2 B' H' _ g23.env (fun σ3 B3 H3 Γ3 g4 p => ⟨B3, Γ3, sb.trans g4.mv.bb, g23.trans g4, p⟩) (fun v σ3 B3 H3 z Γ3 g4 k4 p => r v σ3 B3 H3 z Γ3 (g23.trans g4) (ReOk.earlier k4 g23.mv g23.new) p)
      (fun σ3 B3 H3 Γ3 g4 p => n σ3 B3 H3 Γ3 (g23.trans g4) p) (fun σ3 B3 H3 Γ3 g4 p => ⟨B3, Γ3, sb.trans g4.mv.bb, g23.trans g4, p⟩)
  · rintro σ' H' ⟨B', Γ', sb, g2, inv⟩
    rw [hx.len] at inv
    exact n σ' B' H' Γ' g2 (done Γ' inv)
/-- over a list that is data, or new -/
theorem ws_forL (h : WE K te Γ fun z Γ1 => ∃ d ds, z.dt? = some d ∧ d = .lst ds ∧ ∃ Inv : Nat → List Sl → Prop, Inv 0 Γ1 ∧
      (∀ (i : Nat) d Γ', ds[i]? = some d → Inv i Γ' → WG K pin g d Γ' fun Γ2 => WS K pin tb' Γ2 ⟨Inv (i + 1), P.rt, P.nx, Inv (i + 1)⟩) ∧ ∀ Γ', Inv ds.length Γ' → P.nx Γ') : WS K pin (tFor (iList K te) g tb') Γ P := fun σ B H D E n r b c => by
  have h' : WE K te Γ fun z Γ1 => ∃ ds, z = .val (.lst ds) ∧ ∃ Inv : Nat → List Sl → Prop, Inv 0 Γ1 ∧
      (∀ (i : Nat) d Γ', ds[i]? = some d → Inv i Γ' → WG K pin g d Γ' fun Γ2 => WS K pin tb' Γ2 ⟨Inv (i + 1), P.rt, P.nx, Inv (i + 1)⟩) ∧ ∀ Γ', Inv ds.length Γ' → P.nx Γ' :=
    we_freeze (we_mono h fun z Γ1 ⟨d, ds, hd, e, r⟩ => ⟨d, hd, ds, by rw [e], r⟩)
  refine h' σ B H E _ fun v B1 H1 z Γ1 g1 k p => ?_
  obtain ⟨ds, rfl, Inv, i0, turn, done⟩ := p
  obtain ⟨a, xs, rfl, ha, hx⟩ := Is.lstR k
  refine ⟨a, rfl, ⟨xs, .inl (.inl (g1.env.bh _ _ ha))⟩, for_list (xs := xs) (fun i σ' H' => ∃ B' Γ', Same B1 B' ∧ GoS K pin σ B H Γ σ' B' H' Γ' ∧ Inv i Γ') ⟨B1, Γ1, Same.refl _, g1.s, i0⟩ ?_ ?_ ?_⟩
  · rintro i σ' H' _ ⟨B', Γ', sb, g2, _⟩
    exact .inl (.inl ((sb.trans g2.env.bh) _ _ ha))
  · rintro i x σ' H' hi ⟨B', Γ', sb, g2, inv⟩
    have hlt : i < ds.length := by rw [← hx.len]; exact (List.getElem?_eq_some_iff.mp hi).1
    refine turn i ds[i] Γ' (List.getElem?_eq_getElem hlt) inv σ' B' H' x g2.env ((hx.at_ i x _ hi (List.getElem?_eq_getElem hlt)).mono sb) _ fun σ2 Γ2 g3 w => ?_
    have g23 := g2.trans g3
    refine w σ2 B' H' _ g23.env (fun σ3 B3 H3 Γ3 g4 p => ⟨B3, Γ3, sb.trans g4.mv.bb, g23.trans g4, p⟩) (fun v σ3 B3 H3 z Γ3 g4 k4 p => r v σ3 B3 H3 z Γ3 (g23.trans g4) (ReOk.earlier k4 g23.mv g23.new) p)
      (fun σ3 B3 H3 Γ3 g4 p => n σ3 B3 H3 Γ3 (g23.trans g4) p) (fun σ3 B3 H3 Γ3 g4 p => ⟨B3, Γ3, sb.trans g4.mv.bb, g23.trans g4, p⟩)
  · rintro σ' H' ⟨B', Γ', sb, g2, inv⟩
    rw [hx.len] at inv
    exact n σ' B' H' Γ' g2 (done Γ' inv)
/-- over an owned list that the body leaves as it is -/
theorem ws_forA {k : Nat} {ds : List Dt} (h0 : Γ[k]? = some (.acc ds)) (Inv : Nat → List Sl → Prop) (i0 : Inv 0 Γ) (hk : ∀ i Γ', Inv i Γ' → Γ'[k]? = some (.acc ds))
      (turn : ∀ (i : Nat) d Γ', ds[i]? = some d → Inv i Γ' → WG K (k :: pin) g d Γ' fun Γ2 => WS K (k :: pin) tb' Γ2 ⟨Inv (i + 1), P.rt, P.nx, Inv (i + 1)⟩) (done : ∀ Γ', Inv ds.length Γ' → P.nx Γ') : WS K pin (tFor (iList K (tVar k)) g tb') Γ P := fun σ B H D E n r b c => by
  obtain ⟨l, xs, e0, e1, e2, hx⟩ := E.acc k ds h0
  have off : ∀ {σ' B' H' Γ'}, GoS K (k :: pin) σ B H Γ σ' B' H' Γ' → GoS K pin σ B H Γ σ' B' H' Γ' := fun g => ⟨g.mv, g.new, g.env, fun i hi => g.pin i (List.mem_cons_of_mem _ hi)⟩
  have items : ∀ {i σ' B' H' Γ'}, GoS K (k :: pin) σ B H Γ σ' B' H' Γ' → Inv i Γ' → ∃ ys, H' l = some (.lst ys) ∧ IsA K B' ys ds := fun {i σ' B' H' Γ'} g inv => by
    obtain ⟨c, ys, q1, q2, q3, q4⟩ := g.env.acc k ds (hk i Γ' inv)
    rw [g.pin k (List.mem_cons_self), e0] at q1
    cases q1
    exact ⟨ys, q2, q4⟩
  refine ⟨.ref l, e0, l, rfl, ⟨xs, .inl (.inl e1)⟩, fun i m σ' H' => m = ds.length - i ∧ i ≤ ds.length ∧ ∃ B' Γ', GoS K (k :: pin) σ B H Γ σ' B' H' Γ' ∧ Inv i Γ', ⟨ds.length, by simp, Nat.zero_le _, B, Γ, .refl E, i0⟩, ?_⟩
  rintro i m σ' H' ⟨rfl, hi, B', Γ', g2, inv⟩
  obtain ⟨ys, hy, hya⟩ := items g2 inv
  by_cases hlt : i < ds.length
  · obtain ⟨x, hx1, hx2⟩ := hya.get (List.getElem?_eq_getElem hlt)
    refine .inr ⟨⟨ys, x, .inl (.inl hy), hx1⟩, fun σ2 H2 => ∃ B' Γ', GoS K (k :: pin) σ B H Γ σ2 B' H2 Γ' ∧ Inv (i + 1) Γ', fun σ2 H2 ⟨B2, Γ2, q⟩ => ⟨ds.length - (i + 1), by omega, rfl, hlt, B2, Γ2, q⟩, fun x' H2 hyl => ?_⟩
    obtain ⟨e, hyl⟩ := hyl
    subst e
    have ex : x' = x := by
      have := hyl ys (.inl (.inl hy))
      rw [hx1] at this; cases this; rfl
    subst ex
    refine turn i ds[i] Γ' (List.getElem?_eq_getElem hlt) inv σ' B' _ x' g2.env hx2 _ fun σ2 Γ2 g3 w => ?_
    have g23 := g2.trans g3
    exact w σ2 B' _ _ g23.env (fun σ3 B3 H3 Γ3 g4 p => ⟨B3, Γ3, g23.trans g4, p⟩) (fun v σ3 B3 H3 z Γ3 g4 k4 p => r v σ3 B3 H3 z Γ3 (off (g23.trans g4)) (ReOk.earlier k4 g23.mv g23.new) p)
      (fun σ3 B3 H3 Γ3 g4 p => n σ3 B3 H3 Γ3 (off (g23.trans g4)) p) (fun σ3 B3 H3 Γ3 g4 p => ⟨B3, Γ3, g23.trans g4, p⟩)
  · have e : i = ds.length := by omega
    subst e
    exact .inl ⟨⟨ys, .inl (.inl hy), by rw [hya.len]; exact Nat.le_refl _⟩, n σ' B' H' Γ' (off g2) (done Γ' inv)⟩
/-- while, by an invariant with a measure -/
theorem ws_while (Inv : Nat → List Sl → Prop) (m0 : Nat) (i0 : Inv m0 Γ)
      (turn : ∀ m Γ', Inv m Γ' → WT K tt Γ' fun z Γ1 => (z = true → WS K pin tb' Γ1 ⟨fun G => ∃ m', m' < m ∧ Inv m' G, P.rt, P.nx, fun G => ∃ m', m' < m ∧ Inv m' G⟩) ∧ (z = false → P.nx Γ1)) : WS K pin (tWhile tt tb') Γ P := fun σ B H D E n r b c => by
  refine ⟨fun m σ' H' => ∃ B' Γ', GoS K pin σ B H Γ σ' B' H' Γ' ∧ Inv m Γ', ⟨m0, B, Γ, .refl E, i0⟩, ?_⟩
  rintro m σ' H' ⟨B', Γ', g, inv⟩
  refine turn m Γ' inv σ' B' H' g.env _ fun z B1 H1 Γ1 g1 p => ?_
  have gg := g.trans g1.s
  cases z with
  | true =>
    refine (show ∃ N : L2.St → Hp → Prop, _ from ⟨fun σ2 H2 => ∃ B2 Γ2, GoS K pin σ B H Γ σ2 B2 H2 Γ2 ∧ ∃ m', m' < m ∧ Inv m' Γ2, fun σ2 H2 ⟨B2, Γ2, g2, m', hm, inv'⟩ => ⟨m', hm, B2, Γ2, g2, inv'⟩, ?_⟩)
    exact ws_from (p.1 rfl) gg (fun σ3 B3 H3 Γ3 g4 p => ⟨B3, Γ3, g4, p⟩) r (fun σ3 B3 H3 Γ3 g4 p => n σ3 B3 H3 Γ3 g4 p) (fun σ3 B3 H3 Γ3 g4 p => ⟨B3, Γ3, g4, p⟩)
  | false => exact n σ' B1 H1 Γ1 gg (p.2 rfl)
end
end Ab
namespace Ab
open PySem L2
/-! ### promises over data -/
abbrev AP := List Sl → (Re → List Sl → Prop) → Prop
def toSp (K : PySem.W.Frag) (ap : AP) : Sp := fun vs H Q _ => ∃ B as Post, Env K B H (vs.map some) as ∧ ap as Post ∧
  ∀ v B' H' r as', Go K (vs.map some) B H as B' H' as' → ReOk K [] (Own (vs.map some) as) (Own (vs.map some) as') B' H H' v r → Post r as' → Q v H'
/-- the arguments as they stand at the end -/
def exitSl (pin : List Nat) (Γ : List Sl) (i : Nat) : Sl → Sl
  | .val d => .val d
  | .un => .un
  | .acc _ => if pin.contains i then (Γ[i]?).getD .un else .un
def exitFrom (pin : List Nat) (Γ : List Sl) : Nat → List Sl → List Sl
  | _, [] => []
  | k, s :: r => exitSl pin Γ k s :: exitFrom pin Γ (k + 1) r
def exitArgs (pin : List Nat) (Γ as : List Sl) : List Sl := exitFrom pin Γ 0 as
theorem exitFrom_get (pin : List Nat) (Γ : List Sl) : ∀ (as : List Sl) (k i : Nat), (exitFrom pin Γ k as)[i]? = (as[i]?).map (exitSl pin Γ (k + i))
  | [], k, i => by simp [exitFrom]
  | s :: r, k, 0 => by simp [exitFrom]
  | s :: r, k, i + 1 => by
    rw [exitFrom]
    simp only [List.getElem?_cons_succ]
    rw [exitFrom_get pin Γ r (k + 1) i]
    rw [show k + 1 + i = k + (i + 1) by omega]
theorem exitArgs_get {pin : List Nat} {Γ as : List Sl} {i : Nat} {s : Sl} (h : (exitArgs pin Γ as)[i]? = some s) : ∃ s0, as[i]? = some s0 ∧ s = exitSl pin Γ i s0 := by
  unfold exitArgs at h
  rw [exitFrom_get] at h
  cases q : as[i]? with
  | none => rw [q] at h; cases h
  | some s0 =>
    rw [q] at h
    simp at h
    exact ⟨s0, rfl, h.symm⟩
theorem exitFrom_len (pin : List Nat) (Γ : List Sl) : ∀ (as : List Sl) (k : Nat), (exitFrom pin Γ k as).length = as.length
  | [], _ => rfl
  | s :: r, k => by rw [exitFrom, List.length_cons, List.length_cons, exitFrom_len pin Γ r (k + 1)]
section
variable {K : PySem.W.Frag}
theorem start_get {N : List Str} {vs : List V} {i : Nat} (h : i < vs.length) : (L2.start N vs)[i]? = (vs.map some)[i]? := by
  unfold L2.start
  rw [List.getElem?_append_left (by rw [List.length_map]; exact h)]
theorem env_start {B H : Hp} {N : List Str} {vs : List V} {as : List Sl} (E : Env K B H (vs.map some) as) (hn : as.length ≤ N.length) : Env K B H (L2.start N vs) (as ++ List.replicate (N.length - as.length) .un) := by
  have hl : vs.length = as.length := by have := E.len; simpa using this
  have lt : ∀ {i : Nat} {s : Sl}, (as ++ List.replicate (N.length - as.length) Sl.un)[i]? = some s → s ≠ .un → i < as.length ∧ as[i]? = some s := fun {i s} h hs => by
    by_cases hi : i < as.length
    · rw [List.getElem?_append_left hi] at h; exact ⟨hi, h⟩
    · rw [List.getElem?_append_right (by omega)] at h
      have := List.mem_of_getElem? h
      rw [List.mem_replicate] at this
      exact absurd this.2 hs
  refine ⟨?_, E.bh, fun i d h => ?_, fun i ds h => ?_, fun i j ds es l h1 h2 h3 h4 => ?_⟩
  · unfold L2.start
    rw [List.length_append, List.length_map, List.length_replicate, List.length_append, List.length_replicate, hl]
  · obtain ⟨hi, h⟩ := lt h (fun z => nomatch z)
    rw [start_get (by omega)]
    exact E.val i d h
  · obtain ⟨hi, h⟩ := lt h (fun z => nomatch z)
    rw [start_get (by omega)]
    exact E.acc i ds h
  · obtain ⟨hi, h1⟩ := lt h1 (fun z => nomatch z)
    obtain ⟨hj, h2⟩ := lt h2 (fun z => nomatch z)
    rw [start_get (by omega)] at h3 h4
    exact E.sep i j ds es l h1 h2 h3 h4
theorem own_start {N : List Str} {vs : List V} {as : List Sl} (hl : vs.length = as.length) {a : Addr} : Own (L2.start N vs) (as ++ List.replicate (N.length - as.length) .un) a ↔ Own (vs.map some) as a := by
  constructor
  · rintro ⟨i, ds, h1, h2⟩
    by_cases hi : i < as.length
    · rw [List.getElem?_append_left hi] at h1
      rw [start_get (by omega)] at h2
      exact ⟨i, ds, h1, h2⟩
    · rw [List.getElem?_append_right (by omega)] at h1
      have := List.mem_of_getElem? h1
      rw [List.mem_replicate] at this
      cases this.2
  · rintro ⟨i, ds, h1, h2⟩
    have hi : i < as.length := (List.getElem?_eq_some_iff.mp h1).1
    refine ⟨i, ds, ?_, ?_⟩
    · rw [List.getElem?_append_left hi]; exact h1
    · rw [start_get (by omega)]; exact h2
variable {P : Program} {w : World} {mg : Str → Option Value} {base : Heap}
/-- a def by its body's run over data -/
theorem fn_ab {x qual : Str} {st : Stmt} {f : Addr} {fd : FuncData} {N ps : List Str} {k : Nat} {ap : AP} (pin : List Nat) (F : Fun K x qual st f fd) (S : FnScope N ps (defScope st))
    (hlen : ∀ as Post, ap as Post → as.length = ps.length) (hN : decide (ps.length ≤ N.length) = true)
    (body : ∀ (cdv : Value) (A : Around) (outer : List PySem.Env) (s : Shared) (H : Hp) (E : XK), Room k (A.deeper (PyProof.Rows.envOfC qual (defScope st) s.heap.objs.size f cdv)) →
      ∃ t, PSs (cxOf CX0 P w K mg base N qual (defScope st) f cdv A outer s H E).nox (defBody st) t ∧
        ∀ as Post, ap as Post → WS K pin t (as ++ List.replicate (N.length - as.length) .un) ⟨fun G => Post (.val .non) (exitArgs pin G as), fun r G => Post r (exitArgs pin G as), fun _ => False, fun _ => False⟩) :
    FnOk P w K mg base CX0 (k + 1) f fd ps (toSp K ap) := by
  refine F.ok S (fun vs H Q E h => ?_) (fun cdv A outer s H vs Q E hr h => ?_)
  · obtain ⟨B, as, Post, E1, ha, _⟩ := h
    have := E1.len
    rw [List.length_map] at this
    rw [this]; exact hlen as Post ha
  · obtain ⟨B, as, Post, E1, ha, q⟩ := h
    obtain ⟨t, ht, hw⟩ := body cdv A outer s H E hr
    refine ⟨t, ht, ?_⟩
    have hl : vs.length = as.length := by have := E1.len; simpa using this
    have hps : as.length ≤ N.length := by rw [hlen as Post ha]; exact of_decide_eq_true hN
    have E0 := env_start E1 hps
    -- the way out
    have fin : ∀ v σ' B' H' r Γ', GoS K pin (L2.start N vs) B H (as ++ List.replicate (N.length - as.length) .un) σ' B' H' Γ' → ReOk K [] (Own (L2.start N vs) (as ++ List.replicate (N.length - as.length) .un)) (Own σ' Γ') B' H H' v r → Post r (exitArgs pin Γ' as) → Q v H' := by
      intro v σ' B' H' r Γ' g kk p
      have hpinv : ∀ i, i < vs.length → i ∈ pin → σ'[i]? = (vs.map some)[i]? := fun i hi hp => by rw [g.pin i hp, start_get hi]
      have acc : ∀ {i : Nat} {ds : List Dt}, (exitArgs pin Γ' as)[i]? = some (.acc ds) → i ∈ pin ∧ Γ'[i]? = some (.acc ds) ∧ ∃ ds0, as[i]? = some (.acc ds0) := fun {i ds} h => by
        obtain ⟨s0, h0, e⟩ := exitArgs_get h
        cases s0 with
        | un => cases e
        | val d => cases e
        | acc es =>
          unfold exitSl at e
          simp only at e
          split at e
          · rename_i hc
            refine ⟨List.contains_iff_mem.mp hc, ?_, es, h0⟩
            cases q : Γ'[i]? with
            | none => rw [q] at e; cases e
            | some s => rw [q] at e; simp at e; rw [← e]
          · cases e
      have own' : ∀ {a}, Own (vs.map some) (exitArgs pin Γ' as) a → Own σ' Γ' a := fun {a} ⟨i, ds, h1, h2⟩ => by
        obtain ⟨hp, h3, _, _⟩ := acc h1
        have hi : i < vs.length := by
          have := (List.getElem?_eq_some_iff.mp h2).1
          simpa using this
        exact ⟨i, ds, h3, by rw [hpinv i hi hp]; exact h2⟩
      have E' : Env K B' H' (vs.map some) (exitArgs pin Γ' as) := by
        refine ⟨by unfold exitArgs; rw [exitFrom_len, List.length_map, hl], g.env.bh, fun i d h => ?_, fun i ds h => ?_, fun i j ds es l h1 h2 h3 h4 => ?_⟩
        · obtain ⟨s0, h0, e⟩ := exitArgs_get h
          cases s0 with
          | un => cases e
          | val d' =>
            cases e
            obtain ⟨v, e1, e2⟩ := E1.val i d h0
            exact ⟨v, e1, e2.mono g.mv.bb⟩
          | acc es =>
            unfold exitSl at e
            simp only at e
            split at e
            · rename_i hc
              have hp := List.contains_iff_mem.mp hc
              have hi : i < vs.length := by rw [hl]; exact (List.getElem?_eq_some_iff.mp h0).1
              cases q : Γ'[i]? with
              | none => rw [q] at e; cases e
              | some s =>
                rw [q] at e
                simp at e
                subst e
                rw [← hpinv i hi hp]
                exact g.env.val i d q
            · cases e
        · obtain ⟨hp, h3, _, h4⟩ := acc h
          have hi : i < vs.length := by rw [hl]; exact (List.getElem?_eq_some_iff.mp h4).1
          rw [← hpinv i hi hp]
          exact g.env.acc i ds h3
        · obtain ⟨hp, g1, _, _⟩ := acc h1
          obtain ⟨hp2, g2, _, _⟩ := acc h2
          have hi : i < vs.length := by have := (List.getElem?_eq_some_iff.mp h3).1; simpa using this
          have hj : j < vs.length := by have := (List.getElem?_eq_some_iff.mp h4).1; simpa using this
          exact g.env.sep i j ds es l g1 g2 (by rw [hpinv i hi hp]; exact h3) (by rw [hpinv j hj hp2]; exact h4)
      have hm : ∀ a, Own (L2.start N vs) (as ++ List.replicate (N.length - as.length) .un) a ↔ Own (vs.map some) as a := fun a => own_start hl
      refine q v B' H' r _ ⟨⟨fun a o na e => g.mv.kp a o (fun z => na ((hm a).mp z)) e, g.mv.bb, fun a na ha hb => g.mv.off a (fun z => na ((hm a).mp z)) ha hb⟩, fun i ds h1 => ?_, E'⟩ ?_ p
      · obtain ⟨_, _, ds0, h3⟩ := acc h1
        exact ⟨ds0, h3⟩
      · cases r with
        | val d => exact kk
        | own i => exact kk
        | new ds =>
          obtain ⟨l, us, e, h1, h2, h3⟩ := kk
          exact ⟨l, us, e, h1.imp (fun z => (hm l).mp z) id, fun z => h2 (own' z), h3⟩
    exact hw as Post ha (L2.start N vs) B H _ E0 (fun σ' B' H' Γ' g p => fin .non σ' B' H' (.val .non) Γ' g (Is.raw _) p) (fun v σ' B' H' r Γ' g kk p => fin v σ' B' H' r Γ' g kk p) (fun _ _ _ _ _ p => p.elim) (fun _ _ _ _ _ p => p.elim)
end
/-! ### arguments of own defs -/
structure AsOk (K : PySem.W.Frag) (σ : L2.St) (m m' : Addr → Prop) (B' H H' : Hp) (vs : List V) (rs : List Re) : Prop where
  len : vs.length = rs.length
  at_ : ∀ (i : Nat) v r, vs[i]? = some v → rs[i]? = some r → ReOk K σ m m' B' H H' v r
  sep : ∀ (i j : Nat) ds es l, rs[i]? = some (.new ds) → rs[j]? = some (.new es) → vs[i]? = some (.ref l) → vs[j]? = some (.ref l) → i = j
def WA (K : PySem.W.Frag) (ta : TA) (Γ : List Sl) (Post : List Re → List Sl → Prop) : Prop := ∀ σ B H, Env K B H σ Γ → ∀ Q : List V → Hp → Prop,
  (∀ vs B' H' rs Γ', Go K σ B H Γ B' H' Γ' → AsOk K σ (Own σ Γ) (Own σ Γ') B' H H' vs rs → Post rs Γ' → Q vs H') → ta σ H Q
section
variable {K : PySem.W.Frag} {Γ : List Sl} {te : TE} {tr : TA}
theorem wa_nil {P : List Re → List Sl → Prop} (p : P [] Γ) : WA K tNil Γ P := fun σ B H E Q q => q [] B H [] Γ (.refl E) ⟨rfl, fun i v r a => by simp at a, fun i j ds es l a => by simp at a⟩ p
theorem wa_cons {P : List Re → List Sl → Prop} (h : WE K te Γ fun r Γ1 => WA K tr Γ1 fun rs Γ2 => P (r :: rs) Γ2) : WA K (tCons te tr) Γ P := fun σ B H E Q q => by
  refine h σ B H E _ fun x B1 H1 r Γ1 g1 k1 p1 => ?_
  refine p1 σ B1 H1 g1.env _ fun vs B2 H2 rs Γ2 g2 k2 p2 => ?_
  have k1' := ReOk.step k1 g2.mv g2.sub
  refine q (x :: vs) B2 H2 (r :: rs) Γ2 (g1.trans g2) ⟨by simp [k2.len], fun i v z a b => ?_, fun i j ds es l a b c d => ?_⟩ p2
  · cases i with
    | zero => simp at a b; subst a b; exact k1'
    | succ i => simp at a b; exact ReOk.earlier (k2.at_ i v z a b) g1.mv fun a h => .inl (g1.sub a h)
  · -- two new lists are apart
    have apart : ∀ (j : Nat) es, r = .new ds → rs[j]? = some (.new es) → x = .ref l → vs[j]? = some (.ref l) → False := fun j es hr hj hx hv => by
      subst hr
      obtain ⟨l1, us, e, _, n1, t1, _⟩ := k1
      rw [hx] at e; cases e
      obtain ⟨l2, us2, e2, f2, _⟩ := k2.at_ j _ _ hv hj
      cases e2
      rcases f2 with f2 | f2
      · exact n1 f2
      · rw [t1] at f2; cases f2
    cases i with
    | zero =>
      cases j with
      | zero => rfl
      | succ j => simp at a b c d; exact (apart j es a b c d).elim
    | succ i =>
      cases j with
      | zero =>
        simp at a b c d
        have : ∀ es', r = .new es' → False := fun es' hr => by
          subst hr
          obtain ⟨l1, us, e, _, n1, t1, _⟩ := k1
          rw [d] at e; cases e
          obtain ⟨l2, us2, e2, f2, _⟩ := k2.at_ i _ _ c a
          cases e2
          rcases f2 with f2 | f2
          · exact n1 f2
          · rw [t1] at f2; cases f2
        exact (this es b).elim
      | succ j =>
        simp at a b c d
        rw [k2.sep i j ds es l a b c d]
end
/-- what the callee gets -/
def argSl (Γ : List Sl) : Re → Sl
  | .val d => .val d
  | .new ds => .acc ds
  | .own i => match Γ[i]? with
    | some (.acc ds) => .acc ds
    | _ => .un
/-- what is put back -/
def putBack : List Re → List Sl → List Sl → List Sl
  | .own i :: rs, s :: as, Γ => putBack rs as (Γ.set i s)
  | _ :: rs, _ :: as, Γ => putBack rs as Γ
  | _, _, Γ => Γ
def ownsOf : List Re → List Nat
  | .own i :: rs => i :: ownsOf rs
  | _ :: rs => ownsOf rs
  | [] => []
def nodupB : List Nat → Bool
  | [] => true
  | x :: r => !r.contains x && nodupB r
theorem ownsOf_mem {i : Nat} : ∀ {rs : List Re}, i ∈ ownsOf rs ↔ ∃ j : Nat, rs[j]? = some (.own i)
  | [] => by simp [ownsOf]
  | r :: rs => by
    have ih := ownsOf_mem (i := i) (rs := rs)
    have split : (∃ j : Nat, (r :: rs)[j]? = some (.own i)) ↔ r = .own i ∨ ∃ j : Nat, rs[j]? = some (.own i) := by
      constructor
      · rintro ⟨j, h⟩
        cases j with
        | zero => simp at h; exact .inl h
        | succ j => simp at h; exact .inr ⟨j, h⟩
      · rintro (h | ⟨j, h⟩)
        · exact ⟨0, by simp [h]⟩
        · exact ⟨j + 1, by simp [h]⟩
    rw [split]
    cases r with
    | own k => simp only [ownsOf, List.mem_cons, ih, Re.own.injEq]; constructor <;> rintro (h | h) <;> first | exact .inl h.symm | exact .inr h
    | val d => simp [ownsOf, ih]
    | new ds => simp [ownsOf, ih]
theorem putBack_len : ∀ (rs : List Re) (as Γ : List Sl), (putBack rs as Γ).length = Γ.length
  | [], _, _ => by simp [putBack]
  | .own i :: rs, [], Γ => by simp [putBack]
  | .own i :: rs, s :: as, Γ => by rw [putBack, putBack_len]; simp
  | .val d :: rs, [], Γ => by simp [putBack]
  | .val d :: rs, s :: as, Γ => by rw [putBack, putBack_len]; simp
  | .new d :: rs, [], Γ => by simp [putBack]
  | .new d :: rs, s :: as, Γ => by rw [putBack, putBack_len]; simp
theorem putBack_other {i : Nat} : ∀ (rs : List Re) (as Γ : List Sl), i ∉ ownsOf rs → (putBack rs as Γ)[i]? = Γ[i]?
  | [], _, _, _ => by simp [putBack]
  | .own k :: rs, [], Γ, _ => by simp [putBack]
  | .own k :: rs, s :: as, Γ, h => by
    rw [ownsOf, List.mem_cons, not_or] at h
    rw [putBack, putBack_other rs as _ h.2, List.getElem?_set_ne (fun z => h.1 z.symm)]
  | .val d :: rs, [], Γ, _ => by simp [putBack]
  | .val d :: rs, s :: as, Γ, h => by rw [putBack]; exact putBack_other rs as _ h; all_goals simp
  | .new d :: rs, [], Γ, _ => by simp [putBack]
  | .new d :: rs, s :: as, Γ, h => by rw [putBack]; exact putBack_other rs as _ h; all_goals simp
theorem putBack_own {i : Nat} : ∀ (rs : List Re) (as Γ : List Sl) (j : Nat), nodupB (ownsOf rs) = true → rs[j]? = some (.own i) → j < as.length → i < Γ.length → (putBack rs as Γ)[i]? = as[j]?
  | [], _, _, _, _, h, _, _ => by simp at h
  | r :: rs, [], Γ, j, _, _, hj, _ => by simp at hj
  | .own k :: rs, s :: as, Γ, 0, nd, h, _, hi => by
    simp at h
    subst h
    rw [ownsOf, nodupB, Bool.and_eq_true] at nd
    have : k ∉ ownsOf rs := fun z => by
      have := List.contains_iff_mem.mpr z
      rw [this] at nd; exact absurd nd.1 (by decide)
    rw [putBack, putBack_other rs as _ this, List.getElem?_set_self hi]; rfl
  | .own k :: rs, s :: as, Γ, j + 1, nd, h, hj, hi => by
    simp at h hj
    rw [ownsOf, nodupB, Bool.and_eq_true] at nd
    rw [putBack, putBack_own rs as _ j nd.2 h hj (by simpa using hi)]; simp
  | .val d :: rs, s :: as, Γ, 0, nd, h, _, hi => by simp at h
  | .val d :: rs, s :: as, Γ, j + 1, nd, h, hj, hi => by
    simp at h hj
    rw [putBack, putBack_own rs as _ j nd h hj hi]; simp
    all_goals simp
  | .new d :: rs, s :: as, Γ, 0, nd, h, _, hi => by simp at h
  | .new d :: rs, s :: as, Γ, j + 1, nd, h, hj, hi => by
    simp at h hj
    rw [putBack, putBack_own rs as _ j nd h hj hi]; simp
    all_goals simp
theorem nodupB_ix {rs : List Re} {i : Nat} : ∀ {j k : Nat}, nodupB (ownsOf rs) = true → rs[j]? = some (.own i) → rs[k]? = some (.own i) → j = k := by
  induction rs with
  | nil => intro j k _ h; simp at h
  | cons r rs ih =>
    intro j k nd h1 h2
    have tail : nodupB (ownsOf rs) = true := by
      cases r with
      | own i => rw [ownsOf, nodupB, Bool.and_eq_true] at nd; exact nd.2
      | val d => exact nd
      | new d => exact nd
    have head : r = .own i → ∀ n : Nat, rs[n]? = some (.own i) → False := fun e n hn => by
      subst e
      rw [ownsOf, nodupB, Bool.and_eq_true] at nd
      have : i ∈ ownsOf rs := ownsOf_mem.mpr ⟨n, hn⟩
      rw [List.contains_iff_mem.mpr this] at nd
      exact absurd nd.1 (by decide)
    cases j with
    | zero =>
      cases k with
      | zero => rfl
      | succ k => simp at h1 h2; exact (head h1 k h2).elim
    | succ j =>
      cases k with
      | zero => simp at h1 h2; exact (head h2 j h1).elim
      | succ k => simp at h1 h2; rw [ih tail h1 h2]
theorem call_core {K : PySem.W.Frag} {σ : L2.St} {B H B1 H1 : Hp} {Γ Γ1 : List Sl} {vs : List V} {rs : List Re} {Post : Re → List Sl → Prop} {ap : AP} {E0 : XK} {Q : VK} (E : Env K B H σ Γ) (g1 : Go K σ B H Γ B1 H1 Γ1) (k1 : AsOk K σ (Own σ Γ) (Own σ Γ1) B1 H H1 vs rs)
    (nd : nodupB (ownsOf rs) = true) (hap : ap (rs.map (argSl Γ1)) fun r as' => Post r (putBack rs as' Γ1)) (q : ∀ v B' H' r Γ', Go K σ B H Γ B' H' Γ' → ReOk K σ (Own σ Γ) (Own σ Γ') B' H H' v r → Post r Γ' → Q v H') : toSp K ap vs H1 Q E0 := by
  have hl := k1.len
  have aget : ∀ {i : Nat} {s : Sl}, (rs.map (argSl Γ1))[i]? = some s → ∃ r, rs[i]? = some r ∧ s = argSl Γ1 r := fun {i s} h => by
    rw [List.getElem?_map] at h
    cases q : rs[i]? with
    | none => rw [q] at h; cases h
    | some r => rw [q] at h; simp at h; exact ⟨r, rfl, h.symm⟩
  have vget : ∀ {i : Nat} {r : Re}, rs[i]? = some r → ∃ v, vs[i]? = some v ∧ (vs.map some)[i]? = some (some v) ∧ ReOk K σ (Own σ Γ) (Own σ Γ1) B1 H H1 v r := fun {i r} h => by
    have hi : i < vs.length := by rw [hl]; exact (List.getElem?_eq_some_iff.mp h).1
    refine ⟨vs[i], List.getElem?_eq_getElem hi, by rw [List.getElem?_map, List.getElem?_eq_getElem hi]; rfl, k1.at_ i _ _ (List.getElem?_eq_getElem hi) h⟩
  -- an owned argument: new or a slot's
  have accArg : ∀ {i : Nat} {ds : List Dt}, (rs.map (argSl Γ1))[i]? = some (.acc ds) → (rs[i]? = some (.new ds)) ∨ ∃ k, rs[i]? = some (.own k) ∧ Γ1[k]? = some (.acc ds) := fun {i ds} h => by
    obtain ⟨r, h1, h2⟩ := aget h
    cases r with
    | val d => cases h2
    | new es => cases h2; exact .inl h1
    | own k =>
      have h2' : Sl.acc ds = (match Γ1[k]? with
        | some (.acc ds) => .acc ds
        | _ => .un) := h2
      split at h2'
      · rename_i es he
        cases h2'
        exact .inr ⟨k, h1, he⟩
      · cases h2'
  -- who is owned on the callee's side
  have ownArg : ∀ {a}, Own (vs.map some) (rs.map (argSl Γ1)) a → ((∃ (i : Nat) (ds : List Dt), rs[i]? = some (Re.new ds) ∧ vs[i]? = some (V.ref a)) ∨ ∃ (i k : Nat) (ds : List Dt), rs[i]? = some (Re.own k) ∧ Γ1[k]? = some (.acc ds) ∧ vs[i]? = some (.ref a) ∧ σ[k]? = some (some (.ref a))) := fun {a} ⟨i, ds, h1, h2⟩ => by
    rw [List.getElem?_map] at h2
    cases hv : vs[i]? with
    | none => rw [hv] at h2; cases h2
    | some v =>
      rw [hv] at h2
      simp at h2
      subst h2
      rcases accArg h1 with h | ⟨k, h, hk⟩
      · exact .inl ⟨i, ds, h, hv⟩
      · obtain ⟨v', e1, _, l, e2, e3⟩ := vget h
        rw [hv] at e1; cases e1; cases e2
        exact .inr ⟨i, k, ds, h, hk, hv, e3⟩
  have newOff : ∀ {i : Nat} {ds a}, rs[i]? = some (.new ds) → vs[i]? = some (.ref a) → (Own σ Γ a ∨ H a = none) ∧ ¬ Own σ Γ1 a := fun {i ds a} h1 h2 => by
    obtain ⟨v', e1, _, l, us, e2, e3, e4, _⟩ := vget h1
    rw [h2] at e1; cases e1; cases e2
    exact ⟨e3, e4⟩
  have ownBack : ∀ {a}, Own (vs.map some) (rs.map (argSl Γ1)) a → Own σ Γ a ∨ H a = none := fun {a} o => by
    rcases ownArg o with ⟨i, ds, h1, h2⟩ | ⟨i, k, ds, h1, h2, h3, h4⟩
    · exact (newOff h1 h2).1
    · exact .inl (g1.sub a ⟨k, ds, h2, h4⟩)
  have E2 : Env K B1 H1 (vs.map some) (rs.map (argSl Γ1)) := by
    refine ⟨by simp [hl], g1.env.bh, fun i d h => ?_, fun i ds h => ?_, fun i j ds es l h1 h2 h3 h4 => ?_⟩
    · obtain ⟨r, h1, h2⟩ := aget h
      cases r with
      | val d' => cases h2; obtain ⟨v, _, e1, e2⟩ := vget h1; exact ⟨v, e1, e2⟩
      | new es => cases h2
      | own k =>
        have h2' : Sl.val d = (match Γ1[k]? with
          | some (.acc ds) => .acc ds
          | _ => .un) := h2
        split at h2' <;> cases h2'
    · rcases accArg h with h1 | ⟨k, h1, hk⟩
      · obtain ⟨v, _, e1, l, us, e2, _, _, e3, e4, e5⟩ := vget h1
        subst e2
        exact ⟨l, us, e1, e3, e4, e5⟩
      · obtain ⟨v, _, e1, l, e2, e3⟩ := vget h1
        subst e2
        obtain ⟨c, us, f1, f2, f3, f4⟩ := g1.env.acc k ds hk
        rw [e3] at f1; cases f1
        exact ⟨l, us, e1, f2, f3, f4⟩
    · have v3 : vs[i]? = some (.ref l) := by
        rw [List.getElem?_map] at h3
        cases q : vs[i]? with
        | none => rw [q] at h3; cases h3
        | some v => rw [q] at h3; simp at h3; rw [h3]
      have v4 : vs[j]? = some (.ref l) := by
        rw [List.getElem?_map] at h4
        cases q : vs[j]? with
        | none => rw [q] at h4; cases h4
        | some v => rw [q] at h4; simp at h4; rw [h4]
      rcases accArg h1 with a1 | ⟨k, a1, b1⟩
      · rcases accArg h2 with a2 | ⟨k2, a2, b2⟩
        · exact k1.sep i j ds es l a1 a2 v3 v4
        · obtain ⟨v', e1, _, l2, e2, e3⟩ := vget a2
          rw [v4] at e1; cases e1; cases e2
          exact absurd ⟨k2, es, b2, e3⟩ (newOff a1 v3).2
      · obtain ⟨v', e1, _, l2, e2, e3⟩ := vget a1
        rw [v3] at e1; cases e1; cases e2
        rcases accArg h2 with a2 | ⟨k2, a2, b2⟩
        · exact absurd ⟨k, ds, b1, e3⟩ (newOff a2 v4).2
        · obtain ⟨v', f1, _, l2, f2, f3⟩ := vget a2
          rw [v4] at f1; cases f1; cases f2
          have := g1.env.sep k k2 ds es l b1 b2 e3 f3
          subst this
          exact nodupB_ix nd a1 a2
  refine ⟨B1, rs.map (argSl Γ1), _, E2, hap, fun v B2 H2 r as' g2 k2 p => ?_⟩
  have hal : as'.length = rs.length := by
    have := g2.env.len
    rw [List.length_map] at this
    omega
  -- slot i of the caller afterwards
  have slot : ∀ {i : Nat} {s : Sl}, (putBack rs as' Γ1)[i]? = some s → (∃ j : Nat, rs[j]? = some (.own i) ∧ as'[j]? = some s ∧ ∃ v, (vs.map some)[j]? = some (some v) ∧ σ[i]? = some (some v)) ∨ (i ∉ ownsOf rs ∧ Γ1[i]? = some s) := fun {i s} h => by
    by_cases hi : i ∈ ownsOf rs
    · obtain ⟨j, hj⟩ := ownsOf_mem.mp hi
      have hil : i < Γ1.length := by
        have := (List.getElem?_eq_some_iff.mp h).1
        rw [putBack_len] at this; exact this
      rw [putBack_own rs as' Γ1 j nd hj (by rw [hal]; exact (List.getElem?_eq_some_iff.mp hj).1) hil] at h
      obtain ⟨v, _, e1, l, e2, e3⟩ := vget hj
      exact .inl ⟨j, hj, h, v, e1, by rw [e2]; exact e3⟩
    · rw [putBack_other rs as' Γ1 hi] at h
      exact .inr ⟨hi, h⟩
  -- a slot's list that was not handed over
  have kept : ∀ {i : Nat} {ds : List Dt} {l : Addr}, i ∉ ownsOf rs → Γ1[i]? = some (.acc ds) → σ[i]? = some (some (.ref l)) → ¬ Own (vs.map some) (rs.map (argSl Γ1)) l := fun {i ds l} hi h1 h2 o => by
    rcases ownArg o with ⟨j, es, a1, a2⟩ | ⟨j, k, es, a1, a2, a3, a4⟩
    · exact (newOff a1 a2).2 ⟨i, ds, h1, h2⟩
    · have := g1.env.sep i k ds es l h1 a2 h2 a4
      subst this
      exact hi (ownsOf_mem.mpr ⟨j, a1⟩)
  have ac2 : ∀ (i : Nat) ds, (putBack rs as' Γ1)[i]? = some (.acc ds) → ∃ es, Γ1[i]? = some (.acc es) := fun i ds h1 => by
    rcases slot h1 with ⟨j, hj, ha, v, e1, e2⟩ | ⟨_, h⟩
    · obtain ⟨es, h⟩ := g2.ac j ds ha
      rcases accArg h with h | ⟨k, h, hk⟩
      · rw [hj] at h; cases h
      · rw [hj] at h; cases h; exact ⟨es, hk⟩
    · exact ⟨ds, h⟩
  have kOff : ∀ {a}, ¬ Own σ Γ a → H a ≠ none → ¬ Own (vs.map some) (rs.map (argSl Γ1)) a := fun {a} na ha o => (ownBack o).elim na ha
  have E3 : Env K B2 H2 σ (putBack rs as' Γ1) := by
    refine ⟨by rw [putBack_len]; exact g1.env.len, g2.env.bh, fun i d h => ?_, fun i ds h => ?_, fun i j ds es l h1 h2 h3 h4 => ?_⟩
    · rcases slot h with ⟨j, hj, ha, v, e1, e2⟩ | ⟨hi, h⟩
      · obtain ⟨v', f1, f2⟩ := g2.env.val j d ha
        rw [e1] at f1; cases f1
        exact ⟨v, e2, f2⟩
      · obtain ⟨v, f1, f2⟩ := g1.env.val i d h
        exact ⟨v, f1, f2.mono g2.mv.bb⟩
    · rcases slot h with ⟨j, hj, ha, v, e1, e2⟩ | ⟨hi, h⟩
      · obtain ⟨l, us, f1, f2⟩ := g2.env.acc j ds ha
        rw [e1] at f1; cases f1
        exact ⟨l, us, e2, f2⟩
      · obtain ⟨l, us, f1, f2, f3, f4⟩ := g1.env.acc i ds h
        have nk := kept hi h f1
        exact ⟨l, us, f1, g2.mv.kp l _ nk f2, g2.mv.off l nk (by rw [f2]; exact fun z => nomatch z) f3, f4.mono g2.mv.bb⟩
    · obtain ⟨d1, b1⟩ := ac2 i ds h1
      obtain ⟨d2, b2⟩ := ac2 j es h2
      exact g1.env.sep i j d1 d2 l b1 b2 h3 h4
  refine q v B2 H2 r _ ⟨⟨fun a o na e => ?_, g1.mv.bb.trans g2.mv.bb, fun a na ha hb => ?_⟩, fun i ds h => ?_, E3⟩ ?_ p
  · exact g2.mv.kp a o (kOff na (by rw [e]; exact fun z => nomatch z)) (g1.mv.kp a o na e)
  · refine g2.mv.off a (kOff na ha) ?_ (g1.mv.off a na ha hb)
    cases q : H a with
    | none => exact absurd q ha
    | some o => rw [g1.mv.kp a o na q]; exact fun z => nomatch z
  · obtain ⟨es, h1⟩ := ac2 i ds h
    exact g1.ac i es h1
  · cases r with
    | val d => exact k2
    | own i => obtain ⟨l, _, e⟩ := k2; simp at e
    | new ds =>
      obtain ⟨l, us, e, f1, f2, f3, f4, f5⟩ := k2
      refine ⟨l, us, e, ?_, ?_, f3, f4, f5⟩
      · rcases f1 with f1 | f1
        · exact ownBack f1
        · exact g1.mv.back f1
      · rintro ⟨i, es, h1, h2⟩
        rcases slot h1 with ⟨j, hj, ha, w, e1, e2⟩ | ⟨hi, h⟩
        · rw [h2] at e2; cases e2
          exact f2 ⟨j, es, ha, e1⟩
        · have nk := kept hi h h2
          rcases f1 with f1 | f1
          · exact nk f1
          · obtain ⟨us', t1, _⟩ := g1.env.tracked ⟨i, es, h, h2⟩
            rw [t1] at f1; cases f1
theorem we_call {K : PySem.W.Frag} {Γ : List Sl} {Post : Re → List Sl → Prop} {ap : AP} {E0 : XK} {ta : TA} (h : WA K ta Γ fun rs Γ1 => nodupB (ownsOf rs) = true ∧ ap (rs.map (argSl Γ1)) fun r as' => Post r (putBack rs as' Γ1)) : WE K (tCall (toSp K ap) [] E0 ta) Γ Post := fun σ B H E Q q => by
  refine h σ B H E _ fun vs B1 H1 rs Γ1 g1 k1 p1 => ?_
  rw [List.append_nil]
  exact call_core E g1 k1 p1.1 p1.2 q
end Ab
namespace Ab
open PySem L2
/-! ### list comprehensions -/
def keepV : Option Sl → Sl
  | some (.val d) => .val d
  | _ => .un
section
variable {K : PySem.W.Frag} {σ : L2.St} {B H : Hp} {Γ : List Sl}
theorem keepV_acc {o : Option Sl} {ds : List Dt} (h : keepV o = .acc ds) : False := by
  unfold keepV at h
  split at h <;> cases h
/-- a list beside base and owner may change -/
theorem Env.updOff {D : Addr} {o : HO} (E : Env K B H σ Γ) (hb : B D = none) (hn : ¬ Own σ Γ D) : Env K B (upd H D o) σ Γ := by
  refine ⟨E.len, fun a u e => ?_, E.val, fun i ds h => ?_, E.sep⟩
  · rw [upd_ne (ne_of_none e hb)]; exact E.bh a u e
  · obtain ⟨l, vs, e, e1, e2, q⟩ := E.acc i ds h
    have : l ≠ D := fun z => by subst z; exact hn ⟨i, ds, h, e⟩
    exact ⟨l, vs, e, by rw [upd_ne this]; exact e1, e2, q⟩
theorem env_back {j : Nat} {x : Option V} {Γ0 : List Sl} {B0 H0 : Hp} (E0 : Env K B0 H0 σ Γ0) (bb : Same B0 B) (E : Env K B H (σ.set j x) Γ) (hj : j < Γ.length) : Env K B H σ (Γ.set j (keepV Γ0[j]?)) := by
  have ne : ∀ {k : Nat} {ds : List Dt}, (Γ.set j (keepV Γ0[j]?))[k]? = some (.acc ds) → j ≠ k := fun {k ds} h z => by
    subst z
    rw [List.getElem?_set_self hj] at h
    exact keepV_acc (Option.some.inj h)
  refine ⟨?_, E.bh, fun k d h => ?_, fun k ds h => ?_, fun i k ds es l h1 h2 h3 h4 => ?_⟩
  · have := E.len
    rw [List.length_set] at this ⊢
    exact this
  · by_cases hk : j = k
    · subst hk
      rw [List.getElem?_set_self hj] at h
      cases q : Γ0[j]? with
      | none => rw [q] at h; cases h
      | some s =>
        rw [q] at h
        cases s with
        | un => cases h
        | acc ds => cases h
        | val d' =>
          cases h
          obtain ⟨v, e1, e2⟩ := E0.val j d q
          exact ⟨v, e1, e2.mono bb⟩
    · rw [List.getElem?_set_ne hk] at h
      obtain ⟨v, e1, e2⟩ := E.val k d h
      rw [List.getElem?_set_ne hk] at e1
      exact ⟨v, e1, e2⟩
  · have hk := ne h
    rw [List.getElem?_set_ne hk] at h
    obtain ⟨l, vs, e1, e2⟩ := E.acc k ds h
    rw [List.getElem?_set_ne hk] at e1
    exact ⟨l, vs, e1, e2⟩
  · have a1 := ne h1
    have a2 := ne h2
    rw [List.getElem?_set_ne a1] at h1
    rw [List.getElem?_set_ne a2] at h2
    exact E.sep i k ds es l h1 h2 (by rw [List.getElem?_set_ne a1]; exact h3) (by rw [List.getElem?_set_ne a2]; exact h4)
theorem own_back {j : Nat} {x : Option V} {s : Sl} {a : Addr} (hs : ∀ ds, s ≠ .acc ds) (h : Own σ (Γ.set j s) a) : Own (σ.set j x) Γ a := by
  obtain ⟨k, ds, h1, h2⟩ := h
  by_cases hk : j = k
  · subst hk
    have hj : j < Γ.length := by
      have := (List.getElem?_eq_some_iff.mp h1).1
      simpa using this
    rw [List.getElem?_set_self hj] at h1
    exact absurd (Option.some.inj h1) (hs ds)
  · rw [List.getElem?_set_ne hk] at h1
    exact ⟨k, ds, h1, by rw [List.getElem?_set_ne hk]; exact h2⟩
theorem Mv.iff {m m1 : Addr → Prop} {B' H' : Hp} (h : ∀ a, m1 a → m a) (x : Mv m1 B H B' H') : Mv m B H B' H' := ⟨fun a o na e => x.kp a o (fun z => na (h a z)) e, x.bb, fun a na ha hb => x.off a (fun z => na (h a z)) ha hb⟩
structure LcSt (K : PySem.W.Frag) (σ : L2.St) (B H : Hp) (Γ : List Sl) (j : Nat) (D : Addr) (Inv : Nat → List Dt → List Sl → Prop) (i : Nat) (H' : Hp) (B' : Hp) (Γ' : List Sl) (vs : List V) (es : List Dt) : Prop where
  mv : Mv (Own σ Γ) B H B' H'
  ac : ∀ (k : Nat) ds, Γ'[k]? = some (.acc ds) → ∃ es, Γ[k]? = some (.acc es)
  env : Env K B' H' σ Γ'
  hD : H' D = some (.lst vs)
  bD : B' D = none
  oD : ¬ Own σ Γ' D
  its : IsA K B' vs es
  len : es.length ≤ i
  inv : Inv i es Γ'
theorem lc_run {j n : Nat} {J : It} {dt : Nat → Dt} {tt : TT} {te : TE} {Post : Re → List Sl → Prop} {Q : VK} (E : Env K B H σ Γ) (hj : j < Γ.length) (hja : ∀ ds, Γ[j]? ≠ some (.acc ds)) (hn : n ≤ 1000000)
    (Inv : Nat → List Dt → List Sl → Prop)
    (go : ∀ i B' H' es Γ', i < n → Same B B' → Env K B' H' σ Γ' → Inv i es Γ' → J.go i H') (yl : ∀ i H' x H'' B' es Γ', i < n → Same B B' → Env K B' H' σ Γ' → Inv i es Γ' → J.yld i H' x H'' → H'' = H' ∧ Is K B' x (dt i)) (stop : ∀ B' H' es Γ', Same B B' → Env K B' H' σ Γ' → Inv n es Γ' → J.stop n H')
    (i0 : Inv 0 [] Γ)
    (turn : ∀ i es Γ', i < n → Inv i es Γ' → WT K tt (Γ'.set j (.val (dt i))) fun b Γ2 => (b = true → WE K te Γ2 fun r Γ3 => ∃ d, r.dt? = some d ∧ Inv (i + 1) (es ++ [d]) (Γ3.set j (keepV Γ[j]?))) ∧ (b = false → Inv (i + 1) es (Γ2.set j (keepV Γ[j]?))))
    (done : ∀ es Γ', Inv n es Γ' → Post (.new es) Γ') (q : ∀ v B' H' r Γ', Go K σ B H Γ B' H' Γ' → ReOk K σ (Own σ Γ) (Own σ Γ') B' H H' v r → Post r Γ' → Q v H') :
    ∀ D, H D = none → ∃ W : Nat → Nat → Hp → Prop, (∃ m, W 0 m (upd H D (.lst []))) ∧ ∀ i m H, W i m H →
      (J.stop i H ∧ Q (.ref D) H) ∨ (J.go i H ∧ ∃ Nx : Hp → Prop, (∀ H', Nx H' → ∃ m', m' < m ∧ W (i + 1) m' H') ∧ ∀ x H', J.yld i H x H' → gName j x (wipe σ [j]) H' fun σ2 H2 => wipe σ2 [j] = wipe σ [j] ∧ tt σ2 H2 fun b H3 =>
        if b = true then te σ2 H3 fun y H4 => ∃ acc, H4 D = some (.lst acc) ∧ acc.length < sizeLine ∧ Nx (upd H4 D (.lst (acc ++ [y]))) else Nx H3) := by
  intro D hD
  have hjs : j < σ.length := by rw [E.len]; exact hj
  refine ⟨fun i m H' => m = n - i ∧ i ≤ n ∧ ∃ B' Γ' vs es, LcSt K σ B H Γ j D Inv i H' B' Γ' vs es, ⟨n, by simp, Nat.zero_le _, B, Γ, [], [], ⟨(Go.beside E hD).mv, fun k ds h => ⟨ds, h⟩, E.beside hD, upd_same, E.base_none hD, E.not_own hD, .nil, Nat.le_refl _, i0⟩⟩, ?_⟩
  rintro i m H' ⟨rfl, hi, B', Γ', vs, es, S⟩
  by_cases hlt : i < n
  · refine .inr ⟨go i B' H' es Γ' hlt S.mv.bb S.env S.inv, fun H2 => ∃ B' Γ' vs es, LcSt K σ B H Γ j D Inv (i + 1) H2 B' Γ' vs es, fun H2 ⟨B2, Γ2, vs2, es2, S2⟩ => ⟨n - (i + 1), by omega, rfl, hlt, B2, Γ2, vs2, es2, S2⟩, fun x H2 hy => ?_⟩
    obtain ⟨e, hx⟩ := yl i H' x H2 B' es Γ' hlt S.mv.bb S.env S.inv hy
    subst e
    have hj' : j < Γ'.length := by rw [← S.env.len]; exact hjs
    have es2 : (wipe σ [j]).set j (some x) = σ.set j (some x) := by
      show (σ.set j none).set j (some x) = _
      rw [List.set_set]
    show wipe ((wipe σ [j]).set j (some x)) [j] = wipe σ [j] ∧ _
    rw [es2]
    refine ⟨by show (σ.set j (some x)).set j none = σ.set j none; rw [List.set_set], ?_⟩
    have E2 := S.env.setV hj' hx
    -- owners within and without
    have ow1 : ∀ a, Own (σ.set j (some x)) (Γ'.set j (.val (dt i))) a → Own σ Γ' a := fun a h => h.set_ne fun ds z => nomatch z
    have nA : ¬ Own (σ.set j (some x)) (Γ'.set j (.val (dt i))) D := fun z => S.oD (ow1 D z)
    have tD : H2 D ≠ none := by rw [S.hD]; exact fun z => nomatch z
    -- what a turn comes to
    have fin : ∀ {B3 H3 : Hp} {Γ3 : List Sl}, Go K (σ.set j (some x)) B' H2 (Γ'.set j (.val (dt i))) B3 H3 Γ3 →
        Mv (Own σ Γ) B H B3 H3 ∧ (∀ (k : Nat) ds, (Γ3.set j (keepV Γ[j]?))[k]? = some (.acc ds) → ∃ es, Γ[k]? = some (.acc es)) ∧ Env K B3 H3 σ (Γ3.set j (keepV Γ[j]?)) ∧ H3 D = some (.lst vs) ∧ B3 D = none ∧ ¬ Own σ (Γ3.set j (keepV Γ[j]?)) D ∧ IsA K B3 vs es := by
      intro B3 H3 Γ3 g
      have hj3 : j < Γ3.length := by
        have h1 := g.env.len
        rw [List.length_set] at h1
        omega
      have subO : ∀ a, Own σ (Γ3.set j (keepV Γ[j]?)) a → Own (σ.set j (some x)) Γ3 a := fun a h => own_back (fun ds z => keepV_acc z) h
      refine ⟨S.mv.trans (m1 := Own σ Γ') (fun a ⟨k, ds, h1, h2⟩ => .inl (by obtain ⟨es, h⟩ := S.ac k ds h1; exact ⟨k, es, h, h2⟩)) (g.mv.iff ow1), fun k ds h => ?_, env_back E (S.mv.bb.trans g.mv.bb) g.env hj3, g.mv.kp D _ nA S.hD, g.mv.off D nA tD S.bD, fun z => nA (g.sub D (subO D z)), S.its.mono g.mv.bb⟩
      by_cases hk : j = k
      · subst hk
        rw [List.getElem?_set_self hj3] at h
        exact (keepV_acc (Option.some.inj h)).elim
      · rw [List.getElem?_set_ne hk] at h
        obtain ⟨es', h1⟩ := g.ac k ds h
        rw [List.getElem?_set_ne hk] at h1
        exact S.ac k es' h1
    refine turn i es Γ' hlt S.inv (σ.set j (some x)) B' H2 E2 _ fun b B3 H3 Γ3 g3 p => ?_
    cases b with
    | true =>
      show te (σ.set j (some x)) H3 _
      have p1 : WE K te Γ3 fun r Γ4 => ∃ d, r = .val d ∧ Inv (i + 1) (es ++ [d]) (Γ4.set j (keepV Γ[j]?)) := we_freeze (we_mono (p.1 rfl) fun r Γ4 ⟨d, hd, k⟩ => ⟨d, hd, d, rfl, k⟩)
      refine p1 (σ.set j (some x)) B3 H3 g3.env _ fun y B4 H4 r Γ4 g4 k4 p4 => ?_
      obtain ⟨d, rfl, inv⟩ := p4
      obtain ⟨f1, f2, f3, f4, f5, f6, f7⟩ := fin (g3.trans g4)
      refine ⟨vs, f4, ?_, B4, Γ4.set j (keepV Γ[j]?), vs ++ [y], es ++ [d], ?_⟩
      · rw [S.its.len]
        have := S.len
        exact Nat.lt_of_le_of_lt this (Nat.lt_of_lt_of_le hlt (Nat.le_trans hn (by decide)))
      · refine ⟨⟨fun a o na e => ?_, f1.bb, f1.off⟩, f2, f3.updOff f5 f6, upd_same, f5, f6, f7.snoc k4, by rw [List.length_append]; have := S.len; simp; omega, inv⟩
        rw [upd_ne (ne_of_none e hD)]
        exact f1.kp a o na e
    | false =>
      show ∃ B' Γ' vs es, _
      obtain ⟨f1, f2, f3, f4, f5, f6, f7⟩ := fin g3
      exact ⟨B3, Γ3.set j (keepV Γ[j]?), vs, es, ⟨f1, f2, f3, f4, f5, f6, f7, Nat.le_trans S.len (Nat.le_succ i), p.2 rfl⟩⟩
  · have e : i = n := by omega
    subst e
    exact .inl ⟨stop B' H' es Γ' S.mv.bb S.env S.inv, q (.ref D) B' H' (.new es) Γ' ⟨S.mv, S.ac, S.env⟩ ⟨D, vs, rfl, .inr hD, S.oD, S.hD, S.bD, S.its⟩ (done es Γ' S.inv)⟩
end
section
variable {K : PySem.W.Frag} {Γ : List Sl} {Post : Re → List Sl → Prop} {te tl : TE} {tt : TT} {j : Nat}
def notAcc : Option Sl → Bool
  | some (.acc _) => false
  | _ => true
theorem notAcc_ne {o : Option Sl} (h : notAcc o = true) (ds : List Dt) : o ≠ some (.acc ds) := fun z => by subst z; cases h
theorem we_lc1 {t1 : TA} (h : WD K t1 Γ fun ds Γ1 => ∃ n : Nat, ds = [.int n] ∧ n ≤ 1000000 ∧ decide (j < Γ1.length) = true ∧ notAcc Γ1[j]? = true ∧ ∃ Inv : Nat → List Dt → List Sl → Prop, Inv 0 [] Γ1 ∧
      (∀ i es Γ', i < n → Inv i es Γ' → WT K tt (Γ'.set j (.val (.int i))) fun b Γ2 => (b = true → WE K te Γ2 fun r Γ3 => ∃ d, r.dt? = some d ∧ Inv (i + 1) (es ++ [d]) (Γ3.set j (keepV Γ1[j]?))) ∧ (b = false → Inv (i + 1) es (Γ2.set j (keepV Γ1[j]?)))) ∧
      ∀ es Γ', Inv n es Γ' → Post (.new es) Γ') : WE K (tLc (iRng1 t1) (gName j) tt te [j]) Γ Post := fun σ B H E Q q => by
  refine h σ B H E _ fun vs B1 H1 ds Γ1 g1 k p => ?_
  obtain ⟨n, rfl, hn, hj, hja, Inv, i0, turn, done⟩ := p
  have ev : vs = [.int n] := IsA.rawsI (xs := [.int n]) k
  refine ⟨n, ev, by omega, by omega, ?_⟩
  have e0 : ((n : Int)).toNat = n := by omega
  rw [e0]
  refine lc_run (n := n) (dt := fun i => .int i) (J := Itr 0 n) g1.env (of_decide_eq_true hj) (notAcc_ne hja) hn Inv (fun i B' H' _ _ hi _ _ _ => hi) (fun i H' x H'' B' _ _ hi _ _ _ hy => ?_) (fun B' H' _ _ _ _ _ => Nat.le_refl _) i0 turn done fun v B2 H2 r Γ2 g2 k2 p2 => q v B2 H2 r Γ2 (g1.trans g2) (ReOk.earlier k2 g1.mv fun a h => .inl (g1.sub a h)) p2
  obtain ⟨e1, e2⟩ := hy
  subst e1 e2
  rw [Int.zero_add]
  exact ⟨rfl, .raw _⟩
theorem we_lc2 {t1 : TA} (h : WD K t1 Γ fun ds Γ1 => ∃ lo hi : Int, ds = [.int lo, .int hi] ∧ (-(2 ^ 62) ≤ lo ∧ lo < 2 ^ 62 ∧ -(2 ^ 62) ≤ hi ∧ hi < 2 ^ 62) ∧ (hi - lo).toNat ≤ 1000000 ∧ decide (j < Γ1.length) = true ∧ notAcc Γ1[j]? = true ∧ ∃ Inv : Nat → List Dt → List Sl → Prop, Inv 0 [] Γ1 ∧
      (∀ (i : Nat) es Γ', lo + i < hi → Inv i es Γ' → WT K tt (Γ'.set j (.val (.int (lo + i)))) fun b Γ2 => (b = true → WE K te Γ2 fun r Γ3 => ∃ d, r.dt? = some d ∧ Inv (i + 1) (es ++ [d]) (Γ3.set j (keepV Γ1[j]?))) ∧ (b = false → Inv (i + 1) es (Γ2.set j (keepV Γ1[j]?)))) ∧
      ∀ es Γ', Inv (hi - lo).toNat es Γ' → Post (.new es) Γ') : WE K (tLc (iRng2 t1) (gName j) tt te [j]) Γ Post := fun σ B H E Q q => by
  refine h σ B H E _ fun vs B1 H1 ds Γ1 g1 k p => ?_
  obtain ⟨lo, hi, rfl, hb, hn, hj, hja, Inv, i0, turn, done⟩ := p
  have ev : vs = [.int lo, .int hi] := IsA.rawsI (xs := [.int lo, .int hi]) k
  refine ⟨lo, hi, ev, hb, ?_⟩
  refine lc_run (n := (hi - lo).toNat) (dt := fun i => .int (lo + i)) (J := Itr lo (hi - lo).toNat) g1.env (of_decide_eq_true hj) (notAcc_ne hja) hn Inv (fun i B' H' _ _ hi _ _ _ => hi) (fun i H' x H'' B' _ _ hi _ _ _ hy => ?_) (fun B' H' _ _ _ _ _ => Nat.le_refl _) i0 (fun i es Γ' hi' => turn i es Γ' (by omega)) done fun v B2 H2 r Γ2 g2 k2 p2 => q v B2 H2 r Γ2 (g1.trans g2) (ReOk.earlier k2 g1.mv fun a h => .inl (g1.sub a h)) p2
  obtain ⟨e1, e2⟩ := hy
  subst e1 e2
  exact ⟨rfl, .raw _⟩
/-- over a tuple -/
theorem we_lcT (h : WE K tl Γ fun z Γ1 => ∃ ds, z = .val (.tup ds) ∧ ds.length ≤ 1000000 ∧ decide (j < Γ1.length) = true ∧ notAcc Γ1[j]? = true ∧ ∃ Inv : Nat → List Dt → List Sl → Prop, Inv 0 [] Γ1 ∧
      (∀ (i : Nat) d es Γ', ds[i]? = some d → Inv i es Γ' → WT K tt (Γ'.set j (.val d)) fun b Γ2 => (b = true → WE K te Γ2 fun r Γ3 => ∃ d, r.dt? = some d ∧ Inv (i + 1) (es ++ [d]) (Γ3.set j (keepV Γ1[j]?))) ∧ (b = false → Inv (i + 1) es (Γ2.set j (keepV Γ1[j]?)))) ∧
      ∀ es Γ', Inv ds.length es Γ' → Post (.new es) Γ') : WE K (tLc (iTup K tl) (gName j) tt te [j]) Γ Post := fun σ B H E Q q => by
  refine h σ B H E _ fun v B1 H1 z Γ1 g1 k p => ?_
  obtain ⟨ds, rfl, hn, hj, hja, Inv, i0, turn, done⟩ := p
  obtain ⟨a, xs, rfl, ha, hx⟩ := Is.tupR k
  refine ⟨a, rfl, ⟨xs, sqT_mono g1.env.bh ha⟩, ?_⟩
  have at_ : ∀ i, i < ds.length → ds[i]? = some (ds.getD i .non) := fun i hi => by rw [List.getD_eq_getElem?_getD, List.getElem?_eq_getElem hi]; rfl
  refine lc_run (n := ds.length) (dt := fun i => ds.getD i .non) (J := Itt K a) g1.env (of_decide_eq_true hj) (notAcc_ne hja) hn Inv (fun i B' H' _ _ hi b1 b2 _ => ?_) (fun i H' x H'' B' _ _ hi b1 b2 _ hy => ?_) (fun B' H' _ _ b1 b2 _ => ?_) i0 (fun i es Γ' hi' => turn i _ es Γ' (at_ i hi')) done fun v B2 H2 r Γ2 g2 k2 p2 => q v B2 H2 r Γ2 (g1.trans g2) (ReOk.earlier k2 g1.mv fun a h => .inl (g1.sub a h)) p2
  · obtain ⟨x, h1, _⟩ := hx.get (at_ i hi)
    exact ⟨xs, x, sqT_mono (b1.trans b2.bh) ha, h1⟩
  · obtain ⟨e1, e2⟩ := hy
    subst e1
    exact ⟨rfl, (hx.at_ i x _ (e2 xs (sqT_mono (b1.trans b2.bh) ha)) (at_ i hi)).mono b1⟩
  · exact ⟨xs, sqT_mono (b1.trans b2.bh) ha, by rw [hx.len]; exact Nat.le_refl _⟩
/-- over a list that is data or new -/
theorem we_lcL (h : WE K tl Γ fun z Γ1 => ∃ d ds, z.dt? = some d ∧ d = .lst ds ∧ ds.length ≤ 1000000 ∧ decide (j < Γ1.length) = true ∧ notAcc Γ1[j]? = true ∧ ∃ Inv : Nat → List Dt → List Sl → Prop, Inv 0 [] Γ1 ∧
      (∀ (i : Nat) d es Γ', ds[i]? = some d → Inv i es Γ' → WT K tt (Γ'.set j (.val d)) fun b Γ2 => (b = true → WE K te Γ2 fun r Γ3 => ∃ d, r.dt? = some d ∧ Inv (i + 1) (es ++ [d]) (Γ3.set j (keepV Γ1[j]?))) ∧ (b = false → Inv (i + 1) es (Γ2.set j (keepV Γ1[j]?)))) ∧
      ∀ es Γ', Inv ds.length es Γ' → Post (.new es) Γ') : WE K (tLc (iList K tl) (gName j) tt te [j]) Γ Post := fun σ B H E Q q => by
  have h' := we_freeze (Post := fun z Γ1 => ∃ ds, z = .val (.lst ds) ∧ ds.length ≤ 1000000 ∧ decide (j < Γ1.length) = true ∧ notAcc Γ1[j]? = true ∧ ∃ Inv : Nat → List Dt → List Sl → Prop, Inv 0 [] Γ1 ∧
      (∀ (i : Nat) d es Γ', ds[i]? = some d → Inv i es Γ' → WT K tt (Γ'.set j (.val d)) fun b Γ2 => (b = true → WE K te Γ2 fun r Γ3 => ∃ d, r.dt? = some d ∧ Inv (i + 1) (es ++ [d]) (Γ3.set j (keepV Γ1[j]?))) ∧ (b = false → Inv (i + 1) es (Γ2.set j (keepV Γ1[j]?)))) ∧
      ∀ es Γ', Inv ds.length es Γ' → Post (.new es) Γ') (we_mono h fun z Γ1 ⟨d, ds, hd, e, r⟩ => ⟨d, hd, ds, by rw [e], r⟩)
  refine h' σ B H E _ fun v B1 H1 z Γ1 g1 k p => ?_
  obtain ⟨ds, rfl, hn, hj, hja, Inv, i0, turn, done⟩ := p
  obtain ⟨a, xs, rfl, ha, hx⟩ := Is.lstR k
  refine ⟨a, rfl, ⟨xs, .inl (.inl (g1.env.bh _ _ ha))⟩, ?_⟩
  have at_ : ∀ i, i < ds.length → ds[i]? = some (ds.getD i .non) := fun i hi => by rw [List.getD_eq_getElem?_getD, List.getElem?_eq_getElem hi]; rfl
  refine lc_run (n := ds.length) (dt := fun i => ds.getD i .non) (J := Itl K a) g1.env (of_decide_eq_true hj) (notAcc_ne hja) hn Inv (fun i B' H' _ _ hi b1 b2 _ => ?_) (fun i H' x H'' B' _ _ hi b1 b2 _ hy => ?_) (fun B' H' _ _ b1 b2 _ => ?_) i0 (fun i es Γ' hi' => turn i _ es Γ' (at_ i hi')) done fun v B2 H2 r Γ2 g2 k2 p2 => q v B2 H2 r Γ2 (g1.trans g2) (ReOk.earlier k2 g1.mv fun a h => .inl (g1.sub a h)) p2
  · obtain ⟨x, h1, _⟩ := hx.get (at_ i hi)
    exact ⟨xs, x, .inl (.inl ((b1.trans b2.bh) _ _ ha)), h1⟩
  · obtain ⟨e1, e2⟩ := hy
    subst e1
    exact ⟨rfl, (hx.at_ i x _ (e2 xs (.inl (.inl ((b1.trans b2.bh) _ _ ha)))) (at_ i hi)).mono b1⟩
  · exact ⟨xs, .inl (.inl ((b1.trans b2.bh) _ _ ha)), by rw [hx.len]; exact Nat.le_refl _⟩
end
/-- over an owned list that the comprehension leaves as it is -/
theorem we_lcA {K : PySem.W.Frag} {Γ : List Sl} {Post : Re → List Sl → Prop} {te : TE} {tt : TT} {j k : Nat} {ds : List Dt} (h0 : Γ[k]? = some (.acc ds)) (hn : ds.length ≤ 1000000) (hj : decide (j < Γ.length) = true) (hja : notAcc Γ[j]? = true) (Inv : Nat → List Dt → List Sl → Prop) (i0 : Inv 0 [] Γ)
      (hk : ∀ i es Γ', Inv i es Γ' → Γ'[k]? = some (.acc ds))
      (turn : ∀ (i : Nat) d es Γ', ds[i]? = some d → Inv i es Γ' → WT K tt (Γ'.set j (.val d)) fun b Γ2 => (b = true → WE K te Γ2 fun r Γ3 => ∃ d, r.dt? = some d ∧ Inv (i + 1) (es ++ [d]) (Γ3.set j (keepV Γ[j]?))) ∧ (b = false → Inv (i + 1) es (Γ2.set j (keepV Γ[j]?))))
      (done : ∀ es Γ', Inv ds.length es Γ' → Post (.new es) Γ') : WE K (tLc (iList K (tVar k)) (gName j) tt te [j]) Γ Post := fun σ B H E Q q => by
  obtain ⟨l, xs, e0, e1, e2, hx⟩ := E.acc k ds h0
  have at_ : ∀ i, i < ds.length → ds[i]? = some (ds.getD i .non) := fun i hi => by rw [List.getD_eq_getElem?_getD, List.getElem?_eq_getElem hi]; rfl
  have items : ∀ {i es B' H' Γ'}, Env K B' H' σ Γ' → Inv i es Γ' → ∃ ys, H' l = some (.lst ys) ∧ IsA K B' ys ds := fun {i es B' H' Γ'} E' inv => by
    obtain ⟨c, ys, q1, q2, q3, q4⟩ := E'.acc k ds (hk i es Γ' inv)
    rw [e0] at q1
    cases q1
    exact ⟨ys, q2, q4⟩
  refine ⟨.ref l, e0, l, rfl, ⟨xs, .inl (.inl e1)⟩, ?_⟩
  refine lc_run (n := ds.length) (dt := fun i => ds.getD i .non) (J := Itl K l) E (of_decide_eq_true hj) (notAcc_ne hja) hn Inv (fun i B' H' es Γ' hi b1 b2 inv => ?_) (fun i H' x H'' B' es Γ' hi b1 b2 inv hy => ?_) (fun B' H' es Γ' b1 b2 inv => ?_) i0 (fun i es Γ' hi' => turn i _ es Γ' (at_ i hi')) done q
  · obtain ⟨ys, h1, h2⟩ := items b2 inv
    obtain ⟨x, h3, _⟩ := h2.get (at_ i hi)
    exact ⟨ys, x, .inl (.inl h1), h3⟩
  · obtain ⟨ys, h1, h2⟩ := items b2 inv
    obtain ⟨e1, e2⟩ := hy
    subst e1
    exact ⟨rfl, h2.at_ i x _ (e2 ys (.inl (.inl h1))) (at_ i hi)⟩
  · obtain ⟨ys, h1, h2⟩ := items b2 inv
    exact ⟨ys, .inl (.inl h1), by rw [h2.len]; exact Nat.le_refl _⟩
/-! ### == of data at any depth -/
mutual
def Dt.py : Dt → Option PyData
  | .raw .non => some .none
  | .raw (.bl b) => some (.bool b)
  | .raw (.int i) => some (.int i)
  | .raw (.str s) => some (.str s)
  | .raw _ => none
  | .tup ds => (pyAll ds).map .tuple
  | .lst ds => (pyAll ds).map .list
  | .obj _ _ => none
  | .scr ns => none
def pyAll : List Dt → Option (List PyData)
  | [] => some []
  | d :: ds => match Dt.py d, pyAll ds with
    | some p, some ps => some (p :: ps)
    | _, _ => none
end
section
variable {K : PySem.W.Frag} {B H : Hp}
theorem pyAll_dp : ∀ {ds : List Dt} {ps : List PyData} {vs : List V}, (∀ d p v, d ∈ ds → Dt.py d = some p → Is K B v d → Dp K B v p) → pyAll ds = some ps → IsA K B vs ds → DpAll K B vs ps
  | [], ps, vs, _, e, h => by
    rw [pyAll] at e
    cases e
    have : vs = [] := List.eq_nil_of_length_eq_zero (by rw [h.len]; rfl)
    subst this; exact .nil
  | d :: ds, ps, vs, f, e, h => by
    rw [pyAll] at e
    split at e
    · rename_i p qs h1 h2
      cases e
      cases vs with
      | nil => have := h.len; simp at this
      | cons v vs =>
        refine .cons (f d p v (List.mem_cons_self) h1 (h.at_ 0 v d rfl rfl)) (pyAll_dp (fun d p v hd => f d p v (List.mem_cons_of_mem _ hd)) h2 ⟨by have := h.len; simpa using this, fun i v d a b => h.at_ (i + 1) v d (by simpa using a) (by simpa using b)⟩)
    · cases e
theorem is_dp {v : V} {d : Dt} (h : Is K B v d) : ∀ {p : PyData}, d.py = some p → Dp K B v p := by
  induction h with
  | raw v =>
    intro p e
    cases v <;> (simp only [Dt.py] at e; cases e) <;> constructor
  | @tup a xs ds h hl hi ih =>
    intro p e
    rw [Dt.py] at e
    cases q : pyAll ds with
    | none => rw [q] at e; cases e
    | some ps =>
      rw [q] at e
      cases e
      refine .tup h ?_
      clear h
      induction ds generalizing xs ps with
      | nil =>
        rw [pyAll] at q; cases q
        have : xs = [] := List.eq_nil_of_length_eq_zero (by rw [hl]; rfl)
        subst this; exact .nil
      | cons d ds ihd =>
        rw [pyAll] at q
        split at q
        · rename_i p1 qs h1 h2
          cases q
          cases xs with
          | nil => simp at hl
          | cons x xs =>
            exact .cons (ih 0 x d rfl rfl h1) (ihd (by simpa using hl) (fun i v d a b => hi (i + 1) v d (by simpa using a) (by simpa using b)) (fun i v d a b => ih (i + 1) v d (by simpa using a) (by simpa using b)) qs h2)
        · cases q
  | @lst a xs ds h hl hi ih =>
    intro p e
    rw [Dt.py] at e
    cases q : pyAll ds with
    | none => rw [q] at e; cases e
    | some ps =>
      rw [q] at e
      cases e
      refine .lst (.inl (.inl h)) ?_
      clear h
      induction ds generalizing xs ps with
      | nil =>
        rw [pyAll] at q; cases q
        have : xs = [] := List.eq_nil_of_length_eq_zero (by rw [hl]; rfl)
        subst this; exact .nil
      | cons d ds ihd =>
        rw [pyAll] at q
        split at q
        · rename_i p1 qs h1 h2
          cases q
          cases xs with
          | nil => simp at hl
          | cons x xs =>
            exact .cons (ih 0 x d rfl rfl h1) (ihd (by simpa using hl) (fun i v d a b => hi (i + 1) v d (by simpa using a) (by simpa using b)) (fun i v d a b => ih (i + 1) v d (by simpa using a) (by simpa using b)) qs h2)
        · cases q
  | obj h hk hi ih => intro p e; rw [Dt.py] at e; cases e
  | scr h => intro p e; rw [Dt.py] at e; cases e
mutual
theorem dp_mono {B' : Hp} (s : Same B B') {v : V} : ∀ {p : PyData}, Dp K B v p → Dp K B' v p
  | _, .non => .non
  | _, .bl b => .bl b
  | _, .int i => .int i
  | _, .str x => .str x
  | _, .lst h hs => .lst (s.seq h) (dpAll_mono s hs)
  | _, .tup h hs => .tup (sqT_mono s h) (dpAll_mono s hs)
theorem dpAll_mono {B' : Hp} (s : Same B B') : ∀ {vs : List V} {ps : List PyData}, DpAll K B vs ps → DpAll K B' vs ps
  | _, _, .nil => .nil
  | _, _, .cons h hs => .cons (dp_mono s h) (dpAll_mono s hs)
end
end
/-- a result as data to be compared -/
def Re.py (Γ : List Sl) : Re → Option PyData
  | .val d => d.py
  | .new ds => (pyAll ds).map .list
  | .own i => match Γ[i]? with
    | some (.acc ds) => (pyAll ds).map .list
    | _ => none
section
variable {K : PySem.W.Frag} {Γ : List Sl} {Post : Re → List Sl → Prop} {ta tb : TE}
theorem rv_dp {σ : L2.St} {B H : Hp} {v : V} {r : Re} {p : PyData} (E : Env K B H σ Γ) (h : RvOk K σ B H Γ v r) (e : r.py Γ = some p) : Dp K H v p := by
  have lst : ∀ {ds : List Dt}, lstOf Γ r = some ds → (pyAll ds).map PyData.list = some p → Dp K H v p := fun {ds} h1 h2 => by
    obtain ⟨a, vs, rfl, hq, ha⟩ := rv_lst E h h1
    cases q : pyAll ds with
    | none => rw [q] at h2; cases h2
    | some ps =>
      rw [q] at h2
      cases h2
      exact .lst hq (dpAll_mono E.bh (pyAll_dp (fun d p v _ e k => is_dp k e) q ha))
  cases r with
  | val d => exact dp_mono E.bh (is_dp h e)
  | new ds => exact lst rfl e
  | own i =>
    have e' : (match Γ[i]? with
      | some (Sl.acc ds) => (pyAll ds).map PyData.list
      | _ => none) = some p := e
    split at e'
    · rename_i ds hi
      exact lst (by show (match Γ[i]? with | some (Sl.acc ds) => some ds | _ => none) = some ds; rw [hi]) e'
    · cases e'
theorem we_eqD (h : WE K ta Γ fun ra Γ1 => WE K tb Γ1 fun rb Γ2 => ∃ p q : PyData, ra.py Γ2 = some p ∧ rb.py Γ2 = some q ∧ SeqAt.shaped p = true ∧ SeqAt.shaped q = true ∧ Post (.val (.bl (PyData.eqv p q))) Γ2) : WE K (tOp (rEqD K) ta tb) Γ Post :=
  we_two' (we_mono h fun ra Γ1 h1 => we_mono h1 fun rb Γ2 ⟨p, q, e1, e2, s1, s2, pp⟩ => fun σ B H x y E kx ky Q k =>
    ⟨p, q, rv_dp E kx e1, rv_dp E ky e2, s1, s2, k _ B H _ Γ2 (.refl E) (.raw _) pp⟩)
theorem we_neD (h : WE K ta Γ fun ra Γ1 => WE K tb Γ1 fun rb Γ2 => ∃ p q : PyData, ra.py Γ2 = some p ∧ rb.py Γ2 = some q ∧ SeqAt.shaped p = true ∧ SeqAt.shaped q = true ∧ Post (.val (.bl (!PyData.eqv p q))) Γ2) : WE K (tOp (rNeD K) ta tb) Γ Post :=
  we_two' (we_mono h fun ra Γ1 h1 => we_mono h1 fun rb Γ2 ⟨p, q, e1, e2, s1, s2, pp⟩ => fun σ B H x y E kx ky Q k =>
    ⟨p, q, rv_dp E kx e1, rv_dp E ky e2, s1, s2, k _ B H _ Γ2 (.refl E) (.raw _) pp⟩)
end
end Ab
namespace Ab
open PySem L2
/-! ### operators of several kinds, one rule a node -/
abbrev rSubI : R2 := rI0 fun i j => .int (i - j)
/-- // by a positive divisor below 2 ** 64 -/
def CDiv64 (i j : Int) : Prop := 0 < j ∧ j < 18446744073709551616
abbrev rDivI : R2 := rI CDiv64 fun i j => .int (i / j)
theorem op_fdivW {X : Cx} : OpR X (binaryOp .FloorDiv) rDivI := opI fun i j _ _ _ _ _ hc q => by
  have h1 : (0 : Int) < j := hc.1
  have h2 : j < 18446744073709551616 := hc.2
  refine PyProof.Rows.floordiv_int (by omega) (by rw [Int.fdiv_eq_ediv_of_nonneg i (by omega)]; exact q) (.inl (PyProof.noPylong_of_log2 ?_))
  have h3 : j.natAbs < 2 ^ 64 := by omega
  have h4 : j.natAbs.log2 < 64 := (Nat.log2_lt (by omega)).mpr h3
  omega
abbrev rModI : R2 := rI (fun _ j => 0 < j) fun i j => .int (i % j)
abbrev rPowI : R2 := rI CPow fun i j => .int (i ^ j.toNat)
abbrev rLtI : R2 := rI0 fun i j => .bl (decide (i < j))
abbrev rLeI : R2 := rI0 fun i j => .bl (decide (i ≤ j))
abbrev rGtI : R2 := rI0 fun i j => .bl (decide (j < i))
abbrev rGeI : R2 := rI0 fun i j => .bl (decide (j ≤ i))
abbrev rNegI : V → Hp → VK → Prop := rU fun i => .int (-i)
def rAddG (K : PySem.W.Frag) : R2 := fun x y H Q => rI0 (fun i j => .int (i + j)) x y H Q ∨ (∃ i j, x = .str i ∧ y = .str j ∧ i.length + j.length ≤ sizeLine ∧ Q (.str (i ++ j)) H) ∨ rCatA K x y H Q ∨ rCat x y H Q
def rMulG (K : PySem.W.Frag) : R2 := fun x y H Q => rI CMul (fun i j => .int (i * j)) x y H Q ∨ rI CMulW (fun i j => .int (i * j)) x y H Q
def rEqG (K : PySem.W.Frag) : R2 := fun x y H Q => rEq x y H Q ∨ rEqD K x y H Q
def rNeG (K : PySem.W.Frag) : R2 := fun x y H Q => rNe x y H Q ∨ rNeD K x y H Q
def rLtG (K : PySem.W.Frag) : R2 := fun x y H Q => rI0 (fun i j => .bl (decide (i < j))) x y H Q ∨ (∃ i j, x = .str i ∧ y = .str j ∧ Q (.bl (decide (i.cps.toList < j.cps.toList))) H) ∨ rLtT K x y H Q
def rInG (K : PySem.W.Frag) : R2 := fun x y H Q => rIn K false x y H Q ∨ ∃ (c : Nat) (z : Str), x = .str ⟨#[c]⟩ ∧ y = .str z ∧ Q (.bl (decide (c ∈ z.cps.toList))) H
def rSlG (K : PySem.W.Frag) : V → Option Int → Option Int → Hp → VK → Prop := fun x lo hi H Q => rSlL K x lo hi H Q ∨ rSlA K x lo hi H Q ∨ rSlS x lo hi H Q
section
variable {X : Cx}
theorem op_addG : OpR X (binaryOp .Add) (rAddG X.K) := op_add.or (op_add_str.or (op_catA.or op_cat))
theorem op_mulG : OpR X (binaryOp .Mult) (rMulG X.K) := op_mul.or op_mulW
theorem op_eqG (hu : X.A.units + 64 < cLine) : OpR X (compareOp .Eq) (rEqG X.K) := op_eq.or (op_eqD hu)
theorem op_neG (hu : X.A.units + 64 < cLine) : OpR X (compareOp .NotEq) (rNeG X.K) := op_ne.or (op_neD hu)
theorem op_ltG (hu : X.A.units < cLine) : OpR X (compareOp .Lt) (rLtG X.K) := op_lt.or (op_lt_str.or (op_ltT hu))
theorem op_inG : OpR X (compareOp .In) (rInG X.K) := op_in_seq.or op_in_sign
theorem sl_G : SlR X (rSlG X.K) := sl_list.or (sl_tupA.or sl_str)
end
def Re.isScr : Re → Bool
  | .val (.scr _) => true
  | _ => false
def AddP (ra rb : Re) (Γ : List Sl) (Post : Re → List Sl → Prop) : Prop :=
  (∃ i j, ra = .val (.int i) ∧ rb = .val (.int j) ∧ Post (.val (.int (i + j))) Γ) ∨ (∃ s t : Str, ra = .val (.str s) ∧ rb = .val (.str t) ∧ s.length + t.length ≤ 1000000 ∧ Post (.val (.str (s ++ t))) Γ) ∨
  (∃ ds es, ra = .val (.tup ds) ∧ rb = .val (.tup es) ∧ ds.length + es.length ≤ 1000000 ∧ Post (.val (.tup (ds ++ es))) Γ) ∨ (∃ ds es, lstOf Γ ra = some ds ∧ lstOf Γ rb = some es ∧ ra.isScr = false ∧ rb.isScr = false ∧ ds.length + es.length ≤ 1000000 ∧ Post (.new (ds ++ es)) Γ)
def EqP (neg : Bool) (ra rb : Re) (Γ : List Sl) (Post : Re → List Sl → Prop) : Prop :=
  (∃ x y : V, ra = .val (.raw x) ∧ rb = .val (.raw y) ∧ scal x y = true ∧ Post (.val (.bl (neg ^^ decide (x = y)))) Γ) ∨
  (∃ p q : PyData, ra.py Γ = some p ∧ rb.py Γ = some q ∧ SeqAt.shaped p = true ∧ SeqAt.shaped q = true ∧ Post (.val (.bl (neg ^^ PyData.eqv p q))) Γ)
def MulP (ra rb : Re) (Γ : List Sl) (Post : Re → List Sl → Prop) : Prop := ∃ i j, ra = .val (.int i) ∧ rb = .val (.int j) ∧ (CMul i j ∨ CMulW i j) ∧ Post (.val (.int (i * j))) Γ
def IxP (ra rb : Re) (Γ : List Sl) (Post : Re → List Sl → Prop) : Prop :=
  (∃ ds k d, seqOf Γ ra = some ds ∧ rb = .val (.int k) ∧ atI ds k = some d ∧ Post (.val d) Γ) ∨ (∃ z k c, ra = .val (.str z) ∧ rb = .val (.int k) ∧ z.length ≤ 1000000 ∧ atI z.cps.toList k = some c ∧ Post (.val (.str ⟨#[c]⟩)) Γ)
def LenP (r : Re) (Γ : List Sl) (Post : Re → List Sl → Prop) : Prop := (∃ ds, seqOf Γ r = some ds ∧ Post (.val (.int ds.length)) Γ) ∨ (∃ z : Str, r = .val (.str z) ∧ z.length ≤ 1000000 ∧ Post (.val (.int z.length)) Γ)
def IntP (r : Re) (Γ : List Sl) (Post : Re → List Sl → Prop) : Prop := (∃ i, r = .val (.int i) ∧ Post (.val (.int i)) Γ) ∨ (∃ b, r = .val (.bl b) ∧ Post (.val (.int (if b then 1 else 0))) Γ)
section
variable {K : PySem.W.Frag} {Γ : List Sl} {Post : Re → List Sl → Prop} {ta tb tc te : TE}
theorem rv_lstH {σ : L2.St} {B H : Hp} {v : V} {r : Re} {ds : List Dt} (E : Env K B H σ Γ) (h : RvOk K σ B H Γ v r) (e : lstOf Γ r = some ds) (hs : r.isScr = false) : ∃ a vs, v = .ref a ∧ H a = some (.lst vs) ∧ IsA K B vs ds := by
  cases r with
  | val d =>
    cases d with
    | lst es => cases e; obtain ⟨a, xs, rfl, h1, h2⟩ := Is.lstR h; exact ⟨a, xs, rfl, E.bh _ _ h1, h2⟩
    | raw u => cases e
    | tup es => cases e
    | obj C fs => cases e
    | scr ns => cases hs
  | new es => cases e; obtain ⟨l, vs, rfl, _, h1, _, h2⟩ := h; exact ⟨l, vs, rfl, h1, h2⟩
  | own i =>
    obtain ⟨l, rfl, hl⟩ := h
    have e' : (match Γ[i]? with
      | some (Sl.acc ds) => some ds
      | _ => none) = some ds := e
    split at e'
    · rename_i es hi
      cases e'
      obtain ⟨c, us, q1, q2, q3, q4⟩ := E.acc i _ hi
      rw [hl] at q1; cases q1
      exact ⟨l, us, rfl, q2, q4⟩
    · cases e'
theorem we_addG (h : WE K ta Γ fun ra Γ1 => WE K tb Γ1 fun rb Γ2 => AddP ra rb Γ2 Post) : WE K (tOp (rAddG K) ta tb) Γ Post :=
  we_two' (we_mono h fun ra Γ1 h1 => we_mono h1 fun rb Γ2 hp => fun σ B H x y E kx ky Q q => by
    rcases hp with ⟨i, j, rfl, rfl, p⟩ | ⟨s, t, rfl, rfl, hz, p⟩ | ⟨ds, es, rfl, rfl, hz, p⟩ | ⟨ds, es, h1, h2, s1, s2, hz, p⟩
    · cases Is.rawI kx; cases Is.rawI ky
      exact .inl ⟨i, j, rfl, rfl, q _ B H _ Γ2 (.refl E) (.raw _) p⟩
    · cases Is.rawI kx; cases Is.rawI ky
      exact .inr (.inl ⟨s, t, rfl, rfl, Nat.le_trans hz (by decide), q _ B H _ Γ2 (.refl E) (.raw _) p⟩)
    · obtain ⟨a, xs, rfl, h1, h2⟩ := Is.tupR kx
      obtain ⟨b, ys, rfl, g1, g2⟩ := Is.tupR ky
      refine .inr (.inr (.inl ⟨a, b, xs, ys, rfl, rfl, sqT_mono E.bh h1, sqT_mono E.bh g1, Nat.le_trans (by rw [h2.len, g2.len]; exact hz) (by decide), fun e => ?_, fun e1 e => ?_, fun _ _ l hl => ?_⟩))
      · have : ds = [] := List.eq_nil_of_length_eq_zero (by rw [← h2.len, e]; rfl)
        subst this
        exact q _ B H (.val _) Γ2 (.refl E) (show Is K B _ _ from ky) p
      · have : es = [] := List.eq_nil_of_length_eq_zero (by rw [← g2.len, e]; rfl)
        subst this
        rw [List.append_nil] at p
        exact q _ B H (.val _) Γ2 (.refl E) (show Is K B _ _ from kx) p
      · exact q _ _ _ _ Γ2 (Go.laid E hl) (re_laidT E (h2.append g2) hl) p
    · obtain ⟨a, xs, rfl, a1, a2⟩ := rv_lstH E kx h1 s1
      obtain ⟨b, ys, rfl, b1, b2⟩ := rv_lstH E ky h2 s2
      exact .inr (.inr (.inr ⟨a, b, xs, ys, rfl, rfl, a1, b1, Nat.le_trans (by rw [a2.len, b2.len]; exact hz) (by decide), fun l hl => q _ _ _ _ Γ2 (Go.beside E hl) (re_newL E (a2.append b2) hl) p⟩)))
theorem we_mulG (h : WE K ta Γ fun ra Γ1 => WE K tb Γ1 fun rb Γ2 => MulP ra rb Γ2 Post) : WE K (tOp (rMulG K) ta tb) Γ Post :=
  we_two' (we_mono h fun ra Γ1 h1 => we_mono h1 fun rb Γ2 hp => fun σ B H x y E kx ky Q q => by
    obtain ⟨i, j, rfl, rfl, hc, p⟩ := hp
    cases Is.rawI kx; cases Is.rawI ky
    have fin := q _ B H _ Γ2 (.refl E) (.raw _) p
    rcases hc with hc | hc
    · exact .inl ⟨i, j, rfl, rfl, hc, fin⟩
    · exact .inr ⟨i, j, rfl, rfl, hc, fin⟩)
theorem we_eqG (h : WE K ta Γ fun ra Γ1 => WE K tb Γ1 fun rb Γ2 => EqP false ra rb Γ2 Post) : WE K (tOp (rEqG K) ta tb) Γ Post :=
  we_two' (we_mono h fun ra Γ1 h1 => we_mono h1 fun rb Γ2 hp => fun σ B H x y E kx ky Q q => by
    rcases hp with ⟨u, w, rfl, rfl, hs, p⟩ | ⟨a, b, e1, e2, s1, s2, p⟩
    · cases Is.rawI kx; cases Is.rawI ky
      rw [Bool.false_xor] at p
      exact .inl ⟨hs, q _ B H _ Γ2 (.refl E) (.raw _) p⟩
    · rw [Bool.false_xor] at p
      exact .inr ⟨a, b, rv_dp E kx e1, rv_dp E ky e2, s1, s2, q _ B H _ Γ2 (.refl E) (.raw _) p⟩)
theorem we_neG (h : WE K ta Γ fun ra Γ1 => WE K tb Γ1 fun rb Γ2 => EqP true ra rb Γ2 Post) : WE K (tOp (rNeG K) ta tb) Γ Post :=
  we_two' (we_mono h fun ra Γ1 h1 => we_mono h1 fun rb Γ2 hp => fun σ B H x y E kx ky Q q => by
    rcases hp with ⟨u, w, rfl, rfl, hs, p⟩ | ⟨a, b, e1, e2, s1, s2, p⟩
    · cases Is.rawI kx; cases Is.rawI ky
      rw [Bool.true_xor] at p
      exact .inl ⟨hs, q _ B H _ Γ2 (.refl E) (.raw _) p⟩
    · rw [Bool.true_xor] at p
      exact .inr ⟨a, b, rv_dp E kx e1, rv_dp E ky e2, s1, s2, q _ B H _ Γ2 (.refl E) (.raw _) p⟩)
theorem we_ixG (h : WE K ta Γ fun ra Γ1 => WE K tb Γ1 fun rb Γ2 => IxP ra rb Γ2 Post) : WE K (tOp (rIx K) ta tb) Γ Post :=
  we_two' (we_mono h fun ra Γ1 h1 => we_mono h1 fun rb Γ2 hp => fun σ B H x y E kx ky Q q => by
    rcases hp with ⟨ds, k, d, hs, rfl, hd, p⟩ | ⟨z, k, c, rfl, rfl, hz, hd, p⟩
    · cases Is.rawI ky
      obtain ⟨a, vs, rfl, hq, ha⟩ := rv_seq E kx hs
      obtain ⟨v, hv, hi⟩ := ha.atI hd
      have fin := q v B H (.val d) Γ2 (.refl E) hi p
      rcases hq with hq | hq
      · exact .inl ⟨a, vs, k, v, rfl, rfl, hq, hv, fin⟩
      · exact .inr (.inl ⟨a, vs, k, v, rfl, rfl, hq, hv, fin⟩)
    · cases Is.rawI ky
      cases Is.rawI kx
      exact .inr (.inr ⟨z, k, c, rfl, rfl, Nat.le_trans hz (by decide), hd, q _ B H _ Γ2 (.refl E) (.raw _) p⟩))
theorem we_lenG (h : WE K te Γ fun r Γ1 => LenP r Γ1 Post) : WE K (tCB (rLenV K) (tCons te tNil)) Γ Post :=
  we_cb1 (we_mono h fun r Γ1 hp => fun σ B H x E kx Q q => by
    rcases hp with ⟨ds, hs, p⟩ | ⟨z, rfl, hz, p⟩
    · obtain ⟨a, vs, rfl, hq, ha⟩ := rv_seq E kx hs
      have e : (ds.length : Int) = (vs.length : Int) := by rw [ha.len]
      rw [e] at p
      refine ⟨_, vs.length, rfl, ?_, q _ B H _ Γ1 (.refl E) (.raw _) p⟩
      rcases hq with hq | hq
      · exact .inl ⟨vs, hq, rfl⟩
      · exact .inr ⟨vs, hq, rfl⟩
    · cases Is.rawI kx
      exact ⟨_, z.length, rfl, ⟨Nat.le_trans hz (by decide), rfl⟩, q _ B H _ Γ1 (.refl E) (.raw _) p⟩)
theorem we_intG (h : WE K te Γ fun r Γ1 => IntP r Γ1 Post) : WE K (tCB rInt1 (tCons te tNil)) Γ Post :=
  we_cb1 (we_mono h fun r Γ1 hp => fun σ B H x E kx Q q => by
    rcases hp with ⟨i, rfl, p⟩ | ⟨b, rfl, p⟩
    · cases Is.rawI kx; exact .inl ⟨i, rfl, q _ B H _ Γ1 (.refl E) (.raw _) p⟩
    · cases Is.rawI kx; exact .inr ⟨b, rfl, q _ B H _ Γ1 (.refl E) (.raw _) p⟩)
/-! slices -/
def WO (K : PySem.W.Frag) (to : TO) (Γ : List Sl) (Post : Option Int → List Sl → Prop) : Prop := ∀ σ B H, Env K B H σ Γ → ∀ Q : Option Int → Hp → Prop, (∀ o B' H' Γ', Go K σ B H Γ B' H' Γ' → Post o Γ' → Q o H') → to σ H Q
theorem wo_none {P : Option Int → List Sl → Prop} (p : P none Γ) : WO K tNoPart Γ P := fun σ B H E Q q => q none B H Γ (.refl E) p
theorem wo_some {P : Option Int → List Sl → Prop} (h : WE K te Γ fun r Γ1 => ∃ i, r = .val (.int i) ∧ P (some i) Γ1) : WO K (tPart te) Γ P := fun σ B H E Q q => by
  refine h σ B H E _ fun v B1 H1 r Γ1 g k ⟨i, e, p⟩ => ?_
  subst e
  cases Is.rawI k
  exact ⟨i, rfl, q _ B1 H1 Γ1 g p⟩
/-- the items of a slice -/
def cutD (xs : List Dt) (lo hi : Option Int) : List Dt := (xs.drop (HT.sIx xs.length 0 lo)).take (HT.sIx xs.length xs.length hi - HT.sIx xs.length 0 lo)
def SlP (ra : Re) (lo hi : Option Int) (Γ : List Sl) (Post : Re → List Sl → Prop) : Prop :=
  (∃ ds, lstOf Γ ra = some ds ∧ Post (.new (cutD ds lo hi)) Γ) ∨ (∃ ds, ra = .val (.tup ds) ∧ Post (.val (.tup (cutD ds lo hi))) Γ) ∨ (∃ z : Str, ra = .val (.str z) ∧ z.length ≤ 1000000 ∧ Post (.val (.str (cutS z lo hi))) Γ)
theorem cut_is {B : Hp} {vs : List V} {ds : List Dt} (lo hi : Option Int) (h : IsA K B vs ds) : IsA K B (cutV vs lo hi) (cutD ds lo hi) := by
  unfold cutV cutD
  rw [h.len]
  exact (h.drop _).take _
theorem cut_whole {ds : List Dt} {lo hi : Option Int} (h : HT.sIx ds.length 0 lo = 0 ∧ HT.sIx ds.length ds.length hi = ds.length) : cutD ds lo hi = ds := by
  unfold cutD
  rw [h.1, h.2, List.drop_zero, Nat.sub_zero, List.take_length]
theorem we_slG {tl th : TO} (h : WE K ta Γ fun ra Γ1 => WO K tl Γ1 fun lo Γ2 => WO K th Γ2 fun hi Γ3 => SlP ra lo hi Γ3 Post) : WE K (tSl (rSlG K) ta tl th) Γ Post := fun σ B H E Q q => by
  refine h σ B H E _ fun x B1 H1 ra Γ1 g1 k1 p1 => ?_
  refine p1 σ B1 H1 g1.env _ fun lo B2 H2 Γ2 g2 p2 => ?_
  refine p2 σ B2 H2 g2.env _ fun hi B3 H3 Γ3 g3 p3 => ?_
  have g23 := g2.trans g3
  have kx := ReOk.rv (ReOk.step k1 g23.mv g23.sub)
  have g := g1.trans g23
  have fin : ∀ v B' H' z Γ', Go K σ B3 H3 Γ3 B' H' Γ' → ReOk K σ (Own σ Γ3) (Own σ Γ') B' H3 H' v z → Post z Γ' → Q v H' := fun v B' H' z Γ' g4 k4 p4 => q v B' H' z Γ' (g.trans g4) (ReOk.earlier k4 g.mv fun a h => .inl (g.sub a h)) p4
  rcases p3 with ⟨ds, hs, p⟩ | ⟨ds, rfl, p⟩ | ⟨z, rfl, hz, p⟩
  · obtain ⟨a, vs, rfl, hq, ha⟩ := rv_lst g3.env kx hs
    exact .inl ⟨a, vs, rfl, hq, fun l hl => fin _ _ _ _ Γ3 (Go.beside g3.env hl) (re_newL g3.env (cut_is lo hi ha) hl) p⟩
  · obtain ⟨a, vs, rfl, hq, ha⟩ := Is.tupR kx
    refine .inr (.inl ⟨a, vs, rfl, sqT_mono g3.env.bh hq, fun hw => ?_, fun _ l hl => fin _ _ _ _ Γ3 (Go.laid g3.env hl) (re_laidT g3.env (cut_is lo hi ha) hl) p⟩)
    rw [ha.len] at hw
    rw [cut_whole hw] at p
    exact fin _ B3 H3 (.val _) Γ3 (.refl g3.env) (show Is K B3 _ _ from kx) p
  · cases Is.rawI kx
    exact .inr (.inr ⟨z, rfl, Nat.le_trans hz (by decide), fin _ B3 H3 _ Γ3 (.refl g3.env) (.raw _) p⟩)
def InP (neg : Bool) (ra rb : Re) (Γ : List Sl) (Post : Re → List Sl → Prop) : Prop :=
  (∃ (x : V) (us : List V), ra = .val (.raw x) ∧ seqOf Γ rb = some (us.map Dt.raw) ∧ flatV x = true ∧ us.all flatV = true ∧ Post (.val (.bl (if neg then !inV x us else inV x us))) Γ)
theorem we_inG (h : WE K ta Γ fun ra Γ1 => WE K tb Γ1 fun rb Γ2 => InP false ra rb Γ2 Post ∨ ∃ (c : Nat) (z : Str), ra = .val (.str ⟨#[c]⟩) ∧ rb = .val (.str z) ∧ Post (.val (.bl (decide (c ∈ z.cps.toList)))) Γ2) : WE K (tOp (rInG K) ta tb) Γ Post :=
  we_two' (we_mono h fun ra Γ1 h1 => we_mono h1 fun rb Γ2 hp => fun σ B H y z E ky kz Q q => by
    rcases hp with ⟨x, us, rfl, hs, hx, hu, p⟩ | ⟨c, s, rfl, rfl, p⟩
    · cases Is.rawI ky
      obtain ⟨a, vs, rfl, hq, ha⟩ := rv_seq E kz hs
      cases ha.rawsI
      exact .inl ⟨a, _, rfl, hq, hx, hu, q _ B H _ Γ2 (.refl E) (.raw _) p⟩
    · cases Is.rawI ky; cases Is.rawI kz
      exact .inr ⟨c, s, rfl, rfl, q _ B H _ Γ2 (.refl E) (.raw _) p⟩)
theorem we_notInG (h : WE K ta Γ fun ra Γ1 => WE K tb Γ1 fun rb Γ2 => InP true ra rb Γ2 Post) : WE K (tOp (rIn K true) ta tb) Γ Post := we_in h
end
/-- < of ints, of texts, of tuples of ints -/
def LtP (ra rb : Re) (Γ : List Sl) (Post : Re → List Sl → Prop) : Prop :=
  (∃ i j, ra = .val (.int i) ∧ rb = .val (.int j) ∧ Post (.val (.bl (decide (i < j)))) Γ) ∨ (∃ s t : Str, ra = .val (.str s) ∧ rb = .val (.str t) ∧ Post (.val (.bl (decide (s.cps.toList < t.cps.toList)))) Γ) ∨
  (∃ ns ms : List Int, ra = .val (.tup (ns.map Dt.int)) ∧ rb = .val (.tup (ms.map Dt.int)) ∧ Post (.val (.bl (HT.lexLt ns ms))) Γ)
theorem we_ltG {K : PySem.W.Frag} {Γ : List Sl} {Post : Re → List Sl → Prop} {ta tb : TE} (h : WE K ta Γ fun ra Γ1 => WE K tb Γ1 fun rb Γ2 => LtP ra rb Γ2 Post) : WE K (tOp (rLtG K) ta tb) Γ Post :=
  we_two' (we_mono h fun ra Γ1 h1 => we_mono h1 fun rb Γ2 hp => fun σ B H x y E kx ky Q q => by
    rcases hp with ⟨i, j, rfl, rfl, p⟩ | ⟨s, t, rfl, rfl, p⟩ | ⟨ns, ms, rfl, rfl, p⟩
    · cases Is.rawI kx; cases Is.rawI ky
      exact .inl ⟨i, j, rfl, rfl, q _ B H _ Γ2 (.refl E) (.raw _) p⟩
    · cases Is.rawI kx; cases Is.rawI ky
      exact .inr (.inl ⟨s, t, rfl, rfl, q _ B H _ Γ2 (.refl E) (.raw _) p⟩)
    · obtain ⟨a, xs, rfl, h1, h2⟩ := Is.tupR kx
      obtain ⟨b, ys, rfl, g1, g2⟩ := Is.tupR ky
      have e1 : xs = ns.map V.int := IsA.rawsI (xs := ns.map V.int) (by rw [List.map_map]; exact h2)
      have e2 : ys = ms.map V.int := IsA.rawsI (xs := ms.map V.int) (by rw [List.map_map]; exact g2)
      subst e1 e2
      exact .inr (.inr ⟨a, b, ns, ms, rfl, rfl, sqT_mono E.bh h1, sqT_mono E.bh g1, q _ B H _ Γ2 (.refl E) (.raw _) p⟩))
/-- a def that is never called -/
theorem fn_never {P : Program} {w : World} {K : PySem.W.Frag} {mg : Str → Option Value} {base : Heap} {x qual : Str} {st : Stmt} {f : Addr} {fd : FuncData} {N ps : List Str} {k : Nat} (F : Fun K x qual st f fd) (S : FnScope N ps (defScope st)) :
    FnOk P w K mg base CX0 (k + 1) f fd ps (toSp K fun _ _ => False) := by
  refine F.ok S (fun vs H Q E h => ?_) (fun cdv A outer s H vs Q E hr h => ?_)
  · obtain ⟨_, _, _, _, z, _⟩ := h; exact z.elim
  · obtain ⟨_, _, _, _, z, _⟩ := h; exact z.elim
/-- the law's own start: the script -/
theorem law_sp {K : PySem.W.Frag} {ap : AP} {H : Hp} {a : Addr} {ns : List Int} {E : XK} (hS : SqL K H a (ns.map V.int)) (h : ∀ Post : Re → List Sl → Prop, (∀ as, Post (.val (.bl true)) as) → ap [.val (.scr ns)] Post) : toSp K ap [.ref a] H (fun v _ => v = .bl true) E := by
  refine ⟨H, [.val (.scr ns)], fun r _ => r = .val (.bl true), ⟨rfl, Same.refl H, fun i d hi => ?_, fun i ds hi => ?_, fun i j ds es l hi => ?_⟩, h _ (fun _ => rfl), fun v B' H' r as' g k p => ?_⟩
  · cases i with
    | zero => simp at hi; subst hi; exact ⟨.ref a, rfl, .scr hS⟩
    | succ i => simp at hi
  · cases i with
    | zero => simp at hi
    | succ i => simp at hi
  · cases i with
    | zero => simp at hi
    | succ i => simp at hi
  · subst p; exact Is.rawI k
/-! ### builtins' names -/
theorem bi_int : bootBuiltins "int" = some (.type "int") := by decide +kernel
theorem bi_bool : bootBuiltins "bool" = some (.type "bool") := by decide +kernel
theorem bi_str : bootBuiltins "str" = some (.type "str") := by decide +kernel
theorem bi_list : bootBuiltins "list" = some (.type "list") := by decide +kernel
theorem bi_tuple : bootBuiltins "tuple" = some (.type "tuple") := by decide +kernel
theorem bi_dict : bootBuiltins "dict" = some (.type "dict") := by decide +kernel
theorem bi_range : bootBuiltins "range" = some (.type "range") := by decide +kernel
theorem bi_len : bootBuiltins "len" = some (.builtin "len") := by decide +kernel
theorem bi_abs : bootBuiltins "abs" = some (.builtin "abs") := by decide +kernel
theorem bi_min : bootBuiltins "min" = some (.builtin "min") := by decide +kernel
theorem bi_max : bootBuiltins "max" = some (.builtin "max") := by decide +kernel
theorem bi_sum : bootBuiltins "sum" = some (.builtin "sum") := by decide +kernel
theorem bi_isinstance : bootBuiltins "isinstance" = some (.builtin "isinstance") := by decide +kernel
end Ab
namespace Ab
open PySem L2
section
variable {Γ : List Sl} {Post : Re → List Sl → Prop}
theorem addp_i {i j : Int} (p : Post (.val (.int (i + j))) Γ) : AddP (.val (.int i)) (.val (.int j)) Γ Post := .inl ⟨i, j, rfl, rfl, p⟩
theorem addp_s {s t : Str} (hz : s.length + t.length ≤ 1000000) (p : Post (.val (.str (s ++ t))) Γ) : AddP (.val (.str s)) (.val (.str t)) Γ Post := .inr (.inl ⟨s, t, rfl, rfl, hz, p⟩)
theorem addp_t {ds es : List Dt} (hz : ds.length + es.length ≤ 1000000) (p : Post (.val (.tup (ds ++ es))) Γ) : AddP (.val (.tup ds)) (.val (.tup es)) Γ Post := .inr (.inr (.inl ⟨ds, es, rfl, rfl, hz, p⟩))
theorem addp_l {ra rb : Re} {ds es : List Dt} (h1 : lstOf Γ ra = some ds) (h2 : lstOf Γ rb = some es) (s1 : ra.isScr = false) (s2 : rb.isScr = false) (hz : ds.length + es.length ≤ 1000000) (p : Post (.new (ds ++ es)) Γ) : AddP ra rb Γ Post := .inr (.inr (.inr ⟨ds, es, h1, h2, s1, s2, hz, p⟩))
theorem mulp_l {i j : Int} (hc : -(2 ^ 64) < i ∧ i < 2 ^ 64) (p : Post (.val (.int (i * j))) Γ) : MulP (.val (.int i)) (.val (.int j)) Γ Post := ⟨i, j, rfl, rfl, .inl (.inl hc), p⟩
theorem mulp_r {i j : Int} (hc : -(2 ^ 64) < j ∧ j < 2 ^ 64) (p : Post (.val (.int (i * j))) Γ) : MulP (.val (.int i)) (.val (.int j)) Γ Post := ⟨i, j, rfl, rfl, .inl (.inr hc), p⟩
theorem eqp_s {neg : Bool} {x y : V} (hs : scal x y = true) (p : Post (.val (.bl (neg ^^ decide (x = y)))) Γ) : EqP neg (.val (.raw x)) (.val (.raw y)) Γ Post := .inl ⟨x, y, rfl, rfl, hs, p⟩
theorem dec_i {i j : Int} : decide (V.int i = V.int j) = decide (i = j) := by
  by_cases h : i = j
  · subst h; simp
  · have : ¬ V.int i = V.int j := fun z => h (V.int.inj z)
    rw [decide_eq_false this, decide_eq_false h]
/-- == of ints -/
theorem eqp_i {i j : Int} (p : Post (.val (.bl (decide (i = j)))) Γ) : EqP false (.val (.int i)) (.val (.int j)) Γ Post := eqp_s rfl (by rw [dec_i, Bool.false_xor]; exact p)
theorem nep_i {i j : Int} (p : Post (.val (.bl (!decide (i = j)))) Γ) : EqP true (.val (.int i)) (.val (.int j)) Γ Post := eqp_s rfl (by rw [dec_i, Bool.true_xor]; exact p)
theorem eqp_d {neg : Bool} {ra rb : Re} {p q : PyData} (h1 : ra.py Γ = some p) (h2 : rb.py Γ = some q) (s1 : SeqAt.shaped p = true) (s2 : SeqAt.shaped q = true) (k : Post (.val (.bl (neg ^^ PyData.eqv p q))) Γ) : EqP neg ra rb Γ Post := .inr ⟨p, q, h1, h2, s1, s2, k⟩
theorem intp_i {i : Int} (p : Post (.val (.int i)) Γ) : IntP (.val (.int i)) Γ Post := .inl ⟨i, rfl, p⟩
theorem intp_b {b : Bool} (p : Post (.val (.int (if b then 1 else 0))) Γ) : IntP (.val (.bl b)) Γ Post := .inr ⟨b, rfl, p⟩
theorem ltp_i {i j : Int} (p : Post (.val (.bl (decide (i < j)))) Γ) : LtP (.val (.int i)) (.val (.int j)) Γ Post := .inl ⟨i, j, rfl, rfl, p⟩
theorem ixp {ra : Re} {ds : List Dt} {k : Int} {d : Dt} (h1 : seqOf Γ ra = some ds) (h2 : atI ds k = some d) (p : Post (.val d) Γ) : IxP ra (.val (.int k)) Γ Post := .inl ⟨ds, k, d, h1, rfl, h2, p⟩
theorem ixp_s {z : Str} {k : Int} {c : Nat} (hz : z.length ≤ 1000000) (h2 : atI z.cps.toList k = some c) (p : Post (.val (.str ⟨#[c]⟩)) Γ) : IxP (.val (.str z)) (.val (.int k)) Γ Post := .inr ⟨z, k, c, rfl, rfl, hz, h2, p⟩
theorem lenp {r : Re} {ds : List Dt} (h : seqOf Γ r = some ds) (p : Post (.val (.int ds.length)) Γ) : LenP r Γ Post := .inl ⟨ds, h, p⟩
theorem lenp_s {z : Str} (hz : z.length ≤ 1000000) (p : Post (.val (.int z.length)) Γ) : LenP (.val (.str z)) Γ Post := .inr ⟨z, rfl, hz, p⟩
theorem slp_t {ds : List Dt} {lo hi : Option Int} (p : Post (.val (.tup (cutD ds lo hi))) Γ) : SlP (.val (.tup ds)) lo hi Γ Post := .inr (.inl ⟨ds, rfl, p⟩)
theorem slp_s {z : Str} {lo hi : Option Int} (hz : z.length ≤ 1000000) (p : Post (.val (.str (cutS z lo hi))) Γ) : SlP (.val (.str z)) lo hi Γ Post := .inr (.inr ⟨z, rfl, hz, p⟩)
theorem slp_l {ra : Re} {ds : List Dt} {lo hi : Option Int} (h : lstOf Γ ra = some ds) (p : Post (.new (cutD ds lo hi)) Γ) : SlP ra lo hi Γ Post := .inl ⟨ds, h, p⟩
theorem atI_of {α : Type} {xs : List α} {k : Int} {j : Nat} {x : α} (e : k = (j : Int)) (h : xs[j]? = some x) : atI xs k = some x := by
  subst e
  have hj : j < xs.length := (List.getElem?_eq_some_iff.mp h).1
  unfold atI ixN
  rw [if_pos (by omega), if_pos (by omega)]
  simpa using h
end
section
variable {K : PySem.W.Frag} {Γ : List Sl} {Post : Re → List Sl → Prop} {te : TE}
def IsiP (c : String) (r : Re) (Γ : List Sl) (Post : Re → List Sl → Prop) : Prop := (∀ i, r = .own i → ∃ ds, Γ[i]? = some (.acc ds)) ∧ ∃ T b, tyOf r = some T ∧ kitB T c = some b ∧ Post (.val (.bl b)) Γ
theorem we_isiG {c : String} (h : WE K te Γ fun r Γ1 => IsiP c r Γ1 Post) : WE K (tCB (rIsi K) (tCons te (tCons (tC (.ty c)) tNil))) Γ Post := we_isi h
/-- isinstance of a borrowed list -/
theorem isi_own {i : Nat} {ds : List Dt} {c : String} {b : Bool} (h : Γ[i]? = some (.acc ds)) (hk : kitB "list" c = some b) (p : Post (.val (.bl b)) Γ) : IsiP c (.own i) Γ Post :=
  ⟨fun j e => by cases e; exact ⟨ds, h⟩, "list", b, rfl, hk, p⟩
theorem isi_val {d : Dt} {T c : String} {b : Bool} (ht : tyOf (.val d) = some T) (hk : kitB T c = some b) (p : Post (.val (.bl b)) Γ) : IsiP c (.val d) Γ Post :=
  ⟨(fun j e => nomatch e), T, b, ht, hk, p⟩
theorem isi_new {ds : List Dt} {c : String} {b : Bool} (hk : kitB "list" c = some b) (p : Post (.val (.bl b)) Γ) : IsiP c (.new ds) Γ Post :=
  ⟨(fun j e => nomatch e), "list", b, rfl, hk, p⟩
theorem kb_tt : kitB "tuple" "tuple" = some true := by decide +kernel
theorem kb_ll : kitB "list" "list" = some true := by decide +kernel
theorem kb_ii : kitB "int" "int" = some true := by decide +kernel
theorem kb_ib : kitB "int" "bool" = some false := by decide +kernel
theorem kb_bb : kitB "bool" "bool" = some true := by decide +kernel
theorem kb_bi : kitB "bool" "int" = some true := by decide +kernel
theorem kb_ss : kitB "str" "str" = some true := by decide +kernel
theorem kb_sb : kitB "str" "bool" = some false := by decide +kernel
theorem kb_si : kitB "str" "int" = some false := by decide +kernel
theorem kb_tb : kitB "tuple" "bool" = some false := by decide +kernel
theorem kb_ti : kitB "tuple" "int" = some false := by decide +kernel
theorem kb_ts : kitB "tuple" "str" = some false := by decide +kernel
theorem kb_tl : kitB "tuple" "list" = some false := by decide +kernel
theorem kb_lb : kitB "list" "bool" = some false := by decide +kernel
theorem kb_li : kitB "list" "int" = some false := by decide +kernel
theorem kb_ls : kitB "list" "str" = some false := by decide +kernel
theorem kb_lt : kitB "list" "tuple" = some false := by decide +kernel
theorem kb_is : kitB "int" "str" = some false := by decide +kernel
theorem kb_it : kitB "int" "tuple" = some false := by decide +kernel
theorem kb_il : kitB "int" "list" = some false := by decide +kernel
theorem kb_st : kitB "str" "tuple" = some false := by decide +kernel
theorem kb_sl : kitB "str" "list" = some false := by decide +kernel
theorem kb_nb : kitB "NoneType" "bool" = some false := by decide +kernel
theorem kb_ni : kitB "NoneType" "int" = some false := by decide +kernel
theorem kb_ns : kitB "NoneType" "str" = some false := by decide +kernel
theorem kb_nt : kitB "NoneType" "tuple" = some false := by decide +kernel
theorem kb_nl : kitB "NoneType" "list" = some false := by decide +kernel
theorem kb_bs : kitB "bool" "str" = some false := by decide +kernel
theorem kb_bt : kitB "bool" "tuple" = some false := by decide +kernel
theorem kb_bl : kitB "bool" "list" = some false := by decide +kernel
end
/-- a goal of one's own, at which the walk stops -/
inductive Hold (p : Prop) : Prop where
  | a (h : p)
  | b (h : p) (_ : True)
theorem Hold.get {p : Prop} (h : Hold p) : p := by
  cases h with
  | a h => exact h
  | b h _ => exact h
/-- a block behind what its first part comes to -/
theorem ws_cut {K : PySem.W.Frag} {pin : List Nat} {Γ : List Sl} {P : Ps} {t u : TS} (M : List Sl → Prop) (h : WS K pin t Γ { P with nx := fun G => Hold (M G) }) (k : ∀ G, M G → WS K pin u G P) : WS K pin (tSeq t u) Γ P := ws_seq (ws_mono h (fun G hG => k G hG.get) (fun _ _ h => h) (fun _ h => h) (fun _ h => h))
section
variable {K : PySem.W.Frag} {pin : List Nat} {Γ : List Sl} {P : Ps} {te tl : TE} {tt : TT} {tb : TS} {g : TG} {j : Nat} {Post : Re → List Sl → Prop}
theorem for_range1 {t1 : TA} (n : Int) (Inv : Nat → List Sl → Prop) (h : WD K t1 Γ fun ds Γ1 => Hold (ds = [.int n] ∧ -(2 ^ 62) ≤ n ∧ n < 2 ^ 62 ∧ Inv 0 Γ1))
    (turn : ∀ (i : Nat) G, (i : Int) < n → Inv i G → WG K pin g (.int i) G fun G2 => WS K pin tb G2 ⟨fun G => Hold (Inv (i + 1) G), P.rt, P.nx, fun G => Hold (Inv (i + 1) G)⟩) (done : ∀ G, Inv n.toNat G → P.nx G) : WS K pin (tFor (iRng1 t1) g tb) Γ P :=
  ws_for1 fun σ B H E Q q => h σ B H E Q fun vs B' H' ds Γ' g k p => q vs B' H' ds Γ' g k (by
    obtain ⟨e, h1, h2, h3⟩ := p.get
    exact ⟨n, e, h1, h2, fun i G => Hold (Inv i G), .a h3, fun i G hi hG => turn i G hi hG.get, fun G hG => done G hG.get⟩)
theorem for_range2 {t1 : TA} (lo m : Int) (Inv : Nat → List Sl → Prop) (h : WD K t1 Γ fun ds Γ1 => Hold (ds = [.int lo, .int m] ∧ (-(2 ^ 62) ≤ lo ∧ lo < 2 ^ 62 ∧ -(2 ^ 62) ≤ m ∧ m < 2 ^ 62) ∧ Inv 0 Γ1))
    (turn : ∀ (i : Nat) G, lo + (i : Int) < m → Inv i G → WG K pin g (.int (lo + i)) G fun G2 => WS K pin tb G2 ⟨fun G => Hold (Inv (i + 1) G), P.rt, P.nx, fun G => Hold (Inv (i + 1) G)⟩) (done : ∀ G, Inv (m - lo).toNat G → P.nx G) : WS K pin (tFor (iRng2 t1) g tb) Γ P :=
  ws_for2 fun σ B H E Q q => h σ B H E Q fun vs B' H' ds Γ' g k p => q vs B' H' ds Γ' g k (by
    obtain ⟨e, h1, h3⟩ := p.get
    exact ⟨lo, m, e, h1, fun i G => Hold (Inv i G), .a h3, fun i G hi hG => turn i G hi hG.get, fun G hG => done G hG.get⟩)
theorem for_tuple (ds : List Dt) (Inv : Nat → List Sl → Prop) (h : WE K te Γ fun z Γ1 => Hold (z = .val (.tup ds) ∧ Inv 0 Γ1))
    (turn : ∀ (i : Nat) d G, ds[i]? = some d → Inv i G → WG K pin g d G fun G2 => WS K pin tb G2 ⟨fun G => Hold (Inv (i + 1) G), P.rt, P.nx, fun G => Hold (Inv (i + 1) G)⟩) (done : ∀ G, Inv ds.length G → P.nx G) : WS K pin (tFor (iTup K te) g tb) Γ P :=
  ws_forT (we_mono h fun z Γ1 p => by
    obtain ⟨e, h3⟩ := p.get
    exact ⟨ds, e, fun i G => Hold (Inv i G), .a h3, fun i d G hd hG => turn i d G hd hG.get, fun G hG => done G hG.get⟩)
theorem for_lst (ds : List Dt) (Inv : Nat → List Sl → Prop) (h : WE K te Γ fun z Γ1 => Hold (z.dt? = some (.lst ds) ∧ Inv 0 Γ1))
    (turn : ∀ (i : Nat) d G, ds[i]? = some d → Inv i G → WG K pin g d G fun G2 => WS K pin tb G2 ⟨fun G => Hold (Inv (i + 1) G), P.rt, P.nx, fun G => Hold (Inv (i + 1) G)⟩) (done : ∀ G, Inv ds.length G → P.nx G) : WS K pin (tFor (iList K te) g tb) Γ P :=
  ws_forL (we_mono h fun z Γ1 p => by
    obtain ⟨e, h3⟩ := p.get
    exact ⟨_, ds, e, rfl, fun i G => Hold (Inv i G), .a h3, fun i d G hd hG => turn i d G hd hG.get, fun G hG => done G hG.get⟩)
theorem for_acc {k : Nat} (ds : List Dt) (Inv : Nat → List Sl → Prop) (h0 : Γ[k]? = some (.acc ds)) (i0 : Inv 0 Γ) (hk : ∀ i G, Inv i G → G[k]? = some (.acc ds))
    (turn : ∀ (i : Nat) d G, ds[i]? = some d → Inv i G → WG K (k :: pin) g d G fun G2 => WS K (k :: pin) tb G2 ⟨fun G => Hold (Inv (i + 1) G), P.rt, P.nx, fun G => Hold (Inv (i + 1) G)⟩) (done : ∀ G, Inv ds.length G → P.nx G) : WS K pin (tFor (iList K (tVar k)) g tb) Γ P :=
  ws_forA h0 (fun i G => Hold (Inv i G)) (.a i0) (fun i G hG => hk i G hG.get) (fun i d G hd hG => turn i d G hd hG.get) fun G hG => done G hG.get
theorem while_ab (Inv : Nat → List Sl → Prop) (m0 : Nat) (i0 : Inv m0 Γ)
    (turn : ∀ m G, Inv m G → WT K tt G fun z G1 => (z = true → WS K pin tb G1 ⟨fun G => Hold (∃ m', m' < m ∧ Inv m' G), P.rt, P.nx, fun G => Hold (∃ m', m' < m ∧ Inv m' G)⟩) ∧ (z = false → P.nx G1)) : WS K pin (tWhile tt tb) Γ P :=
  ws_while Inv m0 i0 fun m G hG => wt_mono (turn m G hG) fun b G1 ⟨h1, h2⟩ => ⟨fun e => ws_mono (h1 e) (fun G h => h.get) (fun _ _ h => h) (fun _ h => h) (fun G h => h.get), h2⟩
/-- comprehensions, by what is made so far -/
theorem lc_range1 {t1 : TA} (n : Nat) (Inv : Nat → List Dt → List Sl → Prop) (h : WD K t1 Γ fun ds Γ1 => Hold (ds = [.int n] ∧ n ≤ 1000000 ∧ decide (j < Γ1.length) = true ∧ notAcc Γ1[j]? = true ∧ keepV Γ1[j]? = keepV Γ[j]? ∧ Inv 0 [] Γ1))
    (turn : ∀ i es G, i < n → Inv i es G → WT K tt (G.set j (.val (.int i))) fun b G2 => (b = true → WE K te G2 fun r G3 => ∃ d, r.dt? = some d ∧ Hold (Inv (i + 1) (es ++ [d]) (G3.set j (keepV Γ[j]?)))) ∧ (b = false → Hold (Inv (i + 1) es (G2.set j (keepV Γ[j]?)))))
    (done : ∀ es G, Inv n es G → Post (.new es) G) : WE K (tLc (iRng1 t1) (gName j) tt te [j]) Γ Post :=
  we_lc1 fun σ B H E Q q => h σ B H E Q fun vs B' H' ds Γ1 g k p => q vs B' H' ds Γ1 g k (by
    obtain ⟨e, h1, h2, h3, h4, h5⟩ := p.get
    refine ⟨n, e, h1, h2, h3, fun i es G => Hold (Inv i es G), .a h5, fun i es G hi hG => ?_, fun es G hG => done es G hG.get⟩
    rw [h4]
    exact turn i es G hi hG.get)
theorem lc_range2 {t1 : TA} (lo hi : Int) (Inv : Nat → List Dt → List Sl → Prop) (h : WD K t1 Γ fun ds Γ1 => Hold (ds = [.int lo, .int hi] ∧ (-(2 ^ 62) ≤ lo ∧ lo < 2 ^ 62 ∧ -(2 ^ 62) ≤ hi ∧ hi < 2 ^ 62) ∧ (hi - lo).toNat ≤ 1000000 ∧ decide (j < Γ1.length) = true ∧ notAcc Γ1[j]? = true ∧ keepV Γ1[j]? = keepV Γ[j]? ∧ Inv 0 [] Γ1))
    (turn : ∀ (i : Nat) es G, lo + i < hi → Inv i es G → WT K tt (G.set j (.val (.int (lo + i)))) fun b G2 => (b = true → WE K te G2 fun r G3 => ∃ d, r.dt? = some d ∧ Hold (Inv (i + 1) (es ++ [d]) (G3.set j (keepV Γ[j]?)))) ∧ (b = false → Hold (Inv (i + 1) es (G2.set j (keepV Γ[j]?)))))
    (done : ∀ es G, Inv (hi - lo).toNat es G → Post (.new es) G) : WE K (tLc (iRng2 t1) (gName j) tt te [j]) Γ Post :=
  we_lc2 fun σ B H E Q q => h σ B H E Q fun vs B' H' ds Γ1 g k p => q vs B' H' ds Γ1 g k (by
    obtain ⟨e, h0, h1, h2, h3, h4, h5⟩ := p.get
    refine ⟨lo, hi, e, h0, h1, h2, h3, fun i es G => Hold (Inv i es G), .a h5, fun i es G hi hG => ?_, fun es G hG => done es G hG.get⟩
    rw [h4]
    exact turn i es G hi hG.get)
theorem lc_tuple (ds : List Dt) (Inv : Nat → List Dt → List Sl → Prop) (h : WE K tl Γ fun z Γ1 => Hold (z = .val (.tup ds) ∧ ds.length ≤ 1000000 ∧ decide (j < Γ1.length) = true ∧ notAcc Γ1[j]? = true ∧ keepV Γ1[j]? = keepV Γ[j]? ∧ Inv 0 [] Γ1))
    (turn : ∀ (i : Nat) d es G, ds[i]? = some d → Inv i es G → WT K tt (G.set j (.val d)) fun b G2 => (b = true → WE K te G2 fun r G3 => ∃ d, r.dt? = some d ∧ Hold (Inv (i + 1) (es ++ [d]) (G3.set j (keepV Γ[j]?)))) ∧ (b = false → Hold (Inv (i + 1) es (G2.set j (keepV Γ[j]?)))))
    (done : ∀ es G, Inv ds.length es G → Post (.new es) G) : WE K (tLc (iTup K tl) (gName j) tt te [j]) Γ Post :=
  we_lcT (we_mono h fun z Γ1 p => by
    obtain ⟨e, h1, h2, h3, h4, h5⟩ := p.get
    refine ⟨ds, e, h1, h2, h3, fun i es G => Hold (Inv i es G), .a h5, fun i d es G hi hG => ?_, fun es G hG => done es G hG.get⟩
    rw [h4]
    exact turn i d es G hi hG.get)
theorem lc_lst (ds : List Dt) (Inv : Nat → List Dt → List Sl → Prop) (h : WE K tl Γ fun z Γ1 => Hold (z.dt? = some (.lst ds) ∧ ds.length ≤ 1000000 ∧ decide (j < Γ1.length) = true ∧ notAcc Γ1[j]? = true ∧ keepV Γ1[j]? = keepV Γ[j]? ∧ Inv 0 [] Γ1))
    (turn : ∀ (i : Nat) d es G, ds[i]? = some d → Inv i es G → WT K tt (G.set j (.val d)) fun b G2 => (b = true → WE K te G2 fun r G3 => ∃ d, r.dt? = some d ∧ Hold (Inv (i + 1) (es ++ [d]) (G3.set j (keepV Γ[j]?)))) ∧ (b = false → Hold (Inv (i + 1) es (G2.set j (keepV Γ[j]?)))))
    (done : ∀ es G, Inv ds.length es G → Post (.new es) G) : WE K (tLc (iList K tl) (gName j) tt te [j]) Γ Post :=
  we_lcL (we_mono h fun z Γ1 p => by
    obtain ⟨e, h1, h2, h3, h4, h5⟩ := p.get
    refine ⟨_, ds, e, rfl, h1, h2, h3, fun i es G => Hold (Inv i es G), .a h5, fun i d es G hi hG => ?_, fun es G hG => done es G hG.get⟩
    rw [h4]
    exact turn i d es G hi hG.get)
theorem lc_acc {k : Nat} (ds : List Dt) (Inv : Nat → List Dt → List Sl → Prop) (h0 : Γ[k]? = some (.acc ds)) (hn : ds.length ≤ 1000000) (hj : decide (j < Γ.length) = true) (hja : notAcc Γ[j]? = true) (i0 : Inv 0 [] Γ) (hk : ∀ i es G, Inv i es G → G[k]? = some (.acc ds))
    (turn : ∀ (i : Nat) d es G, ds[i]? = some d → Inv i es G → WT K tt (G.set j (.val d)) fun b G2 => (b = true → WE K te G2 fun r G3 => ∃ d, r.dt? = some d ∧ Hold (Inv (i + 1) (es ++ [d]) (G3.set j (keepV Γ[j]?)))) ∧ (b = false → Hold (Inv (i + 1) es (G2.set j (keepV Γ[j]?)))))
    (done : ∀ es G, Inv ds.length es G → Post (.new es) G) : WE K (tLc (iList K (tVar k)) (gName j) tt te [j]) Γ Post :=
  we_lcA h0 hn hj hja (fun i es G => Hold (Inv i es G)) (.a i0) (fun i es G hG => hk i es G hG.get) (fun i d es G hi hG => turn i d es G hi hG.get) fun es G hG => done es G hG.get
/-- .. where the source is told by its evaluation -/
theorem lc_lstH (h : WE K tl Γ fun z Γ1 => Hold (∃ ds, z.dt? = some (.lst ds) ∧ ds.length ≤ 1000000 ∧ decide (j < Γ1.length) = true ∧ notAcc Γ1[j]? = true ∧ ∃ Inv : Nat → List Dt → List Sl → Prop, Inv 0 [] Γ1 ∧
      (∀ (i : Nat) d es Γ', ds[i]? = some d → Inv i es Γ' → WT K tt (Γ'.set j (.val d)) fun b Γ2 => (b = true → WE K te Γ2 fun r Γ3 => ∃ d, r.dt? = some d ∧ Hold (Inv (i + 1) (es ++ [d]) (Γ3.set j (keepV Γ1[j]?)))) ∧ (b = false → Hold (Inv (i + 1) es (Γ2.set j (keepV Γ1[j]?))))) ∧
      ∀ es Γ', Inv ds.length es Γ' → Post (.new es) Γ')) : WE K (tLc (iList K tl) (gName j) tt te [j]) Γ Post :=
  we_lcL (we_mono h fun z Γ1 p => by
    obtain ⟨ds, e, h1, h2, h3, Inv, i0, turn, done⟩ := p.get
    exact ⟨_, ds, e, rfl, h1, h2, h3, fun i es G => Hold (Inv i es G), .a i0, fun i d es G hi hG => turn i d es G hi hG.get, fun es G hG => done es G hG.get⟩)
theorem for_lstH (h : WE K te Γ fun z Γ1 => Hold (∃ ds, z.dt? = some (.lst ds) ∧ ∃ Inv : Nat → List Sl → Prop, Inv 0 Γ1 ∧
      (∀ (i : Nat) d Γ', ds[i]? = some d → Inv i Γ' → WG K pin g d Γ' fun Γ2 => WS K pin tb Γ2 ⟨fun G => Hold (Inv (i + 1) G), P.rt, P.nx, fun G => Hold (Inv (i + 1) G)⟩) ∧ ∀ Γ', Inv ds.length Γ' → P.nx Γ')) : WS K pin (tFor (iList K te) g tb) Γ P :=
  ws_forL (we_mono h fun z Γ1 p => by
    obtain ⟨ds, e, Inv, i0, turn, done⟩ := p.get
    exact ⟨_, ds, e, rfl, fun i G => Hold (Inv i G), .a i0, fun i d G hi hG => turn i d G hi hG.get, fun G hG => done G hG.get⟩)
theorem for_range1H {t1 : TA} (h : WD K t1 Γ fun ds Γ1 => Hold (∃ n : Int, ds = [.int n] ∧ -(2 ^ 62) ≤ n ∧ n < 2 ^ 62 ∧ ∃ Inv : Nat → List Sl → Prop, Inv 0 Γ1 ∧
      (∀ (i : Nat) Γ', (i : Int) < n → Inv i Γ' → WG K pin g (.int i) Γ' fun Γ2 => WS K pin tb Γ2 ⟨fun G => Hold (Inv (i + 1) G), P.rt, P.nx, fun G => Hold (Inv (i + 1) G)⟩) ∧ ∀ Γ', Inv n.toNat Γ' → P.nx Γ')) : WS K pin (tFor (iRng1 t1) g tb) Γ P :=
  ws_for1 fun σ B H E Q q => h σ B H E Q fun vs B' H' ds Γ' g k p => q vs B' H' ds Γ' g k (by
    obtain ⟨n, e, h1, h2, Inv, i0, turn, done⟩ := p.get
    exact ⟨n, e, h1, h2, fun i G => Hold (Inv i G), .a i0, fun i G hi hG => turn i G hi hG.get, fun G hG => done G hG.get⟩)
theorem lc_range1H {t1 : TA} (h : WD K t1 Γ fun ds Γ1 => Hold (∃ n : Nat, ds = [.int n] ∧ n ≤ 1000000 ∧ decide (j < Γ1.length) = true ∧ notAcc Γ1[j]? = true ∧ ∃ Inv : Nat → List Dt → List Sl → Prop, Inv 0 [] Γ1 ∧
      (∀ i es Γ', i < n → Inv i es Γ' → WT K tt (Γ'.set j (.val (.int i))) fun b Γ2 => (b = true → WE K te Γ2 fun r Γ3 => ∃ d, r.dt? = some d ∧ Hold (Inv (i + 1) (es ++ [d]) (Γ3.set j (keepV Γ1[j]?)))) ∧ (b = false → Hold (Inv (i + 1) es (Γ2.set j (keepV Γ1[j]?))))) ∧
      ∀ es Γ', Inv n es Γ' → Post (.new es) Γ')) : WE K (tLc (iRng1 t1) (gName j) tt te [j]) Γ Post :=
  we_lc1 fun σ B H E Q q => h σ B H E Q fun vs B' H' ds Γ1 g k p => q vs B' H' ds Γ1 g k (by
    obtain ⟨n, e, h1, h2, h3, Inv, i0, turn, done⟩ := p.get
    exact ⟨n, e, h1, h2, h3, fun i es G => Hold (Inv i es G), .a i0, fun i es G hi hG => turn i es G hi hG.get, fun es G hG => done es G hG.get⟩)
theorem wt_yes {Q : Bool → List Sl → Prop} (p : Q true Γ) : WT K tYes Γ Q := fun σ B H E R q => q true B H Γ (.refl E) p
end
/-- an owned list is data from now on -/
theorem ws_frz {K : PySem.W.Frag} {pin : List Nat} {Γ : List Sl} {P : Ps} {t : TS} (i : Nat) {ds : List Dt} (h : Γ[i]? = some (.acc ds)) (k : WS K pin t (Γ.set i (.val (.lst ds))) P) : WS K pin t Γ P := fun σ B H D E n r b c => by
  obtain ⟨B', g⟩ := go_frz h E
  exact ws_from k g.s n r b c
/-- sum of a list of ints -/
theorem we_sum {K : PySem.W.Frag} {Γ : List Sl} {Post : Re → List Sl → Prop} {te : TE} (h : WE K te Γ fun r Γ1 => Hold (∃ ns : List Int, lstOf Γ1 r = some (ns.map Dt.int) ∧ Post (.val (.int ns.sum)) Γ1)) : WE K (tCB (rSum K) (tCons te tNil)) Γ Post :=
  we_cb1 (we_mono h fun r Γ1 hp => fun σ B H x E kx Q q => by
    obtain ⟨ns, hs, p⟩ := hp.get
    obtain ⟨a, vs, rfl, hq, ha⟩ := rv_lst E kx hs
    have e : vs = ns.map V.int := IsA.rawsI (xs := ns.map V.int) (by rw [List.map_map]; exact ha)
    subst e
    exact ⟨a, ns, rfl, hq, q _ B H _ Γ1 (.refl E) (.raw _) p⟩)
/-! environments written out -/
def NormP (Γ : List Sl) (Q : List Sl → Prop) : Prop := Q Γ
theorem norm_intro {Γ Γ' : List Sl} {Q : List Sl → Prop} (e : Γ = Γ') (h : Q Γ') : NormP Γ Q := by
  subst e
  exact h
theorem norm_cons {a a' : Sl} {Γ Γt Γt' : List Sl} (e : Γ = a :: Γt) (ea : a = a') (et : Γt = Γt') : Γ = a' :: Γt' := by
  subst ea et
  exact e
theorem norm_v {d : Dt} : slOf (.val d) = .val d := rfl
theorem norm_n {ds : List Dt} : slOf (.new ds) = .acc ds := rfl
theorem norm_o {i : Nat} : slOf (.own i) = .un := rfl
theorem ws_asgN {K : PySem.W.Frag} {pin : List Nat} {Γ : List Sl} {P : Ps} {te : TE} {i : Nat} (hp : pin.contains i = false) (hi : decide (i < Γ.length) = true) (h : WE K te Γ fun z Γ1 => NormP (Γ1.set i (slOf z)) P.nx) : WS K pin (tAsg te (gName i)) Γ P := ws_asg hp hi h
theorem wg_nameN {K : PySem.W.Frag} {pin : List Nat} {Γ : List Sl} {i : Nat} {d : Dt} {Q : List Sl → Prop} (hp : pin.contains i = false) (hi : decide (i < Γ.length) = true) (p : NormP (Γ.set i (.val d)) Q) : WG K pin (gName i) d Γ Q := wg_name hp hi p
theorem we_appendN {K : PySem.W.Frag} {Γ : List Sl} {te : TE} {i : Nat} {ds0 : List Dt} {Post : Re → List Sl → Prop} (h0 : Γ[i]? = some (.acc ds0)) (h : WE K te Γ fun z Γ1 => ∃ d ds, z.dt? = some d ∧ Γ1[i]? = some (.acc ds) ∧ ds.length < 1000000 ∧ NormP (Γ1.set i (.acc (ds ++ [d]))) (Post (.val .non))) :
    WE K (tBM K "list" rAppend (tVar i) (tCons te tNil)) Γ Post := we_append h0 h
theorem ws_setN {K : PySem.W.Frag} {pin : List Nat} {Γ : List Sl} {P : Ps} {te tj : TE} {i : Nat} (h : WE K te Γ fun z Γ1 => ∃ d, z = .val d ∧ (∃ ds1, Γ1[i]? = some (.acc ds1)) ∧ WE K tj Γ1 fun y Γ2 => ∃ ds k j, y = .val (.int k) ∧ Γ2[i]? = some (.acc ds) ∧ ixN ds.length k = some j ∧ NormP (Γ2.set i (.acc (ds.set j d))) P.nx) :
    WS K pin (tAsg te (gSub (tVar i) tj rSetL)) Γ P := ws_setA h
theorem we_reverseN {K : PySem.W.Frag} {Γ : List Sl} {i : Nat} {ds : List Dt} {Post : Re → List Sl → Prop} (h0 : Γ[i]? = some (.acc ds)) (p : NormP (Γ.set i (.acc ds.reverse)) (Post (.val .non))) : WE K (tBM0 K "list" rReverse (tVar i)) Γ Post := we_reverse h0 p
theorem ws_augN {K : PySem.W.Frag} {pin : List Nat} {Γ : List Sl} {P : Ps} {te : TE} {i : Nat} {f : Int → Int → Int} {a : Int} (hx : Γ[i]? = some (.val (.int a))) (hp : pin.contains i = false) (h : WE K te Γ fun z Γ1 => ∃ b, z = .val (.int b) ∧ NormP (Γ1.set i (.val (.int (f a b)))) P.nx) : WS K pin (tAug i te (ipI f)) Γ P := ws_aug hx hp h
theorem we_popAtN {K : PySem.W.Frag} {Γ : List Sl} {te : TE} {i : Nat} {ds0 : List Dt} {Post : Re → List Sl → Prop} (h0 : Γ[i]? = some (.acc ds0)) (h : WE K te Γ fun z Γ1 => ∃ ds k j d, z = .val (.int k) ∧ Γ1[i]? = some (.acc ds) ∧ -(2 ^ 63) ≤ k ∧ k < 2 ^ 63 ∧ seqIndex? k ds.length = some j ∧ ds[j]? = some d ∧ NormP (Γ1.set i (.acc (ds.eraseIdx j))) (Post (.val d))) :
    WE K (tBM K "list" rPopAt (tVar i) (tCons te tNil)) Γ Post := we_popAt h0 h
theorem we_callH {K : PySem.W.Frag} {Γ : List Sl} {Post : Re → List Sl → Prop} {ap : AP} {E0 : XK} {ta : TA} (h : WA K ta Γ fun rs Γ1 => nodupB (ownsOf rs) = true ∧ Hold (ap (rs.map (argSl Γ1)) fun r as' => NormP (putBack rs as' Γ1) (Post r))) : WE K (tCall (toSp K ap) [] E0 ta) Γ Post :=
  we_call fun σ B H E Q q => h σ B H E Q fun vs B' H' rs Γ1 g k p => q vs B' H' rs Γ1 g k ⟨p.1, p.2.get⟩
theorem nd_t {c : Prop} [Decidable c] (h : (!decide c) = true) : ¬ c := by
  intro hc
  rw [decide_eq_true hc] at h
  cases h
theorem nd_f {c : Prop} [Decidable c] (h : (!decide c) = false) : c := by
  by_cases hc : c
  · exact hc
  · rw [decide_eq_false hc] at h; cases h
theorem len_map {α β : Type} (f : α → β) (xs : List α) : ((xs.map f).length : Int) = (xs.length : Int) := by rw [List.length_map]
theorem at_map {α β : Type} {f : α → β} {xs : List α} {k : Int} (h0 : 0 ≤ k) (h1 : k < xs.length) (d : α) : atI (xs.map f) k = some (f (xs.getD k.toNat d)) := by
  refine atI_of (j := k.toNat) (by omega) ?_
  rw [List.getElem?_map, List.getD_eq_getElem?_getD, List.getElem?_eq_getElem (by omega)]
  rfl
/-! ### == of plain data: ints, texts, None, tuples and lists of them; no bools -/
mutual
def plain : Dt → Bool
  | .raw .non => true
  | .raw (.int _) => true
  | .raw (.str s) => PyData.canLay0 (.str s)
  | .raw _ => false
  | .tup ds => plainAll ds
  | .lst ds => plainAll ds
  | .obj _ _ => false
  | .scr _ => false
def plainAll : List Dt → Bool
  | [] => true
  | d :: ds => plain d && plainAll ds
end
theorem eqv_pair {a b c d : Int} : PyData.eqv (.tuple [.int a, .int b]) (.tuple [.int c, .int d]) = decide (a = c ∧ b = d) := by
  simp only [PyData.eqv, PyData.eqvAll, Bool.and_true]
  rw [Bool.eq_iff_iff]
  simp
theorem shaped_pair {a b : Int} : SeqAt.shaped (.tuple [.int a, .int b]) = true := by
  simp [SeqAt.shaped, PyData.canLay0, PyData.canLayAll0, PyData.depth, PyData.depthAll]
theorem py_pair {Γ : List Sl} {a b : Int} : Re.py Γ (.val (.tup [.int a, .int b])) = some (.tuple [.int a, .int b]) := by
  simp [Re.py, Dt.py, pyAll]
theorem eqp_pair {Γ : List Sl} {Post : Re → List Sl → Prop} {neg : Bool} {a b c d : Int} (k : Post (.val (.bl (neg ^^ decide (a = c ∧ b = d)))) Γ) : EqP neg (.val (.tup [.int a, .int b])) (.val (.tup [.int c, .int d])) Γ Post :=
  eqp_d py_pair py_pair shaped_pair shaped_pair (by rw [eqv_pair]; exact k)
end Ab
namespace Ab
open PySem L2
local macro_rules | `(tactic| walk_at "no") => `(tactic| first
  | exact fun h => Bool.noConfusion (show true = false from h)
  | exact fun h => Bool.noConfusion (show false = true from h)
  | exact fun h => absurd (of_decide_eq_true h) (by omega)
  | exact fun h => absurd (by omega) (of_decide_eq_false h)
  | exact fun h => absurd (by omega) (nd_t h)
  | exact fun h => absurd (nd_f h) (by omega)
  | fail "no")
local macro_rules | `(tactic| walk_at "kb") => `(tactic| first | exact kb_tt | exact kb_ll | exact kb_ii | exact kb_ib | exact kb_ss | exact kb_sb | exact kb_si | exact kb_tb | exact kb_ti | exact kb_ts | exact kb_tl | exact kb_lb | exact kb_li | exact kb_ls | exact kb_lt | exact kb_is | exact kb_it | exact kb_il | exact kb_st | exact kb_sl | exact kb_bb | exact kb_bi | exact kb_nb | exact kb_ni | exact kb_ns | exact kb_nt | exact kb_nl | exact kb_bs | exact kb_bt | exact kb_bl | fail "kb")
local macro_rules | `(tactic| walk_at "norm") => `(tactic| first
  | exact (rfl : _ = ([] : List Sl))
  | ((refine' norm_cons (rfl : _ = _ :: _) ?ea ?et); (case ea => first | exact norm_v | exact norm_n | exact norm_o | exact rfl | fail "norm"); (case et => walk_at "norm"))
  | fail "norm")
local macro_rules | `(tactic| walk_at "x") => `(tactic| first
  | ((with_reducible refine' norm_intro ?hn ?_); (case hn => walk_at "norm"))
  | ((with_reducible refine' we_var ?hh ?_); (case hh => exact rfl))
  | ((with_reducible refine' we_own ?hh ?_); (case hh => exact rfl))
  | with_reducible refine we_c ?_
  | with_reducible refine we_addG ?_
  | with_reducible refine addp_i ?_
  | with_reducible refine we_opI0 ?_
  | with_reducible refine we_opI ?_
  | with_reducible refine we_mulG ?_
  | ((with_reducible refine' mulp_r ?h1 ?_); (case h1 => first | decide | omega | fail "m"))
  | ((with_reducible refine' mulp_l ?h1 ?_); (case h1 => first | decide | omega | fail "m"))
  | with_reducible refine we_neg ?_
  | with_reducible refine we_ltG ?_
  | with_reducible refine ltp_i ?_
  | with_reducible refine we_eqG ?_
  | with_reducible refine we_neG ?_
  | with_reducible refine eqp_i ?_
  | with_reducible refine nep_i ?_
  | with_reducible refine we_ixG ?_
  | ((with_reducible refine' ixp ?h1 ?h2 ?_); (case h1 => exact rfl); (case h2 => exact rfl))
  | with_reducible refine we_lenG ?_
  | ((with_reducible refine' lenp ?hh ?_); (case hh => exact rfl))
  | with_reducible refine we_intG ?_
  | with_reducible refine intp_i ?_
  | with_reducible refine intp_b ?_
  | with_reducible refine we_abs ?_
  | with_reducible refine we_tup ?_
  | with_reducible refine we_lst ?_
  | with_reducible refine we_tuple ?_
  | with_reducible refine we_list ?_
  | with_reducible refine we_sum ?_
  | with_reducible refine we_max2 ?_
  | with_reducible refine we_min2 ?_
  | with_reducible refine wd_cons ?_
  | with_reducible refine wd_nil ?_
  | with_reducible refine wa_cons ?_
  | with_reducible refine wa_nil ?_
  | with_reducible refine we_callH ?_
  | with_reducible refine we_isiG ?_
  | ((with_reducible refine' isi_own ?h1 ?h2 ?_); (case h1 => exact rfl); (case h2 => walk_at "kb"))
  | ((with_reducible refine' isi_val ?h1 ?h2 ?_); (case h1 => exact rfl); (case h2 => walk_at "kb"))
  | ((with_reducible refine' isi_new ?h2 ?_); (case h2 => walk_at "kb"))
  | with_reducible refine we_chainI ?_
  | with_reducible refine we_andV ?_
  | with_reducible refine we_orV ?_
  | with_reducible refine we_notV ?_
  | with_reducible refine wt_test ?_
  | with_reducible refine wt_B ?_
  | with_reducible refine wt_yes ?_
  | with_reducible refine wt_and ?_
  | with_reducible refine wt_or ?_
  | with_reducible refine wt_not ?_
  | ((with_reducible refine' ws_retA ?hh ?_); (case hh => exact rfl))
  | with_reducible refine ws_ret ?_
  | with_reducible refine ws_if ?_
  | with_reducible refine ws_nil ?_
  | with_reducible refine ws_expr ?_
  | with_reducible refine ws_asgN rfl rfl ?_
  | with_reducible refine ws_setN ?_
  | with_reducible refine ws_asgG ?_
  | ((with_reducible refine' wg_tup ?hh ?_); (case hh => exact rfl))
  | with_reducible refine wgs_cons ?_
  | with_reducible refine wgs_nil ?_
  | with_reducible refine wg_nameN rfl rfl ?_
  | ((with_reducible refine' we_appendN ?hh ?_); (case hh => exact rfl))
  | ((with_reducible refine' we_reverseN ?hh ?_); (case hh => exact rfl))
  | ((with_reducible refine' ws_augN ?h1 ?h2 ?_); (case h1 => exact rfl); (case h2 => exact rfl))
  | (refine ⟨_, rfl, ⟨_, rfl⟩, ?_⟩)
  | (refine ⟨_, rfl, ?_⟩)
  | (refine ⟨_, _, _, rfl, rfl, rfl, ?_⟩)
  | (refine ⟨_, _, rfl, rfl, (Nat.le_of_ble_eq_true rfl : _ ≤ _), ?_⟩)
  | (refine ⟨_, _, rfl, rfl, ?_⟩)
  | (refine ⟨(Nat.le_of_ble_eq_true rfl : _ ≤ _), ?_⟩)
  | (refine ⟨(rfl : _ = true), ?_⟩)
  | ((refine' ⟨fun _ => ?_, fun hY => absurd hY ?k2⟩); (case k2 => walk_at "no"))
  | ((refine' ⟨fun hY => absurd hY ?k2, fun _ => ?_⟩); (case k2 => walk_at "no"))
  | (refine ⟨⟨(by omega), (by omega)⟩, ?_⟩)
  | (refine ⟨⟨(by decide), (by decide), (by decide)⟩, ?_⟩)
  | (refine ⟨(by first | decide | omega | fail "c"), ?_⟩)
  | fail "stop")
local macro_rules | `(tactic| walk_at "e") => `(tactic| first | with_reducible refine ws_seq ?_ | walk_at "x" | fail "stop")
local macro_rules | `(tactic| walk_at "xs") => `(tactic| repeat' walk_at "x")
local macro_rules | `(tactic| walk_at "es") => `(tactic| repeat' walk_at "e")
/-! ### the laws' pools: five numbers (PoolIs) or four (Pool4) -/
def PoolIs (c : Int) (ds : List Dt) : Prop := ∃ cell flag seed : Int, ds = [.int cell, .int c, .int flag, .int seed, .int 3] ∧ 0 ≤ cell ∧ 0 ≤ seed ∧ seed < 2147483647
def Pool4 (c : Int) (ds : List Dt) : Prop := ∃ cell flag seed : Int, ds = [.int cell, .int c, .int flag, .int seed] ∧ 0 ≤ cell ∧ 0 ≤ seed ∧ seed < 2147483647
def ap_pool : AP := fun as Post => ∃ (ns : List Int) (k : Int), as = [.val (.scr ns), .val (.int k)] ∧ 0 ≤ k ∧ k < 1000000 ∧ ∀ ds, PoolIs 0 ds → Post (.new ds) as
def ap_pool4 : AP := fun as Post => ∃ (ns : List Int) (k : Int), as = [.val (.scr ns), .val (.int k)] ∧ 0 ≤ k ∧ k < 1000000 ∧ ∀ ds, Pool4 0 ds → Post (.new ds) as
def ap_take : AP := fun as Post => ∃ ds c n, as = [.acc ds, .val (.int n)] ∧ PoolIs c ds ∧ 0 ≤ c ∧ c < 1000000000 ∧ 0 < n ∧ n < 18446744073709551616 ∧ ∀ ds' g, PoolIs (c + 1) ds' → 0 ≤ g → g < n → Post (.val (.int g)) [.acc ds', .val (.int n)]
def ap_take4 : AP := fun as Post => ∃ ds c n, as = [.acc ds, .val (.int n)] ∧ Pool4 c ds ∧ 0 ≤ c ∧ c < 1000000000 ∧ 0 < n ∧ n < 18446744073709551616 ∧ ∀ ds' g, Pool4 (c + 1) ds' → 0 ≤ g → g < n → Post (.val (.int g)) [.acc ds', .val (.int n)]
theorem len_pool (as : List Sl) (Post : Re → List Sl → Prop) (h : ap_pool as Post) : as.length = 2 := by obtain ⟨ns, k, rfl, _⟩ := h; rfl
theorem len_pool4 (as : List Sl) (Post : Re → List Sl → Prop) (h : ap_pool4 as Post) : as.length = 2 := by obtain ⟨ns, k, rfl, _⟩ := h; rfl
theorem len_take (as : List Sl) (Post : Re → List Sl → Prop) (h : ap_take as Post) : as.length = 2 := by obtain ⟨ds, c, n, rfl, _⟩ := h; rfl
theorem len_take4 (as : List Sl) (Post : Re → List Sl → Prop) (h : ap_take4 as Post) : as.length = 2 := by obtain ⟨ds, c, n, rfl, _⟩ := h; rfl
def tPool (K : PySem.W.Frag) : TS :=
    (tSeq (tAsg (tC (.int 0)) (gName 2))
    (tSeq (tIfS (tTest (tOp (rLtG K) (tVar 1) (tCB (rLenV K) (tCons (tVar 0) tNil)))) (tAsg (tCB rAbs (tCons (tCB rInt1 (tCons (tOp (rIx K) (tVar 0) (tVar 1)) tNil)) tNil)) (gName 2)) tNext)
    (tRet (tLst (tCons (tVar 2) (tCons (tC (.int 0)) (tCons (tCB rInt1 (tCons (tOp rGeI (tVar 2) (tOp rPowI (tC (.int 10)) (tC (.int 18)))) tNil)) (tCons (tOp rModI (tCB rInt1 (tCons (tOp (rAddG K) (tVar 2) (tOp (rMulG K) (tVar 1) (tC (.int 7919)))) tNil)) (tC (.int 2147483647))) (tCons (tC (.int 3)) tNil)))))))))
def tPool4 (K : PySem.W.Frag) : TS :=
    (tSeq (tAsg (tC (.int 0)) (gName 2))
    (tSeq (tIfS (tTest (tOp (rLtG K) (tVar 1) (tCB (rLenV K) (tCons (tVar 0) tNil)))) (tAsg (tCB rAbs (tCons (tCB rInt1 (tCons (tOp (rIx K) (tVar 0) (tVar 1)) tNil)) tNil)) (gName 2)) tNext)
    (tRet (tLst (tCons (tVar 2) (tCons (tC (.int 0)) (tCons (tCB rInt1 (tCons (tOp rGeI (tVar 2) (tOp rPowI (tC (.int 10)) (tC (.int 18)))) tNil)) (tCons (tOp rModI (tCB rInt1 (tCons (tOp (rAddG K) (tVar 2) (tOp (rMulG K) (tVar 1) (tC (.int 7919)))) tNil)) (tC (.int 2147483647))) tNil))))))))
def tTakeA (K : PySem.W.Frag) : TS :=
    (tSeq (tAsg (tOp (rAddG K) (tOp (rIx K) (tVar 0) (tC (.int 1))) (tC (.int 1))) (gSub (tVar 0) (tC (.int 1)) rSetL))
    (tSeq (tIfS (tTest (tOp (rEqG K) (tOp (rIx K) (tVar 0) (tC (.int 2))) (tC (.int 1)))) (tSeq (tAsg (tOp rModI (tCB rInt1 (tCons (tOp (rIx K) (tVar 0) (tC (.int 0))) tNil)) (tVar 1)) (gName 2))
    (tSeq (tAsg (tOp rDivI (tOp (rIx K) (tVar 0) (tC (.int 0))) (tVar 1)) (gSub (tVar 0) (tC (.int 0)) rSetL))
    (tRet (tVar 2)))) tNext)
    (tSeq (tAsg (tOp rModI (tCB rInt1 (tCons (tOp (rAddG K) (tOp (rAddG K) (tOp (rMulG K) (tOp (rIx K) (tVar 0) (tC (.int 3))) (tC (.int 48271))) (tOp (rMulG K) (tOp (rIx K) (tVar 0) (tC (.int 1))) (tC (.int 69621)))) (tC (.int 11))) tNil)) (tC (.int 2147483647))) (gName 3))
    (tSeq (tAsg (tOp rModI (tCB rInt1 (tCons (tOp (rAddG K) (tOp (rAddG K) (tOp (rMulG K) (tVar 3) (tC (.int 16807))) (tOp rDivI (tVar 3) (tC (.int 65536)))) (tOp (rMulG K) (tOp (rMulG K) (tOp (rIx K) (tVar 0) (tC (.int 1))) (tOp (rIx K) (tVar 0) (tC (.int 1)))) (tC (.int 40692)))) tNil)) (tC (.int 2147483399))) (gName 4))
    (tRet (tOp rModI (tCB rInt1 (tCons (tOp rDivI (tVar 4) (tOp (rAddG K) (tOp (rIx K) (tVar 0) (tC (.int 1))) (tC (.int 6)))) tNil)) (tVar 1)))))))
def tTakeB (K : PySem.W.Frag) : TS :=
    (tSeq (tAsg (tOp (rAddG K) (tOp (rIx K) (tVar 0) (tC (.int 1))) (tC (.int 1))) (gSub (tVar 0) (tC (.int 1)) rSetL))
    (tSeq (tIfS (tAnd (tTest (tOp (rEqG K) (tOp (rIx K) (tVar 0) (tC (.int 2))) (tC (.int 1)))) (tTest (tOp rGtI (tOp (rIx K) (tVar 0) (tC (.int 0))) (tC (.int 0))))) (tSeq (tAsg (tOp rModI (tCB rInt1 (tCons (tOp (rIx K) (tVar 0) (tC (.int 0))) tNil)) (tVar 1)) (gName 2))
    (tSeq (tAsg (tOp rDivI (tOp (rIx K) (tVar 0) (tC (.int 0))) (tVar 1)) (gSub (tVar 0) (tC (.int 0)) rSetL))
    (tRet (tVar 2)))) tNext)
    (tSeq (tAsg (tOp rModI (tCB rInt1 (tCons (tOp (rAddG K) (tOp (rAddG K) (tOp (rMulG K) (tOp (rIx K) (tVar 0) (tC (.int 3))) (tC (.int 48271))) (tOp (rMulG K) (tOp (rIx K) (tVar 0) (tC (.int 1))) (tC (.int 69621)))) (tC (.int 11))) tNil)) (tC (.int 2147483647))) (gName 3))
    (tSeq (tAsg (tOp rModI (tCB rInt1 (tCons (tOp (rAddG K) (tOp (rAddG K) (tOp (rMulG K) (tVar 3) (tC (.int 16807))) (tOp rDivI (tVar 3) (tC (.int 65536)))) (tOp (rMulG K) (tOp (rMulG K) (tOp (rIx K) (tVar 0) (tC (.int 1))) (tOp (rIx K) (tVar 0) (tC (.int 1)))) (tC (.int 40692)))) tNil)) (tC (.int 2147483399))) (gName 4))
    (tRet (tOp rModI (tCB rInt1 (tCons (tOp rDivI (tVar 4) (tOp (rAddG K) (tOp (rIx K) (tVar 0) (tC (.int 1))) (tC (.int 6)))) tNil)) (tVar 1)))))))
def tTakeC (K : PySem.W.Frag) : TS :=
    (tSeq (tAsg (tOp (rAddG K) (tOp (rIx K) (tVar 0) (tC (.int 1))) (tC (.int 1))) (gSub (tVar 0) (tC (.int 1)) rSetL))
    (tSeq (tIfS (tTest (tOp (rEqG K) (tOp (rIx K) (tVar 0) (tC (.int 2))) (tC (.int 1)))) (tSeq (tAsg (tOp rModI (tCB rInt1 (tCons (tOp (rIx K) (tVar 0) (tC (.int 0))) tNil)) (tVar 1)) (gName 2))
    (tSeq (tAsg (tOp rDivI (tOp (rIx K) (tVar 0) (tC (.int 0))) (tVar 1)) (gSub (tVar 0) (tC (.int 0)) rSetL))
    (tRet (tVar 2)))) tNext)
    (tSeq (tAsg (tOp rModI (tCB rInt1 (tCons (tOp (rAddG K) (tOp (rAddG K) (tOp (rMulG K) (tOp (rIx K) (tVar 0) (tC (.int 3))) (tC (.int 48271))) (tOp (rMulG K) (tOp (rIx K) (tVar 0) (tC (.int 1))) (tC (.int 69621)))) (tC (.int 11))) tNil)) (tC (.int 2147483647))) (gName 3))
    (tSeq (tAsg (tOp rModI (tCB rInt1 (tCons (tOp (rAddG K) (tOp (rAddG K) (tOp (rMulG K) (tVar 3) (tC (.int 16807))) (tOp rDivI (tVar 3) (tC (.int 65536)))) (tOp (rMulG K) (tOp (rMulG K) (tOp (rIx K) (tVar 0) (tC (.int 1))) (tOp (rIx K) (tVar 0) (tC (.int 1)))) (tC (.int 40692)))) tNil)) (tC (.int 2147483399))) (gName 4))
    (tRet (tOp rModI (tCB rInt1 (tCons (tVar 4) tNil)) (tVar 1)))))))
def tTakeD (K : PySem.W.Frag) : TS :=
    (tSeq (tAsg (tOp (rAddG K) (tOp (rIx K) (tVar 0) (tC (.int 1))) (tC (.int 1))) (gSub (tVar 0) (tC (.int 1)) rSetL))
    (tSeq (tIfS (tAnd (tTest (tOp (rEqG K) (tOp (rIx K) (tVar 0) (tC (.int 2))) (tC (.int 1)))) (tTest (tOp rGtI (tOp (rIx K) (tVar 0) (tC (.int 0))) (tC (.int 0))))) (tSeq (tAsg (tOp rModI (tCB rInt1 (tCons (tOp (rIx K) (tVar 0) (tC (.int 0))) tNil)) (tVar 1)) (gName 2))
    (tSeq (tAsg (tOp rDivI (tOp (rIx K) (tVar 0) (tC (.int 0))) (tVar 1)) (gSub (tVar 0) (tC (.int 0)) rSetL))
    (tRet (tVar 2)))) tNext)
    (tSeq (tAsg (tOp rModI (tCB rInt1 (tCons (tOp (rAddG K) (tOp (rAddG K) (tOp (rMulG K) (tOp (rIx K) (tVar 0) (tC (.int 3))) (tC (.int 48271))) (tOp (rMulG K) (tOp (rIx K) (tVar 0) (tC (.int 1))) (tC (.int 69621)))) (tC (.int 11))) tNil)) (tC (.int 2147483647))) (gName 3))
    (tSeq (tAsg (tOp rModI (tCB rInt1 (tCons (tOp (rAddG K) (tOp (rAddG K) (tOp (rMulG K) (tVar 3) (tC (.int 16807))) (tOp rDivI (tVar 3) (tC (.int 65536)))) (tOp (rMulG K) (tOp (rMulG K) (tOp (rIx K) (tVar 0) (tC (.int 1))) (tOp (rIx K) (tVar 0) (tC (.int 1)))) (tC (.int 40692)))) tNil)) (tC (.int 2147483399))) (gName 4))
    (tRet (tOp rModI (tCB rInt1 (tCons (tVar 4) tNil)) (tVar 1)))))))
theorem run_tPool {K : PySem.W.Frag} (as : List Sl) (Post : Re → List Sl → Prop) (h : ap_pool as Post) : WS K [] (tPool K) (as ++ List.replicate (3 - as.length) .un) ⟨fun G => Post (.val .non) (exitArgs [] G as), fun r G => Post r (exitArgs [] G as), fun _ => False, fun _ => False⟩ := by
  obtain ⟨ns, k, rfl, h0, hk, p⟩ := h
  unfold tPool
  show WS K [] _ [.val (.scr ns), .val (.int k), .un] _
  walk_at "e"; walk_at "e"; walk_at "e"
  refine ws_cut (fun G => ∃ c : Int, 0 ≤ c ∧ G = [.val (.scr ns), .val (.int k), .val (.int c)]) ?_ ?_
  · walk_at "es"
    refine ⟨fun h1 => ?_, fun h1 => ?_⟩
    · have h1' := of_decide_eq_true h1
      rw [len_map] at h1'
      walk_at "es"
      refine ixp rfl (at_map h0 h1' 0) ?_
      walk_at "es"
      refine .a ⟨_, ?_, rfl⟩
      split <;> omega
    · walk_at "es"
      exact .a ⟨0, Int.le_refl _, rfl⟩
  · rintro G ⟨c, hc, rfl⟩
    walk_at "es"
    exact p _ ⟨_, _, _, rfl, hc, Int.emod_nonneg _ (by decide), Int.emod_lt_of_pos _ (by decide)⟩
theorem run_tPool4 {K : PySem.W.Frag} (as : List Sl) (Post : Re → List Sl → Prop) (h : ap_pool4 as Post) : WS K [] (tPool4 K) (as ++ List.replicate (3 - as.length) .un) ⟨fun G => Post (.val .non) (exitArgs [] G as), fun r G => Post r (exitArgs [] G as), fun _ => False, fun _ => False⟩ := by
  obtain ⟨ns, k, rfl, h0, hk, p⟩ := h
  unfold tPool4
  show WS K [] _ [.val (.scr ns), .val (.int k), .un] _
  walk_at "e"; walk_at "e"; walk_at "e"
  refine ws_cut (fun G => ∃ c : Int, 0 ≤ c ∧ G = [.val (.scr ns), .val (.int k), .val (.int c)]) ?_ ?_
  · walk_at "es"
    refine ⟨fun h1 => ?_, fun h1 => ?_⟩
    · have h1' := of_decide_eq_true h1
      rw [len_map] at h1'
      walk_at "es"
      refine ixp rfl (at_map h0 h1' 0) ?_
      walk_at "es"
      refine .a ⟨_, ?_, rfl⟩
      split <;> omega
    · walk_at "es"
      exact .a ⟨0, Int.le_refl _, rfl⟩
  · rintro G ⟨c, hc, rfl⟩
    walk_at "es"
    exact p _ ⟨_, _, _, rfl, hc, Int.emod_nonneg _ (by decide), Int.emod_lt_of_pos _ (by decide)⟩
theorem run_tTakeA {K : PySem.W.Frag} (as : List Sl) (Post : Re → List Sl → Prop) (h : ap_take as Post) : WS K [0] (tTakeA K) (as ++ List.replicate (5 - as.length) .un) ⟨fun G => Post (.val .non) (exitArgs [0] G as), fun r G => Post r (exitArgs [0] G as), fun _ => False, fun _ => False⟩ := by
  obtain ⟨ds, c, n, rfl, ⟨cell, flag, seed, rfl, hc, hs, hs2⟩, hc0, hc1, hn, hn2, p⟩ := h
  unfold tTakeA
  show WS K [0] _ [.acc _, .val (.int n), .un, .un, .un] _
  walk_at "es"
  refine ⟨fun h1 => ?_, fun h1 => ?_⟩
  · walk_at "es"
    exact p _ _ ⟨_, _, _, rfl, Int.ediv_nonneg hc (by omega), hs, hs2⟩ (Int.emod_nonneg _ (by omega)) (Int.emod_lt_of_pos _ hn)
  · walk_at "es"
    exact p _ _ ⟨_, _, _, rfl, hc, hs, hs2⟩ (Int.emod_nonneg _ (by omega)) (Int.emod_lt_of_pos _ hn)
theorem run_tTakeB {K : PySem.W.Frag} (as : List Sl) (Post : Re → List Sl → Prop) (h : ap_take as Post) : WS K [0] (tTakeB K) (as ++ List.replicate (5 - as.length) .un) ⟨fun G => Post (.val .non) (exitArgs [0] G as), fun r G => Post r (exitArgs [0] G as), fun _ => False, fun _ => False⟩ := by
  obtain ⟨ds, c, n, rfl, ⟨cell, flag, seed, rfl, hc, hs, hs2⟩, hc0, hc1, hn, hn2, p⟩ := h
  unfold tTakeB
  show WS K [0] _ [.acc _, .val (.int n), .un, .un, .un] _
  walk_at "e"; walk_at "e"; walk_at "e"; walk_at "e"; walk_at "e"; walk_at "e"; walk_at "e"; walk_at "e"; walk_at "e"; walk_at "e"; walk_at "e"; walk_at "e"
  refine ws_cut (fun G => G = [.acc [.int cell, .int (c + 1), .int flag, .int seed, .int 3], .val (.int n), .un, .un, .un]) ?_ ?_
  · walk_at "es"
    refine ⟨fun h1 => ?_, fun h1 => ?_⟩
    · walk_at "es"
      refine ⟨fun h2 => ?_, fun h2 => ?_⟩
      · walk_at "es"
        exact p _ _ ⟨_, _, _, rfl, Int.ediv_nonneg hc (by omega), hs, hs2⟩ (Int.emod_nonneg _ (by omega)) (Int.emod_lt_of_pos _ hn)
      · walk_at "es"
        exact .a rfl
    · walk_at "es"
      exact .a rfl
  · rintro G rfl
    walk_at "es"
    exact p _ _ ⟨_, _, _, rfl, hc, hs, hs2⟩ (Int.emod_nonneg _ (by omega)) (Int.emod_lt_of_pos _ hn)
theorem run_tTakeC {K : PySem.W.Frag} (as : List Sl) (Post : Re → List Sl → Prop) (h : ap_take as Post) : WS K [0] (tTakeC K) (as ++ List.replicate (5 - as.length) .un) ⟨fun G => Post (.val .non) (exitArgs [0] G as), fun r G => Post r (exitArgs [0] G as), fun _ => False, fun _ => False⟩ := by
  obtain ⟨ds, c, n, rfl, ⟨cell, flag, seed, rfl, hc, hs, hs2⟩, hc0, hc1, hn, hn2, p⟩ := h
  unfold tTakeC
  show WS K [0] _ [.acc _, .val (.int n), .un, .un, .un] _
  walk_at "es"
  refine ⟨fun h1 => ?_, fun h1 => ?_⟩
  · walk_at "es"
    exact p _ _ ⟨_, _, _, rfl, Int.ediv_nonneg hc (by omega), hs, hs2⟩ (Int.emod_nonneg _ (by omega)) (Int.emod_lt_of_pos _ hn)
  · walk_at "es"
    exact p _ _ ⟨_, _, _, rfl, hc, hs, hs2⟩ (Int.emod_nonneg _ (by omega)) (Int.emod_lt_of_pos _ hn)
theorem run_tTakeD4 {K : PySem.W.Frag} (as : List Sl) (Post : Re → List Sl → Prop) (h : ap_take4 as Post) : WS K [0] (tTakeD K) (as ++ List.replicate (5 - as.length) .un) ⟨fun G => Post (.val .non) (exitArgs [0] G as), fun r G => Post r (exitArgs [0] G as), fun _ => False, fun _ => False⟩ := by
  obtain ⟨ds, c, n, rfl, ⟨cell, flag, seed, rfl, hc, hs, hs2⟩, hc0, hc1, hn, hn2, p⟩ := h
  unfold tTakeD
  show WS K [0] _ [.acc _, .val (.int n), .un, .un, .un] _
  walk_at "e"; walk_at "e"; walk_at "e"; walk_at "e"; walk_at "e"; walk_at "e"; walk_at "e"; walk_at "e"; walk_at "e"; walk_at "e"; walk_at "e"; walk_at "e"
  refine ws_cut (fun G => G = [.acc [.int cell, .int (c + 1), .int flag, .int seed], .val (.int n), .un, .un, .un]) ?_ ?_
  · walk_at "es"
    refine ⟨fun h1 => ?_, fun h1 => ?_⟩
    · walk_at "es"
      refine ⟨fun h2 => ?_, fun h2 => ?_⟩
      · walk_at "es"
        exact p _ _ ⟨_, _, _, rfl, Int.ediv_nonneg hc (by omega), hs, hs2⟩ (Int.emod_nonneg _ (by omega)) (Int.emod_lt_of_pos _ hn)
      · walk_at "es"
        exact .a rfl
    · walk_at "es"
      exact .a rfl
  · rintro G rfl
    walk_at "es"
    exact p _ _ ⟨_, _, _, rfl, hc, hs, hs2⟩ (Int.emod_nonneg _ (by omega)) (Int.emod_lt_of_pos _ hn)
end Ab
namespace Ab
open PySem L2
local macro_rules | `(tactic| walk_at "no") => `(tactic| first
  | exact fun h => Bool.noConfusion (show true = false from h)
  | exact fun h => Bool.noConfusion (show false = true from h)
  | exact fun h => absurd (of_decide_eq_true h) (by omega)
  | exact fun h => absurd (by omega) (of_decide_eq_false h)
  | exact fun h => absurd (by omega) (nd_t h)
  | exact fun h => absurd (nd_f h) (by omega)
  | fail "no")
local macro_rules | `(tactic| walk_at "kb") => `(tactic| first | exact kb_tt | exact kb_ll | exact kb_ii | exact kb_ib | exact kb_ss | exact kb_sb | exact kb_si | exact kb_tb | exact kb_ti | exact kb_ts | exact kb_tl | exact kb_lb | exact kb_li | exact kb_ls | exact kb_lt | exact kb_is | exact kb_it | exact kb_il | exact kb_st | exact kb_sl | exact kb_bb | exact kb_bi | exact kb_nb | exact kb_ni | exact kb_ns | exact kb_nt | exact kb_nl | exact kb_bs | exact kb_bt | exact kb_bl | fail "kb")
local macro_rules | `(tactic| walk_at "norm") => `(tactic| first
  | exact (rfl : _ = ([] : List Sl))
  | ((refine' norm_cons (rfl : _ = _ :: _) ?ea ?et); (case ea => first | exact norm_v | exact norm_n | exact norm_o | exact rfl | fail "norm"); (case et => walk_at "norm"))
  | fail "norm")
local macro_rules | `(tactic| walk_at "e") => `(tactic| first
  | ((with_reducible refine' norm_intro ?hn ?_); (case hn => walk_at "norm"))
  | ((with_reducible refine' we_var ?hh ?_); (case hh => exact rfl))
  | ((with_reducible refine' we_own ?hh ?_); (case hh => exact rfl))
  | with_reducible refine we_c ?_
  | with_reducible refine we_addG ?_
  | with_reducible refine addp_i ?_
  | with_reducible refine we_opI0 ?_
  | with_reducible refine we_opI ?_
  | with_reducible refine we_mulG ?_
  | ((with_reducible refine' mulp_r ?h1 ?_); (case h1 => first | decide | omega | fail "m"))
  | ((with_reducible refine' mulp_l ?h1 ?_); (case h1 => first | decide | omega | fail "m"))
  | with_reducible refine we_neg ?_
  | with_reducible refine we_ltG ?_
  | with_reducible refine ltp_i ?_
  | with_reducible refine we_eqG ?_
  | with_reducible refine we_neG ?_
  | with_reducible refine eqp_i ?_
  | with_reducible refine nep_i ?_
  | with_reducible refine we_ixG ?_
  | ((with_reducible refine' ixp ?h1 ?h2 ?_); (case h1 => exact rfl); (case h2 => exact rfl))
  | with_reducible refine we_lenG ?_
  | ((with_reducible refine' lenp ?hh ?_); (case hh => exact rfl))
  | with_reducible refine we_intG ?_
  | with_reducible refine intp_i ?_
  | with_reducible refine intp_b ?_
  | with_reducible refine we_abs ?_
  | with_reducible refine we_tup ?_
  | with_reducible refine we_lst ?_
  | with_reducible refine we_tuple ?_
  | with_reducible refine we_list ?_
  | with_reducible refine we_sum ?_
  | with_reducible refine we_max2 ?_
  | with_reducible refine we_min2 ?_
  | with_reducible refine wd_cons ?_
  | with_reducible refine wd_nil ?_
  | with_reducible refine wa_cons ?_
  | with_reducible refine wa_nil ?_
  | with_reducible refine we_callH ?_
  | with_reducible refine we_isiG ?_
  | ((with_reducible refine' isi_own ?h1 ?h2 ?_); (case h1 => exact rfl); (case h2 => walk_at "kb"))
  | ((with_reducible refine' isi_val ?h1 ?h2 ?_); (case h1 => exact rfl); (case h2 => walk_at "kb"))
  | ((with_reducible refine' isi_new ?h2 ?_); (case h2 => walk_at "kb"))
  | with_reducible refine we_chainI ?_
  | with_reducible refine we_andV ?_
  | with_reducible refine we_orV ?_
  | with_reducible refine we_notV ?_
  | with_reducible refine wt_test ?_
  | with_reducible refine wt_B ?_
  | with_reducible refine wt_yes ?_
  | with_reducible refine wt_and ?_
  | with_reducible refine wt_or ?_
  | with_reducible refine wt_not ?_
  | with_reducible refine ws_seq ?_
  | ((with_reducible refine' ws_retA ?hh ?_); (case hh => exact rfl))
  | with_reducible refine ws_ret ?_
  | with_reducible refine ws_if ?_
  | with_reducible refine ws_nil ?_
  | with_reducible refine ws_expr ?_
  | with_reducible refine ws_asgN rfl rfl ?_
  | with_reducible refine ws_setN ?_
  | with_reducible refine ws_asgG ?_
  | ((with_reducible refine' wg_tup ?hh ?_); (case hh => exact rfl))
  | with_reducible refine wgs_cons ?_
  | with_reducible refine wgs_nil ?_
  | with_reducible refine wg_nameN rfl rfl ?_
  | ((with_reducible refine' we_appendN ?hh ?_); (case hh => exact rfl))
  | ((with_reducible refine' we_reverseN ?hh ?_); (case hh => exact rfl))
  | ((with_reducible refine' ws_augN ?h1 ?h2 ?_); (case h1 => exact rfl); (case h2 => exact rfl))
  | (refine ⟨_, rfl, ⟨_, rfl⟩, ?_⟩)
  | (refine ⟨_, rfl, ?_⟩)
  | (refine ⟨_, _, _, rfl, rfl, rfl, ?_⟩)
  | (refine ⟨_, _, rfl, rfl, (Nat.le_of_ble_eq_true rfl : _ ≤ _), ?_⟩)
  | (refine ⟨_, _, rfl, rfl, ?_⟩)
  | (refine ⟨(Nat.le_of_ble_eq_true rfl : _ ≤ _), ?_⟩)
  | (refine ⟨(rfl : _ = true), ?_⟩)
  | ((refine' ⟨fun _ => ?_, fun hY => absurd hY ?k2⟩); (case k2 => walk_at "no"))
  | ((refine' ⟨fun hY => absurd hY ?k2, fun _ => ?_⟩); (case k2 => walk_at "no"))
  | (refine ⟨⟨(by omega), (by omega)⟩, ?_⟩)
  | (refine ⟨⟨(by decide), (by decide), (by decide)⟩, ?_⟩)
  | (refine ⟨(by first | decide | omega | fail "c"), ?_⟩)
  | fail "stop")
local macro_rules | `(tactic| walk_at "es") => `(tactic| repeat' walk_at "e")
/-! ### x is None -/
def isNonR : Re → Bool
  | .val (.raw v) => decide (v = .non)
  | _ => false
theorem we_isN {K : PySem.W.Frag} {Γ : List Sl} {Post : Re → List Sl → Prop} {ta : TE} (h : WE K ta Γ fun r Γ1 => Post (.val (.bl (isNonR r))) Γ1) : WE K (tIsN ta) Γ Post := fun σ B H E Q q => by
  refine h σ B H E _ fun x B1 H1 r Γ1 g k p => ?_
  have e : decide (x = V.non) = isNonR r := by
    cases r with
    | val d =>
      cases d with
      | raw v => cases Is.rawI k; rfl
      | tup ds => obtain ⟨a, xs, rfl, _⟩ := Is.tupR k; rfl
      | lst ds => obtain ⟨a, xs, rfl, _⟩ := Is.lstR k; rfl
      | obj C fs => cases k; rfl
      | scr ns => cases k; rfl
    | new ds => obtain ⟨l, vs, rfl, _⟩ := k; rfl
    | own i => obtain ⟨l, rfl, _⟩ := k; rfl
  rw [e]
  exact q _ B1 H1 _ Γ1 g (.raw _) p
theorem we_notN {K : PySem.W.Frag} {Γ : List Sl} {Post : Re → List Sl → Prop} {ta : TE} (h : WE K ta Γ fun r Γ1 => Post (.val (.bl (!isNonR r))) Γ1) : WE K (tNotN ta) Γ Post := fun σ B H E Q q => by
  refine h σ B H E _ fun x B1 H1 r Γ1 g k p => ?_
  have e : decide (x = V.non) = isNonR r := by
    cases r with
    | val d =>
      cases d with
      | raw v => cases Is.rawI k; rfl
      | tup ds => obtain ⟨a, xs, rfl, _⟩ := Is.tupR k; rfl
      | lst ds => obtain ⟨a, xs, rfl, _⟩ := Is.lstR k; rfl
      | obj C fs => cases k; rfl
      | scr ns => cases k; rfl
    | new ds => obtain ⟨l, vs, rfl, _⟩ := k; rfl
    | own i => obtain ⟨l, rfl, _⟩ := k; rfl
  rw [e]
  exact q _ B1 H1 _ Γ1 g (.raw _) p
local macro_rules | `(tactic| walk_at "e") => `(tactic| first | with_reducible refine we_isN ?_ | with_reducible refine we_notN ?_ | fail "is")
/-! ### _law_same: equal data are the same -/
mutual
def okD : Dt → Bool
  | .raw .non => true
  | .raw (.bl _) => true
  | .raw (.int _) => true
  | .raw (.str _) => true
  | .raw _ => false
  | .tup ds => decide (ds.length ≤ 1000000) && okAll ds
  | .lst ds => decide (ds.length ≤ 1000000) && okAll ds
  | .obj _ _ => false
  | .scr _ => false
def okAll : List Dt → Bool
  | [] => true
  | d :: ds => okD d && okAll ds
end
mutual
def depD : Dt → Nat
  | .raw _ => 0
  | .tup ds => depAll ds + 1
  | .lst ds => depAll ds + 1
  | .obj _ _ => 0
  | .scr _ => 0
def depAll : List Dt → Nat
  | [] => 0
  | d :: ds => max (depD d) (depAll ds)
end
theorem okAll_at : ∀ {ds : List Dt} {i : Nat} {d : Dt}, okAll ds = true → ds[i]? = some d → okD d = true
  | [], _, _, _, h => by simp at h
  | x :: r, 0, d, h, e => by
    rw [okAll, Bool.and_eq_true] at h
    simp at e; subst e; exact h.1
  | x :: r, i + 1, d, h, e => by
    rw [okAll, Bool.and_eq_true] at h
    exact okAll_at h.2 (by simpa using e)
theorem depAll_at : ∀ {ds : List Dt} {i : Nat} {d : Dt}, ds[i]? = some d → depD d ≤ depAll ds
  | [], _, _, h => by simp at h
  | x :: r, 0, d, e => by
    simp at e; subst e; rw [depAll]; omega
  | x :: r, i + 1, d, e => by
    have := depAll_at (ds := r) (i := i) (d := d) (by simpa using e)
    rw [depAll]; omega
def slDt : Sl → Option Dt
  | .val d => some d
  | .acc ds => some (.lst ds)
  | .un => none
def ap_same (n : Nat) : AP := fun as Post => ∃ s0 s1 d, as = [s0, s1] ∧ slDt s0 = some d ∧ slDt s1 = some d ∧ okD d = true ∧ depD d ≤ n ∧ Post (.val (.bl true)) [s0, s1]
theorem len_same {n : Nat} (as : List Sl) (Post : Re → List Sl → Prop) (h : ap_same n as Post) : as.length = 2 := by obtain ⟨s0, s1, d, rfl, _⟩ := h; rfl
def tSame (K : PySem.W.Frag) (ap__law_same : AP) : TS :=
    (tSeq (tIfS (tOr (tB (tCB (rIsi K) (tCons (tVar 0) (tCons (tC (.ty "bool")) tNil)))) (tB (tCB (rIsi K) (tCons (tVar 1) (tCons (tC (.ty "bool")) tNil))))) (tRet (tAndV (tCB (rIsi K) (tCons (tVar 0) (tCons (tC (.ty "bool")) tNil))) (tAndV (tCB (rIsi K) (tCons (tVar 1) (tCons (tC (.ty "bool")) tNil))) (tOp (rEqG K) (tVar 0) (tVar 1))))) tNext)
    (tSeq (tIfS (tAnd (tB (tCB (rIsi K) (tCons (tVar 0) (tCons (tC (.ty "int")) tNil)))) (tB (tCB (rIsi K) (tCons (tVar 1) (tCons (tC (.ty "int")) tNil))))) (tRet (tOp (rEqG K) (tVar 0) (tVar 1))) tNext)
    (tSeq (tIfS (tAnd (tB (tCB (rIsi K) (tCons (tVar 0) (tCons (tC (.ty "str")) tNil)))) (tB (tCB (rIsi K) (tCons (tVar 1) (tCons (tC (.ty "str")) tNil))))) (tRet (tOp (rEqG K) (tVar 0) (tVar 1))) tNext)
    (tSeq (tAsg (tAndV (tCB (rIsi K) (tCons (tVar 0) (tCons (tC (.ty "tuple")) tNil))) (tCB (rIsi K) (tCons (tVar 1) (tCons (tC (.ty "tuple")) tNil)))) (gName 2))
    (tSeq (tIfS (tOr (tB (tVar 2)) (tAnd (tB (tCB (rIsi K) (tCons (tVar 0) (tCons (tC (.ty "list")) tNil)))) (tB (tCB (rIsi K) (tCons (tVar 1) (tCons (tC (.ty "list")) tNil)))))) (tSeq (tIfS (tTest (tOp (rNeG K) (tCB (rLenV K) (tCons (tVar 0) tNil)) (tCB (rLenV K) (tCons (tVar 1) tNil)))) (tRet (tC (.bl false))) tNext)
    (tSeq (tFor (iRng1 (tCons (tCB (rLenV K) (tCons (tVar 0) tNil)) tNil)) (gName 3) (tIfS (tNot (tB (tCall (toSp K ap__law_same) [] E0 (tCons (tOp (rIx K) (tVar 0) (tVar 3)) (tCons (tOp (rIx K) (tVar 1) (tVar 3)) tNil))))) (tRet (tC (.bl false))) tNext))
    (tRet (tC (.bl true))))) tNext)
    (tRet (tAndV (tIsN (tVar 0)) (tIsN (tVar 1)))))))))
/-- what is asked of the calls within -/
def SameIn (n : Nat) (ap : AP) : Prop := ∀ d Post, okD d = true → depD d < n → Post (.val (.bl true)) [.val d, .val d] → ap [.val d, .val d] Post
theorem run_tSame {K : PySem.W.Frag} {n : Nat} {ap : AP} (hap : SameIn n ap) (as : List Sl) (Post : Re → List Sl → Prop) (h : ap_same n as Post) : WS K [0, 1] (tSame K ap) (as ++ List.replicate (4 - as.length) .un) ⟨fun G => Post (.val .non) (exitArgs [0, 1] G as), fun r G => Post r (exitArgs [0, 1] G as), fun _ => False, fun _ => False⟩ := by
  obtain ⟨s0, s1, d, rfl, h0, h1, ok, dp, p⟩ := h
  unfold tSame
  show WS K [0, 1] _ [s0, s1, .un, .un] _
  have acc0 : ∀ {s : Sl} {d : Dt}, slDt s = some d → s = .val d ∨ ∃ ds, d = .lst ds ∧ s = .acc ds := fun {s d} h => by
    cases s with
    | un => cases h
    | val e => cases h; exact .inl rfl
    | acc es => cases h; exact .inr ⟨es, rfl, rfl⟩
  have scal : ∀ v : V, d = .raw v → s0 = .val (.raw v) ∧ s1 = .val (.raw v) := fun v e => by
    subst e
    rcases acc0 h0 with rfl | ⟨ds, e, _⟩
    · rcases acc0 h1 with rfl | ⟨ds, e, _⟩
      · exact ⟨rfl, rfl⟩
      · cases e
    · cases e
  cases d with
  | obj C fs => simp [okD] at ok
  | scr ns => simp [okD] at ok
  | raw v =>
    obtain ⟨rfl, rfl⟩ := scal v rfl
    cases v with
    | non => walk_at "es"; exact p
    | bl b =>
      walk_at "es"
      refine eqp_s rfl ?_
      rw [decide_eq_true rfl]
      exact ⟨rfl, p⟩
    | int i =>
      walk_at "es"
      rw [decide_eq_true rfl]
      exact p
    | str x =>
      walk_at "es"
      refine eqp_s rfl ?_
      rw [decide_eq_true rfl]
      exact ⟨rfl, p⟩
    | byt b => simp [okD] at ok
    | flt b => simp [okD] at ok
    | ref a => simp [okD] at ok
    | ty t => simp [okD] at ok
  | tup ds =>
    rw [okD, Bool.and_eq_true, decide_eq_true_eq] at ok
    obtain ⟨hlen, ok⟩ := ok
    rw [depD] at dp
    have e0 : s0 = .val (.tup ds) := by
      rcases acc0 h0 with rfl | ⟨_, e, _⟩
      · rfl
      · cases e
    have e1 : s1 = .val (.tup ds) := by
      rcases acc0 h1 with rfl | ⟨_, e, _⟩
      · rfl
      · cases e
    subst e0 e1
    walk_at "es"
    refine for_range1 ds.length (fun i G => ∃ s3, G = [.val (.tup ds), .val (.tup ds), .val (.bl true), s3]) ?_ ?_ ?_
    · walk_at "es"
      exact .a ⟨rfl, by omega, by omega, _, rfl⟩
    · rintro i G hi ⟨s3, rfl⟩
      have hi' : i < ds.length := by omega
      have g := List.getElem?_eq_getElem hi'
      walk_at "es"
      refine ixp rfl (atI_of (j := i) rfl g) ?_
      walk_at "es"
      refine ixp rfl (atI_of (j := i) rfl g) ?_
      walk_at "es"
      refine .a (hap _ _ (okAll_at ok g) (by have := depAll_at g; omega) ?_)
      walk_at "es"
      exact .a ⟨_, rfl⟩
    · rintro G ⟨s3, rfl⟩
      walk_at "es"
      exact p
  | lst ds =>
    rw [okD, Bool.and_eq_true, decide_eq_true_eq] at ok
    obtain ⟨hlen, ok⟩ := ok
    rw [depD] at dp
    have e0 : s0 = .val (.lst ds) ∨ s0 = .acc ds := by
      rcases acc0 h0 with rfl | ⟨_, e, rfl⟩
      · exact .inl rfl
      · cases e; exact .inr rfl
    have e1 : s1 = .val (.lst ds) ∨ s1 = .acc ds := by
      rcases acc0 h1 with rfl | ⟨_, e, rfl⟩
      · exact .inl rfl
      · cases e; exact .inr rfl
    rcases e0 with rfl | rfl <;> rcases e1 with rfl | rfl
    · walk_at "es"
      refine for_range1 ds.length (fun i G => ∃ s3, G = [.val (.lst ds), .val (.lst ds), .val (.bl false), s3]) ?_ ?_ ?_
      · walk_at "es"
        exact .a ⟨rfl, by omega, by omega, _, rfl⟩
      · rintro i G hi ⟨s3, rfl⟩
        have hi' : i < ds.length := by omega
        have g := List.getElem?_eq_getElem hi'
        walk_at "es"
        refine ixp rfl (atI_of (j := i) rfl g) ?_
        walk_at "es"
        refine ixp rfl (atI_of (j := i) rfl g) ?_
        walk_at "es"
        refine .a (hap _ _ (okAll_at ok g) (by have := depAll_at g; omega) ?_)
        walk_at "es"
        exact .a ⟨_, rfl⟩
      · rintro G ⟨s3, rfl⟩
        walk_at "es"
        exact p
    · walk_at "es"
      refine for_range1 ds.length (fun i G => ∃ s3, G = [.val (.lst ds), .acc ds, .val (.bl false), s3]) ?_ ?_ ?_
      · walk_at "es"
        exact .a ⟨rfl, by omega, by omega, _, rfl⟩
      · rintro i G hi ⟨s3, rfl⟩
        have hi' : i < ds.length := by omega
        have g := List.getElem?_eq_getElem hi'
        walk_at "es"
        refine ixp rfl (atI_of (j := i) rfl g) ?_
        walk_at "es"
        refine ixp rfl (atI_of (j := i) rfl g) ?_
        walk_at "es"
        refine .a (hap _ _ (okAll_at ok g) (by have := depAll_at g; omega) ?_)
        walk_at "es"
        exact .a ⟨_, rfl⟩
      · rintro G ⟨s3, rfl⟩
        walk_at "es"
        exact p
    · walk_at "es"
      refine for_range1 ds.length (fun i G => ∃ s3, G = [.acc ds, .val (.lst ds), .val (.bl false), s3]) ?_ ?_ ?_
      · walk_at "es"
        exact .a ⟨rfl, by omega, by omega, _, rfl⟩
      · rintro i G hi ⟨s3, rfl⟩
        have hi' : i < ds.length := by omega
        have g := List.getElem?_eq_getElem hi'
        walk_at "es"
        refine ixp rfl (atI_of (j := i) rfl g) ?_
        walk_at "es"
        refine ixp rfl (atI_of (j := i) rfl g) ?_
        walk_at "es"
        refine .a (hap _ _ (okAll_at ok g) (by have := depAll_at g; omega) ?_)
        walk_at "es"
        exact .a ⟨_, rfl⟩
      · rintro G ⟨s3, rfl⟩
        walk_at "es"
        exact p
    · walk_at "es"
      refine for_range1 ds.length (fun i G => ∃ s3, G = [.acc ds, .acc ds, .val (.bl false), s3]) ?_ ?_ ?_
      · walk_at "es"
        exact .a ⟨rfl, by omega, by omega, _, rfl⟩
      · rintro i G hi ⟨s3, rfl⟩
        have hi' : i < ds.length := by omega
        have g := List.getElem?_eq_getElem hi'
        walk_at "es"
        refine ixp rfl (atI_of (j := i) rfl g) ?_
        walk_at "es"
        refine ixp rfl (atI_of (j := i) rfl g) ?_
        walk_at "es"
        refine .a (hap _ _ (okAll_at ok g) (by have := depAll_at g; omega) ?_)
        walk_at "es"
        exact .a ⟨_, rfl⟩
      · rintro G ⟨s3, rfl⟩
        walk_at "es"
        exact p
end Ab
set_option maxHeartbeats 2000000
namespace Ab
open PySem L2
/-! ### texts, constants of the module -/
def rJoin (K : PySem.W.Frag) : V → List V → Hp → VK → Prop := fun x xs H Q => ∃ a p, ∃ ys : List Str, x = .str a ∧ xs = [.ref p] ∧ (SqL K H p (ys.map V.str) ∨ SqT K H p (ys.map V.str)) ∧
  (ys.map (·.length)).sum + ys.length * a.length ≤ 16777216 ∧ Q (.str (Txt.join a ys)) H
theorem pe_joinR {X : Cx} {o e : Expr} {to te : TE} {apos pos : Pos} (ho : PE X o to) (he : PE X e te) (hs : starEach [e] X.env = [(false, eval e X.env)] := by rfl) (hbase : attributeBase o "join" X.env (eval o X.env) = eval o X.env := by rfl) (hline : (apos.endLine == pos.line) = true := by rfl) :
    PE X (.Call (.Attribute o "join" apos) [e] [] pos) (tM1 (rJoin X.K) to te) := pe_join ho he hs hbase hline
theorem rawsI_str {K : PySem.W.Frag} {B : Hp} {vs : List V} {ys : List Str} (h : IsA K B vs (ys.map Dt.str)) : vs = ys.map V.str := by
  have : ys.map Dt.str = (ys.map V.str).map Dt.raw := by rw [List.map_map]; rfl
  rw [this] at h
  exact h.rawsI
theorem we_join {K : PySem.W.Frag} {Γ : List Sl} {Post : Re → List Sl → Prop} {to te : TE} (h : WE K to Γ fun r Γ1 => ∃ a : Str, r = .val (.str a) ∧ WE K te Γ1 fun z Γ2 => Hold (∃ ys : List Str, lstOf Γ2 z = some (ys.map Dt.str) ∧ (ys.map (·.length)).sum + ys.length * a.length ≤ 16777216 ∧ Post (.val (.str (Txt.join a ys))) Γ2)) :
    WE K (tM1 (rJoin K) to te) Γ Post := fun σ B H E Q q => by
  refine h σ B H E _ fun x B1 H1 r Γ1 g1 k1 p1 => ?_
  obtain ⟨a, rfl, p1⟩ := p1
  cases Is.rawI k1
  refine ⟨⟨a, rfl⟩, ?_⟩
  refine p1 σ B1 H1 g1.env _ fun y B2 H2 z Γ2 g2 k2 p2 => ?_
  obtain ⟨ys, hl, hz, p⟩ := p2.get
  obtain ⟨b, vs, rfl, hq, ha⟩ := rv_lst g2.env k2.rv hl
  rw [rawsI_str ha] at hq
  exact ⟨a, b, ys, rfl, rfl, .inl hq, hz, q _ B2 H2 _ Γ2 (g1.trans g2) (.raw _) p⟩
/-- > of texts -/
def rGtS : R2 := fun x y H Q => ∃ i j : Str, x = .str i ∧ y = .str j ∧ Q (.bl (decide (j.cps.toList < i.cps.toList))) H
theorem op_gtS {X : Cx} : OpR X (compareOp .Gt) rGtS := op_gt_str
theorem we_gtS {K : PySem.W.Frag} {Γ : List Sl} {Post : Re → List Sl → Prop} {ta tb : TE} (h : WE K ta Γ fun ra Γ1 => WE K tb Γ1 fun rb Γ2 => ∃ s t : Str, ra = .val (.str s) ∧ rb = .val (.str t) ∧ Post (.val (.bl (decide (t.cps.toList < s.cps.toList)))) Γ2) : WE K (tOp rGtS ta tb) Γ Post :=
  we_two' (we_mono h fun ra Γ1 h1 => we_mono h1 fun rb Γ2 hp => fun σ B H x y E kx ky Q q => by
    obtain ⟨s, t, rfl, rfl, p⟩ := hp
    cases Is.rawI kx; cases Is.rawI ky
    exact ⟨s, t, rfl, rfl, q _ B H _ Γ2 (.refl E) (.raw _) p⟩)
/-- a tuple of the module -/
def KTup (K : PySem.W.Frag) (a : Addr) (xs : List V) : Prop := ∃ (o : Obj) (its : Array Value) (n : Nat), K.lookup a = some o ∧ o.cls = .type "tuple" ∧ o.data = .seq its n ∧ its.size ≤ sizeLine ∧ Vals xs its.toList
theorem we_ktup {K : PySem.W.Frag} {Γ : List Sl} {Post : Re → List Sl → Prop} {c : Addr} {xs : List V} (h : KTup K c xs) (p : Post (.val (.tup (xs.map Dt.raw))) Γ) : WE K (tC (.ref c)) Γ Post := fun σ B H E Q q => by
  have ha : IsA K B xs (xs.map Dt.raw) := IsA.raws
  exact q _ B H (.val _) Γ (.refl E) (Is.tup (.inr h) ha.len ha.at_) p
/-- xs.extend(e) -/
theorem we_extend {K : PySem.W.Frag} {Γ : List Sl} {te : TE} {i : Nat} {ds0 : List Dt} {Post : Re → List Sl → Prop} (h0 : Γ[i]? = some (.acc ds0)) (h : WE K te Γ fun z Γ1 => ∃ es ds, lstOf Γ1 z = some es ∧ z.isScr = false ∧ Γ1[i]? = some (.acc ds) ∧ ds.length + es.length ≤ 1000000 ∧ NormP (Γ1.set i (.acc (ds ++ es))) (Post (.val .non))) :
    WE K (tBM K "list" rExtend (tVar i) (tCons te tNil)) Γ Post := fun σ B H E Q q => by
  obtain ⟨l, vs, e0, e1, e2, k0⟩ := E.acc i ds0 h0
  refine ⟨.ref l, e0, .inl ⟨rfl, vs, .inl (.inl e1)⟩, ?_⟩
  refine h σ B H E _ fun y B1 H1 z Γ1 g k p => ?_
  obtain ⟨es, ds, hl, hs, hi, hz, p⟩ := p
  obtain ⟨l', us, f0, f1, f2, k1⟩ := g.env.acc i ds hi
  rw [e0] at f0; cases f0
  obtain ⟨b, zs, rfl, hb, kz⟩ := rv_lstH g.env k.rv hl hs
  refine ⟨l, b, us, zs, rfl, rfl, f1, hb, Nat.le_trans (by rw [k1.len, kz.len]; exact hz) (by decide), ?_⟩
  have g2 := Go.put g.env hi e0 (k1.append kz)
  exact q .non B1 _ (.val .non) _ (g.trans g2) (Is.raw _) p
theorem at_lit {α : Type} {f : α → Dt} {xs : List α} {k : Int} (h0 : 0 ≤ k) (h1 : k < xs.length) : ∃ v, v ∈ xs ∧ atI (xs.map f) k = some (f v) := by
  have hl : k.toNat < xs.length := by omega
  exact ⟨xs[k.toNat], List.getElem_mem hl, atI_of (j := k.toNat) (by omega) (by rw [List.getElem?_map, List.getElem?_eq_getElem hl]; rfl)⟩
theorem cut_take {α : Type} {f : α → Dt} {xs : List α} {m : Nat} (h : m ≤ xs.length) : cutD (xs.map f) none (some (m : Int)) = (xs.take m).map f := by
  unfold cutD
  rw [HT.sIx_none, HT.sIx_nat, List.length_map, Nat.min_eq_left h, List.drop_zero, Nat.sub_zero, List.map_take]
theorem cut_take' {α : Type} {f : α → Dt} {xs : List α} (m : Nat) : cutD (xs.map f) none (some (m : Int)) = (xs.take m).map f := by
  unfold cutD
  rw [HT.sIx_none, HT.sIx_nat, List.length_map, List.drop_zero, Nat.sub_zero, ← List.map_take, ← List.length_map (f := f), List.map_take, List.map_take]
  by_cases h : m ≤ (xs.map f).length
  · rw [Nat.min_eq_left h]
  · rw [Nat.min_eq_right (by omega), List.take_length, List.take_of_length_le (by omega)]
theorem cut_drop {α : Type} {f : α → Dt} {xs : List α} {m : Nat} (h : m ≤ xs.length) : cutD (xs.map f) (some (m : Int)) none = (xs.drop m).map f := by
  unfold cutD
  rw [HT.sIx_none, HT.sIx_nat, List.length_map, Nat.min_eq_left h, ← List.map_drop, ← List.map_take]
  congr 1
  exact List.take_of_length_le (by rw [List.length_drop]; omega)
theorem cut_last {α : Type} {f : α → Dt} {xs : List α} : cutD (xs.map f) none (some (-1)) = xs.dropLast.map f := by
  unfold cutD
  rw [HT.sIx_none, List.drop_zero, Nat.sub_zero, List.length_map]
  have : HT.sIx xs.length xs.length (some (-1)) = xs.length - 1 := by
    show (if (-1 : Int) < 0 then ((-1 : Int) + (xs.length : Int)).toNat else min (-1 : Int).toNat xs.length) = _
    rw [if_pos (by omega)]
    omega
  rw [this, ← List.map_take, List.dropLast_eq_take]
end Ab
/-! instances as data: fields, methods, own operators, __init__ -/
namespace Ab
open PySem L2
section
variable {K : PySem.W.Frag} {B H : Hp} {v : V} {C : Addr} {gs : List (Str × Dt)}
theorem Is.objR (h : Is K B v (.obj C gs)) : ∃ a dx fs, v = .ref a ∧ B a = some (.ins C dx fs) ∧ (∀ f : Str, (fs.lookup f).isSome = (gs.lookup f).isSome) ∧ ∀ (f : Str) w d, fs.lookup f = some w → gs.lookup f = some d → Is K B w d := by
  cases h with
  | obj h hk hi => exact ⟨_, _, _, rfl, h, hk, hi⟩
theorem lk_none {f : Str} {fs : List (Str × V)} (hk : (fs.lookup f).isSome = (gs.lookup f).isSome) (h : gs.lookup f = none) : fs.lookup f = none := by
  rw [h] at hk
  cases q : fs.lookup f with
  | none => rfl
  | some w => rw [q] at hk; cases hk
theorem lk_some {f : Str} {fs : List (Str × V)} {d : Dt} (hk : (fs.lookup f).isSome = (gs.lookup f).isSome) (h : gs.lookup f = some d) : ∃ w, fs.lookup f = some w := by
  rw [h] at hk
  cases q : fs.lookup f with
  | none => rw [q] at hk; cases hk
  | some w => exact ⟨w, rfl⟩
end
section
variable {K : PySem.W.Frag} {Γ : List Sl} {Post : Re → List Sl → Prop} {ta tb te : TE}
/-- o.f -/
theorem we_fld {f : Str} {C : Addr} (cl : Cls K C) (na : NoAttr K C f) (h : WE K ta Γ fun r Γ1 => ∃ gs d, r = .val (.obj C gs) ∧ gs.lookup f = some d ∧ Post (.val d) Γ1) : WE K (tFld K ta f) Γ Post := fun σ B H E Q q => by
  refine h σ B H E _ fun x B1 H1 r Γ1 g1 k1 p1 => ?_
  obtain ⟨gs, d, rfl, hl, p⟩ := p1
  obtain ⟨a, dx, fs, rfl, hb, hk, hi⟩ := Is.objR k1
  obtain ⟨w, hw⟩ := lk_some (hk f) hl
  exact ⟨a, C, dx, fs, w, rfl, g1.env.bh _ _ hb, cl, na, hw, q w B1 H1 (.val d) Γ1 g1 (hi f w d hw hl) p⟩
theorem asOk_val {σ : L2.St} {m m' : Addr → Prop} {B' H H' : Hp} {vs : List V} {ds : List Dt} (h : IsA K B' vs ds) : AsOk K σ m m' B' H H' vs (ds.map Re.val) := by
  refine ⟨by rw [h.len, List.length_map], fun i v r a b => ?_, fun i j es fs l a => ?_⟩
  · rw [List.getElem?_map] at b
    cases q : ds[i]? with
    | none => rw [q] at b; cases b
    | some d => rw [q] at b; cases b; exact h.at_ i v d a q
  · rw [List.getElem?_map] at a
    cases q : ds[i]? with
    | none => rw [q] at a; cases a
    | some d => rw [q] at a; cases a
theorem owns_vals : ∀ ds : List Dt, ownsOf (ds.map Re.val) = []
  | [] => rfl
  | d :: r => by show ownsOf (Re.val d :: r.map Re.val) = []; exact owns_vals r
theorem back_vals : ∀ (ds : List Dt) (as G : List Sl), putBack (ds.map Re.val) as G = G
  | [], as, G => by cases as <;> rfl
  | d :: r, [], G => rfl
  | d :: r, s :: t, G => back_vals r t G
theorem args_vals {Γ : List Sl} (ds : List Dt) : (ds.map Re.val).map (argSl Γ) = ds.map Sl.val := by rw [List.map_map]; rfl
/-- o.m(..), everything data -/
theorem we_meth {m : Str} {C : Addr} {ap : AP} {E0 : XK} {t : TA} (h : WE K ta Γ fun r Γ1 => ∃ gs, r = .val (.obj C gs) ∧ gs.lookup m = none ∧ WD K t Γ1 fun ds Γ2 => Hold (ap (.val (.obj C gs) :: ds.map Sl.val) fun r as' => Post r Γ2)) : WE K (tMeth C m (toSp K ap) [] E0 ta t) Γ Post := fun σ B H E Q q => by
  refine h σ B H E _ fun x B1 H1 r Γ1 g1 k1 p1 => ?_
  obtain ⟨gs, rfl, hl, p1⟩ := p1
  obtain ⟨a, dx, fs, rfl, hb, hk, hi⟩ := Is.objR k1
  refine ⟨a, dx, fs, rfl, g1.env.bh _ _ hb, lk_none (hk m) hl, ?_⟩
  refine p1 σ B1 H1 g1.env _ fun vs B2 H2 ds Γ2 g2 k2 p2 => ?_
  rw [List.append_nil]
  have k3 : IsA K B2 (V.ref a :: vs) (.obj C gs :: ds) := .cons (Is.mono g2.mv.bb k1) k2
  refine call_core E (g1.trans g2) (asOk_val k3) (by rw [owns_vals]; rfl) (Post := Post) ?_ q
  rw [args_vals]
  simp only [back_vals]
  exact p2.get
/-- two own instances: a + b .. -/
def rOwn (C : Addr) (sp : Sp) (E : XK) : R2 := fun x y H Q => ∃ a b dx dy fs gs, x = .ref a ∧ y = .ref b ∧ H a = some (.ins C dx fs) ∧ H b = some (.ins C dy gs) ∧ sp [x, y] H Q E
theorem op_own {X : Cx} {CX : CXT} {k : Nat} {f C : Addr} {fd : FuncData} {ps : List Str} {sp : Sp} {E : XK} {op : Operator} (F : FnOk X.prog X.w X.K X.mg X.base CX k f fd ps sp) (hr : Room k X.A) (hc : PySem.W.selfFirst X.K C = true)
    (hs : PySem.W.findIn X.K (.ref C) (PySem.dunder op.info.2) = some (some (.ref f))) (hf : PySem.W.isFn X.K (.ref f) = true) (hb : Binds X.K fd ps []) (hx : Passes CX X E) : OpR X (binaryOp op) (rOwn C sp E) := by
  intro pins s σ H x y v u Q I rx ry hq
  obtain ⟨a, b, dx, dy, fs, gs, rfl, rfl, ha, hb', h⟩ := hq
  cases rx
  cases ry
  obtain ⟨mA, J, _⟩ := ins_get I.hok ha
  obtain ⟨mB, J', _⟩ := ins_get I.hok hb'
  obtain ⟨od, J, _⟩ := J.look
  obtain ⟨od', J', _⟩ := J'.look
  obtain ⟨m, hF⟩ := I.fr
  refine PySem.W.binop_K hF I.ok.mod.kin J J'.type hc hs hf ?_
  refine wpAny_mono (run_fn (us := [.ref a, .ref b]) (vs := [.ref a, .ref b]) F hr hb .nil hx I (.cons rfl (.cons rfl .nil)) h) (fun w s' hw => ?_) fun _ _ z => z
  cases w with
  | notImplemented =>
    obtain ⟨z, H', I', rz, _⟩ := hw
    cases z <;> first | (obtain ⟨_, rz⟩ := rz; cases rz; done) | (cases rz; done)
  | _ => exact hw
theorem we_own2 {C : Addr} {ap : AP} {E0 : XK} (h : WE K ta Γ fun ra Γ1 => ∃ gs, ra = .val (.obj C gs) ∧ WE K tb Γ1 fun rb Γ2 => ∃ hs, rb = .val (.obj C hs) ∧ Hold (ap [.val (.obj C gs), .val (.obj C hs)] fun r as' => Post r Γ2)) : WE K (tOp (rOwn C (toSp K ap) E0) ta tb) Γ Post := fun σ B H E Q q => by
  refine h σ B H E _ fun x B1 H1 ra Γ1 g1 k1 p1 => ?_
  obtain ⟨gs, rfl, p1⟩ := p1
  refine p1 σ B1 H1 g1.env _ fun y B2 H2 rb Γ2 g2 k2 p2 => ?_
  obtain ⟨hs, rfl, p2⟩ := p2
  have k1' := Is.mono g2.mv.bb k1
  obtain ⟨a, dx, fs, rfl, hb, _, _⟩ := Is.objR k1'
  obtain ⟨b, dy, fs', rfl, hb', _, _⟩ := Is.objR k2
  refine ⟨a, b, dx, dy, fs, fs', rfl, rfl, g2.env.bh _ _ hb, g2.env.bh _ _ hb', ?_⟩
  have k3 : IsA K B2 [V.ref a, V.ref b] [.obj C gs, .obj C hs] := .cons k1' (.cons k2 .nil)
  refine call_core E (g1.trans g2) (asOk_val k3) rfl (Post := Post) ?_ q
  rw [args_vals]
  simp only [back_vals]
  exact p2.get
/-- isinstance(x, C) -/
structure ClsOk (K : PySem.W.Frag) (C : Addr) : Prop where
  cl : Cls K C
  ha : PySem.W.findIn K (.ref C) "__class__" = some (some (.builtin "object.__class__"))
  hn : PySem.W.specialIn K (.builtin "object.__class__") "__get__" = some (some (.builtin "getset_descriptor.__get__"))
  ht : PySem.W.takesIn K (.builtin "object.__class__") = some true
  hm : PySem.W.mroIn K C (.type "object") = some true
theorem we_isiO {C D : Addr} {b : Bool} (co : ClsOk K C) (hk : PySem.W.kitOne K (.ref C) (.ref D) = some b) (h : WE K te Γ fun r Γ1 => ∃ gs, r = .val (.obj C gs) ∧ Post (.val (.bl b)) Γ1) : WE K (tCB (rIsi K) (tCons te (tCons (tC (.ref D)) tNil))) Γ Post :=
  we_one' (r := fun x H Q => rIsi K [x, .ref D] H Q) (we_mono h fun r Γ1 ⟨gs, e, p⟩ => fun σ B H x E kx Q q => by
    subst e
    obtain ⟨a, dx, fs, rfl, hb, _, _⟩ := Is.objR kx
    exact ⟨.ref a, .ref D, .ref C, .ref D, b, rfl, .own D, .base (.ins (E.bh _ _ hb) co.cl co.ha co.hn co.ht co.hm), hk, q _ B H _ Γ1 (.refl E) (.raw _) p⟩)
end
/-! ### __init__ -/
def putD (f : Str) (d : Dt) : List (Str × Dt) → List (Str × Dt)
  | [] => [(f, d)]
  | (g, x) :: r => if g = f then (g, d) :: r else (g, x) :: putD f d r
theorem lookup_putD (f g : Str) (d : Dt) : ∀ gs : List (Str × Dt), (putD f d gs).lookup g = if g = f then some d else gs.lookup g
  | [] => by
    show List.lookup g [(f, d)] = _
    by_cases h : g = f
    · have hb : (g == f) = true := beq_iff_eq.mpr h
      simp only [List.lookup, hb, if_pos h]
    · have hb : (g == f) = false := beq_eq_false_iff_ne.mpr h
      simp only [List.lookup, hb, if_neg h]
  | (k, x) :: r => by
    unfold putD
    by_cases hk : k = f
    · rw [if_pos hk]
      subst hk
      by_cases h : g = k
      · have hb : (g == k) = true := beq_iff_eq.mpr h
        simp only [List.lookup, hb, if_pos h]
      · have hb : (g == k) = false := beq_eq_false_iff_ne.mpr h
        simp only [List.lookup, hb, if_neg h]
    · rw [if_neg hk]
      by_cases hgk : g = k
      · have hb : (g == k) = true := beq_iff_eq.mpr hgk
        have hgf : ¬ g = f := fun z => hk (hgk.symm.trans z)
        simp only [List.lookup, hb, if_neg hgf]
      · have hb : (g == k) = false := beq_eq_false_iff_ne.mpr hgk
        simp only [List.lookup, hb]
        exact lookup_putD f g d r
structure FsIs (K : PySem.W.Frag) (B : Hp) (fs : List (Str × V)) (gs : List (Str × Dt)) : Prop where
  len : fs.length ≤ gs.length
  hk : ∀ f : Str, (fs.lookup f).isSome = (gs.lookup f).isSome
  hi : ∀ (f : Str) v d, fs.lookup f = some v → gs.lookup f = some d → Is K B v d
theorem putF_len (f : Str) (v : V) : ∀ fs : List (Str × V), (putF f v fs).length ≤ fs.length + 1
  | [] => by simp [putF]
  | (g, x) :: r => by
    unfold putF
    split
    · simp
    · have := putF_len f v r
      simp only [List.length_cons]
      omega
theorem FsIs.mono {K : PySem.W.Frag} {B B' : Hp} {fs : List (Str × V)} {gs : List (Str × Dt)} (e : Same B B') (h : FsIs K B fs gs) : FsIs K B' fs gs := ⟨h.len, h.hk, fun f v d a b => (h.hi f v d a b).mono e⟩
/-- a field more -/
theorem FsIs.put {K : PySem.W.Frag} {B : Hp} {fs : List (Str × V)} {gs : List (Str × Dt)} {f : Str} {v : V} {d : Dt} (h : FsIs K B fs gs) (hn : gs.lookup f = none) (hv : Is K B v d) : FsIs K B (putF f v fs) (gs ++ [(f, d)]) := by
  have lk : ∀ g : Str, (gs ++ [(f, d)]).lookup g = if g = f then some d else gs.lookup g := fun g => by
    by_cases hg : g = f
    · subst hg
      rw [if_pos rfl]
      clear h
      induction gs with
      | nil => simp [List.lookup]
      | cons x r ih =>
        obtain ⟨k, y⟩ := x
        have hgk : (g == k) = false := by
          cases q : g == k with
          | false => rfl
          | true => simp only [List.lookup, q] at hn; cases hn
        simp only [List.lookup, hgk] at hn
        simp only [List.cons_append, List.lookup, hgk]
        exact ih hn
    · rw [if_neg hg]
      clear h hn
      have hb : (g == f) = false := beq_eq_false_iff_ne.mpr hg
      induction gs with
      | nil => simp [List.lookup, hb]
      | cons x r ih =>
        obtain ⟨k, y⟩ := x
        cases q : g == k with
        | false => simp only [List.cons_append, List.lookup, q]; exact ih
        | true => simp only [List.cons_append, List.lookup, q]
  refine ⟨?_, fun g => ?_, fun g w e a b => ?_⟩
  · have := putF_len f v fs
    have := h.len
    rw [List.length_append, List.length_singleton]
    omega
  · rw [lookup_putF, lk]
    split
    · rfl
    · exact h.hk g
  · rw [lookup_putF] at a
    rw [lk] at b
    split at a
    · rename_i hg
      rw [if_pos hg] at b
      cases a; cases b
      exact hv
    · rename_i hg
      rw [if_neg hg] at b
      exact h.hi g w e a b
abbrev AI := List Dt → (List (Str × Dt) → Prop) → Prop
def toSpI (K : PySem.W.Frag) (C : Addr) (ai : AI) : Sp := fun vs H Q _ => ∃ x dx ws B ds Post, vs = V.ref x :: ws ∧ H x = some (.ins C dx []) ∧ B x = none ∧ Same B H ∧ IsA K B ws ds ∧ ai ds Post ∧
  ∀ B' H' fs gs, Mv (fun a => a = x) B H B' H' → Same B' H' → H' x = some (.ins C dx fs) → B' x = none → FsIs K B' fs gs → Post gs → Q .non H'
/-- the state of an instance that is being made -/
structure Mg (K : PySem.W.Frag) (C x dx : Addr) (σ : L2.St) (B H : Hp) (Γ : List Sl) (gs : List (Str × Dt)) : Prop where
  env : Env K B H σ Γ
  sl : σ[0]? = some (some (.ref x))
  un : Γ[0]? = some .un
  no : ¬ Own σ Γ x
  hx : ∃ fs, H x = some (.ins C dx fs) ∧ FsIs K B fs gs
  bx : B x = none
structure GoI (K : PySem.W.Frag) (C x dx : Addr) (σ : L2.St) (B H : Hp) (Γ : List Sl) (σ' : L2.St) (B' H' : Hp) (Γ' : List Sl) (gs' : List (Str × Dt)) : Prop where
  mv : Mv (fun a => Own σ Γ a ∨ a = x) B H B' H'
  new : ∀ a, Own σ' Γ' a → Own σ Γ a ∨ H a = none
  mg : Mg K C x dx σ' B' H' Γ' gs'
theorem GoI.trans {K : PySem.W.Frag} {C x dx : Addr} {σ σ1 σ2 : L2.St} {B H B1 H1 B2 H2 : Hp} {Γ Γ1 Γ2 : List Sl} {gs1 gs2 : List (Str × Dt)} (a : GoI K C x dx σ B H Γ σ1 B1 H1 Γ1 gs1) (b : GoI K C x dx σ1 B1 H1 Γ1 σ2 B2 H2 Γ2 gs2) : GoI K C x dx σ B H Γ σ2 B2 H2 Γ2 gs2 :=
  ⟨a.mv.trans (fun c hc => hc.elim (fun h => (a.new c h).imp .inl id) fun h => .inl (.inr h)) b.mv, fun c h => (b.new c h).elim (fun z => a.new c z) fun z => (a.mv.back z).elim (fun q => q.elim .inl fun e => by
    subst e
    obtain ⟨fs, hf, _⟩ := a.mg.hx
    rw [hf] at z; cases z) .inr, b.mg⟩
def WI (K : PySem.W.Frag) (C : Addr) (t : TS) (Γ : List Sl) (gs : List (Str × Dt)) (P : List (Str × Dt) → List Sl → Prop) : Prop := ∀ σ B H (D : Ends) x dx, Mg K C x dx σ B H Γ gs →
  (∀ σ' B' H' Γ' gs', GoI K C x dx σ B H Γ σ' B' H' Γ' gs' → P gs' Γ' → D.nx σ' H') → t D σ H
section
variable {K : PySem.W.Frag} {C : Addr} {Γ : List Sl} {gs : List (Str × Dt)} {P : List (Str × Dt) → List Sl → Prop} {t u : TS} {te : TE}
theorem wi_seq (h : WI K C t Γ gs fun gs1 Γ1 => WI K C u Γ1 gs1 P) : WI K C (tSeq t u) Γ gs P := fun σ B H D x dx M n =>
  h σ B H { D with nx := u D } x dx M fun σ1 B1 H1 Γ1 gs1 g p => p σ1 B1 H1 D x dx g.mg fun σ2 B2 H2 Γ2 gs2 g2 p2 => n σ2 B2 H2 Γ2 gs2 (g.trans g2) p2
theorem wi_set {f : Str} (cl : Cls K C) (na : NoAttr K C f) (hl : gs.lookup f = none) (hz : gs.length < 900) (h : WE K te Γ fun r Γ1 => ∃ d, r.dt? = some d ∧ Γ1[0]? = some .un ∧ P (gs ++ [(f, d)]) Γ1) : WI K C (sFld K (tVar 0) te f) Γ gs P := fun σ B H D x dx M n => by
  have h' : WE K te Γ fun r Γ1 => ∃ d, r = .val d ∧ Γ1[0]? = some .un ∧ P (gs ++ [(f, d)]) Γ1 := we_freeze (we_mono h fun r Γ1 ⟨d, hd, r2⟩ => ⟨d, hd, d, rfl, r2⟩)
  refine h' σ B H M.env _ fun y B1 H1 r Γ1 g k p => ?_
  obtain ⟨d, rfl, h0, p⟩ := p
  obtain ⟨fs, hx, hf⟩ := M.hx
  have hx1 : H1 x = some (.ins C dx fs) := g.mv.kp x _ M.no hx
  have bx1 : B1 x = none := g.mv.off x M.no (by rw [hx]; exact fun z => nomatch z) M.bx
  have no1 : ¬ Own σ Γ1 x := fun z => M.no (g.sub x z)
  refine ⟨.ref x, M.sl, x, C, dx, fs, rfl, hx1, cl, na, Nat.lt_of_le_of_lt hf.len (by omega), ?_⟩
  have hd : Is K B1 y d := k
  have E2 : Env K B1 (upd H1 x (.ins C dx (putF f y fs))) σ Γ1 := by
    refine ⟨g.env.len, fun a o e => ?_, g.env.val, fun i es hi => ?_, g.env.sep⟩
    · have : a ≠ x := fun z => by subst z; rw [bx1] at e; cases e
      rw [upd_ne this]; exact g.env.bh a o e
    · obtain ⟨l, vs, e1, e2, e3, e4⟩ := g.env.acc i es hi
      have : l ≠ x := fun z => by subst z; rw [hx1] at e2; cases e2
      exact ⟨l, vs, e1, by rw [upd_ne this]; exact e2, e3, e4⟩
  refine n σ B1 _ Γ1 (gs ++ [(f, d)]) ⟨⟨fun a o na' e => ?_, g.mv.bb, fun a na' ha hb => ?_⟩, fun a h => .inl (g.sub a h), ⟨E2, M.sl, h0, no1, ⟨_, upd_same, (hf.mono g.mv.bb).put hl hd⟩, bx1⟩⟩ p
  · have h1 : ¬ Own σ Γ a := fun z => na' (.inl z)
    have h2 : a ≠ x := fun z => na' (.inr z)
    rw [upd_ne h2]; exact g.mv.kp a o h1 e
  · exact g.mv.off a (fun z => na' (.inl z)) ha hb
/-- a statement beside the instance -/
theorem wi_ws (h : WS K [0] t Γ ⟨fun G => G[0]? = some .un ∧ P gs G, fun _ _ => False, fun _ => False, fun _ => False⟩) : WI K C t Γ gs P := fun σ B H D x dx M n => by
  obtain ⟨fs, hx, hf⟩ := M.hx
  refine h σ B H D M.env (fun σ' B' H' Γ' g p => ?_) (fun _ _ _ _ _ _ _ _ p => p.elim) (fun _ _ _ _ _ p => p.elim) (fun _ _ _ _ _ p => p.elim)
  refine n σ' B' H' Γ' gs ⟨⟨fun a o na e => g.mv.kp a o (fun z => na (.inl z)) e, g.mv.bb, fun a na ha hb => g.mv.off a (fun z => na (.inl z)) ha hb⟩, g.new, ⟨g.env, by rw [g.pin 0 List.mem_cons_self]; exact M.sl, p.1, fun z => ?_, ⟨fs, g.mv.kp x _ M.no hx, hf.mono g.mv.bb⟩, g.mv.off x M.no (by rw [hx]; exact fun z => nomatch z) M.bx⟩⟩ p.2
  rcases g.new x z with h1 | h1
  · exact M.no h1
  · rw [hx] at h1; cases h1
variable {Pg : Program} {w : World} {mg : Str → Option Value} {base : Heap}
theorem env_vals {B H : Hp} {vs : List V} {ds : List Dt} (hb : Same B H) (h : IsA K B vs ds) : Env K B H (vs.map some) (ds.map Sl.val) := by
  have na : ∀ {i : Nat} {es : List Dt}, (ds.map Sl.val)[i]? = some (.acc es) → False := fun {i es} e => by
    rw [List.getElem?_map] at e
    cases q : ds[i]? with
    | none => rw [q] at e; cases e
    | some d => rw [q] at e; cases e
  refine ⟨by rw [List.length_map, List.length_map, h.len], hb, fun i d e => ?_, fun i es e => (na e).elim, fun i j es fs l e => (na e).elim⟩
  rw [List.getElem?_map] at e
  cases q : ds[i]? with
  | none => rw [q] at e; cases e
  | some d' =>
    rw [q] at e; cases e
    obtain ⟨v, hv, k⟩ := h.get q
    exact ⟨v, by rw [List.getElem?_map, hv]; rfl, k⟩
/-- __init__ by its run -/
theorem fn_init {x qual : Str} {st : Stmt} {f : Addr} {fd : FuncData} {N ps : List Str} {k : Nat} {ai : AI} (F : Fun K x qual st f fd) (S : FnScope N ps (defScope st))
    (hlen : ∀ ds Post, ai ds Post → ds.length + 1 = ps.length) (hN : decide (ps.length ≤ N.length) = true)
    (body : ∀ (cdv : Value) (A : Around) (outer : List PySem.Env) (s : Shared) (H : Hp) (E : XK), Room k (A.deeper (PyProof.Rows.envOfC qual (defScope st) s.heap.objs.size f cdv)) →
      ∃ t, PSs (cxOf CX0 Pg w K mg base N qual (defScope st) f cdv A outer s H E).nox (defBody st) t ∧
        ∀ ds Post, ai ds Post → WI K C t ((.un :: ds.map Sl.val) ++ List.replicate (N.length - (ds.length + 1)) .un) [] (fun gs _ => Post gs)) :
    FnOk Pg w K mg base CX0 (k + 1) f fd ps (toSpI K C ai) := by
  refine F.ok S (fun vs H Q E h => ?_) (fun cdv A outer s H vs Q E hr h => ?_)
  · obtain ⟨x, dx, ws, B, ds, Post, rfl, _, _, _, ha, hai, _⟩ := h
    rw [List.length_cons, ha.len]; exact hlen ds Post hai
  · obtain ⟨x, dx, ws, B, ds, Post, rfl, hx, bx, hbh, ha, hai, q⟩ := h
    obtain ⟨t, ht, hw⟩ := body cdv A outer s H E hr
    refine ⟨t, ht, ?_⟩
    have E1 : Env K B H ((V.ref x :: ws).map some) (.un :: ds.map Sl.val) := by
      have e := env_vals hbh ha
      refine ⟨by simp [ha.len], hbh, fun i d h => ?_, fun i es h => ?_, fun i j es fs l h1 h2 h3 h4 => ?_⟩
      · cases i with
        | zero => cases h
        | succ i => exact e.val i d (by simpa using h)
      · cases i with
        | zero => cases h
        | succ i => exact e.acc i es (by simpa using h)
      · cases i with
        | zero => cases h1
        | succ i =>
          cases j with
          | zero => cases h2
          | succ j => exact congrArg Nat.succ (e.sep i j es fs l (by simpa using h1) (by simpa using h2) (by simpa using h3) (by simpa using h4))
    have hps : (Sl.un :: ds.map Sl.val).length ≤ N.length := by
      rw [List.length_cons, List.length_map, hlen ds Post hai]; exact of_decide_eq_true hN
    have E0 := env_start E1 hps
    have no : ∀ a, ¬ Own (L2.start N (V.ref x :: ws)) ((Sl.un :: ds.map Sl.val) ++ List.replicate (N.length - (Sl.un :: ds.map Sl.val).length) .un) a := fun a z => by
      have := (own_start (N := N) (vs := V.ref x :: ws) (as := Sl.un :: ds.map Sl.val) (by simp [ha.len])).mp z
      obtain ⟨i, es, h1, h2⟩ := this
      cases i with
      | zero => cases h1
      | succ i =>
        have h1 : (ds.map Sl.val)[i]? = some (.acc es) := by simpa using h1
        rw [List.getElem?_map] at h1
        cases q : ds[i]? with
        | none => rw [q] at h1; cases h1
        | some d => rw [q] at h1; cases h1
    have hlN : (Sl.un :: ds.map Sl.val).length = ds.length + 1 := by rw [List.length_cons, List.length_map]
    rw [hlN] at E0 no
    refine hw ds Post hai (L2.start N (V.ref x :: ws)) B H _ x dx ⟨E0, rfl, rfl, no x, ⟨[], hx, ⟨Nat.le_refl _, fun _ => rfl, fun _ _ _ z => by cases z⟩⟩, bx⟩ fun σ' B' H' Γ' gs' g p => ?_
    obtain ⟨fs, e1, e2⟩ := g.mg.hx
    exact q B' H' fs gs' ⟨fun a o na e => g.mv.kp a o (fun z => z.elim (no a) na) e, g.mv.bb, fun a na ha hb => g.mv.off a (fun z => z.elim (no a) na) ha hb⟩ g.mg.env.bh e1 g.mg.bx e2 p
/-- C(..) -/
theorem we_make {Post : Re → List Sl → Prop} {ai : AI} {E0 : XK} {t : TA} (h : WD K t Γ fun ds Γ1 => Hold (ai ds fun gs => Post (.val (.obj C gs)) Γ1)) : WE K (tMake C (toSpI K C ai) [] E0 t) Γ Post := fun σ B H E Q q => by
  refine h σ B H E _ fun vs B1 H1 ds Γ1 g1 k1 p1 => ?_
  intro x dx hx hdx hne
  rw [List.append_nil]
  have hxx : upd (upd H1 dx (.own x)) x (.ins C dx []) x = some (.ins C dx []) := upd_same
  have b1x : B1 x = none := g1.env.base_none hx
  have s12 : ∀ a o, H1 a = some o → upd (upd H1 dx (.own x)) x (.ins C dx []) a = some o := fun a o e => by
    rw [upd_ne (ne_of_none e hx), upd_ne (ne_of_none e hdx)]; exact e
  refine ⟨x, dx, vs, B1, ds, _, rfl, hxx, b1x, fun a o e => s12 a o (g1.env.bh a o e), k1, p1.get, fun B' H' fs gs mv sb hx' bx' hf p => ⟨rfl, ?_⟩⟩
  have sBB : Same B' (upd B' x (.ins C dx fs)) := fun a o e => by rw [upd_ne (ne_of_none e bx')]; exact e
  have kept : ∀ a o, H1 a = some o → H' a = some o := fun a o e => mv.kp a o (fun z => by subst z; rw [hx] at e; cases e) (s12 a o e)
  have offB : ∀ a, H1 a ≠ none → B1 a = none → B' a = none := fun a ha hb => by
    have hne : a ≠ x := fun z => by subst z; exact ha hx
    refine mv.off a hne ?_ hb
    cases qq : H1 a with
    | none => exact absurd qq ha
    | some o => rw [s12 a o qq]; exact fun z => nomatch z
  have E2 : Env K (upd B' x (.ins C dx fs)) H' σ Γ1 := by
    refine ⟨g1.env.len, fun a o e => ?_, fun i d hi => ?_, fun i es hi => ?_, g1.env.sep⟩
    · by_cases ha : a = x
      · subst ha; rw [upd_same] at e; cases e; exact hx'
      · rw [upd_ne ha] at e; exact sb a o e
    · obtain ⟨v, e1, e2⟩ := g1.env.val i d hi
      exact ⟨v, e1, e2.mono (mv.bb.trans sBB)⟩
    · obtain ⟨l, us, e1, e2, e3, e4⟩ := g1.env.acc i es hi
      have hl : l ≠ x := fun z => by subst z; rw [hx] at e2; cases e2
      exact ⟨l, us, e1, kept l _ e2, by rw [upd_ne hl]; exact offB l (by rw [e2]; exact fun z => nomatch z) e3, e4.mono (mv.bb.trans sBB)⟩
  have g2 : Go K σ B1 H1 Γ1 (upd B' x (.ins C dx fs)) H' Γ1 := by
    refine ⟨⟨fun a o _ e => kept a o e, mv.bb.trans sBB, fun a na ha hb => ?_⟩, fun i es hi => ⟨es, hi⟩, E2⟩
    have hne : a ≠ x := fun z => by subst z; exact ha hx
    rw [upd_ne hne]; exact offB a ha hb
  have hf' := hf.mono sBB
  exact q (.ref x) _ H' (.val (.obj C gs)) Γ1 (g1.trans g2) (Is.obj upd_same hf'.hk hf'.hi) p
end
theorem lk_hit {f : Str} {d : Dt} {r : List (Str × Dt)} : List.lookup f ((f, d) :: r) = some d := by
  have hb : (f == f) = true := beq_iff_eq.mpr rfl
  simp only [List.lookup, hb]
theorem lk_miss {f g : Str} {d : Dt} {r : List (Str × Dt)} (h : ¬ f = g) : List.lookup f ((g, d) :: r) = List.lookup f r := by
  have hb : (f == g) = false := beq_eq_false_iff_ne.mpr h
  simp only [List.lookup, hb]
section
variable {K : PySem.W.Frag} {Γ : List Sl} {Post : Re → List Sl → Prop} {ta : TE}
/-- o.f, the class told by the value -/
def FldP (K : PySem.W.Frag) (f : Str) (r : Re) (Γ : List Sl) (Post : Re → List Sl → Prop) : Prop := ∃ C gs d, r = .val (.obj C gs) ∧ Cls K C ∧ NoAttr K C f ∧ gs.lookup f = some d ∧ Post (.val d) Γ
theorem we_fldG {f : Str} (h : WE K ta Γ fun r Γ1 => FldP K f r Γ1 Post) : WE K (tFld K ta f) Γ Post := fun σ B H E Q q => by
  refine h σ B H E _ fun x B1 H1 r Γ1 g1 k1 p1 => ?_
  obtain ⟨C, gs, d, rfl, cl, na, hl, p⟩ := p1
  obtain ⟨a, dx, fs, rfl, hb, hk, hi⟩ := Is.objR k1
  obtain ⟨w, hw⟩ := lk_some (hk f) hl
  exact ⟨a, C, dx, fs, w, rfl, g1.env.bh _ _ hb, cl, na, hw, q w B1 H1 (.val d) Γ1 g1 (hi f w d hw hl) p⟩
theorem fldp {f : Str} {C : Addr} {gs : List (Str × Dt)} {d : Dt} (cl : Cls K C) (na : NoAttr K C f) (hl : gs.lookup f = some d) (p : Post (.val d) Γ) : FldP K f (.val (.obj C gs)) Γ Post := ⟨C, gs, d, rfl, cl, na, hl, p⟩
def MetP (m : Str) (C : Addr) (ap : AP) (t : TA) (K : PySem.W.Frag) (r : Re) (Γ : List Sl) (Post : Re → List Sl → Prop) : Prop := ∃ gs, r = .val (.obj C gs) ∧ gs.lookup m = none ∧ WD K t Γ fun ds Γ2 => Hold (ap (.val (.obj C gs) :: ds.map Sl.val) fun r as' => Post r Γ2)
theorem we_methG {m : Str} {C : Addr} {ap : AP} {E0 : XK} {t : TA} (h : WE K ta Γ fun r Γ1 => MetP m C ap t K r Γ1 Post) : WE K (tMeth C m (toSp K ap) [] E0 ta t) Γ Post := we_meth h
theorem metp {m : Str} {C : Addr} {ap : AP} {t : TA} {gs : List (Str × Dt)} (hl : gs.lookup m = none) (h : WD K t Γ fun ds Γ2 => Hold (ap (.val (.obj C gs) :: ds.map Sl.val) fun r as' => Post r Γ2)) : MetP m C ap t K (.val (.obj C gs)) Γ Post := ⟨gs, rfl, hl, h⟩
theorem kit_self {C : Addr} : PySem.W.kitOne K (.ref C) (.ref C) = some true := by
  unfold PySem.W.kitOne
  rw [if_pos (beq_iff_eq.mpr rfl)]
def IsoP (K : PySem.W.Frag) (D : Addr) (r : Re) (Γ : List Sl) (Post : Re → List Sl → Prop) : Prop := ∃ C gs b, r = .val (.obj C gs) ∧ ClsOk K C ∧ PySem.W.kitOne K (.ref C) (.ref D) = some b ∧ Post (.val (.bl b)) Γ
theorem we_isoG {D : Addr} (h : WE K ta Γ fun r Γ1 => IsoP K D r Γ1 Post) : WE K (tCB (rIsi K) (tCons ta (tCons (tC (.ref D)) tNil))) Γ Post :=
  we_one' (r := fun x H Q => rIsi K [x, .ref D] H Q) (we_mono h fun r Γ1 ⟨C, gs, b, e, co, hk, p⟩ => fun σ B H x E kx Q q => by
    subst e
    obtain ⟨a, dx, fs, rfl, hb, _, _⟩ := Is.objR kx
    exact ⟨.ref a, .ref D, .ref C, .ref D, b, rfl, .own D, .base (.ins (E.bh _ _ hb) co.cl co.ha co.hn co.ht co.hm), hk, q _ B H _ Γ1 (.refl E) (.raw _) p⟩)
theorem isop {C : Addr} {gs : List (Str × Dt)} (co : ClsOk K C) (p : Post (.val (.bl true)) Γ) : IsoP K C (.val (.obj C gs)) Γ Post := ⟨C, gs, true, rfl, co, kit_self, p⟩
end
end Ab
/-! more constructs: sums of tuples, texts that are known -/
namespace Ab
open PySem L2
/-- a body's run keeps a promise -/
abbrev RunOk (K : PySem.W.Frag) (pin : List Nat) (t : TS) (N : Nat) (ap : AP) : Prop := ∀ (as : List Sl) (Post : Re → List Sl → Prop), ap as Post → WS K pin t (as ++ List.replicate (N - as.length) .un) ⟨fun G => Post (.val .non) (exitArgs pin G as), fun r G => Post r (exitArgs pin G as), fun _ => False, fun _ => False⟩
theorem cut_mid {α : Type} {f : α → Dt} {xs : List α} {a b : Nat} (h : a ≤ b) (h2 : b ≤ xs.length) : cutD (xs.map f) (some (a : Int)) (some (b : Int)) = ((xs.drop a).take (b - a)).map f := by
  unfold cutD
  rw [HT.sIx_nat, HT.sIx_nat, List.length_map, Nat.min_eq_left h2, Nat.min_eq_left (show a ≤ xs.length by omega), ← List.map_drop, ← List.map_take]
/-- sum of a list or a tuple of ints -/
def rSumG (K : PySem.W.Frag) : List V → Hp → VK → Prop := fun vs H Q => ∃ (a : Addr) (ns : List Int), vs = [V.ref a] ∧ (SqL K H a (ns.map V.int) ∨ SqT K H a (ns.map V.int)) ∧ Q (.int ns.sum) H
theorem cr_sumG {X : Cx} (hc : X.calm = true) : CallR X (.builtin "sum") (rSumG X.K) := by
  intro pins s σ H vs us Q I r h
  obtain ⟨a, ns, rfl, hs, q⟩ := h
  rcases hs with hs | hs
  · exact cr_sum hc pins s σ H _ us Q I r ⟨a, ns, rfl, hs, q⟩
  · obtain ⟨its, rv, hl, _⟩ := I.tuple hs
    rw [Vals.ref1 r]
    obtain ⟨xs, hx⟩ := rv.ints.allInts.items
    have hn : numsOf its.toArray.toList = ns := by rw [show its.toArray.toList = its from rfl, rv.ints.numsOf]
    rw [hx] at hl hn
    rw [nums_intItems] at hn
    refine PySem.W.ktm_sumG (I.ok.hd hc) hl fun h' tk t' hk => ?_
    refine ⟨.int _, H, I.kept hk, ⟨_, rfl⟩, ?_⟩
    rw [preSum_eq, List.take_of_length_le (by simp), hn]
    exact q
theorem we_sumG {K : PySem.W.Frag} {Γ : List Sl} {Post : Re → List Sl → Prop} {te : TE} (h : WE K te Γ fun r Γ1 => Hold (∃ ns : List Int, seqOf Γ1 r = some (ns.map Dt.int) ∧ Post (.val (.int ns.sum)) Γ1)) : WE K (tCB (rSumG K) (tCons te tNil)) Γ Post :=
  we_cb1 (we_mono h fun r Γ1 hp => fun σ B H x E kx Q q => by
    obtain ⟨ns, hs, p⟩ := hp.get
    obtain ⟨a, vs, rfl, hq, ha⟩ := rv_seq E kx hs
    have e : vs = ns.map V.int := IsA.rawsI (xs := ns.map V.int) (by rw [List.map_map]; exact ha)
    subst e
    exact ⟨a, ns, rfl, hq, q _ B H _ Γ1 (.refl E) (.raw _) p⟩)
/-! tuples that are written out -/
theorem normD_cons {a : Dt} {l t t' : List Dt} (e : l = a :: t) (et : t = t') : l = a :: t' := by
  subst et
  exact e
theorem slp_tE {Γ : List Sl} {Post : Re → List Sl → Prop} {ds es : List Dt} {lo hi : Option Int} (h : cutD ds lo hi = es) (p : Post (.val (.tup es)) Γ) : SlP (.val (.tup ds)) lo hi Γ Post := slp_t (by rw [h]; exact p)
theorem addp_tE {Γ : List Sl} {Post : Re → List Sl → Prop} {ds es fs : List Dt} (hz : ds.length + es.length ≤ 1000000) (h : ds ++ es = fs) (p : Post (.val (.tup fs)) Γ) : AddP (.val (.tup ds)) (.val (.tup es)) Γ Post := addp_t hz (by rw [h]; exact p)
theorem inV_ints {i : Int} : ∀ ns : List Int, inV (.int i) (ns.map V.int) = decide (i ∈ ns)
  | [] => rfl
  | n :: r => by
    have ih := inV_ints (i := i) r
    unfold inV at ih ⊢
    rw [List.map_cons, List.any_cons, ih]
    by_cases h : n = i
    · subst h; simp [eqV]
    · have h' : ¬ i = n := fun z => h z.symm
      simp [eqV, h, h']
theorem flat_ints : ∀ ns : List Int, (ns.map V.int).all flatV = true
  | [] => rfl
  | n :: r => by rw [List.map_cons, List.all_cons, flat_ints r]; rfl
/-- i in a list or tuple of ints -/
theorem inI {Γ : List Sl} {Post : Re → List Sl → Prop} {i : Int} {rb : Re} {ns : List Int} {Z : Prop} (h : seqOf Γ rb = some (ns.map Dt.int)) (p : Post (.val (.bl (decide (i ∈ ns)))) Γ) : InP false (.val (.int i)) rb Γ Post ∨ Z :=
  .inl ⟨.int i, ns.map V.int, rfl, by rw [h, List.map_map]; rfl, rfl, flat_ints ns, by rw [if_neg Bool.false_ne_true, inV_ints]; exact p⟩
theorem notInI {Γ : List Sl} {Post : Re → List Sl → Prop} {i : Int} {rb : Re} {ns : List Int} (h : seqOf Γ rb = some (ns.map Dt.int)) (p : Post (.val (.bl (!decide (i ∈ ns)))) Γ) : InP true (.val (.int i)) rb Γ Post :=
  ⟨.int i, ns.map V.int, rfl, by rw [h, List.map_map]; rfl, rfl, flat_ints ns, by rw [if_pos rfl, inV_ints]; exact p⟩
/-- xs.clear() -/
theorem we_clearN {K : PySem.W.Frag} {Γ : List Sl} {i : Nat} {ds : List Dt} {Post : Re → List Sl → Prop} (h0 : Γ[i]? = some (.acc ds)) (p : NormP (Γ.set i (.acc [])) (Post (.val .non))) : WE K (tBM0 K "list" rClear (tVar i)) Γ Post := fun σ B H E Q q => by
  obtain ⟨l, vs, e0, e1, e2, k0⟩ := E.acc i ds h0
  exact ⟨.ref l, e0, .inl ⟨rfl, vs, .inl (.inl e1)⟩, l, vs, rfl, rfl, e1, q .non B _ (.val .non) _ (Go.put E h0 e0 .nil) (Is.raw _) p⟩
/-! pools by a bound -/
def PoolUp (b : Int) (ds : List Dt) : Prop := ∃ c, PoolIs c ds ∧ 0 ≤ c ∧ c ≤ b
theorem PoolIs.up {ds : List Dt} {c b : Int} (h : PoolIs c ds) (h0 : 0 ≤ c) (hb : c ≤ b) : PoolUp b ds := ⟨c, h, h0, hb⟩
theorem PoolUp.mono {ds : List Dt} {a b : Int} (h : PoolUp a ds) (hb : a ≤ b) : PoolUp b ds := by obtain ⟨c, h1, h2, h3⟩ := h; exact ⟨c, h1, h2, by omega⟩
theorem tk {ds : List Dt} {b n : Int} {Post : Re → List Sl → Prop} (h : PoolUp b ds) (hb : b < 900000000) (hn : 0 < n) (hn2 : n < 18446744073709551616) (k : ∀ ds' g, PoolUp (b + 1) ds' → 0 ≤ g → g < n → Post (.val (.int g)) [.acc ds', .val (.int n)]) : ap_take [.acc ds, .val (.int n)] Post := by
  obtain ⟨c, h1, h2, h3⟩ := h
  exact ⟨ds, c, n, rfl, h1, h2, by omega, hn, hn2, fun ds' g h' g0 g1 => k ds' g ⟨c + 1, h', by omega, by omega⟩ g0 g1⟩
/-! == of texts that are known -/
theorem str_ne {a b : Str} (h : ¬ a = b) : ¬ (V.str a = V.str b) := fun e => h (by cases e; rfl)
theorem eqp_st {Γ : List Sl} {Post : Re → List Sl → Prop} {a : Str} (p : Post (.val (.bl true)) Γ) : EqP false (.val (.str a)) (.val (.str a)) Γ Post := eqp_s rfl (by rw [decide_eq_true rfl]; exact p)
theorem nep_st {Γ : List Sl} {Post : Re → List Sl → Prop} {a : Str} (p : Post (.val (.bl false)) Γ) : EqP true (.val (.str a)) (.val (.str a)) Γ Post := eqp_s rfl (by rw [decide_eq_true rfl]; exact p)
theorem eqp_sf {Γ : List Sl} {Post : Re → List Sl → Prop} {a b : Str} (h : ¬ a = b) (p : Post (.val (.bl false)) Γ) : EqP false (.val (.str a)) (.val (.str b)) Γ Post := eqp_s rfl (by rw [decide_eq_false (str_ne h)]; exact p)
theorem nep_sf {Γ : List Sl} {Post : Re → List Sl → Prop} {a b : Str} (h : ¬ a = b) (p : Post (.val (.bl true)) Γ) : EqP true (.val (.str a)) (.val (.str b)) Γ Post := eqp_s rfl (by rw [decide_eq_false (str_ne h)]; exact p)
theorem dec_s {a b : Str} : decide (V.str a = V.str b) = decide (a = b) := by
  by_cases h : a = b
  · subst h; simp
  · rw [decide_eq_false (str_ne h), decide_eq_false h]
theorem eqp_str {Γ : List Sl} {Post : Re → List Sl → Prop} {a b : Str} (p : Post (.val (.bl (decide (a = b)))) Γ) : EqP false (.val (.str a)) (.val (.str b)) Γ Post := eqp_s rfl (by rw [dec_s, Bool.false_xor]; exact p)
theorem nep_str {Γ : List Sl} {Post : Re → List Sl → Prop} {a b : Str} (p : Post (.val (.bl (!decide (a = b)))) Γ) : EqP true (.val (.str a)) (.val (.str b)) Γ Post := eqp_s rfl (by rw [dec_s, Bool.true_xor]; exact p)
/-! ### keywords: picks -/
def pick {α : Type} (o : List Nat) (xs : List α) : List α := o.filterMap fun i => xs[i]?
theorem pick_nil {α : Type} (xs : List α) : pick [] xs = [] := rfl
theorem pick_cons {α : Type} {i : Nat} {o : List Nat} {xs : List α} {x : α} (h : xs[i]? = some x) : pick (i :: o) xs = x :: pick o xs := by
  unfold pick
  rw [List.filterMap_cons_some h]
theorem pick_skip {α : Type} {i : Nat} {o : List Nat} {xs : List α} (h : xs[i]? = none) : pick (i :: o) xs = pick o xs := by
  unfold pick
  rw [List.filterMap_cons_none h]
theorem pick_vals {xs : List V} {us : List Value} (r : Vals xs us) : ∀ o : List Nat, Vals (pick o xs) (pick o us)
  | [] => .nil
  | i :: o => by
    cases q : xs[i]? with
    | none => rw [pick_skip q, pick_skip (r.none_of q)]; exact pick_vals r o
    | some x =>
      obtain ⟨u, hu, ru⟩ := r.get q
      rw [pick_cons q, pick_cons hu]
      exact .cons ru (pick_vals r o)
theorem pick_isA {K : PySem.W.Frag} {B : Hp} {vs : List V} {ds : List Dt} (h : IsA K B vs ds) : ∀ o : List Nat, IsA K B (pick o vs) (pick o ds)
  | [] => .nil
  | i :: o => by
    cases q : ds[i]? with
    | none =>
      have : vs[i]? = none := by
        rw [List.getElem?_eq_none_iff] at q ⊢
        rw [h.len]; exact q
      rw [pick_skip q, pick_skip this]; exact pick_isA h o
    | some d =>
      obtain ⟨v, hv, iv⟩ := h.get q
      rw [pick_cons q, pick_cons hv]
      exact .cons iv (pick_isA h o)
/-- places one further on -/
def upO (o : List Nat) : List Nat := o.map (· + 1)
theorem pick_up {α : Type} (x : α) (xs : List α) : ∀ o : List Nat, pick (upO o) (x :: xs) = pick o xs
  | [] => rfl
  | i :: o => by
    show pick ((i + 1) :: upO o) (x :: xs) = _
    have e : (x :: xs)[i + 1]? = xs[i]? := List.getElem?_cons_succ
    cases q : xs[i]? with
    | none => rw [pick_skip (e.trans q), pick_skip q]; exact pick_up x xs o
    | some y => rw [pick_cons (e.trans q), pick_cons q, pick_up x xs o]
section
variable {K : PySem.W.Frag} {Γ : List Sl} {Post : Re → List Sl → Prop} {C : Addr}
/-- what the making of an instance comes to -/
theorem make_core {σ : L2.St} {B H B1 H1 : Hp} {Γ1 : List Sl} {vs : List V} {ds : List Dt} {ai : AI} {E0 : XK} {Q : VK} (g1 : Go K σ B H Γ B1 H1 Γ1) (k1 : IsA K B1 vs ds) (p1 : ai ds fun gs => Post (.val (.obj C gs)) Γ1)
    (q : ∀ v B' H' r Γ', Go K σ B H Γ B' H' Γ' → ReOk K σ (Own σ Γ) (Own σ Γ') B' H H' v r → Post r Γ' → Q v H') : ∀ x dx, H1 x = none → H1 dx = none → dx ≠ x → toSpI K C ai (.ref x :: vs) (upd (upd H1 dx (.own x)) x (.ins C dx [])) (fun v H3 => v = .non ∧ Q (.ref x) H3) E0 := by
  have t : WE K (tMake C (toSpI K C ai) [] E0 (fun _ H2 R => ∀ B2, Same B2 H2 → R vs H2)) Γ1 Post → True := fun _ => trivial
  intro x dx hx hdx hne
  have hxx : upd (upd H1 dx (.own x)) x (.ins C dx []) x = some (.ins C dx []) := upd_same
  have b1x : B1 x = none := g1.env.base_none hx
  have s12 : ∀ a o, H1 a = some o → upd (upd H1 dx (.own x)) x (.ins C dx []) a = some o := fun a o e => by
    rw [upd_ne (ne_of_none e hx), upd_ne (ne_of_none e hdx)]; exact e
  refine ⟨x, dx, vs, B1, ds, _, rfl, hxx, b1x, fun a o e => s12 a o (g1.env.bh a o e), k1, p1, fun B' H' fs gs mv sb hx' bx' hf p => ⟨rfl, ?_⟩⟩
  have sBB : Same B' (upd B' x (.ins C dx fs)) := fun a o e => by rw [upd_ne (ne_of_none e bx')]; exact e
  have kept : ∀ a o, H1 a = some o → H' a = some o := fun a o e => mv.kp a o (fun z => by subst z; rw [hx] at e; cases e) (s12 a o e)
  have offB : ∀ a, H1 a ≠ none → B1 a = none → B' a = none := fun a ha hb => by
    have hne : a ≠ x := fun z => by subst z; exact ha hx
    refine mv.off a hne ?_ hb
    cases qq : H1 a with
    | none => exact absurd qq ha
    | some o => rw [s12 a o qq]; exact fun z => nomatch z
  have E2 : Env K (upd B' x (.ins C dx fs)) H' σ Γ1 := by
    refine ⟨g1.env.len, fun a o e => ?_, fun i d hi => ?_, fun i es hi => ?_, g1.env.sep⟩
    · by_cases ha : a = x
      · subst ha; rw [upd_same] at e; cases e; exact hx'
      · rw [upd_ne ha] at e; exact sb a o e
    · obtain ⟨v, e1, e2⟩ := g1.env.val i d hi
      exact ⟨v, e1, e2.mono (mv.bb.trans sBB)⟩
    · obtain ⟨l, us, e1, e2, e3, e4⟩ := g1.env.acc i es hi
      have hl : l ≠ x := fun z => by subst z; rw [hx] at e2; cases e2
      exact ⟨l, us, e1, kept l _ e2, by rw [upd_ne hl]; exact offB l (by rw [e2]; exact fun z => nomatch z) e3, e4.mono (mv.bb.trans sBB)⟩
  have g2 : Go K σ B1 H1 Γ1 (upd B' x (.ins C dx fs)) H' Γ1 := by
    refine ⟨⟨fun a o _ e => kept a o e, mv.bb.trans sBB, fun a na ha hb => ?_⟩, fun i es hi => ⟨es, hi⟩, E2⟩
    have hne : a ≠ x := fun z => by subst z; exact ha hx
    rw [upd_ne hne]; exact offB a ha hb
  have hf' := hf.mono sBB
  exact q (.ref x) _ H' (.val (.obj C gs)) Γ1 (g1.trans g2) (Is.obj upd_same hf'.hk hf'.hi) p
/-- C(a, ..), the keyword-only parameters by their defaults -/
theorem we_makeD {dvs : List V} {ai : AI} {E0 : XK} {t : TA} (h : WD K t Γ fun ds Γ1 => Hold (ai (ds ++ dvs.map Dt.raw) fun gs => Post (.val (.obj C gs)) Γ1)) : WE K (tMake C (toSpI K C ai) dvs E0 t) Γ Post := fun σ B H E Q q => by
  refine h σ B H E _ fun vs B1 H1 ds Γ1 g1 k1 p1 => ?_
  exact make_core g1 (k1.append .raws) p1.get q
/-- C(a, .., k = v, ..) -/
theorem we_makeK {n m : Nat} {o : List Nat} {mz : List V} {ai : AI} {E0 : XK} {t tk : TA} (h : WD K t Γ fun ds Γ1 => WD K tk Γ1 fun es Γ2 => (ds.length == n && es.length == m) = true ∧ Hold (ai (pick o (ds ++ mz.map Dt.raw ++ es)) fun gs => Post (.val (.obj C gs)) Γ2)) :
    WE K (tMakeK C n m (toSpI K C ai) (fun vs zs => pick (0 :: upO o) (vs ++ mz ++ zs)) E0 t tk) Γ Post := fun σ B H E Q q => by
  refine h σ B H E _ fun vs B1 H1 ds Γ1 g1 k1 p1 => ?_
  refine p1 σ B1 H1 g1.env _ fun zs B2 H2 es Γ2 g2 k2 p2 => ?_
  obtain ⟨l0, p⟩ := p2
  rw [Bool.and_eq_true] at l0
  have l1 := beq_iff_eq.mp l0.1
  have l2 := beq_iff_eq.mp l0.2
  refine ⟨by rw [k1.len]; exact l1, by rw [k2.len]; exact l2, fun x dx hx hdx hne => ?_⟩
  have e : pick (0 :: upO o) ((V.ref x :: vs) ++ mz ++ zs) = .ref x :: pick o (vs ++ mz ++ zs) := by
    rw [pick_cons (x := V.ref x) rfl]
    show V.ref x :: pick (upO o) (V.ref x :: (vs ++ mz ++ zs)) = _
    rw [pick_up]
  show toSpI K C ai (pick (0 :: upO o) ((V.ref x :: vs) ++ mz ++ zs)) _ _ _
  rw [e]
  exact make_core (g1.trans g2) (pick_isA (((k1.mono g2.mv.bb).append .raws).append k2) o) p.get q x dx hx hdx hne
theorem kw_nil {D : Addr} : ∀ q ∈ ([] : List (Str × V)), ∃ u, PySem.W.nsIn K D q.1 = some (some u) ∧ RelV q.2 u := fun _ h => nomatch h
theorem kw_cons {D : Addr} {a : Str × V} {l : List (Str × V)} (h : ∃ u, PySem.W.nsIn K D a.1 = some (some u) ∧ RelV a.2 u) (r : ∀ q ∈ l, ∃ u, PySem.W.nsIn K D q.1 = some (some u) ∧ RelV q.2 u) : ∀ q ∈ a :: l, ∃ u, PySem.W.nsIn K D q.1 = some (some u) ∧ RelV q.2 u := fun q hq => (List.mem_cons.mp hq).elim (fun e => e ▸ h) (r q)
theorem sub_nil {α : Type} {l : List α} : ∀ q ∈ ([] : List α), q ∈ l := fun _ h => nomatch h
theorem sub_cons {α : Type} {a : α} {r l : List α} (h : a ∈ l) (t : ∀ q ∈ r, q ∈ l) : ∀ q ∈ a :: r, q ∈ l := fun q hq => (List.mem_cons.mp hq).elim (fun e => e ▸ h) (t q)
theorem pe_makeKm {X : Cx} {CX : CXT} {k n m : Nat} {f C : Addr} {fd : FuncData} {ps ks : List Str} {sp : Sp} {E : XK} {x : Str} {p pos : Pos} {e : Expr} {es : List Expr} {kws : List Keyword} {t tk : TA} {g : List Value → List Value → List Value} {gV : List V → List V → List V} (M : Mk X.K C f) (F : FnOk X.prog X.w X.K X.mg X.base CX k f fd ps sp) (hr : Room (k + 1) X.A) (hg : Gl X x) (hm : X.mg x = some (.ref C)) (hb : KBn X.K fd ps (n + 1) ks g gV) (hx : Passes CX X E) (ha : PA X (e :: es) t) (hkw : PK X kws tk) (hml : ks.length = m)
    (hall : (backToKw pos (keywordEach kws X.env)).all (·.1.isSome) = true := by rfl) (hks : (backToKw pos (keywordEach kws X.env)).filterMap (·.1) = ks := by rfl) (hdb : (x == ("__debug__" : Str)) = false := by decide)
    (he : starEach (e :: es) X.env = (false, eval e X.env) :: starEach es X.env := by rfl) (hpl : ((backTo pos (starEach (e :: es) X.env)).any (·.1) || (backToKw pos (keywordEach kws X.env)).any (·.1.isNone)) = false := by rfl) :
    PE X (.Call (.Name x p) (e :: es) kws pos) (tMakeK C n m sp gV E t tk) := by
  subst hml
  exact pe_makeK M F hr hg hm hb hx ha hkw hall hks hdb he hpl
/-! ### C.m(..), m a staticmethod -/
structure SMet (K : PySem.W.Frag) (C : Addr) (m : Str) (p f : Addr) : Prop where
  rd : PySem.W.readsIn K C (.type "type") = true
  ga : PySem.W.specialIn K (.ref C) "__getattribute__" = some (some (.builtin "type.__getattribute__"))
  at_ : PySem.W.findCls K (.ref C) (.type "type") m = some (.get (.builtin "staticmethod.__get__") (.ref p) .none (.ref C))
  rc : ∃ rest, PySem.W.recIn K p "staticmethod" = some (.ref f :: rest)
def tSMeth (C : Addr) (sp : Sp) (E : XK) (ta : TE) (t : TA) : TE := fun σ H Q => ta σ H fun x H1 => x = .ref C ∧ t σ H1 fun vs H2 => sp (vs ++ []) H2 Q E
theorem pe_smeth {X : Cx} {CX : CXT} {k : Nat} {p f : Addr} {fd : FuncData} {ps : List Str} {sp : Sp} {E : XK} {o e : Expr} {es : List Expr} {m : Str} {pos apos : Pos} {ta : TE} {t : TA} {pl : Sem Bool} (he : PE X o ta) (c : SMet X.K C m p f) (F : FnOk X.prog X.w X.K X.mg X.base CX k f fd ps sp) (hr : Room k X.A)
    (hk : PySem.W.keepIn X.K (.ref f) = true) (hb : Binds X.K fd ps []) (hx : Passes CX X E) (ha : PA X (e :: es) t)
    (hst : starEach (e :: es) X.env = (false, eval e X.env) :: starEach es X.env := by rfl) (hpl : (backTo pos (starEach es X.env)).any (·.1) = false := by rfl)
    (ht : eval (.Call (.Attribute o m apos) (e :: es) [] pos) X.env = (do
      let ov ← eval o X.env
      standAt apos.atName
      let (f, first) ← holding [ov] (getMethod ov m pl)
      callWith pos f first (backTo pos (starEach (e :: es) X.env)) (backToKw pos (keywordEach [] X.env))) := by rfl) :
    PE X (.Call (.Attribute o m apos) (e :: es) [] pos) (tSMeth C sp E ta t) := by
  refine ⟨fun pins s σ H Q I h => ?_⟩
  refine PySem.W.methodCall_KW (pl := pl) (thn (he.run pins s σ H _ I h) fun u s1 ⟨x, H1, I1, rx, ex, q⟩ => ?_) ht
  subst ex
  obtain rfl : u = Value.ref C := rx
  obtain ⟨rest, hp⟩ := c.rc
  refine PySem.W.method_cls I1.kIn c.ga ?_
  refine PySem.W.cls_bind I1.kIn c.rd c.at_ (wpAny_call (PySem.W.sm_get (s := { s1 with toks := s1.toks + 1 }) I1.kIn hp (PySem.W.handed_on rfl ?_)))
  have I2 : Inv X pins σ H1 { s1 with toks := s1.toks + 1 } := I1.tok _
  refine PySem.W.callWith_K (h₀ := X.base) I2.ok.mod.kin hk (thn (ha.run pos pins _ σ H1 _ I2 q) fun us s2 ⟨vs, H2, I3, r, q2⟩ => ⟨I3.kIn, ?_⟩) hst hpl
  exact run_fn F hr hb .nil hx I3 r q2
theorem we_smeth {ap : AP} {E0 : XK} {ta : TA} (h : WA K ta Γ fun rs Γ1 => nodupB (ownsOf rs) = true ∧ Hold (ap (rs.map (argSl Γ1)) fun r as' => NormP (putBack rs as' Γ1) (Post r))) : WE K (tSMeth C (toSp K ap) E0 (tC (.ref C)) ta) Γ Post := fun σ B H E Q q => by
  refine ⟨rfl, ?_⟩
  exact we_callH (E0 := E0) h σ B H E Q q
end
end Ab
/-! bare rows of lines, glue: law-free -/
namespace Lin
open PySem L2 Ab
def tq_Glue_parts (K : PySem.W.Frag) : TS :=
    (tRet (tTup (tCons (tFld K (tVar 0) "width") (tCons (tFld K (tVar 0) "stretch") (tCons (tFld K (tVar 0) "shrink") tNil)))))
def tq_Glue___add__ (K : PySem.W.Frag) (c_Glue : Addr) (ai_Glue : AI) : TS :=
    (tSeq (tIfS (tNot (tB (tCB (rIsi K) (tCons (tVar 1) (tCons (tC (.ref c_Glue)) tNil))))) tNever tNext)
    (tRet (tMake c_Glue (toSpI K c_Glue ai_Glue) [] E0 (tCons (tOp (rAddG K) (tFld K (tVar 0) "width") (tFld K (tVar 1) "width")) (tCons (tOp (rAddG K) (tFld K (tVar 0) "stretch") (tFld K (tVar 1) "stretch")) (tCons (tOp (rAddG K) (tFld K (tVar 0) "shrink") (tFld K (tVar 1) "shrink")) tNil))))))
def tq_ends_at_hyphen (K : PySem.W.Frag) : TS :=
    (tSeq (tAsg (tVar 0) (gTup K 2 (gCons (gName 2) (gCons (gName 3) gNil))))
    (tRet (tAndV (tOp (rLtG K) (tVar 1) (tCB (rLenV K) (tCons (tVar 2) tNil))) (tOp (rEqG K) (tOp (rIx K) (tOp (rIx K) (tVar 3) (tOp rSubI (tVar 1) (tC (.int 1)))) (tC (.int 0))) (tC (.str "hyphen"))))))
def tq_joint_glue (K : PySem.W.Frag) (c_Glue : Addr) (ai_Glue : AI) : TS :=
    (tSeq (tIfS (tTest (tOp (rEqG K) (tOp (rIx K) (tVar 0) (tC (.int 0))) (tC (.str "gap")))) (tRet (tMake c_Glue (toSpI K c_Glue ai_Glue) [] E0 (tCons (tOp (rIx K) (tVar 0) (tC (.int 1))) (tCons (tOp (rIx K) (tVar 0) (tC (.int 2))) (tCons (tOp (rIx K) (tVar 0) (tC (.int 3))) tNil))))) tNext)
    (tRet (tMake c_Glue (toSpI K c_Glue ai_Glue) [] E0 (tCons (tUn rNegI (tOp (rIx K) (tVar 0) (tC (.int 2)))) (tCons (tC (.int 0)) (tCons (tC (.int 0)) tNil))))))
def tq_extended_glue (K : PySem.W.Frag) (c_Glue : Addr) (ap_joint_glue : AP) (ap_Glue___add__ : AP) (ai_Glue : AI) : TS :=
    (tSeq (tAsg (tVar 0) (gTup K 2 (gCons (gName 3) (gCons (gName 4) gNil))))
    (tRet (tOp (rOwn c_Glue (toSp K ap_Glue___add__) E0) (tOp (rOwn c_Glue (toSp K ap_Glue___add__) E0) (tVar 1) (tCall (toSp K ap_joint_glue) [] E0 (tCons (tOp (rIx K) (tVar 4) (tOp rSubI (tVar 2) (tC (.int 1)))) tNil))) (tMake c_Glue (toSpI K c_Glue ai_Glue) [] E0 (tCons (tOp (rIx K) (tVar 3) (tVar 2)) (tCons (tC (.int 0)) (tCons (tC (.int 0)) tNil)))))))
def tq_finished_glue (K : PySem.W.Frag) (c_Glue : Addr) (ap_ends_at_hyphen : AP) (ai_Glue : AI) (ap_Glue___add__ : AP) : TS :=
    (tSeq (tIfS (tB (tCall (toSp K ap_ends_at_hyphen) [] E0 (tCons (tVar 0) (tCons (tVar 2) tNil)))) (tRet (tOp (rOwn c_Glue (toSp K ap_Glue___add__) E0) (tVar 1) (tMake c_Glue (toSpI K c_Glue ai_Glue) [] E0 (tCons (tOp (rIx K) (tOp (rIx K) (tOp (rIx K) (tVar 0) (tC (.int 1))) (tOp rSubI (tVar 2) (tC (.int 1)))) (tC (.int 1))) (tCons (tC (.int 0)) (tCons (tC (.int 0)) tNil)))))) tNext)
    (tRet (tVar 1)))
def tq_line_glue (K : PySem.W.Frag) (c_Glue : Addr) (ai_Glue : AI) (ap_extended_glue : AP) (ap_finished_glue : AP) : TS :=
    (tSeq (tAsg (tMake c_Glue (toSpI K c_Glue ai_Glue) [] E0 (tCons (tOp (rIx K) (tOp (rIx K) (tVar 0) (tC (.int 0))) (tVar 1)) (tCons (tC (.int 0)) (tCons (tC (.int 0)) tNil)))) (gName 3))
    (tSeq (tFor (iRng2 (tCons (tOp (rAddG K) (tVar 1) (tC (.int 1))) (tCons (tVar 2) tNil))) (gName 4) (tAsg (tCall (toSp K ap_extended_glue) [] E0 (tCons (tVar 0) (tCons (tVar 3) (tCons (tVar 4) tNil)))) (gName 3)))
    (tRet (tCall (toSp K ap_finished_glue) [] E0 (tCons (tVar 0) (tCons (tVar 3) (tCons (tVar 2) tNil)))))))
def tq_is_integer (K : PySem.W.Frag) : TS :=
    (tRet (tAndV (tCB (rIsi K) (tCons (tVar 0) (tCons (tC (.ty "int")) tNil))) (tNotV (tCB (rIsi K) (tCons (tVar 0) (tCons (tC (.ty "bool")) tNil))))))
def tq_joint (K : PySem.W.Frag) (ap__law_take : AP) : TS :=
    (tSeq (tIfS (tTest (tOp (rEqG K) (tCall (toSp K ap__law_take) [] E0 (tCons (tVar 0) (tCons (tC (.int 3)) tNil))) (tC (.int 0)))) (tSeq (tAsg (tOp (rAddG K) (tC (.int 1)) (tCall (toSp K ap__law_take) [] E0 (tCons (tVar 0) (tCons (tOp (rIx K) (tLst (tCons (tC (.int 9)) (tCons (tC (.int 500)) tNil))) (tVar 2)) tNil)))) (gName 3))
    (tRet (tTup (tCons (tC (.str "hyphen")) (tCons (tVar 3) (tCons (tCall (toSp K ap__law_take) [] E0 (tCons (tVar 0) (tCons (tVar 1) tNil))) tNil)))))) tNext)
    (tSeq (tAsg (tOp (rAddG K) (tC (.int 1)) (tCall (toSp K ap__law_take) [] E0 (tCons (tVar 0) (tCons (tOp (rIx K) (tLst (tCons (tC (.int 12)) (tCons (tC (.int 500)) tNil))) (tVar 2)) tNil)))) (gName 4))
    (tSeq (tAsg (tCall (toSp K ap__law_take) [] E0 (tCons (tVar 0) (tCons (tOp (rIx K) (tLst (tCons (tC (.int 12)) (tCons (tC (.int 501)) tNil))) (tVar 2)) tNil))) (gName 3))
    (tRet (tTup (tCons (tC (.str "gap")) (tCons (tVar 4) (tCons (tVar 3) (tCons (tCall (toSp K ap__law_take) [] E0 (tCons (tVar 0) (tCons (tVar 4) tNil))) tNil)))))))))
def tq_bare (K : PySem.W.Frag) (ap__law_take : AP) (ap__law_joint : AP) : TS :=
    (tSeq (tAsg (tCB rMx2 (tCons (tCB rInt1 (tCons (tVar 1) tNil)) (tCons (tCall (toSp K ap__law_take) [] E0 (tCons (tVar 0) (tCons (tC (.int 9)) tNil))) tNil))) (gName 3))
    (tSeq (tIfS (tTest (tOp (rEqG K) (tCall (toSp K ap__law_take) [] E0 (tCons (tVar 0) (tCons (tVar 2) tNil))) (tOp rSubI (tVar 2) (tC (.int 1))))) (tAsg (tCB rMx2 (tCons (tCB rInt1 (tCons (tVar 1) tNil)) (tCons (tCall (toSp K ap__law_take) [] E0 (tCons (tVar 0) (tCons (tC (.int 41)) tNil))) tNil))) (gName 3)) tNext)
    (tSeq (tAsg (tCB rInt1 (tCons (tOp (rEqG K) (tCall (toSp K ap__law_take) [] E0 (tCons (tVar 0) (tCons (tC (.int 8)) tNil))) (tC (.int 7))) tNil)) (gName 4))
    (tSeq (tAsg (tOp (rIx K) (tLst (tCons (tC (.int 0)) (tCons (tC (.int 0)) (tCons (tC (.int 1)) (tCons (tC (.int 2)) tNil))))) (tCall (toSp K ap__law_take) [] E0 (tCons (tVar 0) (tCons (tC (.int 4)) tNil)))) (gName 5))
    (tSeq (tAsg (tLst tNil) (gName 6))
    (tSeq (tFor (iRng1 (tCons (tVar 3) tNil)) (gName 7) (tIfS (tTest (tChain rLtI rLeI (tC (.int 0)) (tVar 5) (tVar 7))) (tDrop (tBM K "list" rAppend (tVar 6) (tCons (tOp (rIx K) (tVar 6) (tOp rSubI (tVar 7) (tVar 5))) tNil))) (tDrop (tBM K "list" rAppend (tVar 6) (tCons (tOp (rAddG K) (tC (.int 1)) (tCall (toSp K ap__law_take) [] E0 (tCons (tVar 0) (tCons (tOp (rIx K) (tLst (tCons (tC (.int 40)) (tCons (tC (.int 5000)) tNil))) (tVar 4)) tNil)))) tNil)))))
    (tSeq (tAsg (tLst tNil) (gName 8))
    (tSeq (tFor (iRng1 (tCons (tOp rSubI (tVar 3) (tC (.int 1))) tNil)) (gName 7) (tIfS (tTest (tChain rLtI rLeI (tC (.int 0)) (tVar 5) (tVar 7))) (tDrop (tBM K "list" rAppend (tVar 8) (tCons (tOp (rIx K) (tVar 8) (tOp rSubI (tVar 7) (tVar 5))) tNil))) (tSeq (tAsg (tCB rMn2 (tCons (tCB rInt1 (tCons (tOp (rIx K) (tVar 6) (tVar 7)) tNil)) (tCons (tCB rInt1 (tCons (tOp (rIx K) (tVar 6) (tOp (rAddG K) (tVar 7) (tC (.int 1)))) tNil)) tNil))) (gName 9))
    (tDrop (tBM K "list" rAppend (tVar 8) (tCons (tCall (toSp K ap__law_joint) [] E0 (tCons (tVar 0) (tCons (tVar 9) (tCons (tVar 4) tNil)))) tNil))))))
    (tRet (tTup (tCons (tCB (rTupleOf K) (tCons (tVar 6) tNil)) (tCons (tCB (rTupleOf K) (tCons (tVar 8) tNil)) tNil))))))))))))
abbrev o_Glue (c : Addr) (d0 d1 d2 : Dt) : Dt := .obj c [("width", d0), ("stretch", d1), ("shrink", d2)]
abbrev fs_Glue (d0 d1 d2 : Dt) : List (Str × Dt) := [("width", d0), ("stretch", d1), ("shrink", d2)]
theorem lk_Glue_width {d0 d1 d2 : Dt} : List.lookup ("width" : Str) (fs_Glue d0 d1 d2) = some d0 := lk_hit
theorem ne_Glue_1_0 : ¬ (("stretch" : Str) = "width") := by decide +kernel
theorem lk_Glue_stretch {d0 d1 d2 : Dt} : List.lookup ("stretch" : Str) (fs_Glue d0 d1 d2) = some d1 := (lk_miss ne_Glue_1_0).trans (lk_hit)
theorem ne_Glue_2_0 : ¬ (("shrink" : Str) = "width") := by decide +kernel
theorem ne_Glue_2_1 : ¬ (("shrink" : Str) = "stretch") := by decide +kernel
theorem lk_Glue_shrink {d0 d1 d2 : Dt} : List.lookup ("shrink" : Str) (fs_Glue d0 d1 d2) = some d2 := (lk_miss ne_Glue_2_0).trans ((lk_miss ne_Glue_2_1).trans (lk_hit))
theorem lk_Glue_no_parts {d0 d1 d2 : Dt} : List.lookup ("parts" : Str) (fs_Glue d0 d1 d2) = none := (lk_miss (by decide +kernel)).trans ((lk_miss (by decide +kernel)).trans ((lk_miss (by decide +kernel)).trans (rfl)))
theorem lk_Glue_no___add__ {d0 d1 d2 : Dt} : List.lookup ("__add__" : Str) (fs_Glue d0 d1 d2) = none := (lk_miss (by decide +kernel)).trans ((lk_miss (by decide +kernel)).trans ((lk_miss (by decide +kernel)).trans (rfl)))
def ai_Glue : AI := fun ds Post => ∃ e0 e1 e2, ds = [e0, e1, e2] ∧ Post [("width", e0), ("stretch", e1), ("shrink", e2)]
inductive Jt where
  | hy (a b : Int)
  | gap (w s h : Int)
def Jt.dt : Jt → Dt
  | .hy a b => .tup [.str "hyphen", .int a, .int b]
  | .gap w s h => .tup [.str "gap", .int w, .int s, .int h]
structure G3 where
  w : Int
  s : Int
  h : Int
def G3.add (a b : G3) : G3 := ⟨a.w + b.w, a.s + b.s, a.h + b.h⟩
abbrev gD (c : Addr) (g : G3) : Dt := .obj c [("width", .int g.w), ("stretch", .int g.s), ("shrink", .int g.h)]
def Jt.g : Jt → G3
  | .gap w s h => ⟨w, s, h⟩
  | .hy _ b => ⟨-b, 0, 0⟩
def Jt.isHy : Jt → Bool
  | .hy _ _ => true
  | _ => false
def Jt.hyW : Jt → Int
  | .hy a _ => a
  | _ => 0
structure Row where
  ws : List Int
  js : List Jt
abbrev Row.dt (r : Row) : Dt := .tup [.tup (r.ws.map Dt.int), .tup (r.js.map Jt.dt)]
def Row.W (r : Row) (k : Nat) : Int := r.ws.getD k 0
def Row.J (r : Row) (k : Nat) : Jt := r.js.getD k (.hy 0 0)
def JtOk : Jt → Int → Int → Prop
  | .hy a b, x, y => 1 ≤ a ∧ a ≤ 500 ∧ 0 ≤ b ∧ b < x ∧ b < y
  | .gap w s h, _, _ => 1 ≤ w ∧ w ≤ 500 ∧ 0 ≤ s ∧ s ≤ 500 ∧ 0 ≤ h ∧ h < w
structure RowOk (r : Row) : Prop where
  len : r.ws.length = r.js.length + 1
  n : r.ws.length ≤ 41
  w : ∀ k, k < r.ws.length → 1 ≤ r.W k ∧ r.W k ≤ 5000
  j : ∀ k, k < r.js.length → JtOk (r.J k) (r.W k) (r.W (k + 1))
def Row.hyE (r : Row) (e : Nat) : Bool := decide (e < r.ws.length) && (r.J (e - 1)).isHy
def sumTo : Nat → (Nat → Int) → Int
  | 0, _ => 0
  | n + 1, f => sumTo n f + f n
def inn (r : Row) (s n : Nat) : G3 := ⟨sumTo (n + 1) (fun k => r.W (s + k)) + sumTo n (fun k => (r.J (s + k)).g.w), sumTo n (fun k => (r.J (s + k)).g.s), sumTo n (fun k => (r.J (s + k)).g.h)⟩
def fin (r : Row) (g : G3) (e : Nat) : G3 := if r.hyE e = true then g.add ⟨(r.J (e - 1)).hyW, 0, 0⟩ else g
def lineG (r : Row) (s e : Nat) : G3 := fin r (inn r s (e - s - 1)) e
theorem at_W {r : Row} {k : Nat} {i : Int} (e : i = (k : Int)) (h : k < r.ws.length) : atI (r.ws.map Dt.int) i = some (.int (r.W k)) := atI_of e (by rw [List.getElem?_map, List.getElem?_eq_getElem h]; unfold Row.W; rw [List.getD_eq_getElem?_getD, List.getElem?_eq_getElem h]; rfl)
theorem at_J {r : Row} {k : Nat} {i : Int} (e : i = (k : Int)) (h : k < r.js.length) : atI (r.js.map Jt.dt) i = some (r.J k).dt := atI_of e (by rw [List.getElem?_map, List.getElem?_eq_getElem h]; unfold Row.J; rw [List.getD_eq_getElem?_getD, List.getElem?_eq_getElem h]; rfl)
structure GlueOk (K : PySem.W.Frag) (c : Addr) : Prop where
  co : ClsOk K c
  n1 : NoAttr K c "width"
  n2 : NoAttr K c "stretch"
  n3 : NoAttr K c "shrink"
def ap_parts (c : Addr) : AP := fun as Post => ∃ g : G3, as = [.val (gD c g)] ∧ Post (.val (.tup [.int g.w, .int g.s, .int g.h])) as
def ap_add (c : Addr) : AP := fun as Post => ∃ a b : G3, as = [.val (gD c a), .val (gD c b)] ∧ Post (.val (gD c (a.add b))) as
def ap_ends : AP := fun as Post => ∃ (r : Row) (e : Nat), as = [.val r.dt, .val (.int e)] ∧ RowOk r ∧ 1 ≤ e ∧ Post (.val (.bl (r.hyE e))) as
def ap_jg (c : Addr) : AP := fun as Post => ∃ j : Jt, as = [.val j.dt] ∧ Post (.val (gD c j.g)) as
def ap_ext (c : Addr) : AP := fun as Post => ∃ (r : Row) (g : G3) (b : Nat), as = [.val r.dt, .val (gD c g), .val (.int b)] ∧ RowOk r ∧ 1 ≤ b ∧ b < r.ws.length ∧ Post (.val (gD c ((g.add (r.J (b - 1)).g).add ⟨r.W b, 0, 0⟩))) as
def ap_fin (c : Addr) : AP := fun as Post => ∃ (r : Row) (g : G3) (e : Nat), as = [.val r.dt, .val (gD c g), .val (.int e)] ∧ RowOk r ∧ 1 ≤ e ∧ Post (.val (gD c (fin r g e))) as
def ap_line (c : Addr) : AP := fun as Post => ∃ (r : Row) (s e : Nat), as = [.val r.dt, .val (.int s), .val (.int e)] ∧ RowOk r ∧ s < e ∧ e ≤ r.ws.length ∧ Post (.val (gD c (lineG r s e))) as
def ap_isint : AP := fun as Post => ∃ i : Int, as = [.val (.int i)] ∧ Post (.val (.bl true)) as
def ap_joint : AP := fun as Post => ∃ (ds : List Dt) (c x b : Int), as = [.acc ds, .val (.int x), .val (.int b)] ∧ PoolIs c ds ∧ 0 ≤ c ∧ c < 100000 ∧ 1 ≤ x ∧ x ≤ 5000 ∧ 0 ≤ b ∧ b ≤ 1 ∧ ∀ ds' c' (j : Jt), PoolIs c' ds' → c < c' → c' ≤ c + 4 → JtOk j x x → Post (.val j.dt) [.acc ds', .val (.int x), .val (.int b)]
def ap_bare : AP := fun as Post => ∃ (ds : List Dt) (c m o : Int), as = [.acc ds, .val (.int m), .val (.int o)] ∧ PoolIs c ds ∧ 0 ≤ c ∧ c < 10000 ∧ 1 ≤ m ∧ m ≤ 40 ∧ 1 ≤ o ∧ o ≤ 1000 ∧ ∀ ds' (r : Row), RowOk r → m ≤ r.ws.length → r.ws.length ≤ 40 → Post (.val r.dt) [.acc ds', .val (.int m), .val (.int o)]
theorem hyp_gap : (false ^^ decide (V.str "hyphen" = V.str "gap")) = false := by rw [decide_eq_false (str_ne (by decide +kernel))]; rfl
theorem gap_gap : (false ^^ decide (V.str "gap" = V.str "gap")) = true := by rw [decide_eq_true rfl]; rfl
theorem hyp_hyp : (false ^^ decide (V.str "hyphen" = V.str "hyphen")) = true := by rw [decide_eq_true rfl]; rfl
theorem gap_hyp : (false ^^ decide (V.str "gap" = V.str "hyphen")) = false := by rw [decide_eq_false (str_ne (by decide +kernel))]; rfl
local macro_rules | `(tactic| walk_at "no") => `(tactic| first
  | exact fun h => Bool.noConfusion (show true = false from h)
  | exact fun h => Bool.noConfusion (show false = true from h)
  | exact fun h => absurd (of_decide_eq_true h) (by omega)
  | exact fun h => absurd (by omega) (of_decide_eq_false h)
  | exact fun h => absurd (by omega) (nd_t h)
  | exact fun h => absurd (nd_f h) (by omega)
  | fail "no")
local macro_rules | `(tactic| walk_at "kb") => `(tactic| first | exact kb_tt | exact kb_ll | exact kb_ii | exact kb_ib | exact kb_ss | exact kb_sb | exact kb_si | exact kb_tb | exact kb_ti | exact kb_ts | exact kb_tl | exact kb_lb | exact kb_li | exact kb_ls | exact kb_lt | exact kb_is | exact kb_it | exact kb_il | exact kb_st | exact kb_sl | exact kb_bb | exact kb_bi | exact kb_nb | exact kb_ni | exact kb_ns | exact kb_nt | exact kb_nl | exact kb_bs | exact kb_bt | exact kb_bl | fail "kb")
local macro_rules | `(tactic| walk_at "norm") => `(tactic| first
  | exact (rfl : _ = ([] : List Sl))
  | ((refine' norm_cons (rfl : _ = _ :: _) ?ea ?et); (case ea => first | exact norm_v | exact norm_n | exact norm_o | exact rfl | fail "norm"); (case et => walk_at "norm"))
  | fail "norm")
local macro_rules | `(tactic| walk_at "x") => `(tactic| first
  | ((with_reducible refine' norm_intro ?hn ?_); (case hn => walk_at "norm"))
  | ((with_reducible refine' we_var ?hh ?_); (case hh => exact rfl))
  | ((with_reducible refine' we_own ?hh ?_); (case hh => exact rfl))
  | with_reducible refine we_c ?_
  | with_reducible refine we_addG ?_
  | with_reducible refine addp_i ?_
  | with_reducible refine we_opI0 ?_
  | with_reducible refine we_opI ?_
  | with_reducible refine we_mulG ?_
  | ((with_reducible refine' mulp_r ?h1 ?_); (case h1 => first | decide | omega | fail "m"))
  | ((with_reducible refine' mulp_l ?h1 ?_); (case h1 => first | decide | omega | fail "m"))
  | with_reducible refine we_neg ?_
  | with_reducible refine we_ltG ?_
  | with_reducible refine ltp_i ?_
  | with_reducible refine we_eqG ?_
  | with_reducible refine we_neG ?_
  | with_reducible refine eqp_i ?_
  | with_reducible refine nep_i ?_
  | with_reducible refine we_ixG ?_
  | ((with_reducible refine' ixp ?h1 ?h2 ?_); (case h1 => exact rfl); (case h2 => exact rfl))
  | with_reducible refine we_lenG ?_
  | ((with_reducible refine' lenp ?hh ?_); (case hh => exact rfl))
  | with_reducible refine we_intG ?_
  | with_reducible refine intp_i ?_
  | with_reducible refine intp_b ?_
  | with_reducible refine we_abs ?_
  | with_reducible refine we_tup ?_
  | with_reducible refine we_lst ?_
  | with_reducible refine we_tuple ?_
  | with_reducible refine we_list ?_
  | with_reducible refine we_sum ?_
  | with_reducible refine we_max2 ?_
  | with_reducible refine we_min2 ?_
  | with_reducible refine wd_cons ?_
  | with_reducible refine wd_nil ?_
  | with_reducible refine wa_cons ?_
  | with_reducible refine wa_nil ?_
  | with_reducible refine we_callH ?_
  | with_reducible refine we_isiG ?_
  | ((with_reducible refine' isi_own ?h1 ?h2 ?_); (case h1 => exact rfl); (case h2 => walk_at "kb"))
  | ((with_reducible refine' isi_val ?h1 ?h2 ?_); (case h1 => exact rfl); (case h2 => walk_at "kb"))
  | ((with_reducible refine' isi_new ?h2 ?_); (case h2 => walk_at "kb"))
  | with_reducible refine we_chainI ?_
  | with_reducible refine we_andV ?_
  | with_reducible refine we_orV ?_
  | with_reducible refine we_notV ?_
  | with_reducible refine wt_test ?_
  | with_reducible refine wt_B ?_
  | with_reducible refine wt_yes ?_
  | with_reducible refine wt_and ?_
  | with_reducible refine wt_or ?_
  | with_reducible refine wt_not ?_
  | ((with_reducible refine' ws_retA ?hh ?_); (case hh => exact rfl))
  | with_reducible refine ws_ret ?_
  | with_reducible refine ws_if ?_
  | with_reducible refine ws_nil ?_
  | with_reducible refine ws_expr ?_
  | with_reducible refine ws_asgN rfl rfl ?_
  | with_reducible refine ws_setN ?_
  | with_reducible refine ws_asgG ?_
  | ((with_reducible refine' wg_tup ?hh ?_); (case hh => exact rfl))
  | with_reducible refine wgs_cons ?_
  | with_reducible refine wgs_nil ?_
  | with_reducible refine wg_nameN rfl rfl ?_
  | ((with_reducible refine' we_appendN ?hh ?_); (case hh => exact rfl))
  | ((with_reducible refine' we_reverseN ?hh ?_); (case hh => exact rfl))
  | ((with_reducible refine' ws_augN ?h1 ?h2 ?_); (case h1 => exact rfl); (case h2 => exact rfl))
  | (refine ⟨_, rfl, ⟨_, rfl⟩, ?_⟩)
  | (refine ⟨_, rfl, ?_⟩)
  | (refine ⟨_, _, _, rfl, rfl, rfl, ?_⟩)
  | (refine ⟨_, _, rfl, rfl, (Nat.le_of_ble_eq_true rfl : _ ≤ _), ?_⟩)
  | (refine ⟨_, _, rfl, rfl, ?_⟩)
  | (refine ⟨(Nat.le_of_ble_eq_true rfl : _ ≤ _), ?_⟩)
  | (refine ⟨(rfl : _ = true), ?_⟩)
  | ((refine' ⟨fun _ => ?_, fun hY => absurd hY ?k2⟩); (case k2 => walk_at "no"))
  | ((refine' ⟨fun hY => absurd hY ?k2, fun _ => ?_⟩); (case k2 => walk_at "no"))
  | (refine ⟨⟨(by omega), (by omega)⟩, ?_⟩)
  | (refine ⟨⟨(by decide), (by decide), (by decide)⟩, ?_⟩)
  | (refine ⟨(by first | decide | omega | fail "c"), ?_⟩)
  | fail "stop")
local macro_rules | `(tactic| walk_at "e") => `(tactic| first | with_reducible refine ws_seq ?_ | walk_at "x" | fail "stop")
local macro_rules | `(tactic| walk_at "xs") => `(tactic| repeat' walk_at "x")
local macro_rules | `(tactic| walk_at "es") => `(tactic| repeat' walk_at "e")
local macro_rules | `(tactic| walk_at "len") => `(tactic| ((intro as Post h); (repeat (first | (obtain ⟨rfl, _⟩ := h; exact rfl) | (obtain ⟨_, h⟩ := h)))))
local macro_rules | `(tactic| walk_at "x") => `(tactic| first
  | with_reducible refine we_isN ?_
  | with_reducible refine we_notN ?_
  | with_reducible refine we_slG ?_
  | with_reducible refine wo_none ?_
  | with_reducible refine wo_some ?_
  | ((with_reducible refine' ixp ?h1 ?h2 ?_); (case h1 => exact rfl); (case h2 => assumption))
  | ((with_reducible refine' ixp_s ?h1 ?h2 ?_); (case h1 => assumption); (case h2 => assumption))
  | ((with_reducible refine' lenp_s ?h1 ?_); (case h1 => assumption))
  | ((with_reducible refine' slp_s ?h1 ?_); (case h1 => assumption))
  | with_reducible refine we_join ?_
  | with_reducible refine we_gtS ?_
  | ((with_reducible refine' we_ktup ?h1 ?_); (case h1 => assumption))
  | fail "x3")
local macro_rules | `(tactic| walk_at "x") => `(tactic| first
  | with_reducible refine we_fldG ?_
  | ((with_reducible refine' fldp ?h1 ?h2 ?h3 ?_); (case h1 => assumption); (case h2 => assumption); (case h3 => walk_at "lk"))
  | with_reducible refine we_methG ?_
  | ((with_reducible refine' metp ?h3 ?_); (case h3 => walk_at "lk"))
  | with_reducible refine we_make ?_
  | with_reducible refine we_own2 ?_
  | with_reducible refine we_isoG ?_
  | ((with_reducible refine' isop ?h1 ?_); (case h1 => assumption))
  | fail "x4")
local macro_rules | `(tactic| walk_at "lk") => `(tactic| first | exact lk_Glue_width | exact lk_Glue_stretch | exact lk_Glue_shrink | exact lk_Glue_no_parts | exact lk_Glue_no___add__ | fail "lk")
section
variable {K : PySem.W.Frag} {c : Addr}
theorem run_parts (go : GlueOk K c) (as : List Sl) (Post : Re → List Sl → Prop) (h : ap_parts c as Post) : WS K [] (tq_Glue_parts K) (as ++ List.replicate (1 - as.length) .un) ⟨fun G => Post (.val .non) (exitArgs [] G as), fun r G => Post r (exitArgs [] G as), fun _ => False, fun _ => False⟩ := by
  obtain ⟨g, rfl, k⟩ := h
  have cl := go.co.cl; have n1 := go.n1; have n2 := go.n2; have n3 := go.n3
  unfold tq_Glue_parts
  show WS K [] _ [.val (gD c g)] _
  walk_at "es"
  exact k
theorem run_add (go : GlueOk K c) (as : List Sl) (Post : Re → List Sl → Prop) (h : ap_add c as Post) : WS K [] (tq_Glue___add__ K c ai_Glue) (as ++ List.replicate (2 - as.length) .un) ⟨fun G => Post (.val .non) (exitArgs [] G as), fun r G => Post r (exitArgs [] G as), fun _ => False, fun _ => False⟩ := by
  obtain ⟨a, b, rfl, k⟩ := h
  have co := go.co; have cl := go.co.cl; have n1 := go.n1; have n2 := go.n2; have n3 := go.n3
  unfold tq_Glue___add__
  show WS K [] _ [.val (gD c a), .val (gD c b)] _
  walk_at "es"
  refine .a ⟨_, _, _, rfl, ?_⟩
  walk_at "es"
  exact k
theorem run_ends (as : List Sl) (Post : Re → List Sl → Prop) (h : ap_ends as Post) : WS K [] (tq_ends_at_hyphen K) (as ++ List.replicate (4 - as.length) .un) ⟨fun G => Post (.val .non) (exitArgs [] G as), fun r G => Post r (exitArgs [] G as), fun _ => False, fun _ => False⟩ := by
  obtain ⟨r, e, rfl, ok, he, k⟩ := h
  unfold tq_ends_at_hyphen
  show WS K [] _ [.val r.dt, .val (.int e), .un, .un] _
  have hl : ((r.ws.map Dt.int).length : Int) = r.ws.length := by rw [List.length_map]
  have ol := ok.len
  unfold Row.hyE at k
  by_cases hlt : (e : Int) < r.ws.length
  · have hj := at_J (r := r) (k := e - 1) (i := (e : Int) - 1) (by omega) (by omega)
    rw [decide_eq_true (show e < r.ws.length by omega), Bool.true_and] at k
    cases q : r.J (e - 1) with
    | hy a b =>
      rw [q] at hj k
      unfold Jt.dt at hj
      walk_at "es"
      refine eqp_s rfl ?_
      rw [hyp_hyp]
      walk_at "es"
      exact k
    | gap x y z =>
      rw [q] at hj k
      unfold Jt.dt at hj
      walk_at "es"
      refine eqp_s rfl ?_
      rw [gap_hyp]
      walk_at "es"
      exact k
  · rw [decide_eq_false (show ¬ e < r.ws.length by omega), Bool.false_and] at k
    walk_at "es"
    exact k
theorem run_jg (as : List Sl) (Post : Re → List Sl → Prop) (h : ap_jg c as Post) : WS K [] (tq_joint_glue K c ai_Glue) (as ++ List.replicate (1 - as.length) .un) ⟨fun G => Post (.val .non) (exitArgs [] G as), fun r G => Post r (exitArgs [] G as), fun _ => False, fun _ => False⟩ := by
  obtain ⟨j, rfl, k⟩ := h
  unfold tq_joint_glue
  show WS K [] _ [.val j.dt] _
  cases j with
  | hy a b =>
    unfold Jt.dt at k ⊢
    walk_at "es"
    refine eqp_s rfl ?_
    rw [hyp_gap]
    walk_at "es"
    refine .a ⟨_, _, _, rfl, ?_⟩
    walk_at "es"
    exact k
  | gap x y z =>
    unfold Jt.dt at k ⊢
    walk_at "es"
    refine eqp_s rfl ?_
    rw [gap_gap]
    walk_at "es"
    refine .a ⟨_, _, _, rfl, ?_⟩
    walk_at "es"
    exact k
theorem run_ext (as : List Sl) (Post : Re → List Sl → Prop) (h : ap_ext c as Post) : WS K [] (tq_extended_glue K c (ap_jg c) (ap_add c) ai_Glue) (as ++ List.replicate (5 - as.length) .un) ⟨fun G => Post (.val .non) (exitArgs [] G as), fun r G => Post r (exitArgs [] G as), fun _ => False, fun _ => False⟩ := by
  obtain ⟨r, g, b, rfl, ok, hb, hb2, k⟩ := h
  unfold tq_extended_glue
  show WS K [] _ [.val r.dt, .val (gD c g), .val (.int b), .un, .un] _
  have ol := ok.len
  have hj := at_J (r := r) (k := b - 1) (i := (b : Int) - 1) (by omega) (by omega)
  have hw := at_W (r := r) (k := b) (i := (b : Int)) rfl hb2
  walk_at "es"
  refine .a ⟨r.J (b - 1), rfl, ?_⟩
  walk_at "es"
  refine .a ⟨g, (r.J (b - 1)).g, rfl, ?_⟩
  walk_at "es"
  refine .a ⟨_, _, _, rfl, ?_⟩
  walk_at "es"
  refine .a ⟨g.add (r.J (b - 1)).g, ⟨r.W b, 0, 0⟩, rfl, ?_⟩
  walk_at "es"
  exact k
theorem run_fin (as : List Sl) (Post : Re → List Sl → Prop) (h : ap_fin c as Post) : WS K [] (tq_finished_glue K c ap_ends ai_Glue (ap_add c)) (as ++ List.replicate (3 - as.length) .un) ⟨fun G => Post (.val .non) (exitArgs [] G as), fun r G => Post r (exitArgs [] G as), fun _ => False, fun _ => False⟩ := by
  obtain ⟨r, g, e, rfl, ok, he, k⟩ := h
  unfold tq_finished_glue
  show WS K [] _ [.val r.dt, .val (gD c g), .val (.int e)] _
  have ol := ok.len
  walk_at "es"
  refine .a ⟨r, e, rfl, ok, he, ?_⟩
  walk_at "es"
  unfold fin at k
  refine ⟨fun h => ?_, fun h => ?_⟩
  · rw [if_pos h] at k
    unfold Row.hyE at h
    rw [Bool.and_eq_true] at h
    have h1 := of_decide_eq_true h.1
    have hj := at_J (r := r) (k := e - 1) (i := (e : Int) - 1) (by omega) (by omega)
    cases q : r.J (e - 1) with
    | hy a b =>
      rw [q] at hj k
      unfold Jt.dt at hj
      walk_at "es"
      refine .a ⟨_, _, _, rfl, ?_⟩
      walk_at "es"
      refine .a ⟨g, ⟨a, 0, 0⟩, rfl, ?_⟩
      walk_at "es"
      exact k
    | gap x y z => rw [q] at h; exact absurd h.2 (fun z => nomatch z)
  · rw [if_neg (by rw [h]; exact fun z => nomatch z)] at k
    walk_at "es"
    exact k
theorem run_line (as : List Sl) (Post : Re → List Sl → Prop) (h : ap_line c as Post) : WS K [] (tq_line_glue K c ai_Glue (ap_ext c) (ap_fin c)) (as ++ List.replicate (5 - as.length) .un) ⟨fun G => Post (.val .non) (exitArgs [] G as), fun r G => Post r (exitArgs [] G as), fun _ => False, fun _ => False⟩ := by
  obtain ⟨r, s, e, rfl, ok, hs, he, k⟩ := h
  unfold tq_line_glue
  show WS K [] _ [.val r.dt, .val (.int s), .val (.int e), .un, .un] _
  have ol := ok.len
  have on := ok.n
  have hw := at_W (r := r) (k := s) (i := (s : Int)) rfl (by omega)
  walk_at "es"
  refine .a ⟨_, _, _, rfl, ?_⟩
  walk_at "es"
  refine for_range2 ((s : Int) + 1) (e : Int) (fun i G => ∃ s4, G = [.val r.dt, .val (.int s), .val (.int e), .val (gD c (inn r s i)), s4]) ?_ ?_ ?_
  · walk_at "es"
    refine .a ⟨rfl, ⟨by omega, by omega, by omega, by omega⟩, .un, ?_⟩
    have : inn r s 0 = ⟨r.W s, 0, 0⟩ := by unfold inn sumTo sumTo; simp
    rw [this]
  · rintro i G hi ⟨s4, rfl⟩
    walk_at "es"
    refine .a ⟨r, inn r s i, s + 1 + i, by rw [show ((s + 1 + i : Nat) : Int) = (s : Int) + 1 + i by omega]; rfl, ok, by omega, by omega, ?_⟩
    walk_at "es"
    refine .a ⟨.val (.int ((s : Int) + 1 + i)), ?_⟩
    have : ((inn r s i).add (r.J (s + 1 + i - 1)).g).add ⟨r.W (s + 1 + i), 0, 0⟩ = inn r s (i + 1) := by
      rw [show s + 1 + i - 1 = s + i by omega, show s + 1 + i = s + (i + 1) by omega]
      unfold inn G3.add
      have e1 : sumTo (i + 1 + 1) (fun k => r.W (s + k)) = sumTo (i + 1) (fun k => r.W (s + k)) + r.W (s + (i + 1)) := rfl
      have e2 : ∀ f : Nat → Int, sumTo (i + 1) f = sumTo i f + f i := fun _ => rfl
      rw [e1, e2 (fun k => (r.J (s + k)).g.w), e2 (fun k => (r.J (s + k)).g.s), e2 (fun k => (r.J (s + k)).g.h)]
      congr 1
      · simp only; omega
      · simp only; omega
      · simp only; omega
    rw [this]
  · rintro G ⟨s4, rfl⟩
    walk_at "es"
    refine .a ⟨r, _, e, rfl, ok, by omega, ?_⟩
    walk_at "es"
    unfold lineG at k
    rw [show ((e : Int) - ((s : Int) + 1)).toNat = e - s - 1 by omega]
    exact k
theorem run_isint (as : List Sl) (Post : Re → List Sl → Prop) (h : ap_isint as Post) : WS K [] (tq_is_integer K) (as ++ List.replicate (1 - as.length) .un) ⟨fun G => Post (.val .non) (exitArgs [] G as), fun r G => Post r (exitArgs [] G as), fun _ => False, fun _ => False⟩ := by
  obtain ⟨i, rfl, k⟩ := h
  unfold tq_is_integer
  show WS K [] _ [.val (.int i)] _
  walk_at "es"
  exact k
theorem at_two {a b k : Int} (h0 : 0 ≤ k) (h1 : k ≤ 1) : ∃ u : Int, (u = a ∨ u = b) ∧ atI [Dt.int a, Dt.int b] k = some (.int u) := by
  rcases (show k = 0 ∨ k = 1 by omega) with rfl | rfl
  · exact ⟨a, .inl rfl, rfl⟩
  · exact ⟨b, .inr rfl, rfl⟩
theorem run_joint (as : List Sl) (Post : Re → List Sl → Prop) (h : ap_joint as Post) : WS K [0] (tq_joint K ap_take) (as ++ List.replicate (5 - as.length) .un) ⟨fun G => Post (.val .non) (exitArgs [0] G as), fun r G => Post r (exitArgs [0] G as), fun _ => False, fun _ => False⟩ := by
  obtain ⟨ds, c, x, b, rfl, h0, c0, c1, x1, x2, b0, b1, k⟩ := h
  unfold tq_joint
  show WS K [0] _ [.acc ds, .val (.int x), .val (.int b), .un, .un] _
  obtain ⟨u1, hu1, e1⟩ := at_two (a := 9) (b := 500) b0 b1
  obtain ⟨u2, hu2, e2⟩ := at_two (a := 12) (b := 500) b0 b1
  obtain ⟨u3, hu3, e3⟩ := at_two (a := 12) (b := 501) b0 b1
  walk_at "es"
  refine .a ⟨ds, c, 3, rfl, h0, by omega, by omega, by omega, by omega, fun d1 g1 h1 g10 g11 => ?_⟩
  walk_at "es"
  refine ⟨fun e => ?_, fun e => ?_⟩
  · walk_at "es"
    refine .a ⟨d1, c + 1, u1, rfl, h1, by omega, by omega, by omega, by omega, fun d2 g2 h2 g20 g21 => ?_⟩
    walk_at "es"
    refine .a ⟨d2, c + 1 + 1, x, rfl, h2, by omega, by omega, by omega, by omega, fun d3 g3 h3 g30 g31 => ?_⟩
    walk_at "es"
    exact k d3 _ (.hy (1 + g2) g3) h3 (by omega) (by omega) ⟨by omega, by omega, by omega, by omega, by omega⟩
  · walk_at "es"
    refine .a ⟨d1, c + 1, u2, rfl, h1, by omega, by omega, by omega, by omega, fun d2 g2 h2 g20 g21 => ?_⟩
    walk_at "es"
    refine .a ⟨d2, c + 1 + 1, u3, rfl, h2, by omega, by omega, by omega, by omega, fun d3 g3 h3 g30 g31 => ?_⟩
    walk_at "es"
    refine .a ⟨d3, c + 1 + 1 + 1, 1 + g2, rfl, h3, by omega, by omega, by omega, by omega, fun d4 g4 h4 g40 g41 => ?_⟩
    walk_at "es"
    exact k d4 _ (.gap (1 + g2) g3 g4) h4 (by omega) (by omega) ⟨by omega, by omega, by omega, by omega, by omega, by omega⟩
theorem JtOk.min {j : Jt} {x y z : Int} (h : JtOk j z z) (hx : z ≤ x) (hy : z ≤ y) : JtOk j x y := by
  cases j with
  | hy a b => obtain ⟨h1, h2, h3, h4, h5⟩ := h; exact ⟨h1, h2, h3, by omega, by omega⟩
  | gap w s h => exact h
theorem run_bare (as : List Sl) (Post : Re → List Sl → Prop) (h : ap_bare as Post) : WS K [0] (tq_bare K ap_take ap_joint) (as ++ List.replicate (10 - as.length) .un) ⟨fun G => Post (.val .non) (exitArgs [0] G as), fun r G => Post r (exitArgs [0] G as), fun _ => False, fun _ => False⟩ := by
  obtain ⟨ds, c, m, o, rfl, h0, c0, c1, m1, m2, o1, o2, k⟩ := h
  unfold tq_bare
  show WS K [0] _ [.acc ds, .val (.int m), .val (.int o), .un, .un, .un, .un, .un, .un, .un] _
  refine ws_seq ?_
  walk_at "xs"
  refine .a ⟨ds, c, 9, rfl, h0, by omega, by omega, by omega, by omega, fun d1 g1 h1 g10 g11 => ?_⟩
  walk_at "xs"
  generalize hq : (if g1 > m then g1 else m) = q1
  refine ws_cut (fun G => ∃ (d2 : List Dt) (c2 : Int) (n : Nat), PoolIs c2 d2 ∧ 0 ≤ c2 ∧ c2 ≤ c + 10 ∧ m ≤ n ∧ n ≤ 40 ∧ G = [.acc d2, .val (.int m), .val (.int o), .val (.int n), .un, .un, .un, .un, .un, .un]) ?_ ?_
  · walk_at "es"
    refine .a ⟨d1, c + 1, o, rfl, h1, by omega, by omega, by omega, by omega, fun d2 g2 h2 g20 g21 => ?_⟩
    walk_at "es"
    refine ⟨fun e => ?_, fun e => ?_⟩
    · walk_at "es"
      refine .a ⟨d2, c + 1 + 1, 41, rfl, h2, by omega, by omega, by omega, by omega, fun d3 g3 h3 g30 g31 => ?_⟩
      walk_at "es"
      generalize hq3 : (if g3 > m then g3 else m) = q3
      have : m ≤ q3 ∧ q3 ≤ 40 := by rw [← hq3]; split <;> omega
      exact .a ⟨d3, _, q3.toNat, h3, by omega, by omega, by omega, by omega, by rw [show (q3.toNat : Int) = q3 by omega]⟩
    · walk_at "es"
      have : m ≤ q1 ∧ q1 ≤ 40 := by rw [← hq]; split <;> omega
      exact .a ⟨d2, _, q1.toNat, h2, by omega, by omega, by omega, by omega, by rw [show (q1.toNat : Int) = q1 by omega]⟩
  · rintro G ⟨d2, c2, n, h2, c20, c21, n1, n2, rfl⟩
    refine ws_seq ?_
    walk_at "xs"
    refine .a ⟨d2, c2, 8, rfl, h2, by omega, by omega, by omega, by omega, fun d3 g3 h3 g30 g31 => ?_⟩
    walk_at "xs"
    obtain ⟨br, hbr, br0, br1⟩ : ∃ b : Int, (if decide (g3 = 7) = true then (1 : Int) else 0) = b ∧ 0 ≤ b ∧ b ≤ 1 := ⟨_, rfl, by split <;> omega, by split <;> omega⟩
    rw [hbr]
    obtain ⟨u1, hu1, e1⟩ := at_two (a := 40) (b := 5000) br0 br1
    refine ws_seq ?_
    walk_at "xs"
    refine .a ⟨d3, c2 + 1, 4, rfl, h3, by omega, by omega, by omega, by omega, fun d4 g4 h4 g40 g41 => ?_⟩
    obtain ⟨p, hp, ep⟩ : ∃ p : Nat, p ≤ 2 ∧ atI [Dt.int 0, Dt.int 0, Dt.int 1, Dt.int 2] g4 = some (.int p) := by
      rcases (show g4 = 0 ∨ g4 = 1 ∨ g4 = 2 ∨ g4 = 3 by omega) with rfl | rfl | rfl | rfl
      · exact ⟨0, by omega, rfl⟩
      · exact ⟨0, by omega, rfl⟩
      · exact ⟨1, by omega, rfl⟩
      · exact ⟨2, by omega, rfl⟩
    walk_at "xs"
    refine ws_seq ?_
    walk_at "xs"
    have hn : (n : Int) < 1000 := by omega
    refine ws_cut (fun G => ∃ (d5 : List Dt) (c5 : Int) (ws : List Int) (s7 : Sl), PoolIs c5 d5 ∧ 0 ≤ c5 ∧ c5 ≤ c + 100 ∧ ws.length = n ∧ (∀ w ∈ ws, 1 ≤ w ∧ w ≤ 5000) ∧ (0 < p → ∀ i, p ≤ i → i < n → ws.getD i 0 = ws.getD (i - p) 0) ∧ G = [.acc d5, .val (.int m), .val (.int o), .val (.int n), .val (.int br), .val (.int p), .acc (ws.map Dt.int), s7, .un, .un]) ?_ ?_
    · refine for_range1 (n : Int) (fun i G => ∃ (d5 : List Dt) (c5 : Int) (ws : List Int) (s7 : Sl), PoolIs c5 d5 ∧ 0 ≤ c5 ∧ c5 ≤ c2 + 2 + i ∧ ws.length = i ∧ (∀ w ∈ ws, 1 ≤ w ∧ w ≤ 5000) ∧ (0 < p → ∀ j, p ≤ j → j < i → ws.getD j 0 = ws.getD (j - p) 0) ∧ G = [.acc d5, .val (.int m), .val (.int o), .val (.int n), .val (.int br), .val (.int p), .acc (ws.map Dt.int), s7, .un, .un]) ?_ ?_ ?_
      · walk_at "es"
        exact .a ⟨rfl, by omega, by omega, d4, _, [], .un, h4, by omega, by omega, rfl, (fun _ h => nomatch h), (fun _ j _ h => absurd h (by omega)), rfl⟩
      · rintro i G hi ⟨d5, c5, ws, s7, h5, c50, c51, wl, hw, hper, rfl⟩
        have hll : (ws.map Dt.int).length < 1000000 := by rw [List.length_map]; omega
        have per : ∀ w, (0 < p → p ≤ i → w = ws.getD (i - p) 0) → (0 < p → ∀ j, p ≤ j → j < i + 1 → (ws ++ [w]).getD j 0 = (ws ++ [w]).getD (j - p) 0) := fun w hwp pp j h1 h2 => by
          have e1 : (ws ++ [w]).getD (j - p) 0 = ws.getD (j - p) 0 := by
            simp only [List.getD_eq_getElem?_getD]; rw [List.getElem?_append_left (by omega)]
          rw [e1]
          by_cases hj : j < i
          · rw [← hper pp j h1 hj]
            simp only [List.getD_eq_getElem?_getD]; rw [List.getElem?_append_left (by omega)]
          · have : j = i := by omega
            subst this
            rw [← hwp pp h1]
            simp only [List.getD_eq_getElem?_getD]; rw [List.getElem?_append_right (by omega), wl, Nat.sub_self]; rfl
        by_cases hc : (0 : Int) < p ∧ (p : Int) ≤ i
        · have hix : atI (ws.map Dt.int) ((i : Int) - p) = some (.int (ws.getD (i - p) 0)) := by
            rw [show ((i : Int) - p) = ((i - p : Nat) : Int) by omega]
            exact at_map (by omega) (by omega) 0
          walk_at "es"
          refine .a ⟨d5, c5, ws ++ [ws.getD (i - p) 0], .val (.int i), h5, c50, by omega, by simp [wl], fun w hw' => ?_, per _ (fun _ _ => rfl), by rw [List.map_append]; rfl⟩
          rcases List.mem_append.mp hw' with hw' | hw'
          · exact hw w hw'
          · rw [List.mem_singleton.mp hw', List.getD_eq_getElem?_getD, List.getElem?_eq_getElem (by omega)]
            exact hw _ (List.getElem_mem _)
        · have hz : (0 : Int) < p ∨ ¬ (0 : Int) < p := by omega
          rcases hz with hz | hz
          all_goals
            walk_at "es"
            refine .a ⟨d5, c5, u1, rfl, h5, by omega, by omega, by omega, by omega, fun d6 g6 h6 g60 g61 => ?_⟩
            walk_at "es"
            refine .a ⟨d6, c5 + 1, ws ++ [1 + g6], .val (.int i), h6, by omega, by omega, by simp [wl], fun w hw' => ?_, per _ (fun _ _ => absurd (by omega) hc), by rw [List.map_append]; rfl⟩
            rcases List.mem_append.mp hw' with hw' | hw'
            · exact hw w hw'
            · rw [List.mem_singleton.mp hw']; omega
      · rintro G ⟨d5, c5, ws, s7, h5, c50, c51, wl, hw, hper, rfl⟩
        exact .a ⟨d5, c5, ws, s7, h5, c50, by omega, by omega, hw, fun hp i h1 h2 => hper hp i h1 (by omega), rfl⟩
    · rintro G ⟨d5, c5, ws, s7, h5, c50, c51, wl, hw, hper, rfl⟩
      have hwb : ∀ k, k < n → 1 ≤ ws.getD k 0 ∧ ws.getD k 0 ≤ 5000 := fun k hk => by
        rw [List.getD_eq_getElem?_getD, List.getElem?_eq_getElem (by omega)]
        exact hw _ (List.getElem_mem _)
      refine ws_seq ?_
      walk_at "xs"
      refine ws_cut (fun G => ∃ (d6 : List Dt) (js : List Jt) (s7 s9 : Sl), js.length = n - 1 ∧ (∀ i, i < n - 1 → JtOk (js.getD i (.hy 0 0)) (ws.getD i 0) (ws.getD (i + 1) 0)) ∧ G = [.acc d6, .val (.int m), .val (.int o), .val (.int n), .val (.int br), .val (.int p), .acc (ws.map Dt.int), s7, .acc (js.map Jt.dt), s9]) ?_ ?_
      · refine for_range1 ((n : Int) - 1) (fun i G => ∃ (d6 : List Dt) (c6 : Int) (js : List Jt) (s7 s9 : Sl), PoolIs c6 d6 ∧ 0 ≤ c6 ∧ c6 ≤ c + 100 + 4 * i ∧ js.length = i ∧ (∀ j, j < i → JtOk (js.getD j (.hy 0 0)) (ws.getD j 0) (ws.getD (j + 1) 0)) ∧ G = [.acc d6, .val (.int m), .val (.int o), .val (.int n), .val (.int br), .val (.int p), .acc (ws.map Dt.int), s7, .acc (js.map Jt.dt), s9]) ?_ ?_ ?_
        · walk_at "es"
          exact .a ⟨rfl, by omega, by omega, d5, c5, [], s7, .un, h5, by omega, by omega, rfl, (fun j h => absurd h (by omega)), rfl⟩
        · rintro i G hi ⟨d6, c6, js, s7, s9, h6, c60, c61, jl, hj, rfl⟩
          have hll : (js.map Jt.dt).length < 1000000 := by rw [List.length_map]; omega
          have grow : ∀ x, JtOk x (ws.getD i 0) (ws.getD (i + 1) 0) → ∀ j, j < i + 1 → JtOk ((js ++ [x]).getD j (.hy 0 0)) (ws.getD j 0) (ws.getD (j + 1) 0) := fun x hx j h1 => by
            by_cases hji : j < i
            · have : (js ++ [x]).getD j (.hy 0 0) = js.getD j (.hy 0 0) := by simp only [List.getD_eq_getElem?_getD]; rw [List.getElem?_append_left (by omega)]
              rw [this]; exact hj j hji
            · have e : j = i := by omega
              subst e
              have : (js ++ [x]).getD j (.hy 0 0) = x := by simp only [List.getD_eq_getElem?_getD]; rw [List.getElem?_append_right (by omega), jl, Nat.sub_self]; rfl
              rw [this]; exact hx
          by_cases hc : (0 : Int) < p ∧ (p : Int) ≤ i
          · have hix : atI (js.map Jt.dt) ((i : Int) - p) = some (js.getD (i - p) (.hy 0 0)).dt := by
              rw [show ((i : Int) - p) = ((i - p : Nat) : Int) by omega]
              exact at_map (by omega) (by omega) _
            walk_at "es"
            refine .a ⟨d6, c6, js ++ [js.getD (i - p) (.hy 0 0)], .val (.int i), s9, h6, c60, by omega, by simp [jl], grow _ ?_, by rw [List.map_append]; rfl⟩
            rw [hper (by omega) i (by omega) (by omega), hper (by omega) (i + 1) (by omega) (by omega), show i + 1 - p = i - p + 1 by omega]
            exact hj _ (by omega)
          · have hz : (0 : Int) < p ∨ ¬ (0 : Int) < p := by omega
            have hi1 : atI (ws.map Dt.int) (i : Int) = some (.int (ws.getD i 0)) := at_map (by omega) (by omega) _
            have hi2 : atI (ws.map Dt.int) ((i : Int) + 1) = some (.int (ws.getD (i + 1) 0)) := by
              rw [show ((i : Int) + 1) = ((i + 1 : Nat) : Int) by omega]
              exact at_map (by omega) (by omega) _
            have b1 := hwb i (by omega)
            have b2 := hwb (i + 1) (by omega)
            rcases hz with hz | hz
            all_goals
              walk_at "es"
              obtain ⟨z, ez, z1, z2, z3, z4⟩ : ∃ z, (if ws.getD (i + 1) 0 < ws.getD i 0 then ws.getD (i + 1) 0 else ws.getD i 0) = z ∧ 1 ≤ z ∧ z ≤ 5000 ∧ z ≤ ws.getD i 0 ∧ z ≤ ws.getD (i + 1) 0 := ⟨_, rfl, by split <;> omega, by split <;> omega, by split <;> omega, by split <;> omega⟩
              rw [ez]
              refine .a ⟨d6, c6, z, br, rfl, h6, by omega, by omega, by omega, by omega, by omega, by omega, fun d7 c7 jj h7 c70 c71 hjj => ?_⟩
              walk_at "es"
              exact .a ⟨d7, c7, js ++ [jj], .val (.int i), .val (.int z), h7, by omega, by omega, by simp [jl], grow _ (hjj.min z3 z4), by rw [List.map_append]; rfl⟩
        · rintro G ⟨d6, c6, js, s7, s9, h6, c60, c61, jl, hj, rfl⟩
          exact .a ⟨d6, js, s7, s9, by omega, fun i hi => hj i (by omega), rfl⟩
      · rintro G ⟨d6, js, s7, s9, jl, hj, rfl⟩
        walk_at "es"
        exact k d6 ⟨ws, js⟩ ⟨by show ws.length = js.length + 1; omega, by show ws.length ≤ 41; omega, fun k hk => hwb k (by show k < n; rw [← wl]; exact hk), fun k hk => hj k (by rw [← jl]; exact hk)⟩ (by show m ≤ (ws.length : Int); omega) (by show ws.length ≤ 40; omega)
end
end Lin
namespace Lk53
open PySem L2 Ab
def topS (i : Nat) : Stmt := PySem.Challenge.pw_stylepages_k53_rivers_and_twins.main.body.getD i (.Pass ⟨0, 0, 0, 0⟩)
abbrev s_Glue___init__ : Stmt := inClass (topS 2) 0
abbrev N_Glue___init__ : List Str := ["self", "width", "stretch", "shrink"]
theorem sc_Glue___init__ : FnScope ["self", "width", "stretch", "shrink"] ["self", "width", "stretch", "shrink"] (defScope s_Glue___init__) := ⟨rfl, rfl, rfl, by decide +kernel, rfl, by decide +kernel, by decide +kernel⟩
abbrev s_Glue___add__ : Stmt := inClass (topS 2) 2
abbrev N_Glue___add__ : List Str := ["self", "other"]
theorem sc_Glue___add__ : FnScope ["self", "other"] ["self", "other"] (defScope s_Glue___add__) := ⟨rfl, rfl, rfl, by decide +kernel, rfl, by decide +kernel, by decide +kernel⟩
abbrev s_ends_at_hyphen : Stmt := topS 4
abbrev N_ends_at_hyphen : List Str := ["row", "end", "widths", "joints"]
theorem sc_ends_at_hyphen : FnScope ["row", "end", "widths", "joints"] ["row", "end"] (defScope s_ends_at_hyphen) := ⟨rfl, rfl, rfl, by decide +kernel, rfl, by decide +kernel, by decide +kernel⟩
abbrev s_joint_glue : Stmt := topS 5
abbrev N_joint_glue : List Str := ["joint"]
theorem sc_joint_glue : FnScope ["joint"] ["joint"] (defScope s_joint_glue) := ⟨rfl, rfl, rfl, by decide +kernel, rfl, by decide +kernel, by decide +kernel⟩
abbrev s_extended_glue : Stmt := topS 6
abbrev N_extended_glue : List Str := ["row", "inner", "box", "widths", "joints"]
theorem sc_extended_glue : FnScope ["row", "inner", "box", "widths", "joints"] ["row", "inner", "box"] (defScope s_extended_glue) := ⟨rfl, rfl, rfl, by decide +kernel, rfl, by decide +kernel, by decide +kernel⟩
abbrev s_finished_glue : Stmt := topS 7
abbrev N_finished_glue : List Str := ["row", "inner", "end"]
theorem sc_finished_glue : FnScope ["row", "inner", "end"] ["row", "inner", "end"] (defScope s_finished_glue) := ⟨rfl, rfl, rfl, by decide +kernel, rfl, by decide +kernel, by decide +kernel⟩
abbrev s_line_glue : Stmt := topS 8
abbrev N_line_glue : List Str := ["row", "start", "end", "inner", "box"]
theorem sc_line_glue : FnScope ["row", "start", "end", "inner", "box"] ["row", "start", "end"] (defScope s_line_glue) := ⟨rfl, rfl, rfl, by decide +kernel, rfl, by decide +kernel, by decide +kernel⟩
abbrev s_room_of : Stmt := topS 9
abbrev N_room_of : List Str := ["start", "measure"]
theorem sc_room_of : FnScope ["start", "measure"] ["start", "measure"] (defScope s_room_of) := ⟨rfl, rfl, rfl, by decide +kernel, rfl, by decide +kernel, by decide +kernel⟩
abbrev s_extra_of : Stmt := topS 10
abbrev N_extra_of : List Str := ["rest", "glue", "before", "last", "measure"]
theorem sc_extra_of : FnScope ["rest", "glue", "before", "last", "measure"] ["rest", "glue", "before", "last", "measure"] (defScope s_extra_of) := ⟨rfl, rfl, rfl, by decide +kernel, rfl, by decide +kernel, by decide +kernel⟩
abbrev s_box_places : Stmt := topS 11
abbrev N_box_places : List Str := ["row", "start", "end", "measure", "widths", "joints", "glue", "rest", "last", "plain", "before", "places", "box", "joint"]
theorem sc_box_places : FnScope ["row", "start", "end", "measure", "widths", "joints", "glue", "rest", "last", "plain", "before", "places", "box", "joint"] ["row", "start", "end", "measure"] (defScope s_box_places) := ⟨rfl, rfl, rfl, by decide +kernel, rfl, by decide +kernel, by decide +kernel⟩
abbrev s_gap_spans : Stmt := topS 12
abbrev N_gap_spans : List Str := ["row", "start", "end", "measure", "widths", "joints", "places", "spans", "box", "right_end"]
theorem sc_gap_spans : FnScope ["row", "start", "end", "measure", "widths", "joints", "places", "spans", "box", "right_end"] ["row", "start", "end", "measure"] (defScope s_gap_spans) := ⟨rfl, rfl, rfl, by decide +kernel, rfl, by decide +kernel, by decide +kernel⟩
abbrev s_count_overlapping : Stmt := topS 13
abbrev N_count_overlapping : List Str := ["upper", "lower", "count", "at", "first", "end"]
theorem sc_count_overlapping : FnScope ["upper", "lower", "count", "at", "first", "end"] ["upper", "lower"] (defScope s_count_overlapping) := ⟨rfl, rfl, rfl, by decide +kernel, rfl, by decide +kernel, by decide +kernel⟩
abbrev s_price_with_count : Stmt := topS 14
abbrev N_price_with_count : List Str := ["row", "middle", "end", "measure", "count"]
theorem sc_price_with_count : FnScope ["row", "middle", "end", "measure", "count"] ["row", "middle", "end", "measure", "count"] (defScope s_price_with_count) := ⟨rfl, rfl, rfl, by decide +kernel, rfl, by decide +kernel, by decide +kernel⟩
abbrev s_pair_price : Stmt := topS 15
abbrev N_pair_price : List Str := ["row", "start", "middle", "end", "measure", "count", "upper", "lower"]
theorem sc_pair_price : FnScope ["row", "start", "middle", "end", "measure", "count", "upper", "lower"] ["row", "start", "middle", "end", "measure"] (defScope s_pair_price) := ⟨rfl, rfl, rfl, by decide +kernel, rfl, by decide +kernel, by decide +kernel⟩
abbrev s_Measure___init__ : Stmt := inClass (topS 17) 0
abbrev N_Measure___init__ : List Str := ["self", "width", "indent", "align", "hyphen", "twin", "river", "loose"]
theorem sc_Measure___init__ : FnScope ["self", "width", "indent", "align", "hyphen", "twin", "river", "loose"] ["self", "width", "indent", "align", "hyphen", "twin", "river", "loose"] (defScope s_Measure___init__) := ⟨rfl, rfl, rfl, by decide +kernel, rfl, by decide +kernel, by decide +kernel⟩
abbrev s_Measure_of : Stmt := inClass (topS 17) 2
abbrev N_Measure_of : List Str := ["key", "width", "indent", "align", "hyphen", "twin", "river", "loose"]
theorem sc_Measure_of : FnScope ["key", "width", "indent", "align", "hyphen", "twin", "river", "loose"] ["key"] (defScope s_Measure_of) := ⟨rfl, rfl, rfl, by decide +kernel, rfl, by decide +kernel, by decide +kernel⟩
abbrev s__law_pool : Stmt := topS 19
abbrev N__law_pool : List Str := ["_law_script", "_law_at", "_law_cell"]
theorem sc__law_pool : FnScope ["_law_script", "_law_at", "_law_cell"] ["_law_script", "_law_at"] (defScope s__law_pool) := ⟨rfl, rfl, rfl, by decide +kernel, rfl, by decide +kernel, by decide +kernel⟩
abbrev s__law_take : Stmt := topS 20
abbrev N__law_take : List Str := ["_law_pool_here", "_law_many", "_law_got", "_law_one", "_law_two"]
theorem sc__law_take : FnScope ["_law_pool_here", "_law_many", "_law_got", "_law_one", "_law_two"] ["_law_pool_here", "_law_many"] (defScope s__law_take) := ⟨rfl, rfl, rfl, by decide +kernel, rfl, by decide +kernel, by decide +kernel⟩
abbrev s__law_is_integer : Stmt := topS 21
abbrev N__law_is_integer : List Str := ["_law_actual"]
theorem sc__law_is_integer : FnScope ["_law_actual"] ["_law_actual"] (defScope s__law_is_integer) := ⟨rfl, rfl, rfl, by decide +kernel, rfl, by decide +kernel, by decide +kernel⟩
abbrev s__law_joint : Stmt := topS 22
abbrev N__law_joint : List Str := ["_law_pool_here", "_law_below", "_law_broad", "_law_more", "_law_wide"]
theorem sc__law_joint : FnScope ["_law_pool_here", "_law_below", "_law_broad", "_law_more", "_law_wide"] ["_law_pool_here", "_law_below", "_law_broad"] (defScope s__law_joint) := ⟨rfl, rfl, rfl, by decide +kernel, rfl, by decide +kernel, by decide +kernel⟩
abbrev s__law_bare : Stmt := topS 23
abbrev N__law_bare : List Str := ["_law_pool_here", "_law_least", "_law_often", "_law_many", "_law_broad", "_law_period", "_law_widths", "_law_k", "_law_joints", "_law_below"]
theorem sc__law_bare : FnScope ["_law_pool_here", "_law_least", "_law_often", "_law_many", "_law_broad", "_law_period", "_law_widths", "_law_k", "_law_joints", "_law_below"] ["_law_pool_here", "_law_least", "_law_often"] (defScope s__law_bare) := ⟨rfl, rfl, rfl, by decide +kernel, rfl, by decide +kernel, by decide +kernel⟩
abbrev s__law_glue : Stmt := topS 24
abbrev N__law_glue : List Str := ["_law_row", "_law_start", "_law_end", "_law_wide", "_law_more", "_law_less", "_law_k", "_law_joint_here"]
theorem sc__law_glue : FnScope ["_law_row", "_law_start", "_law_end", "_law_wide", "_law_more", "_law_less", "_law_k", "_law_joint_here"] ["_law_row", "_law_start", "_law_end"] (defScope s__law_glue) := ⟨rfl, rfl, rfl, by decide +kernel, rfl, by decide +kernel, by decide +kernel⟩
abbrev s__law_line_key : Stmt := topS 25
abbrev N__law_line_key : List Str := ["_law_pool_here", "_law_row", "_law_gaps", "_law_whole", "_law_sort", "_law_wide", "_law_start", "_law_end", "_law_reach", "_law_begin", "_law_side", "_law_one", "_law_two", "_law_stream", "_law_slack", "_law_joint_here"]
theorem sc__law_line_key : FnScope ["_law_pool_here", "_law_row", "_law_gaps", "_law_whole", "_law_sort", "_law_wide", "_law_start", "_law_end", "_law_reach", "_law_begin", "_law_side", "_law_one", "_law_two", "_law_stream", "_law_slack", "_law_joint_here"] ["_law_pool_here", "_law_row"] (defScope s__law_line_key) := ⟨rfl, rfl, rfl, by decide +kernel, rfl, by decide +kernel, by decide +kernel⟩
abbrev s__law_possible : Stmt := topS 26
abbrev N__law_possible : List Str := ["_law_row", "_law_start", "_law_end", "_law_key", "_law_glue_here", "_law_rest"]
theorem sc__law_possible : FnScope ["_law_row", "_law_start", "_law_end", "_law_key", "_law_glue_here", "_law_rest"] ["_law_row", "_law_start", "_law_end", "_law_key"] (defScope s__law_possible) := ⟨rfl, rfl, rfl, by decide +kernel, rfl, by decide +kernel, by decide +kernel⟩
abbrev s__law_spans : Stmt := topS 27
abbrev N__law_spans : List Str := ["_law_row", "_law_start", "_law_end", "_law_key", "_law_glue_here", "_law_plain", "_law_rest", "_law_places", "_law_spans_here", "_law_gone", "_law_extra", "_law_k", "_law_ends"]
theorem sc__law_spans : FnScope ["_law_row", "_law_start", "_law_end", "_law_key", "_law_glue_here", "_law_plain", "_law_rest", "_law_places", "_law_spans_here", "_law_gone", "_law_extra", "_law_k", "_law_ends"] ["_law_row", "_law_start", "_law_end", "_law_key"] (defScope s__law_spans) := ⟨rfl, rfl, rfl, by decide +kernel, rfl, by decide +kernel, by decide +kernel⟩
abbrev s__law_overlap : Stmt := topS 28
abbrev N__law_overlap : List Str := ["_law_one", "_law_two"]
theorem sc__law_overlap : FnScope ["_law_one", "_law_two"] ["_law_one", "_law_two"] (defScope s__law_overlap) := ⟨rfl, rfl, rfl, by decide +kernel, rfl, by decide +kernel, by decide +kernel⟩
abbrev s__law_meet : Stmt := topS 29
abbrev N__law_meet : List Str := ["_law_upper", "_law_lower", "_law_count", "_law_low", "_law_over", "_law_up"]
theorem sc__law_meet : FnScope ["_law_upper", "_law_lower", "_law_count", "_law_low", "_law_over", "_law_up"] ["_law_upper", "_law_lower"] (defScope s__law_meet) := ⟨rfl, rfl, rfl, by decide +kernel, rfl, by decide +kernel, by decide +kernel⟩
abbrev s__law_three : Stmt := topS 30
abbrev N__law_three : List Str := ["_law_pool_here", "_law_row", "_law_many", "_law_hyphens", "_law_at", "_law_after", "_law_start", "_law_middle", "_law_k"]
theorem sc__law_three : FnScope ["_law_pool_here", "_law_row", "_law_many", "_law_hyphens", "_law_at", "_law_after", "_law_start", "_law_middle", "_law_k"] ["_law_pool_here", "_law_row"] (defScope s__law_three) := ⟨rfl, rfl, rfl, by decide +kernel, rfl, by decide +kernel, by decide +kernel⟩
abbrev s__law_shared : Stmt := topS 31
abbrev N__law_shared : List Str := ["_law_pool_here", "_law_row", "_law_three_here", "_law_key", "_law_upper", "_law_lower", "_law_begin", "_law_least", "_law_reach", "_law_wide", "_law_more"]
theorem sc__law_shared : FnScope ["_law_pool_here", "_law_row", "_law_three_here", "_law_key", "_law_upper", "_law_lower", "_law_begin", "_law_least", "_law_reach", "_law_wide", "_law_more"] ["_law_pool_here", "_law_row", "_law_three_here", "_law_key"] (defScope s__law_shared) := ⟨rfl, rfl, rfl, by decide +kernel, rfl, by decide +kernel, by decide +kernel⟩
abbrev s__law_twin : Stmt := topS 32
abbrev N__law_twin : List Str := ["_law_row", "_law_three_here", "_law_key"]
theorem sc__law_twin : FnScope ["_law_row", "_law_three_here", "_law_key"] ["_law_row", "_law_three_here", "_law_key"] (defScope s__law_twin) := ⟨rfl, rfl, rfl, by decide +kernel, rfl, by decide +kernel, by decide +kernel⟩
abbrev s_law : Stmt := topS 33
abbrev N_law : List Str := ["_law_script", "_law_row", "_law_key", "_law_pool_here", "_law_three_here", "_law_upper", "_law_lower", "_law_count", "_law_stream", "_law_measure", "_law_price"]
theorem sc_law : FnScope ["_law_script", "_law_row", "_law_key", "_law_pool_here", "_law_three_here", "_law_upper", "_law_lower", "_law_count", "_law_stream", "_law_measure", "_law_price"] ["_law_script"] (defScope s_law) := ⟨rfl, rfl, rfl, by decide +kernel, rfl, by decide +kernel, by decide +kernel⟩
/-- what the top has left -/
structure Txt (K : PySem.W.Frag) (mg : Str → Option Value) where
  m_abs : mg "abs" = none
  m_bool : mg "bool" = none
  m_int : mg "int" = none
  m_isinstance : mg "isinstance" = none
  m_len : mg "len" = none
  m_max : mg "max" = none
  m_min : mg "min" = none
  m_range : mg "range" = none
  m_sum : mg "sum" = none
  m_tuple : mg "tuple" = none
  c_Glue : Addr
  g_Glue : mg "Glue" = some (.ref c_Glue)
  co_Glue : ClsOk K c_Glue
  c_Measure : Addr
  g_Measure : mg "Measure" = some (.ref c_Measure)
  co_Measure : ClsOk K c_Measure
  sf_Glue : PySem.W.selfFirst K c_Glue = true
  na_Glue_width : NoAttr K c_Glue "width"
  na_Glue_stretch : NoAttr K c_Glue "stretch"
  na_Glue_shrink : NoAttr K c_Glue "shrink"
  na_Measure_width : NoAttr K c_Measure "width"
  na_Measure_indent : NoAttr K c_Measure "indent"
  na_Measure_align : NoAttr K c_Measure "align"
  na_Measure_hyphen : NoAttr K c_Measure "hyphen"
  na_Measure_twin : NoAttr K c_Measure "twin"
  na_Measure_river : NoAttr K c_Measure "river"
  na_Measure_loose : NoAttr K c_Measure "loose"
  f_Glue___init__ : Addr
  fd_Glue___init__ : FuncData
  F_Glue___init__ : Fun K "__init__" "Glue.__init__" s_Glue___init__ f_Glue___init__ fd_Glue___init__
  b_Glue___init__ : Binds K fd_Glue___init__ ["self", "width", "stretch", "shrink"] []
  mk_Glue : Mk K c_Glue f_Glue___init__
  f_Glue___add__ : Addr
  fd_Glue___add__ : FuncData
  F_Glue___add__ : Fun K "__add__" "Glue.__add__" s_Glue___add__ f_Glue___add__ fd_Glue___add__
  b_Glue___add__ : Binds K fd_Glue___add__ ["self", "other"] []
  mt_Glue___add__ : Meth K c_Glue "__add__" f_Glue___add__
  op_Glue___add__ : PySem.W.findIn K (.ref c_Glue) (PySem.dunder (PySem.Operator.Add).info.2) = some (some (.ref f_Glue___add__))
  f_ends_at_hyphen : Addr
  fd_ends_at_hyphen : FuncData
  F_ends_at_hyphen : Fun K "ends_at_hyphen" "ends_at_hyphen" s_ends_at_hyphen f_ends_at_hyphen fd_ends_at_hyphen
  g_ends_at_hyphen : mg "ends_at_hyphen" = some (.ref f_ends_at_hyphen)
  b_ends_at_hyphen : Binds K fd_ends_at_hyphen ["row", "end"] []
  f_joint_glue : Addr
  fd_joint_glue : FuncData
  F_joint_glue : Fun K "joint_glue" "joint_glue" s_joint_glue f_joint_glue fd_joint_glue
  g_joint_glue : mg "joint_glue" = some (.ref f_joint_glue)
  b_joint_glue : Binds K fd_joint_glue ["joint"] []
  f_extended_glue : Addr
  fd_extended_glue : FuncData
  F_extended_glue : Fun K "extended_glue" "extended_glue" s_extended_glue f_extended_glue fd_extended_glue
  g_extended_glue : mg "extended_glue" = some (.ref f_extended_glue)
  b_extended_glue : Binds K fd_extended_glue ["row", "inner", "box"] []
  f_finished_glue : Addr
  fd_finished_glue : FuncData
  F_finished_glue : Fun K "finished_glue" "finished_glue" s_finished_glue f_finished_glue fd_finished_glue
  g_finished_glue : mg "finished_glue" = some (.ref f_finished_glue)
  b_finished_glue : Binds K fd_finished_glue ["row", "inner", "end"] []
  f_line_glue : Addr
  fd_line_glue : FuncData
  F_line_glue : Fun K "line_glue" "line_glue" s_line_glue f_line_glue fd_line_glue
  g_line_glue : mg "line_glue" = some (.ref f_line_glue)
  b_line_glue : Binds K fd_line_glue ["row", "start", "end"] []
  f_room_of : Addr
  fd_room_of : FuncData
  F_room_of : Fun K "room_of" "room_of" s_room_of f_room_of fd_room_of
  g_room_of : mg "room_of" = some (.ref f_room_of)
  b_room_of : Binds K fd_room_of ["start", "measure"] []
  f_extra_of : Addr
  fd_extra_of : FuncData
  F_extra_of : Fun K "extra_of" "extra_of" s_extra_of f_extra_of fd_extra_of
  g_extra_of : mg "extra_of" = some (.ref f_extra_of)
  b_extra_of : Binds K fd_extra_of ["rest", "glue", "before", "last", "measure"] []
  f_box_places : Addr
  fd_box_places : FuncData
  F_box_places : Fun K "box_places" "box_places" s_box_places f_box_places fd_box_places
  g_box_places : mg "box_places" = some (.ref f_box_places)
  b_box_places : Binds K fd_box_places ["row", "start", "end", "measure"] []
  f_gap_spans : Addr
  fd_gap_spans : FuncData
  F_gap_spans : Fun K "gap_spans" "gap_spans" s_gap_spans f_gap_spans fd_gap_spans
  g_gap_spans : mg "gap_spans" = some (.ref f_gap_spans)
  b_gap_spans : Binds K fd_gap_spans ["row", "start", "end", "measure"] []
  f_count_overlapping : Addr
  fd_count_overlapping : FuncData
  F_count_overlapping : Fun K "count_overlapping" "count_overlapping" s_count_overlapping f_count_overlapping fd_count_overlapping
  g_count_overlapping : mg "count_overlapping" = some (.ref f_count_overlapping)
  b_count_overlapping : Binds K fd_count_overlapping ["upper", "lower"] []
  f_price_with_count : Addr
  fd_price_with_count : FuncData
  F_price_with_count : Fun K "price_with_count" "price_with_count" s_price_with_count f_price_with_count fd_price_with_count
  g_price_with_count : mg "price_with_count" = some (.ref f_price_with_count)
  b_price_with_count : Binds K fd_price_with_count ["row", "middle", "end", "measure", "count"] []
  f_pair_price : Addr
  fd_pair_price : FuncData
  F_pair_price : Fun K "pair_price" "pair_price" s_pair_price f_pair_price fd_pair_price
  g_pair_price : mg "pair_price" = some (.ref f_pair_price)
  b_pair_price : Binds K fd_pair_price ["row", "start", "middle", "end", "measure"] []
  f_Measure___init__ : Addr
  fd_Measure___init__ : FuncData
  F_Measure___init__ : Fun K "__init__" "Measure.__init__" s_Measure___init__ f_Measure___init__ fd_Measure___init__
  fk_Measure : FunD K "__init__" "Measure.__init__" (defArgs s_Measure___init__) (defBody s_Measure___init__) (defScope s_Measure___init__) [] [("indent", .int 0), ("align", .str "both"), ("hyphen", .int 50), ("twin", .int 100), ("river", .int 0), ("loose", .int 2)] f_Measure___init__ fd_Measure___init__
  mk_Measure : Mk K c_Measure f_Measure___init__
  f_Measure_of : Addr
  fd_Measure_of : FuncData
  F_Measure_of : Fun K "of" "Measure.of" s_Measure_of f_Measure_of fd_Measure_of
  b_Measure_of : Binds K fd_Measure_of ["key"] []
  p_Measure_of : Addr
  sm_Measure_of : SMet K c_Measure "of" p_Measure_of f_Measure_of
  f__law_pool : Addr
  fd__law_pool : FuncData
  F__law_pool : Fun K "_law_pool" "_law_pool" s__law_pool f__law_pool fd__law_pool
  g__law_pool : mg "_law_pool" = some (.ref f__law_pool)
  b__law_pool : Binds K fd__law_pool ["_law_script", "_law_at"] []
  f__law_take : Addr
  fd__law_take : FuncData
  F__law_take : Fun K "_law_take" "_law_take" s__law_take f__law_take fd__law_take
  g__law_take : mg "_law_take" = some (.ref f__law_take)
  b__law_take : Binds K fd__law_take ["_law_pool_here", "_law_many"] []
  f__law_is_integer : Addr
  fd__law_is_integer : FuncData
  F__law_is_integer : Fun K "_law_is_integer" "_law_is_integer" s__law_is_integer f__law_is_integer fd__law_is_integer
  g__law_is_integer : mg "_law_is_integer" = some (.ref f__law_is_integer)
  b__law_is_integer : Binds K fd__law_is_integer ["_law_actual"] []
  f__law_joint : Addr
  fd__law_joint : FuncData
  F__law_joint : Fun K "_law_joint" "_law_joint" s__law_joint f__law_joint fd__law_joint
  g__law_joint : mg "_law_joint" = some (.ref f__law_joint)
  b__law_joint : Binds K fd__law_joint ["_law_pool_here", "_law_below", "_law_broad"] []
  f__law_bare : Addr
  fd__law_bare : FuncData
  F__law_bare : Fun K "_law_bare" "_law_bare" s__law_bare f__law_bare fd__law_bare
  g__law_bare : mg "_law_bare" = some (.ref f__law_bare)
  b__law_bare : Binds K fd__law_bare ["_law_pool_here", "_law_least", "_law_often"] []
  f__law_glue : Addr
  fd__law_glue : FuncData
  F__law_glue : Fun K "_law_glue" "_law_glue" s__law_glue f__law_glue fd__law_glue
  g__law_glue : mg "_law_glue" = some (.ref f__law_glue)
  b__law_glue : Binds K fd__law_glue ["_law_row", "_law_start", "_law_end"] []
  f__law_line_key : Addr
  fd__law_line_key : FuncData
  F__law_line_key : Fun K "_law_line_key" "_law_line_key" s__law_line_key f__law_line_key fd__law_line_key
  g__law_line_key : mg "_law_line_key" = some (.ref f__law_line_key)
  b__law_line_key : Binds K fd__law_line_key ["_law_pool_here", "_law_row"] []
  f__law_possible : Addr
  fd__law_possible : FuncData
  F__law_possible : Fun K "_law_possible" "_law_possible" s__law_possible f__law_possible fd__law_possible
  g__law_possible : mg "_law_possible" = some (.ref f__law_possible)
  b__law_possible : Binds K fd__law_possible ["_law_row", "_law_start", "_law_end", "_law_key"] []
  f__law_spans : Addr
  fd__law_spans : FuncData
  F__law_spans : Fun K "_law_spans" "_law_spans" s__law_spans f__law_spans fd__law_spans
  g__law_spans : mg "_law_spans" = some (.ref f__law_spans)
  b__law_spans : Binds K fd__law_spans ["_law_row", "_law_start", "_law_end", "_law_key"] []
  f__law_overlap : Addr
  fd__law_overlap : FuncData
  F__law_overlap : Fun K "_law_overlap" "_law_overlap" s__law_overlap f__law_overlap fd__law_overlap
  g__law_overlap : mg "_law_overlap" = some (.ref f__law_overlap)
  b__law_overlap : Binds K fd__law_overlap ["_law_one", "_law_two"] []
  f__law_meet : Addr
  fd__law_meet : FuncData
  F__law_meet : Fun K "_law_meet" "_law_meet" s__law_meet f__law_meet fd__law_meet
  g__law_meet : mg "_law_meet" = some (.ref f__law_meet)
  b__law_meet : Binds K fd__law_meet ["_law_upper", "_law_lower"] []
  f__law_three : Addr
  fd__law_three : FuncData
  F__law_three : Fun K "_law_three" "_law_three" s__law_three f__law_three fd__law_three
  g__law_three : mg "_law_three" = some (.ref f__law_three)
  b__law_three : Binds K fd__law_three ["_law_pool_here", "_law_row"] []
  f__law_shared : Addr
  fd__law_shared : FuncData
  F__law_shared : Fun K "_law_shared" "_law_shared" s__law_shared f__law_shared fd__law_shared
  g__law_shared : mg "_law_shared" = some (.ref f__law_shared)
  b__law_shared : Binds K fd__law_shared ["_law_pool_here", "_law_row", "_law_three_here", "_law_key"] []
  f__law_twin : Addr
  fd__law_twin : FuncData
  F__law_twin : Fun K "_law_twin" "_law_twin" s__law_twin f__law_twin fd__law_twin
  g__law_twin : mg "_law_twin" = some (.ref f__law_twin)
  b__law_twin : Binds K fd__law_twin ["_law_row", "_law_three_here", "_law_key"] []
  f_law : Addr
  fd_law : FuncData
  F_law : Fun K "law" "law" s_law f_law fd_law
  g_law : mg "law" = some (.ref f_law)
  b_law : Binds K fd_law ["_law_script"] []
def t_Glue___init__ (K : PySem.W.Frag) : TS :=
    (tSeq (sFld K (tVar 0) (tVar 1) "width")
    (tSeq (sFld K (tVar 0) (tVar 2) "stretch")
    (sFld K (tVar 0) (tVar 3) "shrink")))
def t_Glue___add__ (K : PySem.W.Frag) (c_Glue : Addr) (ai_Glue : AI) : TS :=
    (tSeq (tIfS (tNot (tB (tCB (rIsi K) (tCons (tVar 1) (tCons (tC (.ref c_Glue)) tNil))))) tNever tNext)
    (tRet (tMake c_Glue (toSpI K c_Glue ai_Glue) [] E0 (tCons (tOp (rAddG K) (tFld K (tVar 0) "width") (tFld K (tVar 1) "width")) (tCons (tOp (rAddG K) (tFld K (tVar 0) "stretch") (tFld K (tVar 1) "stretch")) (tCons (tOp (rAddG K) (tFld K (tVar 0) "shrink") (tFld K (tVar 1) "shrink")) tNil))))))
def t_ends_at_hyphen (K : PySem.W.Frag) : TS :=
    (tSeq (tAsg (tVar 0) (gTup K 2 (gCons (gName 2) (gCons (gName 3) gNil))))
    (tRet (tAndV (tOp (rLtG K) (tVar 1) (tCB (rLenV K) (tCons (tVar 2) tNil))) (tOp (rEqG K) (tOp (rIx K) (tOp (rIx K) (tVar 3) (tOp rSubI (tVar 1) (tC (.int 1)))) (tC (.int 0))) (tC (.str "hyphen"))))))
def t_joint_glue (K : PySem.W.Frag) (c_Glue : Addr) (ai_Glue : AI) : TS :=
    (tSeq (tIfS (tTest (tOp (rEqG K) (tOp (rIx K) (tVar 0) (tC (.int 0))) (tC (.str "gap")))) (tRet (tMake c_Glue (toSpI K c_Glue ai_Glue) [] E0 (tCons (tOp (rIx K) (tVar 0) (tC (.int 1))) (tCons (tOp (rIx K) (tVar 0) (tC (.int 2))) (tCons (tOp (rIx K) (tVar 0) (tC (.int 3))) tNil))))) tNext)
    (tRet (tMake c_Glue (toSpI K c_Glue ai_Glue) [] E0 (tCons (tUn rNegI (tOp (rIx K) (tVar 0) (tC (.int 2)))) (tCons (tC (.int 0)) (tCons (tC (.int 0)) tNil))))))
def t_extended_glue (K : PySem.W.Frag) (c_Glue : Addr) (ap_joint_glue : AP) (ap_Glue___add__ : AP) (ai_Glue : AI) : TS :=
    (tSeq (tAsg (tVar 0) (gTup K 2 (gCons (gName 3) (gCons (gName 4) gNil))))
    (tRet (tOp (rOwn c_Glue (toSp K ap_Glue___add__) E0) (tOp (rOwn c_Glue (toSp K ap_Glue___add__) E0) (tVar 1) (tCall (toSp K ap_joint_glue) [] E0 (tCons (tOp (rIx K) (tVar 4) (tOp rSubI (tVar 2) (tC (.int 1)))) tNil))) (tMake c_Glue (toSpI K c_Glue ai_Glue) [] E0 (tCons (tOp (rIx K) (tVar 3) (tVar 2)) (tCons (tC (.int 0)) (tCons (tC (.int 0)) tNil)))))))
def t_finished_glue (K : PySem.W.Frag) (c_Glue : Addr) (ap_ends_at_hyphen : AP) (ai_Glue : AI) (ap_Glue___add__ : AP) : TS :=
    (tSeq (tIfS (tB (tCall (toSp K ap_ends_at_hyphen) [] E0 (tCons (tVar 0) (tCons (tVar 2) tNil)))) (tRet (tOp (rOwn c_Glue (toSp K ap_Glue___add__) E0) (tVar 1) (tMake c_Glue (toSpI K c_Glue ai_Glue) [] E0 (tCons (tOp (rIx K) (tOp (rIx K) (tOp (rIx K) (tVar 0) (tC (.int 1))) (tOp rSubI (tVar 2) (tC (.int 1)))) (tC (.int 1))) (tCons (tC (.int 0)) (tCons (tC (.int 0)) tNil)))))) tNext)
    (tRet (tVar 1)))
def t_line_glue (K : PySem.W.Frag) (c_Glue : Addr) (ai_Glue : AI) (ap_extended_glue : AP) (ap_finished_glue : AP) : TS :=
    (tSeq (tAsg (tMake c_Glue (toSpI K c_Glue ai_Glue) [] E0 (tCons (tOp (rIx K) (tOp (rIx K) (tVar 0) (tC (.int 0))) (tVar 1)) (tCons (tC (.int 0)) (tCons (tC (.int 0)) tNil)))) (gName 3))
    (tSeq (tFor (iRng2 (tCons (tOp (rAddG K) (tVar 1) (tC (.int 1))) (tCons (tVar 2) tNil))) (gName 4) (tAsg (tCall (toSp K ap_extended_glue) [] E0 (tCons (tVar 0) (tCons (tVar 3) (tCons (tVar 4) tNil)))) (gName 3)))
    (tRet (tCall (toSp K ap_finished_glue) [] E0 (tCons (tVar 0) (tCons (tVar 3) (tCons (tVar 2) tNil)))))))
def t_room_of (K : PySem.W.Frag) : TS :=
    (tSeq (tIfS (tTest (tOp (rEqG K) (tVar 0) (tC (.int 0)))) (tRet (tOp rSubI (tFld K (tVar 1) "width") (tFld K (tVar 1) "indent"))) tNext)
    (tRet (tFld K (tVar 1) "width")))
def t_extra_of (K : PySem.W.Frag) : TS :=
    (tSeq (tIfS (tAnd (tTest (tOp (rEqG K) (tFld K (tVar 4) "align") (tC (.str "both")))) (tTest (tOp (rLtG K) (tVar 0) (tC (.int 0))))) (tRet (tUn rNegI (tOp rDivI (tOp (rMulG K) (tUn rNegI (tVar 0)) (tFld K (tVar 2) "shrink")) (tFld K (tVar 1) "shrink")))) tNext)
    (tSeq (tIfS (tAnd (tTest (tOp (rEqG K) (tFld K (tVar 4) "align") (tC (.str "both")))) (tAnd (tTest (tOp rGtI (tVar 0) (tC (.int 0)))) (tNot (tB (tVar 3))))) (tRet (tOp rDivI (tOp (rMulG K) (tVar 0) (tFld K (tVar 2) "stretch")) (tFld K (tVar 1) "stretch"))) tNext)
    (tRet (tC (.int 0)))))
def t_box_places (K : PySem.W.Frag) (c_Glue : Addr) (ap_line_glue : AP) (ap_room_of : AP) (ai_Glue : AI) (ap_joint_glue : AP) (ap_Glue___add__ : AP) (ap_extra_of : AP) : TS :=
    (tSeq (tAsg (tVar 0) (gTup K 2 (gCons (gName 4) (gCons (gName 5) gNil))))
    (tSeq (tAsg (tCall (toSp K ap_line_glue) [] E0 (tCons (tVar 0) (tCons (tVar 1) (tCons (tVar 2) tNil)))) (gName 6))
    (tSeq (tAsg (tOp rSubI (tCall (toSp K ap_room_of) [] E0 (tCons (tVar 1) (tCons (tVar 3) tNil))) (tFld K (tVar 6) "width")) (gName 7))
    (tSeq (tAsg (tOp (rEqG K) (tVar 2) (tCB (rLenV K) (tCons (tVar 4) tNil))) (gName 8))
    (tSeq (tAsg (tIf (tTest (tOp (rEqG K) (tVar 1) (tC (.int 0)))) (tFld K (tVar 3) "indent") (tC (.int 0))) (gName 9))
    (tSeq (tAsg (tMake c_Glue (toSpI K c_Glue ai_Glue) [] E0 (tCons (tC (.int 0)) (tCons (tC (.int 0)) (tCons (tC (.int 0)) tNil)))) (gName 10))
    (tSeq (tAsg (tLst tNil) (gName 11))
    (tSeq (tFor (iRng2 (tCons (tVar 1) (tCons (tVar 2) tNil))) (gName 12) (tSeq (tIfS (tTest (tOp rGtI (tVar 12) (tVar 1))) (tSeq (tAsg (tCall (toSp K ap_joint_glue) [] E0 (tCons (tOp (rIx K) (tVar 5) (tOp rSubI (tVar 12) (tC (.int 1)))) tNil)) (gName 13))
    (tSeq (tAsg (tOp (rAddG K) (tOp (rAddG K) (tVar 9) (tOp (rIx K) (tVar 4) (tOp rSubI (tVar 12) (tC (.int 1))))) (tFld K (tVar 13) "width")) (gName 9))
    (tAsg (tOp (rOwn c_Glue (toSp K ap_Glue___add__) E0) (tVar 10) (tVar 13)) (gName 10)))) tNext)
    (tDrop (tBM K "list" rAppend (tVar 11) (tCons (tOp (rAddG K) (tVar 9) (tCall (toSp K ap_extra_of) [] E0 (tCons (tVar 7) (tCons (tVar 6) (tCons (tVar 10) (tCons (tVar 8) (tCons (tVar 3) tNil))))))) tNil)))))
    (tRet (tVar 11))))))))))
def t_gap_spans (K : PySem.W.Frag) (ap_box_places : AP) : TS :=
    (tSeq (tAsg (tVar 0) (gTup K 2 (gCons (gName 4) (gCons (gName 5) gNil))))
    (tSeq (tAsg (tCall (toSp K ap_box_places) [] E0 (tCons (tVar 0) (tCons (tVar 1) (tCons (tVar 2) (tCons (tVar 3) tNil))))) (gName 6))
    (tSeq (tAsg (tLst tNil) (gName 7))
    (tSeq (tFor (iRng2 (tCons (tVar 1) (tCons (tOp rSubI (tVar 2) (tC (.int 1))) tNil))) (gName 8) (tIfS (tTest (tOp (rEqG K) (tOp (rIx K) (tOp (rIx K) (tVar 5) (tVar 8)) (tC (.int 0))) (tC (.str "gap")))) (tSeq (tAsg (tOp (rAddG K) (tOp (rIx K) (tVar 6) (tOp rSubI (tVar 8) (tVar 1))) (tOp (rIx K) (tVar 4) (tVar 8))) (gName 9))
    (tDrop (tBM K "list" rAppend (tVar 7) (tCons (tTup (tCons (tVar 9) (tCons (tOp (rIx K) (tVar 6) (tOp (rAddG K) (tOp rSubI (tVar 8) (tVar 1)) (tC (.int 1)))) tNil))) tNil)))) tNext))
    (tRet (tVar 7))))))
def t_count_overlapping (K : PySem.W.Frag) : TS :=
    (tSeq (tAsg (tC (.int 0)) (gName 2))
    (tSeq (tAsg (tC (.int 0)) (gName 3))
    (tSeq (tFor (iList K (tVar 1)) (gTup K 2 (gCons (gName 4) (gCons (gName 5) gNil))) (tSeq (tWhile (tAnd (tTest (tOp (rLtG K) (tVar 3) (tCB (rLenV K) (tCons (tVar 0) tNil)))) (tTest (tOp rLeI (tOp (rIx K) (tOp (rIx K) (tVar 0) (tVar 3)) (tC (.int 1))) (tVar 4)))) (tAsg (tOp (rAddG K) (tVar 3) (tC (.int 1))) (gName 3)))
    (tIfS (tAnd (tTest (tOp (rLtG K) (tVar 3) (tCB (rLenV K) (tCons (tVar 0) tNil)))) (tTest (tOp (rLtG K) (tOp (rIx K) (tOp (rIx K) (tVar 0) (tVar 3)) (tC (.int 0))) (tVar 5)))) (tAsg (tOp (rAddG K) (tVar 2) (tC (.int 1))) (gName 2)) tNext)))
    (tRet (tVar 2)))))
def t_price_with_count (K : PySem.W.Frag) (ap_ends_at_hyphen : AP) : TS :=
    (tSeq (tIfS (tAnd (tTest (tOp rGtI (tFld K (tVar 3) "river") (tC (.int 0)))) (tTest (tOp rGeI (tVar 4) (tFld K (tVar 3) "river")))) (tRet (tC .non)) tNext)
    (tSeq (tIfS (tAnd (tB (tCall (toSp K ap_ends_at_hyphen) [] E0 (tCons (tVar 0) (tCons (tVar 1) tNil)))) (tB (tCall (toSp K ap_ends_at_hyphen) [] E0 (tCons (tVar 0) (tCons (tVar 2) tNil))))) (tRet (tFld K (tVar 3) "twin")) tNext)
    (tRet (tC (.int 0)))))
def t_pair_price (K : PySem.W.Frag) (ap_gap_spans : AP) (ap_count_overlapping : AP) (ap_price_with_count : AP) : TS :=
    (tSeq (tAsg (tC (.int 0)) (gName 5))
    (tSeq (tIfS (tTest (tOp rGtI (tFld K (tVar 4) "river") (tC (.int 0)))) (tSeq (tAsg (tCall (toSp K ap_gap_spans) [] E0 (tCons (tVar 0) (tCons (tVar 1) (tCons (tVar 2) (tCons (tVar 4) tNil))))) (gName 6))
    (tSeq (tAsg (tCall (toSp K ap_gap_spans) [] E0 (tCons (tVar 0) (tCons (tVar 2) (tCons (tVar 3) (tCons (tVar 4) tNil))))) (gName 7))
    (tAsg (tCall (toSp K ap_count_overlapping) [] E0 (tCons (tVar 6) (tCons (tVar 7) tNil))) (gName 5)))) tNext)
    (tRet (tCall (toSp K ap_price_with_count) [] E0 (tCons (tVar 0) (tCons (tVar 2) (tCons (tVar 3) (tCons (tVar 4) (tCons (tVar 5) tNil)))))))))
def t_Measure___init__ (K : PySem.W.Frag) : TS :=
    (tSeq (sFld K (tVar 0) (tVar 1) "width")
    (tSeq (sFld K (tVar 0) (tVar 2) "indent")
    (tSeq (sFld K (tVar 0) (tVar 3) "align")
    (tSeq (sFld K (tVar 0) (tVar 4) "hyphen")
    (tSeq (sFld K (tVar 0) (tVar 5) "twin")
    (tSeq (sFld K (tVar 0) (tVar 6) "river")
    (sFld K (tVar 0) (tVar 7) "loose")))))))
def t_Measure_of (K : PySem.W.Frag) (c_Measure : Addr) (ai_Measure : AI) : TS :=
    (tSeq (tAsg (tVar 0) (gTup K 7 (gCons (gName 1) (gCons (gName 2) (gCons (gName 3) (gCons (gName 4) (gCons (gName 5) (gCons (gName 6) (gCons (gName 7) gNil)))))))))
    (tRet (tMakeK c_Measure 1 6 (toSpI K c_Measure ai_Measure) (fun (vs zs : List V) => pick (0 :: upO ([0, 1, 2, 3, 4, 5, 6] : List Nat)) (vs ++ ([] : List V) ++ zs)) E0 (tCons (tVar 1) tNil) (tCons (tVar 2) (tCons (tVar 3) (tCons (tVar 4) (tCons (tVar 5) (tCons (tVar 6) (tCons (tVar 7) tNil)))))))))
def t__law_pool (K : PySem.W.Frag) : TS :=
    (tSeq (tAsg (tC (.int 0)) (gName 2))
    (tSeq (tIfS (tTest (tOp (rLtG K) (tVar 1) (tCB (rLenV K) (tCons (tVar 0) tNil)))) (tAsg (tCB rAbs (tCons (tCB rInt1 (tCons (tOp (rIx K) (tVar 0) (tVar 1)) tNil)) tNil)) (gName 2)) tNext)
    (tRet (tLst (tCons (tVar 2) (tCons (tC (.int 0)) (tCons (tCB rInt1 (tCons (tOp rGeI (tVar 2) (tOp rPowI (tC (.int 10)) (tC (.int 18)))) tNil)) (tCons (tOp rModI (tCB rInt1 (tCons (tOp (rAddG K) (tVar 2) (tOp (rMulG K) (tVar 1) (tC (.int 7919)))) tNil)) (tC (.int 2147483647))) (tCons (tC (.int 3)) tNil)))))))))
def t__law_take (K : PySem.W.Frag) : TS :=
    (tSeq (tAsg (tOp (rAddG K) (tOp (rIx K) (tVar 0) (tC (.int 1))) (tC (.int 1))) (gSub (tVar 0) (tC (.int 1)) rSetL))
    (tSeq (tIfS (tTest (tOp (rEqG K) (tOp (rIx K) (tVar 0) (tC (.int 2))) (tC (.int 1)))) (tSeq (tAsg (tOp rModI (tCB rInt1 (tCons (tOp (rIx K) (tVar 0) (tC (.int 0))) tNil)) (tVar 1)) (gName 2))
    (tSeq (tAsg (tOp rDivI (tOp (rIx K) (tVar 0) (tC (.int 0))) (tVar 1)) (gSub (tVar 0) (tC (.int 0)) rSetL))
    (tRet (tVar 2)))) tNext)
    (tSeq (tAsg (tOp rModI (tCB rInt1 (tCons (tOp (rAddG K) (tOp (rAddG K) (tOp (rMulG K) (tOp (rIx K) (tVar 0) (tC (.int 3))) (tC (.int 48271))) (tOp (rMulG K) (tOp (rIx K) (tVar 0) (tC (.int 1))) (tC (.int 69621)))) (tC (.int 11))) tNil)) (tC (.int 2147483647))) (gName 3))
    (tSeq (tAsg (tOp rModI (tCB rInt1 (tCons (tOp (rAddG K) (tOp (rAddG K) (tOp (rMulG K) (tVar 3) (tC (.int 16807))) (tOp rDivI (tVar 3) (tC (.int 65536)))) (tOp (rMulG K) (tOp (rMulG K) (tOp (rIx K) (tVar 0) (tC (.int 1))) (tOp (rIx K) (tVar 0) (tC (.int 1)))) (tC (.int 40692)))) tNil)) (tC (.int 2147483399))) (gName 4))
    (tRet (tOp rModI (tCB rInt1 (tCons (tOp rDivI (tVar 4) (tOp (rAddG K) (tOp (rIx K) (tVar 0) (tC (.int 1))) (tC (.int 6)))) tNil)) (tVar 1)))))))
def t__law_is_integer (K : PySem.W.Frag) : TS :=
    (tRet (tAndV (tCB (rIsi K) (tCons (tVar 0) (tCons (tC (.ty "int")) tNil))) (tNotV (tCB (rIsi K) (tCons (tVar 0) (tCons (tC (.ty "bool")) tNil))))))
def t__law_joint (K : PySem.W.Frag) (ap__law_take : AP) : TS :=
    (tSeq (tIfS (tTest (tOp (rEqG K) (tCall (toSp K ap__law_take) [] E0 (tCons (tVar 0) (tCons (tC (.int 3)) tNil))) (tC (.int 0)))) (tSeq (tAsg (tOp (rAddG K) (tC (.int 1)) (tCall (toSp K ap__law_take) [] E0 (tCons (tVar 0) (tCons (tOp (rIx K) (tLst (tCons (tC (.int 9)) (tCons (tC (.int 500)) tNil))) (tVar 2)) tNil)))) (gName 3))
    (tRet (tTup (tCons (tC (.str "hyphen")) (tCons (tVar 3) (tCons (tCall (toSp K ap__law_take) [] E0 (tCons (tVar 0) (tCons (tVar 1) tNil))) tNil)))))) tNext)
    (tSeq (tAsg (tOp (rAddG K) (tC (.int 1)) (tCall (toSp K ap__law_take) [] E0 (tCons (tVar 0) (tCons (tOp (rIx K) (tLst (tCons (tC (.int 12)) (tCons (tC (.int 500)) tNil))) (tVar 2)) tNil)))) (gName 4))
    (tSeq (tAsg (tCall (toSp K ap__law_take) [] E0 (tCons (tVar 0) (tCons (tOp (rIx K) (tLst (tCons (tC (.int 12)) (tCons (tC (.int 501)) tNil))) (tVar 2)) tNil))) (gName 3))
    (tRet (tTup (tCons (tC (.str "gap")) (tCons (tVar 4) (tCons (tVar 3) (tCons (tCall (toSp K ap__law_take) [] E0 (tCons (tVar 0) (tCons (tVar 4) tNil))) tNil)))))))))
def t__law_bare (K : PySem.W.Frag) (ap__law_take : AP) (ap__law_joint : AP) : TS :=
    (tSeq (tAsg (tCB rMx2 (tCons (tCB rInt1 (tCons (tVar 1) tNil)) (tCons (tCall (toSp K ap__law_take) [] E0 (tCons (tVar 0) (tCons (tC (.int 9)) tNil))) tNil))) (gName 3))
    (tSeq (tIfS (tTest (tOp (rEqG K) (tCall (toSp K ap__law_take) [] E0 (tCons (tVar 0) (tCons (tVar 2) tNil))) (tOp rSubI (tVar 2) (tC (.int 1))))) (tAsg (tCB rMx2 (tCons (tCB rInt1 (tCons (tVar 1) tNil)) (tCons (tCall (toSp K ap__law_take) [] E0 (tCons (tVar 0) (tCons (tC (.int 41)) tNil))) tNil))) (gName 3)) tNext)
    (tSeq (tAsg (tCB rInt1 (tCons (tOp (rEqG K) (tCall (toSp K ap__law_take) [] E0 (tCons (tVar 0) (tCons (tC (.int 8)) tNil))) (tC (.int 7))) tNil)) (gName 4))
    (tSeq (tAsg (tOp (rIx K) (tLst (tCons (tC (.int 0)) (tCons (tC (.int 0)) (tCons (tC (.int 1)) (tCons (tC (.int 2)) tNil))))) (tCall (toSp K ap__law_take) [] E0 (tCons (tVar 0) (tCons (tC (.int 4)) tNil)))) (gName 5))
    (tSeq (tAsg (tLst tNil) (gName 6))
    (tSeq (tFor (iRng1 (tCons (tVar 3) tNil)) (gName 7) (tIfS (tTest (tChain rLtI rLeI (tC (.int 0)) (tVar 5) (tVar 7))) (tDrop (tBM K "list" rAppend (tVar 6) (tCons (tOp (rIx K) (tVar 6) (tOp rSubI (tVar 7) (tVar 5))) tNil))) (tDrop (tBM K "list" rAppend (tVar 6) (tCons (tOp (rAddG K) (tC (.int 1)) (tCall (toSp K ap__law_take) [] E0 (tCons (tVar 0) (tCons (tOp (rIx K) (tLst (tCons (tC (.int 40)) (tCons (tC (.int 5000)) tNil))) (tVar 4)) tNil)))) tNil)))))
    (tSeq (tAsg (tLst tNil) (gName 8))
    (tSeq (tFor (iRng1 (tCons (tOp rSubI (tVar 3) (tC (.int 1))) tNil)) (gName 7) (tIfS (tTest (tChain rLtI rLeI (tC (.int 0)) (tVar 5) (tVar 7))) (tDrop (tBM K "list" rAppend (tVar 8) (tCons (tOp (rIx K) (tVar 8) (tOp rSubI (tVar 7) (tVar 5))) tNil))) (tSeq (tAsg (tCB rMn2 (tCons (tCB rInt1 (tCons (tOp (rIx K) (tVar 6) (tVar 7)) tNil)) (tCons (tCB rInt1 (tCons (tOp (rIx K) (tVar 6) (tOp (rAddG K) (tVar 7) (tC (.int 1)))) tNil)) tNil))) (gName 9))
    (tDrop (tBM K "list" rAppend (tVar 8) (tCons (tCall (toSp K ap__law_joint) [] E0 (tCons (tVar 0) (tCons (tVar 9) (tCons (tVar 4) tNil)))) tNil))))))
    (tRet (tTup (tCons (tCB (rTupleOf K) (tCons (tVar 6) tNil)) (tCons (tCB (rTupleOf K) (tCons (tVar 8) tNil)) tNil))))))))))))
def t__law_glue (K : PySem.W.Frag) : TS :=
    (tSeq (tAsg (tCB (rSumG K) (tCons (tSl (rSlG K) (tOp (rIx K) (tVar 0) (tC (.int 0))) (tPart (tVar 1)) (tPart (tVar 2))) tNil)) (gName 3))
    (tSeq (tAsg (tC (.int 0)) (gName 4))
    (tSeq (tAsg (tC (.int 0)) (gName 5))
    (tSeq (tFor (iRng2 (tCons (tVar 1) (tCons (tOp rSubI (tVar 2) (tC (.int 1))) tNil))) (gName 6) (tSeq (tAsg (tOp (rIx K) (tOp (rIx K) (tVar 0) (tC (.int 1))) (tVar 6)) (gName 7))
    (tIfS (tTest (tOp (rEqG K) (tOp (rIx K) (tVar 7) (tC (.int 0))) (tC (.str "gap")))) (tSeq (tAsg (tOp (rAddG K) (tVar 3) (tOp (rIx K) (tVar 7) (tC (.int 1)))) (gName 3))
    (tSeq (tAsg (tOp (rAddG K) (tVar 4) (tOp (rIx K) (tVar 7) (tC (.int 2)))) (gName 4))
    (tAsg (tOp (rAddG K) (tVar 5) (tOp (rIx K) (tVar 7) (tC (.int 3)))) (gName 5)))) (tAsg (tOp rSubI (tVar 3) (tOp (rIx K) (tVar 7) (tC (.int 2)))) (gName 3)))))
    (tSeq (tIfS (tAnd (tTest (tOp (rLtG K) (tVar 2) (tCB (rLenV K) (tCons (tOp (rIx K) (tVar 0) (tC (.int 0))) tNil)))) (tTest (tOp (rEqG K) (tOp (rIx K) (tOp (rIx K) (tOp (rIx K) (tVar 0) (tC (.int 1))) (tOp rSubI (tVar 2) (tC (.int 1)))) (tC (.int 0))) (tC (.str "hyphen"))))) (tAsg (tOp (rAddG K) (tVar 3) (tOp (rIx K) (tOp (rIx K) (tOp (rIx K) (tVar 0) (tC (.int 1))) (tOp rSubI (tVar 2) (tC (.int 1)))) (tC (.int 1)))) (gName 3)) tNext)
    (tRet (tLst (tCons (tVar 3) (tCons (tVar 4) (tCons (tVar 5) tNil))))))))))
def t__law_line_key (K : PySem.W.Frag) (ap__law_take : AP) (ap__law_glue : AP) : TS :=
    (tSeq (tAsg (tLc (iTup K (tOp (rIx K) (tVar 1) (tC (.int 1)))) (gName 15) (tTest (tOp (rEqG K) (tOp (rIx K) (tVar 15) (tC (.int 0))) (tC (.str "gap")))) (tOp (rIx K) (tVar 15) (tC (.int 1))) [15]) (gName 2))
    (tSeq (tAsg (tOp (rAddG K) (tCB (rSumG K) (tCons (tOp (rIx K) (tVar 1) (tC (.int 0))) tNil)) (tCB (rSumG K) (tCons (tVar 2) tNil))) (gName 3))
    (tSeq (tAsg (tCall (toSp K ap__law_take) [] E0 (tCons (tVar 0) (tCons (tC (.int 8)) tNil))) (gName 4))
    (tSeq (tAsg (tOp (rAddG K) (tC (.int 5)) (tCall (toSp K ap__law_take) [] E0 (tCons (tVar 0) (tCons (tC (.int 150)) tNil)))) (gName 5))
    (tSeq (tIfS (tTest (tOp (rInG K) (tVar 4) (tLst (tCons (tC (.int 2)) (tCons (tC (.int 4)) (tCons (tC (.int 5)) (tCons (tC (.int 6)) tNil))))))) (tAsg (tOp (rAddG K) (tOp rDivI (tVar 3) (tVar 4)) (tCall (toSp K ap__law_take) [] E0 (tCons (tVar 0) (tCons (tC (.int 24)) tNil)))) (gName 5)) tNext)
    (tSeq (tIfS (tAnd (tTest (tOp (rInG K) (tVar 4) (tLst (tCons (tC (.int 1)) (tCons (tC (.int 3)) tNil))))) (tTest (tOp rGtI (tCB (rLenV K) (tCons (tOp (rIx K) (tVar 1) (tC (.int 0))) tNil)) (tC (.int 0))))) (tSeq (tAsg (tCall (toSp K ap__law_take) [] E0 (tCons (tVar 0) (tCons (tCB (rLenV K) (tCons (tOp (rIx K) (tVar 1) (tC (.int 0))) tNil)) tNil))) (gName 6))
    (tSeq (tAsg (tOp (rAddG K) (tOp (rAddG K) (tVar 6) (tC (.int 1))) (tCall (toSp K ap__law_take) [] E0 (tCons (tVar 0) (tCons (tOp rSubI (tCB (rLenV K) (tCons (tOp (rIx K) (tVar 1) (tC (.int 0))) tNil)) (tVar 6)) tNil)))) (gName 7))
    (tAsg (tOp (rIx K) (tCall (toSp K ap__law_glue) [] E0 (tCons (tVar 1) (tCons (tVar 6) (tCons (tVar 7) tNil)))) (tC (.int 0))) (gName 5)))) tNext)
    (tSeq (tIfS (tTest (tOp (rEqG K) (tVar 4) (tC (.int 7)))) (tAsg (tOp (rAddG K) (tC (.int 1)) (tCall (toSp K ap__law_take) [] E0 (tCons (tVar 0) (tCons (tC (.int 10500)) tNil)))) (gName 5)) tNext)
    (tSeq (tAsg (tOp (rIx K) (tLst (tCons (tC (.int 1)) (tCons (tC (.int 1)) (tCons (tC (.int 12)) (tCons (tC (.int 100)) tNil))))) (tCall (toSp K ap__law_take) [] E0 (tCons (tVar 0) (tCons (tC (.int 4)) tNil)))) (gName 8))
    (tSeq (tAsg (tCall (toSp K ap__law_take) [] E0 (tCons (tVar 0) (tCons (tVar 8) tNil))) (gName 9))
    (tSeq (tAsg (tOp (rIx K) (tLst (tCons (tC (.str "both")) (tCons (tC (.str "both")) (tCons (tC (.str "left")) tNil)))) (tCall (toSp K ap__law_take) [] E0 (tCons (tVar 0) (tCons (tC (.int 3)) tNil)))) (gName 10))
    (tSeq (tAsg (tOp (rMulG K) (tC (.int 25)) (tCall (toSp K ap__law_take) [] E0 (tCons (tVar 0) (tCons (tC (.int 4)) tNil)))) (gName 11))
    (tSeq (tAsg (tOp (rMulG K) (tC (.int 50)) (tCall (toSp K ap__law_take) [] E0 (tCons (tVar 0) (tCons (tC (.int 4)) tNil)))) (gName 12))
    (tSeq (tIfS (tTest (tOp (rEqG K) (tCall (toSp K ap__law_take) [] E0 (tCons (tVar 0) (tCons (tC (.int 8)) tNil))) (tC (.int 7)))) (tSeq (tAsg (tCall (toSp K ap__law_take) [] E0 (tCons (tVar 0) (tCons (tC (.int 10000)) tNil))) (gName 11))
    (tAsg (tCall (toSp K ap__law_take) [] E0 (tCons (tVar 0) (tCons (tC (.int 10000)) tNil))) (gName 12))) tNext)
    (tSeq (tAsg (tCall (toSp K ap__law_take) [] E0 (tCons (tVar 0) (tCons (tC (.int 4)) tNil))) (gName 13))
    (tSeq (tAsg (tCall (toSp K ap__law_take) [] E0 (tCons (tVar 0) (tCons (tC (.int 4)) tNil))) (gName 14))
    (tSeq (tIfS (tTest (tOp (rEqG K) (tCall (toSp K ap__law_take) [] E0 (tCons (tVar 0) (tCons (tC (.int 8)) tNil))) (tC (.int 7)))) (tSeq (tAsg (tCall (toSp K ap__law_take) [] E0 (tCons (tVar 0) (tCons (tC (.int 10)) tNil))) (gName 13))
    (tAsg (tCall (toSp K ap__law_take) [] E0 (tCons (tVar 0) (tCons (tC (.int 10)) tNil))) (gName 14))) tNext)
    (tSeq (tIfS (tAnd (tTest (tOp rGtI (tCB (rLenV K) (tCons (tOp (rIx K) (tVar 1) (tC (.int 0))) tNil)) (tC (.int 12)))) (tTest (tOp rGtI (tCall (toSp K ap__law_take) [] E0 (tCons (tVar 0) (tCons (tC (.int 8)) tNil))) (tC (.int 0))))) (tAsg (tC (.int 0)) (gName 13)) tNext)
    (tRet (tTup (tCons (tCB rMn2 (tCons (tC (.int 10500)) (tCons (tCB rMx2 (tCons (tC (.int 1)) (tCons (tVar 5) tNil))) tNil))) (tCons (tVar 9) (tCons (tVar 10) (tCons (tVar 11) (tCons (tVar 12) (tCons (tVar 13) (tCons (tVar 14) tNil))))))))))))))))))))))))))
def t__law_possible (K : PySem.W.Frag) (ap__law_glue : AP) : TS :=
    (tSeq (tAsg (tCall (toSp K ap__law_glue) [] E0 (tCons (tVar 0) (tCons (tVar 1) (tCons (tVar 2) tNil)))) (gName 4))
    (tSeq (tAsg (tOp rSubI (tOp rSubI (tOp (rIx K) (tVar 3) (tC (.int 0))) (tOp (rMulG K) (tOp (rIx K) (tVar 3) (tC (.int 1))) (tCB rInt1 (tCons (tOp (rEqG K) (tVar 1) (tC (.int 0))) tNil)))) (tOp (rIx K) (tVar 4) (tC (.int 0)))) (gName 5))
    (tSeq (tIfS (tTest (tOp (rLtG K) (tVar 5) (tC (.int 0)))) (tRet (tAndV (tOp (rEqG K) (tOp (rIx K) (tVar 3) (tC (.int 2))) (tC (.str "both"))) (tOp rLeI (tUn rNegI (tVar 5)) (tOp (rIx K) (tVar 4) (tC (.int 2)))))) tNext)
    (tRet (tOrV (tOp (rEqG K) (tOp (rIx K) (tVar 3) (tC (.int 2))) (tC (.str "left"))) (tOrV (tOp (rEqG K) (tVar 2) (tCB (rLenV K) (tCons (tOp (rIx K) (tVar 0) (tC (.int 0))) tNil))) (tOp rLeI (tVar 5) (tOp (rMulG K) (tOp (rIx K) (tVar 3) (tC (.int 6))) (tOp (rIx K) (tVar 4) (tC (.int 1)))))))))))
def t__law_spans (K : PySem.W.Frag) (ap__law_glue : AP) : TS :=
    (tSeq (tAsg (tCall (toSp K ap__law_glue) [] E0 (tCons (tVar 0) (tCons (tVar 1) (tCons (tVar 2) tNil)))) (gName 4))
    (tSeq (tAsg (tOp (rMulG K) (tOp (rIx K) (tVar 3) (tC (.int 1))) (tCB rInt1 (tCons (tOp (rEqG K) (tVar 1) (tC (.int 0))) tNil))) (gName 5))
    (tSeq (tAsg (tOp rSubI (tOp rSubI (tOp (rIx K) (tVar 3) (tC (.int 0))) (tVar 5)) (tOp (rIx K) (tVar 4) (tC (.int 0)))) (gName 6))
    (tSeq (tIfS (tOr (tTest (tOp (rEqG K) (tOp (rIx K) (tVar 3) (tC (.int 2))) (tC (.str "left")))) (tAnd (tTest (tOp rGtI (tVar 6) (tC (.int 0)))) (tTest (tOp (rEqG K) (tVar 2) (tCB (rLenV K) (tCons (tOp (rIx K) (tVar 0) (tC (.int 0))) tNil)))))) (tAsg (tC (.int 0)) (gName 6)) tNext)
    (tSeq (tAsg (tLst tNil) (gName 7))
    (tSeq (tAsg (tLst tNil) (gName 8))
    (tSeq (tAsg (tC (.int 0)) (gName 9))
    (tSeq (tAsg (tC (.int 0)) (gName 10))
    (tSeq (tFor (iRng2 (tCons (tVar 1) (tCons (tVar 2) tNil))) (gName 11) (tSeq (tDrop (tBM K "list" rAppend (tVar 7) (tCons (tOp (rAddG K) (tVar 5) (tVar 10)) tNil)))
    (tSeq (tAsg (tOp (rAddG K) (tVar 5) (tOp (rIx K) (tOp (rIx K) (tVar 0) (tC (.int 0))) (tVar 11))) (gName 5))
    (tSeq (tIfS (tAnd (tTest (tOp (rLtG K) (tVar 11) (tOp rSubI (tVar 2) (tC (.int 1))))) (tTest (tOp (rEqG K) (tOp (rIx K) (tOp (rIx K) (tOp (rIx K) (tVar 0) (tC (.int 1))) (tVar 11)) (tC (.int 0))) (tC (.str "hyphen"))))) (tAsg (tOp rSubI (tVar 5) (tOp (rIx K) (tOp (rIx K) (tOp (rIx K) (tVar 0) (tC (.int 1))) (tVar 11)) (tC (.int 2)))) (gName 5)) tNext)
    (tIfS (tAnd (tTest (tOp (rLtG K) (tVar 11) (tOp rSubI (tVar 2) (tC (.int 1))))) (tTest (tOp (rEqG K) (tOp (rIx K) (tOp (rIx K) (tOp (rIx K) (tVar 0) (tC (.int 1))) (tVar 11)) (tC (.int 0))) (tC (.str "gap"))))) (tSeq (tAsg (tOp (rAddG K) (tVar 5) (tVar 10)) (gName 12))
    (tSeq (tAsg (tOp (rAddG K) (tVar 5) (tOp (rIx K) (tOp (rIx K) (tOp (rIx K) (tVar 0) (tC (.int 1))) (tVar 11)) (tC (.int 1)))) (gName 5))
    (tSeq (tIfS (tTest (tOp rGtI (tVar 6) (tC (.int 0)))) (tSeq (tAsg (tOp (rAddG K) (tVar 9) (tOp (rIx K) (tOp (rIx K) (tOp (rIx K) (tVar 0) (tC (.int 1))) (tVar 11)) (tC (.int 2)))) (gName 9))
    (tAsg (tOp rDivI (tOp (rMulG K) (tVar 6) (tVar 9)) (tOp (rIx K) (tVar 4) (tC (.int 1)))) (gName 10))) tNext)
    (tSeq (tIfS (tTest (tOp (rLtG K) (tVar 6) (tC (.int 0)))) (tSeq (tAsg (tOp (rAddG K) (tVar 9) (tOp (rIx K) (tOp (rIx K) (tOp (rIx K) (tVar 0) (tC (.int 1))) (tVar 11)) (tC (.int 3)))) (gName 9))
    (tAsg (tUn rNegI (tOp rDivI (tOp (rMulG K) (tUn rNegI (tVar 6)) (tVar 9)) (tOp (rIx K) (tVar 4) (tC (.int 2))))) (gName 10))) tNext)
    (tDrop (tBM K "list" rAppend (tVar 8) (tCons (tTup (tCons (tVar 12) (tCons (tOp (rAddG K) (tVar 5) (tVar 10)) tNil))) tNil))))))) tNext)))))
    (tRet (tLst (tCons (tVar 7) (tCons (tVar 8) tNil)))))))))))))
def t__law_overlap (K : PySem.W.Frag) : TS :=
    (tRet (tOp (rLtG K) (tCB rMx2 (tCons (tCB rInt1 (tCons (tOp (rIx K) (tVar 0) (tC (.int 0))) tNil)) (tCons (tCB rInt1 (tCons (tOp (rIx K) (tVar 1) (tC (.int 0))) tNil)) tNil))) (tCB rMn2 (tCons (tCB rInt1 (tCons (tOp (rIx K) (tVar 0) (tC (.int 1))) tNil)) (tCons (tCB rInt1 (tCons (tOp (rIx K) (tVar 1) (tC (.int 1))) tNil)) tNil)))))
def t__law_meet (K : PySem.W.Frag) (ap__law_overlap : AP) : TS :=
    (tSeq (tAsg (tC (.int 0)) (gName 2))
    (tSeq (tFor (iList K (tVar 1)) (gName 3) (tSeq (tAsg (tLc (iList K (tVar 0)) (gName 5) (tB (tCall (toSp K ap__law_overlap) [] E0 (tCons (tVar 5) (tCons (tVar 3) tNil)))) (tVar 5) [5]) (gName 4))
    (tIfS (tTest (tOp rGtI (tCB (rLenV K) (tCons (tVar 4) tNil)) (tC (.int 0)))) (tAsg (tOp (rAddG K) (tVar 2) (tC (.int 1))) (gName 2)) tNext)))
    (tRet (tVar 2))))
def t__law_three (K : PySem.W.Frag) (ap__law_take : AP) : TS :=
    (tSeq (tAsg (tCB (rLenV K) (tCons (tOp (rIx K) (tVar 1) (tC (.int 0))) tNil)) (gName 2))
    (tSeq (tAsg (tLc (iRng1 (tCons (tOp rSubI (tVar 2) (tC (.int 1))) tNil)) (gName 8) (tTest (tOp (rEqG K) (tOp (rIx K) (tOp (rIx K) (tOp (rIx K) (tVar 1) (tC (.int 1))) (tVar 8)) (tC (.int 0))) (tC (.str "hyphen")))) (tOp (rAddG K) (tVar 8) (tC (.int 1))) [8]) (gName 3))
    (tSeq (tIfS (tAnd (tTest (tOp (rEqG K) (tCall (toSp K ap__law_take) [] E0 (tCons (tVar 0) (tCons (tC (.int 3)) tNil))) (tC (.int 0)))) (tTest (tOp rGtI (tCB (rLenV K) (tCons (tVar 3) tNil)) (tC (.int 1))))) (tSeq (tAsg (tCall (toSp K ap__law_take) [] E0 (tCons (tVar 0) (tCons (tOp rSubI (tCB (rLenV K) (tCons (tVar 3) tNil)) (tC (.int 1))) tNil))) (gName 4))
    (tSeq (tAsg (tOp (rAddG K) (tOp (rAddG K) (tVar 4) (tC (.int 1))) (tCall (toSp K ap__law_take) [] E0 (tCons (tVar 0) (tCons (tOp rSubI (tOp rSubI (tCB (rLenV K) (tCons (tVar 3) tNil)) (tC (.int 1))) (tVar 4)) tNil)))) (gName 5))
    (tRet (tLst (tCons (tCall (toSp K ap__law_take) [] E0 (tCons (tVar 0) (tCons (tOp (rIx K) (tVar 3) (tVar 4)) tNil))) (tCons (tOp (rIx K) (tVar 3) (tVar 4)) (tCons (tOp (rIx K) (tVar 3) (tVar 5)) tNil))))))) tNext)
    (tSeq (tAsg (tCall (toSp K ap__law_take) [] E0 (tCons (tVar 0) (tCons (tOp rSubI (tVar 2) (tC (.int 1))) tNil))) (gName 6))
    (tSeq (tAsg (tOp (rAddG K) (tOp (rAddG K) (tVar 6) (tC (.int 1))) (tCall (toSp K ap__law_take) [] E0 (tCons (tVar 0) (tCons (tOp rSubI (tOp rSubI (tVar 2) (tC (.int 1))) (tVar 6)) tNil)))) (gName 7))
    (tRet (tLst (tCons (tVar 6) (tCons (tVar 7) (tCons (tOp (rAddG K) (tOp (rAddG K) (tVar 7) (tC (.int 1))) (tCall (toSp K ap__law_take) [] E0 (tCons (tVar 0) (tCons (tOp rSubI (tVar 2) (tVar 7)) tNil)))) tNil))))))))))
def t__law_shared (K : PySem.W.Frag) (ap__law_glue : AP) (ap__law_take : AP) : TS :=
    (tSeq (tAsg (tCall (toSp K ap__law_glue) [] E0 (tCons (tVar 1) (tCons (tOp (rIx K) (tVar 2) (tC (.int 0))) (tCons (tOp (rIx K) (tVar 2) (tC (.int 1))) tNil)))) (gName 4))
    (tSeq (tAsg (tCall (toSp K ap__law_glue) [] E0 (tCons (tVar 1) (tCons (tOp (rIx K) (tVar 2) (tC (.int 1))) (tCons (tOp (rIx K) (tVar 2) (tC (.int 2))) tNil)))) (gName 5))
    (tSeq (tAsg (tOp (rMulG K) (tOp (rIx K) (tVar 3) (tC (.int 1))) (tCB rInt1 (tCons (tOp (rEqG K) (tOp (rIx K) (tVar 2) (tC (.int 0))) (tC (.int 0))) tNil))) (gName 6))
    (tSeq (tAsg (tCB rMx2 (tCons (tCB rInt1 (tCons (tOp (rAddG K) (tOp rSubI (tOp (rIx K) (tVar 4) (tC (.int 0))) (tOp (rIx K) (tVar 4) (tC (.int 2)))) (tVar 6)) tNil)) (tCons (tCB rInt1 (tCons (tOp rSubI (tOp (rIx K) (tVar 5) (tC (.int 0))) (tOp (rIx K) (tVar 5) (tC (.int 2)))) tNil)) tNil))) (gName 7))
    (tSeq (tAsg (tOp (rAddG K) (tOp (rAddG K) (tOp (rIx K) (tVar 4) (tC (.int 0))) (tOp (rMulG K) (tOp (rIx K) (tVar 3) (tC (.int 6))) (tOp (rIx K) (tVar 4) (tC (.int 1))))) (tVar 6)) (gName 8))
    (tSeq (tIfS (tTest (tOp (rLtG K) (tOp (rIx K) (tVar 2) (tC (.int 2))) (tCB (rLenV K) (tCons (tOp (rIx K) (tVar 1) (tC (.int 0))) tNil)))) (tAsg (tCB rMn2 (tCons (tCB rInt1 (tCons (tVar 8) tNil)) (tCons (tCB rInt1 (tCons (tOp (rAddG K) (tOp (rIx K) (tVar 5) (tC (.int 0))) (tOp (rMulG K) (tOp (rIx K) (tVar 3) (tC (.int 6))) (tOp (rIx K) (tVar 5) (tC (.int 1))))) tNil)) tNil))) (gName 8)) tNext)
    (tSeq (tIfS (tAnd (tTest (tOp (rEqG K) (tOp (rIx K) (tVar 3) (tC (.int 2))) (tC (.str "both")))) (tTest (tOp rLeI (tVar 7) (tVar 8)))) (tSeq (tAsg (tOp (rAddG K) (tVar 7) (tCall (toSp K ap__law_take) [] E0 (tCons (tVar 0) (tCons (tOp rSubI (tOp (rAddG K) (tVar 8) (tC (.int 1))) (tVar 7)) tNil)))) (gName 9))
    (tRet (tOp (rAddG K) (tTup (tCons (tCB rMn2 (tCons (tC (.int 10500)) (tCons (tVar 9) tNil))) tNil)) (tSl (rSlG K) (tVar 3) (tPart (tC (.int 1))) tNoPart)))) tNext)
    (tSeq (tAsg (tCB rMx2 (tCons (tCB rInt1 (tCons (tOp (rAddG K) (tOp (rIx K) (tVar 4) (tC (.int 0))) (tVar 6)) tNil)) (tCons (tCB rInt1 (tCons (tOp (rIx K) (tVar 5) (tC (.int 0))) tNil)) tNil))) (gName 7))
    (tSeq (tAsg (tOp (rIx K) (tLst (tCons (tC (.int 40)) (tCons (tC (.int 10500)) tNil))) (tCB rInt1 (tCons (tOp (rEqG K) (tCall (toSp K ap__law_take) [] E0 (tCons (tVar 0) (tCons (tC (.int 8)) tNil))) (tC (.int 7))) tNil))) (gName 10))
    (tSeq (tAsg (tOp (rAddG K) (tVar 7) (tCall (toSp K ap__law_take) [] E0 (tCons (tVar 0) (tCons (tVar 10) tNil)))) (gName 9))
    (tRet (tOp (rAddG K) (tTup (tCons (tCB rMn2 (tCons (tC (.int 10500)) (tCons (tVar 9) tNil))) (tCons (tOp (rIx K) (tVar 3) (tC (.int 1))) (tCons (tC (.str "left")) tNil)))) (tSl (rSlG K) (tVar 3) (tPart (tC (.int 3))) tNoPart)))))))))))))
def t__law_twin (K : PySem.W.Frag) : TS :=
    (tSeq (tIfS (tOr (tTest (tOp (rEqG K) (tOp (rIx K) (tVar 1) (tC (.int 2))) (tCB (rLenV K) (tCons (tOp (rIx K) (tVar 0) (tC (.int 0))) tNil)))) (tTest (tOp (rNeG K) (tOp (rIx K) (tOp (rIx K) (tOp (rIx K) (tVar 0) (tC (.int 1))) (tOp rSubI (tOp (rIx K) (tVar 1) (tC (.int 2))) (tC (.int 1)))) (tC (.int 0))) (tC (.str "hyphen"))))) (tRet (tC (.int 0))) tNext)
    (tRet (tOp (rMulG K) (tOp (rIx K) (tVar 2) (tC (.int 4))) (tCB rInt1 (tCons (tOp (rEqG K) (tOp (rIx K) (tOp (rIx K) (tOp (rIx K) (tVar 0) (tC (.int 1))) (tOp rSubI (tOp (rIx K) (tVar 1) (tC (.int 1))) (tC (.int 1)))) (tC (.int 0))) (tC (.str "hyphen"))) tNil)))))
def t_law (K : PySem.W.Frag) (c_Measure : Addr) (ap__law_bare : AP) (ap__law_pool : AP) (ap__law_line_key : AP) (ap__law_three : AP) (ap__law_shared : AP) (ap__law_possible : AP) (ap__law_spans : AP) (ap__law_meet : AP) (ap_Measure_of : AP) (ap_pair_price : AP) (ap__law_is_integer : AP) (ap__law_twin : AP) : TS :=
    (tSeq (tAsg (tCall (toSp K ap__law_bare) [] E0 (tCons (tCall (toSp K ap__law_pool) [] E0 (tCons (tVar 0) (tCons (tC (.int 0)) tNil))) (tCons (tC (.int 2)) (tCons (tC (.int 6)) tNil)))) (gName 1))
    (tSeq (tAsg (tCall (toSp K ap__law_line_key) [] E0 (tCons (tCall (toSp K ap__law_pool) [] E0 (tCons (tVar 0) (tCons (tC (.int 1)) tNil))) (tCons (tVar 1) tNil))) (gName 2))
    (tSeq (tAsg (tCall (toSp K ap__law_pool) [] E0 (tCons (tVar 0) (tCons (tC (.int 2)) tNil))) (gName 3))
    (tSeq (tAsg (tCall (toSp K ap__law_three) [] E0 (tCons (tVar 3) (tCons (tVar 1) tNil))) (gName 4))
    (tSeq (tAsg (tCall (toSp K ap__law_shared) [] E0 (tCons (tVar 3) (tCons (tVar 1) (tCons (tVar 4) (tCons (tVar 2) tNil))))) (gName 2))
    (tSeq (tIfS (tNot (tB (tCall (toSp K ap__law_possible) [] E0 (tCons (tVar 1) (tCons (tOp (rIx K) (tVar 4) (tC (.int 0))) (tCons (tOp (rIx K) (tVar 4) (tC (.int 1))) (tCons (tVar 2) tNil))))))) (tRet (tC (.bl true))) tNext)
    (tSeq (tIfS (tNot (tB (tCall (toSp K ap__law_possible) [] E0 (tCons (tVar 1) (tCons (tOp (rIx K) (tVar 4) (tC (.int 1))) (tCons (tOp (rIx K) (tVar 4) (tC (.int 2))) (tCons (tVar 2) tNil))))))) (tRet (tC (.bl true))) tNext)
    (tSeq (tAsg (tOp (rIx K) (tCall (toSp K ap__law_spans) [] E0 (tCons (tVar 1) (tCons (tOp (rIx K) (tVar 4) (tC (.int 0))) (tCons (tOp (rIx K) (tVar 4) (tC (.int 1))) (tCons (tVar 2) tNil))))) (tC (.int 1))) (gName 5))
    (tSeq (tAsg (tOp (rIx K) (tCall (toSp K ap__law_spans) [] E0 (tCons (tVar 1) (tCons (tOp (rIx K) (tVar 4) (tC (.int 1))) (tCons (tOp (rIx K) (tVar 4) (tC (.int 2))) (tCons (tVar 2) tNil))))) (tC (.int 1))) (gName 6))
    (tSeq (tAsg (tCall (toSp K ap__law_meet) [] E0 (tCons (tVar 5) (tCons (tVar 6) tNil))) (gName 7))
    (tSeq (tFor (iList K (tLst (tCons (tOp (rIx K) (tVar 2) (tC (.int 5))) (tCons (tC (.int 0)) (tCons (tC (.int 1)) (tCons (tC (.int 2)) (tCons (tC (.int 3)) (tCons (tC (.int 4)) (tCons (tC (.int 5)) (tCons (tC (.int 6)) (tCons (tC (.int 7)) (tCons (tC (.int 8)) (tCons (tC (.int 9)) (tCons (tOp (rIx K) (tVar 2) (tC (.int 5))) tNil)))))))))))))) (gName 8) (tSeq (tAsg (tSMeth c_Measure (toSp K ap_Measure_of) E0 (tC (.ref c_Measure)) (tCons (tOp (rAddG K) (tSl (rSlG K) (tVar 2) tNoPart (tPart (tC (.int 5)))) (tTup (tCons (tVar 8) (tCons (tOp (rIx K) (tVar 2) (tC (.int 6))) tNil)))) tNil)) (gName 9))
    (tSeq (tAsg (tCall (toSp K ap_pair_price) [] E0 (tCons (tVar 1) (tCons (tOp (rIx K) (tVar 4) (tC (.int 0))) (tCons (tOp (rIx K) (tVar 4) (tC (.int 1))) (tCons (tOp (rIx K) (tVar 4) (tC (.int 2))) (tCons (tVar 9) tNil)))))) (gName 10))
    (tIfS (tAnd (tTest (tOp rGtI (tVar 8) (tC (.int 0)))) (tTest (tOp rGeI (tVar 7) (tVar 8)))) (tIfS (tB (tNotN (tVar 10))) (tRet (tC (.bl false))) tNext) (tIfS (tOr (tNot (tB (tCall (toSp K ap__law_is_integer) [] E0 (tCons (tVar 10) tNil)))) (tTest (tOp (rNeG K) (tVar 10) (tCall (toSp K ap__law_twin) [] E0 (tCons (tVar 1) (tCons (tVar 4) (tCons (tVar 2) tNil))))))) (tRet (tC (.bl false))) tNext)))))
    (tRet (tC (.bl true))))))))))))))
section
variable {P : Program} {w : World} {K : PySem.W.Frag} {mg : Str → Option Value} {base : Heap}
theorem kb_0 (T : Txt K mg) : ∃ mv : List Value, KBn K T.fd_Measure___init__ ["self", "width", "indent", "align", "hyphen", "twin", "river", "loose"] 2 ["indent", "align", "hyphen", "twin", "river", "loose"] (fun us ws => pick (0 :: upO ([0, 1, 2, 3, 4, 5, 6] : List Nat)) (us ++ mv ++ ws)) (fun vs zs => pick (0 :: upO ([0, 1, 2, 3, 4, 5, 6] : List Nat)) (vs ++ ([] : List V) ++ zs)) :=
  FunD.kbinds0 (ps := ["self", "width", "indent", "align", "hyphen", "twin", "river", "loose"]) T.fk_Measure 2 ["indent", "align", "hyphen", "twin", "river", "loose"] [] (fun us mv ws => pick (0 :: upO ([0, 1, 2, 3, 4, 5, 6] : List Nat)) (us ++ mv ++ ws)) (fun z => nomatch z) sub_nil (fun r1 r2 r3 => pick_vals ((r1.append r2).append r3) _) (fun D doc pm an cdv ct us mv ws h1 h2 h3 => match us, mv, ws, h1, h2, h3 with | [_, _], [], [_, _, _, _, _, _], _, _, _ => rfl)
theorem tm_Glue___init__ (T : Txt K mg) (cdv : Value) (A : Around) (outer : List PySem.Env) (s : Shared) (H : Hp) (E : XK) (hr : Room 0 (A.deeper (PyProof.Rows.envOfC "Glue.__init__" (defScope s_Glue___init__) s.heap.objs.size T.f_Glue___init__ cdv))) :
    PSs (cxOf CX0 P w K mg base ["self", "width", "stretch", "shrink"] "Glue.__init__" (defScope s_Glue___init__) T.f_Glue___init__ cdv A outer s H E).nox (defBody s_Glue___init__) (t_Glue___init__ K) := 
      (pss_cons (ps_fld (pv 0) (pv 1) rfl)
      (pss_cons (ps_fld (pv 0) (pv 2) rfl)
      (pss_one (ps_fld (pv 0) (pv 3) rfl))))
theorem tm_Glue___add__ {ai_Glue : AI} (T : Txt K mg) (G_Glue___init__ : FnOk P w K mg base CX0 1 T.f_Glue___init__ T.fd_Glue___init__ ["self", "width", "stretch", "shrink"] (toSpI K T.c_Glue ai_Glue)) (cdv : Value) (A : Around) (outer : List PySem.Env) (s : Shared) (H : Hp) (E : XK) (hr : Room 2 (A.deeper (PyProof.Rows.envOfC "Glue.__add__" (defScope s_Glue___add__) s.heap.objs.size T.f_Glue___add__ cdv))) :
    PSs (cxOf CX0 P w K mg base ["self", "other"] "Glue.__add__" (defScope s_Glue___add__) T.f_Glue___add__ cdv A outer s H E).nox (defBody s_Glue___add__) (t_Glue___add__ K T.c_Glue ai_Glue) := 
      (pss_cons (ps_if (pt_not (pt_val (pe_callB call_isi (by rfl) T.m_isinstance bi_isinstance (pa_cons (pv 1) (pa_cons (pe_glob (v := .ref T.c_Glue) (by rfl) T.g_Glue rfl) pa_nil))))) (pss_one ps_never) pss_nil)
      (pss_one (ps_ret (pe_make T.mk_Glue G_Glue___init__ (hr.mono (by decide)) (by rfl) T.g_Glue T.b_Glue___init__ .nil pass0 (pa_cons (pe_op op_addG (pe_fld (pv 0) rfl) (pe_fld (pv 1) rfl)) (pa_cons (pe_op op_addG (pe_fld (pv 0) rfl) (pe_fld (pv 1) rfl)) (pa_cons (pe_op op_addG (pe_fld (pv 0) rfl) (pe_fld (pv 1) rfl)) pa_nil)))))))
theorem tm_ends_at_hyphen (T : Txt K mg) (cdv : Value) (A : Around) (outer : List PySem.Env) (s : Shared) (H : Hp) (E : XK) (hr : Room 0 (A.deeper (PyProof.Rows.envOfC "ends_at_hyphen" (defScope s_ends_at_hyphen) s.heap.objs.size T.f_ends_at_hyphen cdv))) :
    PSs (cxOf CX0 P w K mg base ["row", "end", "widths", "joints"] "ends_at_hyphen" (defScope s_ends_at_hyphen) T.f_ends_at_hyphen cdv A outer s H E).nox (defBody s_ends_at_hyphen) (t_ends_at_hyphen K) := 
      (pss_cons (ps_asg (pv 0) (pg_tup (by rfl) (pgs_cons (pg_name (i := 2) sc_ends_at_hyphen.nd rfl (Or.inl rfl)) (pgs_cons (pg_name (i := 3) sc_ends_at_hyphen.nd rfl (Or.inl rfl)) pgs_nil))))
      (pss_one (ps_ret (pe_and (pe_cmpR (op_ltG hr.units0) (pv 1) (pe_callB call_len (by rfl) T.m_len bi_len (pa_cons (pv 2) pa_nil)) (nomark _)) (pe_one (pe_cmpR (op_eqG hr.units) (pe_ix ix_seq (pe_ix ix_seq (pv 3) (pe_op op_sub (pv 1) pe_int) (fun _ _ => rfl)) pe_int (fun _ _ => rfl)) pe_str (nomark _)))))))
theorem tm_joint_glue {ai_Glue : AI} (T : Txt K mg) (G_Glue___init__ : FnOk P w K mg base CX0 1 T.f_Glue___init__ T.fd_Glue___init__ ["self", "width", "stretch", "shrink"] (toSpI K T.c_Glue ai_Glue)) (cdv : Value) (A : Around) (outer : List PySem.Env) (s : Shared) (H : Hp) (E : XK) (hr : Room 2 (A.deeper (PyProof.Rows.envOfC "joint_glue" (defScope s_joint_glue) s.heap.objs.size T.f_joint_glue cdv))) :
    PSs (cxOf CX0 P w K mg base ["joint"] "joint_glue" (defScope s_joint_glue) T.f_joint_glue cdv A outer s H E).nox (defBody s_joint_glue) (t_joint_glue K T.c_Glue ai_Glue) := 
      (pss_cons (ps_if (pt_cmpR (op_eqG hr.units) (pe_ix ix_seq (pv 0) pe_int (fun _ _ => rfl)) pe_str (nomark _)) (pss_one (ps_ret (pe_make T.mk_Glue G_Glue___init__ (hr.mono (by decide)) (by rfl) T.g_Glue T.b_Glue___init__ .nil pass0 (pa_cons (pe_ix ix_seq (pv 0) pe_int (fun _ _ => rfl)) (pa_cons (pe_ix ix_seq (pv 0) pe_int (fun _ _ => rfl)) (pa_cons (pe_ix ix_seq (pv 0) pe_int (fun _ _ => rfl)) pa_nil)))))) pss_nil)
      (pss_one (ps_ret (pe_make T.mk_Glue G_Glue___init__ (hr.mono (by decide)) (by rfl) T.g_Glue T.b_Glue___init__ .nil pass0 (pa_cons (pe_un un_neg (pe_ix ix_seq (pv 0) pe_int (fun _ _ => rfl))) (pa_cons pe_int (pa_cons pe_int pa_nil)))))))
theorem tm_extended_glue {ap_joint_glue : AP} {ap_Glue___add__ : AP} {ai_Glue : AI} (T : Txt K mg) (G_joint_glue : FnOk P w K mg base CX0 3 T.f_joint_glue T.fd_joint_glue ["joint"] (toSp K ap_joint_glue)) (G_Glue___add__ : FnOk P w K mg base CX0 3 T.f_Glue___add__ T.fd_Glue___add__ ["self", "other"] (toSp K ap_Glue___add__)) (G_Glue___init__ : FnOk P w K mg base CX0 1 T.f_Glue___init__ T.fd_Glue___init__ ["self", "width", "stretch", "shrink"] (toSpI K T.c_Glue ai_Glue)) (cdv : Value) (A : Around) (outer : List PySem.Env) (s : Shared) (H : Hp) (E : XK) (hr : Room 3 (A.deeper (PyProof.Rows.envOfC "extended_glue" (defScope s_extended_glue) s.heap.objs.size T.f_extended_glue cdv))) :
    PSs (cxOf CX0 P w K mg base ["row", "inner", "box", "widths", "joints"] "extended_glue" (defScope s_extended_glue) T.f_extended_glue cdv A outer s H E).nox (defBody s_extended_glue) (t_extended_glue K T.c_Glue ap_joint_glue ap_Glue___add__ ai_Glue) := 
      (pss_cons (ps_asg (pv 0) (pg_tup (by rfl) (pgs_cons (pg_name (i := 3) sc_extended_glue.nd rfl (Or.inl rfl)) (pgs_cons (pg_name (i := 4) sc_extended_glue.nd rfl (Or.inl rfl)) pgs_nil))))
      (pss_one (ps_ret (pe_op (op_own G_Glue___add__ (hr.mono (by decide)) T.sf_Glue T.op_Glue___add__ T.mt_Glue___add__.fn T.b_Glue___add__ pass0) (pe_op (op_own G_Glue___add__ (hr.mono (by decide)) T.sf_Glue T.op_Glue___add__ T.mt_Glue___add__.fn T.b_Glue___add__ pass0) (pv 1) (pe_call G_joint_glue (hr.mono (by decide)) (by rfl) T.g_joint_glue T.F_joint_glue.kp T.b_joint_glue .nil pass0 (pa_cons (pe_ix ix_seq (pv 4) (pe_op op_sub (pv 2) pe_int) (fun _ _ => rfl)) pa_nil))) (pe_make T.mk_Glue G_Glue___init__ (hr.mono (by decide)) (by rfl) T.g_Glue T.b_Glue___init__ .nil pass0 (pa_cons (pe_ix ix_seq (pv 3) (pv 2) (fun _ _ => rfl)) (pa_cons pe_int (pa_cons pe_int pa_nil))))))))
theorem tm_finished_glue {ap_ends_at_hyphen : AP} {ai_Glue : AI} {ap_Glue___add__ : AP} (T : Txt K mg) (G_ends_at_hyphen : FnOk P w K mg base CX0 1 T.f_ends_at_hyphen T.fd_ends_at_hyphen ["row", "end"] (toSp K ap_ends_at_hyphen)) (G_Glue___init__ : FnOk P w K mg base CX0 1 T.f_Glue___init__ T.fd_Glue___init__ ["self", "width", "stretch", "shrink"] (toSpI K T.c_Glue ai_Glue)) (G_Glue___add__ : FnOk P w K mg base CX0 3 T.f_Glue___add__ T.fd_Glue___add__ ["self", "other"] (toSp K ap_Glue___add__)) (cdv : Value) (A : Around) (outer : List PySem.Env) (s : Shared) (H : Hp) (E : XK) (hr : Room 3 (A.deeper (PyProof.Rows.envOfC "finished_glue" (defScope s_finished_glue) s.heap.objs.size T.f_finished_glue cdv))) :
    PSs (cxOf CX0 P w K mg base ["row", "inner", "end"] "finished_glue" (defScope s_finished_glue) T.f_finished_glue cdv A outer s H E).nox (defBody s_finished_glue) (t_finished_glue K T.c_Glue ap_ends_at_hyphen ai_Glue ap_Glue___add__) := 
      (pss_cons (ps_if (pt_val (pe_call G_ends_at_hyphen (hr.mono (by decide)) (by rfl) T.g_ends_at_hyphen T.F_ends_at_hyphen.kp T.b_ends_at_hyphen .nil pass0 (pa_cons (pv 0) (pa_cons (pv 2) pa_nil)))) (pss_one (ps_ret (pe_op (op_own G_Glue___add__ (hr.mono (by decide)) T.sf_Glue T.op_Glue___add__ T.mt_Glue___add__.fn T.b_Glue___add__ pass0) (pv 1) (pe_make T.mk_Glue G_Glue___init__ (hr.mono (by decide)) (by rfl) T.g_Glue T.b_Glue___init__ .nil pass0 (pa_cons (pe_ix ix_seq (pe_ix ix_seq (pe_ix ix_seq (pv 0) pe_int (fun _ _ => rfl)) (pe_op op_sub (pv 2) pe_int) (fun _ _ => rfl)) pe_int (fun _ _ => rfl)) (pa_cons pe_int (pa_cons pe_int pa_nil))))))) pss_nil)
      (pss_one (ps_ret (pv 1))))
theorem tm_line_glue {ai_Glue : AI} {ap_extended_glue : AP} {ap_finished_glue : AP} (T : Txt K mg) (G_Glue___init__ : FnOk P w K mg base CX0 1 T.f_Glue___init__ T.fd_Glue___init__ ["self", "width", "stretch", "shrink"] (toSpI K T.c_Glue ai_Glue)) (G_extended_glue : FnOk P w K mg base CX0 4 T.f_extended_glue T.fd_extended_glue ["row", "inner", "box"] (toSp K ap_extended_glue)) (G_finished_glue : FnOk P w K mg base CX0 4 T.f_finished_glue T.fd_finished_glue ["row", "inner", "end"] (toSp K ap_finished_glue)) (cdv : Value) (A : Around) (outer : List PySem.Env) (s : Shared) (H : Hp) (E : XK) (hr : Room 4 (A.deeper (PyProof.Rows.envOfC "line_glue" (defScope s_line_glue) s.heap.objs.size T.f_line_glue cdv))) :
    PSs (cxOf CX0 P w K mg base ["row", "start", "end", "inner", "box"] "line_glue" (defScope s_line_glue) T.f_line_glue cdv A outer s H E).nox (defBody s_line_glue) (t_line_glue K T.c_Glue ai_Glue ap_extended_glue ap_finished_glue) := 
      (pss_cons (ps_set (i := 3) sc_line_glue.nd rfl (Or.inl rfl) (pe_make T.mk_Glue G_Glue___init__ (hr.mono (by decide)) (by rfl) T.g_Glue T.b_Glue___init__ .nil pass0 (pa_cons (pe_ix ix_seq (pe_ix ix_seq (pv 0) pe_int (fun _ _ => rfl)) (pv 1) (fun _ _ => rfl)) (pa_cons pe_int (pa_cons pe_int pa_nil)))))
      (pss_cons (ps_for PassesOwn.never rfl (pi_range2 (by rfl) T.m_range (pa_cons (pe_op op_addG (pv 1) pe_int) (pa_cons (pv 2) pa_nil))) (pg_name (i := 4) sc_line_glue.nd rfl (Or.inl rfl)) (pss_one (ps_set (i := 3) sc_line_glue.nd rfl (Or.inl rfl) (pe_call G_extended_glue (hr.mono (by decide)) (by rfl) T.g_extended_glue T.F_extended_glue.kp T.b_extended_glue .nil pass0 (pa_cons (pv 0) (pa_cons (pv 3) (pa_cons (pv 4) pa_nil)))))))
      (pss_one (ps_ret (pe_call G_finished_glue (hr.mono (by decide)) (by rfl) T.g_finished_glue T.F_finished_glue.kp T.b_finished_glue .nil pass0 (pa_cons (pv 0) (pa_cons (pv 3) (pa_cons (pv 2) pa_nil))))))))
theorem tm_room_of (T : Txt K mg) (cdv : Value) (A : Around) (outer : List PySem.Env) (s : Shared) (H : Hp) (E : XK) (hr : Room 0 (A.deeper (PyProof.Rows.envOfC "room_of" (defScope s_room_of) s.heap.objs.size T.f_room_of cdv))) :
    PSs (cxOf CX0 P w K mg base ["start", "measure"] "room_of" (defScope s_room_of) T.f_room_of cdv A outer s H E).nox (defBody s_room_of) (t_room_of K) := 
      (pss_cons (ps_if (pt_cmpR (op_eqG hr.units) (pv 0) pe_int (nomark _)) (pss_one (ps_ret (pe_op op_sub (pe_fld (pv 1) rfl) (pe_fld (pv 1) rfl)))) pss_nil)
      (pss_one (ps_ret (pe_fld (pv 1) rfl))))
theorem tm_extra_of (T : Txt K mg) (cdv : Value) (A : Around) (outer : List PySem.Env) (s : Shared) (H : Hp) (E : XK) (hr : Room 0 (A.deeper (PyProof.Rows.envOfC "extra_of" (defScope s_extra_of) s.heap.objs.size T.f_extra_of cdv))) :
    PSs (cxOf CX0 P w K mg base ["rest", "glue", "before", "last", "measure"] "extra_of" (defScope s_extra_of) T.f_extra_of cdv A outer s H E).nox (defBody s_extra_of) (t_extra_of K) := 
      (pss_cons (ps_if (PW.pt (pw_and (pt_cmpR (op_eqG hr.units) (pe_fld (pv 4) rfl) pe_str (nomark _)) (pw_and1 (pt_cmpR (op_ltG hr.units0) (pv 0) pe_int (nomark _))))) (pss_one (ps_ret (pe_un un_neg (pe_op op_fdivW (pe_op op_mulG (pe_un un_neg (pv 0)) (pe_fld (pv 2) rfl)) (pe_fld (pv 1) rfl))))) pss_nil)
      (pss_cons (ps_if (PW.pt (pw_and (pt_cmpR (op_eqG hr.units) (pe_fld (pv 4) rfl) pe_str (nomark _)) (pw_and (pt_cmpR op_gt (pv 0) pe_int (nomark _)) (pw_and1 (pt_not (pt_val (pv 3))))))) (pss_one (ps_ret (pe_op op_fdivW (pe_op op_mulG (pv 0) (pe_fld (pv 2) rfl)) (pe_fld (pv 1) rfl)))) pss_nil)
      (pss_one (ps_ret pe_int))))
theorem tm_box_places {ap_line_glue : AP} {ap_room_of : AP} {ai_Glue : AI} {ap_joint_glue : AP} {ap_Glue___add__ : AP} {ap_extra_of : AP} (T : Txt K mg) (G_line_glue : FnOk P w K mg base CX0 5 T.f_line_glue T.fd_line_glue ["row", "start", "end"] (toSp K ap_line_glue)) (G_room_of : FnOk P w K mg base CX0 1 T.f_room_of T.fd_room_of ["start", "measure"] (toSp K ap_room_of)) (G_Glue___init__ : FnOk P w K mg base CX0 1 T.f_Glue___init__ T.fd_Glue___init__ ["self", "width", "stretch", "shrink"] (toSpI K T.c_Glue ai_Glue)) (G_joint_glue : FnOk P w K mg base CX0 3 T.f_joint_glue T.fd_joint_glue ["joint"] (toSp K ap_joint_glue)) (G_Glue___add__ : FnOk P w K mg base CX0 3 T.f_Glue___add__ T.fd_Glue___add__ ["self", "other"] (toSp K ap_Glue___add__)) (G_extra_of : FnOk P w K mg base CX0 1 T.f_extra_of T.fd_extra_of ["rest", "glue", "before", "last", "measure"] (toSp K ap_extra_of)) (cdv : Value) (A : Around) (outer : List PySem.Env) (s : Shared) (H : Hp) (E : XK) (hr : Room 5 (A.deeper (PyProof.Rows.envOfC "box_places" (defScope s_box_places) s.heap.objs.size T.f_box_places cdv))) :
    PSs (cxOf CX0 P w K mg base ["row", "start", "end", "measure", "widths", "joints", "glue", "rest", "last", "plain", "before", "places", "box", "joint"] "box_places" (defScope s_box_places) T.f_box_places cdv A outer s H E).nox (defBody s_box_places) (t_box_places K T.c_Glue ap_line_glue ap_room_of ai_Glue ap_joint_glue ap_Glue___add__ ap_extra_of) := 
      (pss_cons (ps_asg (pv 0) (pg_tup (by rfl) (pgs_cons (pg_name (i := 4) sc_box_places.nd rfl (Or.inl rfl)) (pgs_cons (pg_name (i := 5) sc_box_places.nd rfl (Or.inl rfl)) pgs_nil))))
      (pss_cons (ps_set (i := 6) sc_box_places.nd rfl (Or.inl rfl) (pe_call G_line_glue (hr.mono (by decide)) (by rfl) T.g_line_glue T.F_line_glue.kp T.b_line_glue .nil pass0 (pa_cons (pv 0) (pa_cons (pv 1) (pa_cons (pv 2) pa_nil)))))
      (pss_cons (ps_set (i := 7) sc_box_places.nd rfl (Or.inl rfl) (pe_op op_sub (pe_call G_room_of (hr.mono (by decide)) (by rfl) T.g_room_of T.F_room_of.kp T.b_room_of .nil pass0 (pa_cons (pv 1) (pa_cons (pv 3) pa_nil))) (pe_fld (pv 6) rfl)))
      (pss_cons (ps_set (i := 8) sc_box_places.nd rfl (Or.inl rfl) (pe_cmpR (op_eqG hr.units) (pv 2) (pe_callB call_len (by rfl) T.m_len bi_len (pa_cons (pv 4) pa_nil)) (nomark _)))
      (pss_cons (ps_set (i := 9) sc_box_places.nd rfl (Or.inl rfl) (pe_ifExp (pt_cmpR (op_eqG hr.units) (pv 1) pe_int (nomark _)) (pe_fld (pv 3) rfl) pe_int))
      (pss_cons (ps_set (i := 10) sc_box_places.nd rfl (Or.inl rfl) (pe_make T.mk_Glue G_Glue___init__ (hr.mono (by decide)) (by rfl) T.g_Glue T.b_Glue___init__ .nil pass0 (pa_cons pe_int (pa_cons pe_int (pa_cons pe_int pa_nil)))))
      (pss_cons (ps_set (i := 11) sc_box_places.nd rfl (Or.inl rfl) (pe_lst pa_nil))
      (pss_cons (ps_for PassesOwn.never rfl (pi_range2 (by rfl) T.m_range (pa_cons (pv 1) (pa_cons (pv 2) pa_nil))) (pg_name (i := 12) sc_box_places.nd rfl (Or.inl rfl)) (pss_cons (ps_if (pt_cmpR op_gt (pv 12) (pv 1) (nomark _)) (pss_cons (ps_set (i := 13) sc_box_places.nd rfl (Or.inl rfl) (pe_call G_joint_glue (hr.mono (by decide)) (by rfl) T.g_joint_glue T.F_joint_glue.kp T.b_joint_glue .nil pass0 (pa_cons (pe_ix ix_seq (pv 5) (pe_op op_sub (pv 12) pe_int) (fun _ _ => rfl)) pa_nil)))
      (pss_cons (ps_set (i := 9) sc_box_places.nd rfl (Or.inl rfl) (pe_op op_addG (pe_op op_addG (pv 9) (pe_ix ix_seq (pv 4) (pe_op op_sub (pv 12) pe_int) (fun _ _ => rfl))) (pe_fld (pv 13) rfl)))
      (pss_one (ps_set (i := 10) sc_box_places.nd rfl (Or.inl rfl) (pe_op (op_own G_Glue___add__ (hr.mono (by decide)) T.sf_Glue T.op_Glue___add__ T.mt_Glue___add__.fn T.b_Glue___add__ pass0) (pv 10) (pv 13)))))) pss_nil)
      (pss_one (ps_expr (pe_bm PySem.F.plainAttrs_list PySem.F.slot_list_append PySem.F.type_list_append mt_append (pv 11) (pa_cons (pe_op op_addG (pv 9) (pe_call G_extra_of (hr.mono (by decide)) (by rfl) T.g_extra_of T.F_extra_of.kp T.b_extra_of .nil pass0 (pa_cons (pv 7) (pa_cons (pv 6) (pa_cons (pv 10) (pa_cons (pv 8) (pa_cons (pv 3) pa_nil))))))) pa_nil))))))
      (pss_one (ps_ret (pv 11)))))))))))
theorem tm_gap_spans {ap_box_places : AP} (T : Txt K mg) (G_box_places : FnOk P w K mg base CX0 6 T.f_box_places T.fd_box_places ["row", "start", "end", "measure"] (toSp K ap_box_places)) (cdv : Value) (A : Around) (outer : List PySem.Env) (s : Shared) (H : Hp) (E : XK) (hr : Room 6 (A.deeper (PyProof.Rows.envOfC "gap_spans" (defScope s_gap_spans) s.heap.objs.size T.f_gap_spans cdv))) :
    PSs (cxOf CX0 P w K mg base ["row", "start", "end", "measure", "widths", "joints", "places", "spans", "box", "right_end"] "gap_spans" (defScope s_gap_spans) T.f_gap_spans cdv A outer s H E).nox (defBody s_gap_spans) (t_gap_spans K ap_box_places) := 
      (pss_cons (ps_asg (pv 0) (pg_tup (by rfl) (pgs_cons (pg_name (i := 4) sc_gap_spans.nd rfl (Or.inl rfl)) (pgs_cons (pg_name (i := 5) sc_gap_spans.nd rfl (Or.inl rfl)) pgs_nil))))
      (pss_cons (ps_set (i := 6) sc_gap_spans.nd rfl (Or.inl rfl) (pe_call G_box_places (hr.mono (by decide)) (by rfl) T.g_box_places T.F_box_places.kp T.b_box_places .nil pass0 (pa_cons (pv 0) (pa_cons (pv 1) (pa_cons (pv 2) (pa_cons (pv 3) pa_nil))))))
      (pss_cons (ps_set (i := 7) sc_gap_spans.nd rfl (Or.inl rfl) (pe_lst pa_nil))
      (pss_cons (ps_for PassesOwn.never rfl (pi_range2 (by rfl) T.m_range (pa_cons (pv 1) (pa_cons (pe_op op_sub (pv 2) pe_int) pa_nil))) (pg_name (i := 8) sc_gap_spans.nd rfl (Or.inl rfl)) (pss_one (ps_if (pt_cmpR (op_eqG hr.units) (pe_ix ix_seq (pe_ix ix_seq (pv 5) (pv 8) (fun _ _ => rfl)) pe_int (fun _ _ => rfl)) pe_str (nomark _)) (pss_cons (ps_set (i := 9) sc_gap_spans.nd rfl (Or.inl rfl) (pe_op op_addG (pe_ix ix_seq (pv 6) (pe_op op_sub (pv 8) (pv 1)) (fun _ _ => rfl)) (pe_ix ix_seq (pv 4) (pv 8) (fun _ _ => rfl))))
      (pss_one (ps_expr (pe_bm PySem.F.plainAttrs_list PySem.F.slot_list_append PySem.F.type_list_append mt_append (pv 7) (pa_cons (pe_tup (pa_cons (pv 9) (pa_cons (pe_ix ix_seq (pv 6) (pe_op op_addG (pe_op op_sub (pv 8) (pv 1)) pe_int) (fun _ _ => rfl)) pa_nil))) pa_nil))))) pss_nil)))
      (pss_one (ps_ret (pv 7)))))))
theorem tm_count_overlapping (T : Txt K mg) (cdv : Value) (A : Around) (outer : List PySem.Env) (s : Shared) (H : Hp) (E : XK) (hr : Room 0 (A.deeper (PyProof.Rows.envOfC "count_overlapping" (defScope s_count_overlapping) s.heap.objs.size T.f_count_overlapping cdv))) :
    PSs (cxOf CX0 P w K mg base ["upper", "lower", "count", "at", "first", "end"] "count_overlapping" (defScope s_count_overlapping) T.f_count_overlapping cdv A outer s H E).nox (defBody s_count_overlapping) (t_count_overlapping K) := 
      (pss_cons (ps_set (i := 2) sc_count_overlapping.nd rfl (Or.inl rfl) pe_int)
      (pss_cons (ps_set (i := 3) sc_count_overlapping.nd rfl (Or.inl rfl) pe_int)
      (pss_cons (ps_for PassesOwn.never rfl (pi_list (pv 1)) (pg_tup (by rfl) (pgs_cons (pg_name (i := 4) sc_count_overlapping.nd rfl (Or.inl rfl)) (pgs_cons (pg_name (i := 5) sc_count_overlapping.nd rfl (Or.inl rfl)) pgs_nil))) (pss_cons (ps_while PassesOwn.never (PW.pt (pw_and (pt_cmpR (op_ltG hr.units0) (pv 3) (pe_callB call_len (by rfl) T.m_len bi_len (pa_cons (pv 0) pa_nil)) (nomark _)) (pw_and1 (pt_cmpR op_le (pe_ix ix_seq (pe_ix ix_seq (pv 0) (pv 3) (fun _ _ => rfl)) pe_int (fun _ _ => rfl)) (pv 4) (nomark _))))) (pss_one (ps_set (i := 3) sc_count_overlapping.nd rfl (Or.inl rfl) (pe_op op_addG (pv 3) pe_int))))
      (pss_one (ps_if (PW.pt (pw_and (pt_cmpR (op_ltG hr.units0) (pv 3) (pe_callB call_len (by rfl) T.m_len bi_len (pa_cons (pv 0) pa_nil)) (nomark _)) (pw_and1 (pt_cmpR (op_ltG hr.units0) (pe_ix ix_seq (pe_ix ix_seq (pv 0) (pv 3) (fun _ _ => rfl)) pe_int (fun _ _ => rfl)) (pv 5) (nomark _))))) (pss_one (ps_set (i := 2) sc_count_overlapping.nd rfl (Or.inl rfl) (pe_op op_addG (pv 2) pe_int))) pss_nil))))
      (pss_one (ps_ret (pv 2))))))
theorem tm_price_with_count {ap_ends_at_hyphen : AP} (T : Txt K mg) (G_ends_at_hyphen : FnOk P w K mg base CX0 1 T.f_ends_at_hyphen T.fd_ends_at_hyphen ["row", "end"] (toSp K ap_ends_at_hyphen)) (cdv : Value) (A : Around) (outer : List PySem.Env) (s : Shared) (H : Hp) (E : XK) (hr : Room 1 (A.deeper (PyProof.Rows.envOfC "price_with_count" (defScope s_price_with_count) s.heap.objs.size T.f_price_with_count cdv))) :
    PSs (cxOf CX0 P w K mg base ["row", "middle", "end", "measure", "count"] "price_with_count" (defScope s_price_with_count) T.f_price_with_count cdv A outer s H E).nox (defBody s_price_with_count) (t_price_with_count K ap_ends_at_hyphen) := 
      (pss_cons (ps_if (PW.pt (pw_and (pt_cmpR op_gt (pe_fld (pv 3) rfl) pe_int (nomark _)) (pw_and1 (pt_cmpR op_ge (pv 4) (pe_fld (pv 3) rfl) (nomark _))))) (pss_one (ps_ret pe_non)) pss_nil)
      (pss_cons (ps_if (PW.pt (pw_and (pt_val (pe_call G_ends_at_hyphen (hr.mono (by decide)) (by rfl) T.g_ends_at_hyphen T.F_ends_at_hyphen.kp T.b_ends_at_hyphen .nil pass0 (pa_cons (pv 0) (pa_cons (pv 1) pa_nil)))) (pw_and1 (pt_val (pe_call G_ends_at_hyphen (hr.mono (by decide)) (by rfl) T.g_ends_at_hyphen T.F_ends_at_hyphen.kp T.b_ends_at_hyphen .nil pass0 (pa_cons (pv 0) (pa_cons (pv 2) pa_nil))))))) (pss_one (ps_ret (pe_fld (pv 3) rfl))) pss_nil)
      (pss_one (ps_ret pe_int))))
theorem tm_pair_price {ap_gap_spans : AP} {ap_count_overlapping : AP} {ap_price_with_count : AP} (T : Txt K mg) (G_gap_spans : FnOk P w K mg base CX0 7 T.f_gap_spans T.fd_gap_spans ["row", "start", "end", "measure"] (toSp K ap_gap_spans)) (G_count_overlapping : FnOk P w K mg base CX0 1 T.f_count_overlapping T.fd_count_overlapping ["upper", "lower"] (toSp K ap_count_overlapping)) (G_price_with_count : FnOk P w K mg base CX0 2 T.f_price_with_count T.fd_price_with_count ["row", "middle", "end", "measure", "count"] (toSp K ap_price_with_count)) (cdv : Value) (A : Around) (outer : List PySem.Env) (s : Shared) (H : Hp) (E : XK) (hr : Room 7 (A.deeper (PyProof.Rows.envOfC "pair_price" (defScope s_pair_price) s.heap.objs.size T.f_pair_price cdv))) :
    PSs (cxOf CX0 P w K mg base ["row", "start", "middle", "end", "measure", "count", "upper", "lower"] "pair_price" (defScope s_pair_price) T.f_pair_price cdv A outer s H E).nox (defBody s_pair_price) (t_pair_price K ap_gap_spans ap_count_overlapping ap_price_with_count) := 
      (pss_cons (ps_set (i := 5) sc_pair_price.nd rfl (Or.inl rfl) pe_int)
      (pss_cons (ps_if (pt_cmpR op_gt (pe_fld (pv 4) rfl) pe_int (nomark _)) (pss_cons (ps_set (i := 6) sc_pair_price.nd rfl (Or.inl rfl) (pe_call G_gap_spans (hr.mono (by decide)) (by rfl) T.g_gap_spans T.F_gap_spans.kp T.b_gap_spans .nil pass0 (pa_cons (pv 0) (pa_cons (pv 1) (pa_cons (pv 2) (pa_cons (pv 4) pa_nil))))))
      (pss_cons (ps_set (i := 7) sc_pair_price.nd rfl (Or.inl rfl) (pe_call G_gap_spans (hr.mono (by decide)) (by rfl) T.g_gap_spans T.F_gap_spans.kp T.b_gap_spans .nil pass0 (pa_cons (pv 0) (pa_cons (pv 2) (pa_cons (pv 3) (pa_cons (pv 4) pa_nil))))))
      (pss_one (ps_set (i := 5) sc_pair_price.nd rfl (Or.inl rfl) (pe_call G_count_overlapping (hr.mono (by decide)) (by rfl) T.g_count_overlapping T.F_count_overlapping.kp T.b_count_overlapping .nil pass0 (pa_cons (pv 6) (pa_cons (pv 7) pa_nil))))))) pss_nil)
      (pss_one (ps_ret (pe_call G_price_with_count (hr.mono (by decide)) (by rfl) T.g_price_with_count T.F_price_with_count.kp T.b_price_with_count .nil pass0 (pa_cons (pv 0) (pa_cons (pv 2) (pa_cons (pv 3) (pa_cons (pv 4) (pa_cons (pv 5) pa_nil))))))))))
theorem tm_Measure___init__ (T : Txt K mg) (cdv : Value) (A : Around) (outer : List PySem.Env) (s : Shared) (H : Hp) (E : XK) (hr : Room 0 (A.deeper (PyProof.Rows.envOfC "Measure.__init__" (defScope s_Measure___init__) s.heap.objs.size T.f_Measure___init__ cdv))) :
    PSs (cxOf CX0 P w K mg base ["self", "width", "indent", "align", "hyphen", "twin", "river", "loose"] "Measure.__init__" (defScope s_Measure___init__) T.f_Measure___init__ cdv A outer s H E).nox (defBody s_Measure___init__) (t_Measure___init__ K) := 
      (pss_cons (ps_fld (pv 0) (pv 1) rfl)
      (pss_cons (ps_fld (pv 0) (pv 2) rfl)
      (pss_cons (ps_fld (pv 0) (pv 3) rfl)
      (pss_cons (ps_fld (pv 0) (pv 4) rfl)
      (pss_cons (ps_fld (pv 0) (pv 5) rfl)
      (pss_cons (ps_fld (pv 0) (pv 6) rfl)
      (pss_one (ps_fld (pv 0) (pv 7) rfl))))))))
theorem tm_Measure_of {ai_Measure : AI} (T : Txt K mg) (G_Measure___init__ : FnOk P w K mg base CX0 1 T.f_Measure___init__ T.fd_Measure___init__ ["self", "width", "indent", "align", "hyphen", "twin", "river", "loose"] (toSpI K T.c_Measure ai_Measure)) (cdv : Value) (A : Around) (outer : List PySem.Env) (s : Shared) (H : Hp) (E : XK) (hr : Room 2 (A.deeper (PyProof.Rows.envOfC "Measure.of" (defScope s_Measure_of) s.heap.objs.size T.f_Measure_of cdv))) :
    PSs (cxOf CX0 P w K mg base ["key", "width", "indent", "align", "hyphen", "twin", "river", "loose"] "Measure.of" (defScope s_Measure_of) T.f_Measure_of cdv A outer s H E).nox (defBody s_Measure_of) (t_Measure_of K T.c_Measure ai_Measure) := by
      obtain ⟨mv_0, KB_0⟩ := kb_0 T
      exact
      (pss_cons (ps_asg (pv 0) (pg_tup (by rfl) (pgs_cons (pg_name (i := 1) sc_Measure_of.nd rfl (Or.inl rfl)) (pgs_cons (pg_name (i := 2) sc_Measure_of.nd rfl (Or.inl rfl)) (pgs_cons (pg_name (i := 3) sc_Measure_of.nd rfl (Or.inl rfl)) (pgs_cons (pg_name (i := 4) sc_Measure_of.nd rfl (Or.inl rfl)) (pgs_cons (pg_name (i := 5) sc_Measure_of.nd rfl (Or.inl rfl)) (pgs_cons (pg_name (i := 6) sc_Measure_of.nd rfl (Or.inl rfl)) (pgs_cons (pg_name (i := 7) sc_Measure_of.nd rfl (Or.inl rfl)) pgs_nil)))))))))
      (pss_one (ps_ret (pe_makeKm T.mk_Measure G_Measure___init__ (hr.mono (by decide)) (by rfl) T.g_Measure KB_0 pass0 (pa_cons (pv 1) pa_nil) (pk_cons (pv 2) (pk_cons (pv 3) (pk_cons (pv 4) (pk_cons (pv 5) (pk_cons (pv 6) (pk_cons (pv 7) pk_nil)))))) rfl))))
theorem tm__law_pool (T : Txt K mg) (cdv : Value) (A : Around) (outer : List PySem.Env) (s : Shared) (H : Hp) (E : XK) (hr : Room 0 (A.deeper (PyProof.Rows.envOfC "_law_pool" (defScope s__law_pool) s.heap.objs.size T.f__law_pool cdv))) :
    PSs (cxOf CX0 P w K mg base ["_law_script", "_law_at", "_law_cell"] "_law_pool" (defScope s__law_pool) T.f__law_pool cdv A outer s H E).nox (defBody s__law_pool) (t__law_pool K) := 
      (pss_cons (ps_set (i := 2) sc__law_pool.nd rfl (Or.inl rfl) pe_int)
      (pss_cons (ps_if (pt_cmpR (op_ltG hr.units0) (pv 1) (pe_callB call_len (by rfl) T.m_len bi_len (pa_cons (pv 0) pa_nil)) (nomark _)) (pss_one (ps_set (i := 2) sc__law_pool.nd rfl (Or.inl rfl) (pe_callB call_abs (by rfl) T.m_abs bi_abs (pa_cons (pe_callTy call_int1 (by rfl) T.m_int bi_int (pa_cons (pe_ix ix_seq (pv 0) (pv 1) (fun _ _ => rfl)) pa_nil)) pa_nil)))) pss_nil)
      (pss_one (ps_ret (pe_lst (pa_cons (pv 2) (pa_cons pe_int (pa_cons (pe_callTy call_int1 (by rfl) T.m_int bi_int (pa_cons (pe_cmpR op_ge (pv 2) (pe_op op_pow pe_int pe_int) (nomark _)) pa_nil)) (pa_cons (pe_op op_mod (pe_callTy call_int1 (by rfl) T.m_int bi_int (pa_cons (pe_op op_addG (pv 2) (pe_op op_mulG (pv 1) pe_int)) pa_nil)) pe_int) (pa_cons pe_int pa_nil))))))))))
theorem tm__law_take (T : Txt K mg) (cdv : Value) (A : Around) (outer : List PySem.Env) (s : Shared) (H : Hp) (E : XK) (hr : Room 0 (A.deeper (PyProof.Rows.envOfC "_law_take" (defScope s__law_take) s.heap.objs.size T.f__law_take cdv))) :
    PSs (cxOf CX0 P w K mg base ["_law_pool_here", "_law_many", "_law_got", "_law_one", "_law_two"] "_law_take" (defScope s__law_take) T.f__law_take cdv A outer s H E).nox (defBody s__law_take) (t__law_take K) := 
      (pss_cons (ps_asg (pe_op op_addG (pe_ix ix_seq (pv 0) pe_int (fun _ _ => rfl)) pe_int) (pg_sub (pv 0) pe_int set_list))
      (pss_cons (ps_if (pt_cmpR (op_eqG hr.units) (pe_ix ix_seq (pv 0) pe_int (fun _ _ => rfl)) pe_int (nomark _)) (pss_cons (ps_set (i := 2) sc__law_take.nd rfl (Or.inl rfl) (pe_op op_mod (pe_callTy call_int1 (by rfl) T.m_int bi_int (pa_cons (pe_ix ix_seq (pv 0) pe_int (fun _ _ => rfl)) pa_nil)) (pv 1)))
      (pss_cons (ps_asg (pe_op op_fdivW (pe_ix ix_seq (pv 0) pe_int (fun _ _ => rfl)) (pv 1)) (pg_sub (pv 0) pe_int set_list))
      (pss_one (ps_ret (pv 2))))) pss_nil)
      (pss_cons (ps_set (i := 3) sc__law_take.nd rfl (Or.inl rfl) (pe_op op_mod (pe_callTy call_int1 (by rfl) T.m_int bi_int (pa_cons (pe_op op_addG (pe_op op_addG (pe_op op_mulG (pe_ix ix_seq (pv 0) pe_int (fun _ _ => rfl)) pe_int) (pe_op op_mulG (pe_ix ix_seq (pv 0) pe_int (fun _ _ => rfl)) pe_int)) pe_int) pa_nil)) pe_int))
      (pss_cons (ps_set (i := 4) sc__law_take.nd rfl (Or.inl rfl) (pe_op op_mod (pe_callTy call_int1 (by rfl) T.m_int bi_int (pa_cons (pe_op op_addG (pe_op op_addG (pe_op op_mulG (pv 3) pe_int) (pe_op op_fdivW (pv 3) pe_int)) (pe_op op_mulG (pe_op op_mulG (pe_ix ix_seq (pv 0) pe_int (fun _ _ => rfl)) (pe_ix ix_seq (pv 0) pe_int (fun _ _ => rfl))) pe_int)) pa_nil)) pe_int))
      (pss_one (ps_ret (pe_op op_mod (pe_callTy call_int1 (by rfl) T.m_int bi_int (pa_cons (pe_op op_fdivW (pv 4) (pe_op op_addG (pe_ix ix_seq (pv 0) pe_int (fun _ _ => rfl)) pe_int)) pa_nil)) (pv 1))))))))
theorem tm__law_is_integer (T : Txt K mg) (cdv : Value) (A : Around) (outer : List PySem.Env) (s : Shared) (H : Hp) (E : XK) (hr : Room 0 (A.deeper (PyProof.Rows.envOfC "_law_is_integer" (defScope s__law_is_integer) s.heap.objs.size T.f__law_is_integer cdv))) :
    PSs (cxOf CX0 P w K mg base ["_law_actual"] "_law_is_integer" (defScope s__law_is_integer) T.f__law_is_integer cdv A outer s H E).nox (defBody s__law_is_integer) (t__law_is_integer K) := 
      (pss_one (ps_ret (pe_and (pe_callB call_isi (by rfl) T.m_isinstance bi_isinstance (pa_cons (pv 0) (pa_cons (pe_bltn (v := .ty "int") (by rfl) T.m_int bi_int rfl) pa_nil))) (pe_one (pe_not (pe_callB call_isi (by rfl) T.m_isinstance bi_isinstance (pa_cons (pv 0) (pa_cons (pe_bltn (v := .ty "bool") (by rfl) T.m_bool bi_bool rfl) pa_nil))))))))
theorem tm__law_joint {ap__law_take : AP} (T : Txt K mg) (G__law_take : FnOk P w K mg base CX0 1 T.f__law_take T.fd__law_take ["_law_pool_here", "_law_many"] (toSp K ap__law_take)) (cdv : Value) (A : Around) (outer : List PySem.Env) (s : Shared) (H : Hp) (E : XK) (hr : Room 1 (A.deeper (PyProof.Rows.envOfC "_law_joint" (defScope s__law_joint) s.heap.objs.size T.f__law_joint cdv))) :
    PSs (cxOf CX0 P w K mg base ["_law_pool_here", "_law_below", "_law_broad", "_law_more", "_law_wide"] "_law_joint" (defScope s__law_joint) T.f__law_joint cdv A outer s H E).nox (defBody s__law_joint) (t__law_joint K ap__law_take) := 
      (pss_cons (ps_if (pt_cmpR (op_eqG hr.units) (pe_call G__law_take (hr.mono (by decide)) (by rfl) T.g__law_take T.F__law_take.kp T.b__law_take .nil pass0 (pa_cons (pv 0) (pa_cons pe_int pa_nil))) pe_int (nomark _)) (pss_cons (ps_set (i := 3) sc__law_joint.nd rfl (Or.inl rfl) (pe_op op_addG pe_int (pe_call G__law_take (hr.mono (by decide)) (by rfl) T.g__law_take T.F__law_take.kp T.b__law_take .nil pass0 (pa_cons (pv 0) (pa_cons (pe_ix ix_seq (pe_lst (pa_cons pe_int (pa_cons pe_int pa_nil))) (pv 2) (fun _ _ => rfl)) pa_nil)))))
      (pss_one (ps_ret (pe_tup (pa_cons pe_str (pa_cons (pv 3) (pa_cons (pe_call G__law_take (hr.mono (by decide)) (by rfl) T.g__law_take T.F__law_take.kp T.b__law_take .nil pass0 (pa_cons (pv 0) (pa_cons (pv 1) pa_nil))) pa_nil))))))) pss_nil)
      (pss_cons (ps_set (i := 4) sc__law_joint.nd rfl (Or.inl rfl) (pe_op op_addG pe_int (pe_call G__law_take (hr.mono (by decide)) (by rfl) T.g__law_take T.F__law_take.kp T.b__law_take .nil pass0 (pa_cons (pv 0) (pa_cons (pe_ix ix_seq (pe_lst (pa_cons pe_int (pa_cons pe_int pa_nil))) (pv 2) (fun _ _ => rfl)) pa_nil)))))
      (pss_cons (ps_set (i := 3) sc__law_joint.nd rfl (Or.inl rfl) (pe_call G__law_take (hr.mono (by decide)) (by rfl) T.g__law_take T.F__law_take.kp T.b__law_take .nil pass0 (pa_cons (pv 0) (pa_cons (pe_ix ix_seq (pe_lst (pa_cons pe_int (pa_cons pe_int pa_nil))) (pv 2) (fun _ _ => rfl)) pa_nil))))
      (pss_one (ps_ret (pe_tup (pa_cons pe_str (pa_cons (pv 4) (pa_cons (pv 3) (pa_cons (pe_call G__law_take (hr.mono (by decide)) (by rfl) T.g__law_take T.F__law_take.kp T.b__law_take .nil pass0 (pa_cons (pv 0) (pa_cons (pv 4) pa_nil))) pa_nil))))))))))
theorem tm__law_bare {ap__law_take : AP} {ap__law_joint : AP} (T : Txt K mg) (G__law_take : FnOk P w K mg base CX0 1 T.f__law_take T.fd__law_take ["_law_pool_here", "_law_many"] (toSp K ap__law_take)) (G__law_joint : FnOk P w K mg base CX0 2 T.f__law_joint T.fd__law_joint ["_law_pool_here", "_law_below", "_law_broad"] (toSp K ap__law_joint)) (cdv : Value) (A : Around) (outer : List PySem.Env) (s : Shared) (H : Hp) (E : XK) (hr : Room 2 (A.deeper (PyProof.Rows.envOfC "_law_bare" (defScope s__law_bare) s.heap.objs.size T.f__law_bare cdv))) :
    PSs (cxOf CX0 P w K mg base ["_law_pool_here", "_law_least", "_law_often", "_law_many", "_law_broad", "_law_period", "_law_widths", "_law_k", "_law_joints", "_law_below"] "_law_bare" (defScope s__law_bare) T.f__law_bare cdv A outer s H E).nox (defBody s__law_bare) (t__law_bare K ap__law_take ap__law_joint) := 
      (pss_cons (ps_set (i := 3) sc__law_bare.nd rfl (Or.inl rfl) (pe_callB (call_max2 rfl) (by rfl) T.m_max bi_max (pa_cons (pe_callTy call_int1 (by rfl) T.m_int bi_int (pa_cons (pv 1) pa_nil)) (pa_cons (pe_call G__law_take (hr.mono (by decide)) (by rfl) T.g__law_take T.F__law_take.kp T.b__law_take .nil pass0 (pa_cons (pv 0) (pa_cons pe_int pa_nil))) pa_nil))))
      (pss_cons (ps_if (pt_cmpR (op_eqG hr.units) (pe_call G__law_take (hr.mono (by decide)) (by rfl) T.g__law_take T.F__law_take.kp T.b__law_take .nil pass0 (pa_cons (pv 0) (pa_cons (pv 2) pa_nil))) (pe_op op_sub (pv 2) pe_int) (nomark _)) (pss_one (ps_set (i := 3) sc__law_bare.nd rfl (Or.inl rfl) (pe_callB (call_max2 rfl) (by rfl) T.m_max bi_max (pa_cons (pe_callTy call_int1 (by rfl) T.m_int bi_int (pa_cons (pv 1) pa_nil)) (pa_cons (pe_call G__law_take (hr.mono (by decide)) (by rfl) T.g__law_take T.F__law_take.kp T.b__law_take .nil pass0 (pa_cons (pv 0) (pa_cons pe_int pa_nil))) pa_nil))))) pss_nil)
      (pss_cons (ps_set (i := 4) sc__law_bare.nd rfl (Or.inl rfl) (pe_callTy call_int1 (by rfl) T.m_int bi_int (pa_cons (pe_cmpR (op_eqG hr.units) (pe_call G__law_take (hr.mono (by decide)) (by rfl) T.g__law_take T.F__law_take.kp T.b__law_take .nil pass0 (pa_cons (pv 0) (pa_cons pe_int pa_nil))) pe_int (nomark _)) pa_nil)))
      (pss_cons (ps_set (i := 5) sc__law_bare.nd rfl (Or.inl rfl) (pe_ix ix_seq (pe_lst (pa_cons pe_int (pa_cons pe_int (pa_cons pe_int (pa_cons pe_int pa_nil))))) (pe_call G__law_take (hr.mono (by decide)) (by rfl) T.g__law_take T.F__law_take.kp T.b__law_take .nil pass0 (pa_cons (pv 0) (pa_cons pe_int pa_nil))) (fun _ _ => rfl)))
      (pss_cons (ps_set (i := 6) sc__law_bare.nd rfl (Or.inl rfl) (pe_lst pa_nil))
      (pss_cons (ps_for PassesOwn.never rfl (pi_range1 (by rfl) T.m_range (pa_cons (pv 3) pa_nil)) (pg_name (i := 7) sc__law_bare.nd rfl (Or.inl rfl)) (pss_one (ps_if (pt_chain op_lt op_le pe_int (pv 5) (pv 7)) (pss_one (ps_expr (pe_bm PySem.F.plainAttrs_list PySem.F.slot_list_append PySem.F.type_list_append mt_append (pv 6) (pa_cons (pe_ix ix_seq (pv 6) (pe_op op_sub (pv 7) (pv 5)) (fun _ _ => rfl)) pa_nil)))) (pss_one (ps_expr (pe_bm PySem.F.plainAttrs_list PySem.F.slot_list_append PySem.F.type_list_append mt_append (pv 6) (pa_cons (pe_op op_addG pe_int (pe_call G__law_take (hr.mono (by decide)) (by rfl) T.g__law_take T.F__law_take.kp T.b__law_take .nil pass0 (pa_cons (pv 0) (pa_cons (pe_ix ix_seq (pe_lst (pa_cons pe_int (pa_cons pe_int pa_nil))) (pv 4) (fun _ _ => rfl)) pa_nil)))) pa_nil)))))))
      (pss_cons (ps_set (i := 8) sc__law_bare.nd rfl (Or.inl rfl) (pe_lst pa_nil))
      (pss_cons (ps_for PassesOwn.never rfl (pi_range1 (by rfl) T.m_range (pa_cons (pe_op op_sub (pv 3) pe_int) pa_nil)) (pg_name (i := 7) sc__law_bare.nd rfl (Or.inl rfl)) (pss_one (ps_if (pt_chain op_lt op_le pe_int (pv 5) (pv 7)) (pss_one (ps_expr (pe_bm PySem.F.plainAttrs_list PySem.F.slot_list_append PySem.F.type_list_append mt_append (pv 8) (pa_cons (pe_ix ix_seq (pv 8) (pe_op op_sub (pv 7) (pv 5)) (fun _ _ => rfl)) pa_nil)))) (pss_cons (ps_set (i := 9) sc__law_bare.nd rfl (Or.inl rfl) (pe_callB (call_min2 rfl) (by rfl) T.m_min bi_min (pa_cons (pe_callTy call_int1 (by rfl) T.m_int bi_int (pa_cons (pe_ix ix_seq (pv 6) (pv 7) (fun _ _ => rfl)) pa_nil)) (pa_cons (pe_callTy call_int1 (by rfl) T.m_int bi_int (pa_cons (pe_ix ix_seq (pv 6) (pe_op op_addG (pv 7) pe_int) (fun _ _ => rfl)) pa_nil)) pa_nil))))
      (pss_one (ps_expr (pe_bm PySem.F.plainAttrs_list PySem.F.slot_list_append PySem.F.type_list_append mt_append (pv 8) (pa_cons (pe_call G__law_joint (hr.mono (by decide)) (by rfl) T.g__law_joint T.F__law_joint.kp T.b__law_joint .nil pass0 (pa_cons (pv 0) (pa_cons (pv 9) (pa_cons (pv 4) pa_nil)))) pa_nil))))))))
      (pss_one (ps_ret (pe_tup (pa_cons (pe_callTy call_tuple_of (by rfl) T.m_tuple bi_tuple (pa_cons (pv 6) pa_nil)) (pa_cons (pe_callTy call_tuple_of (by rfl) T.m_tuple bi_tuple (pa_cons (pv 8) pa_nil)) pa_nil)))))))))))))
theorem tm__law_glue (T : Txt K mg) (cdv : Value) (A : Around) (outer : List PySem.Env) (s : Shared) (H : Hp) (E : XK) (hr : Room 0 (A.deeper (PyProof.Rows.envOfC "_law_glue" (defScope s__law_glue) s.heap.objs.size T.f__law_glue cdv))) :
    PSs (cxOf CX0 P w K mg base ["_law_row", "_law_start", "_law_end", "_law_wide", "_law_more", "_law_less", "_law_k", "_law_joint_here"] "_law_glue" (defScope s__law_glue) T.f__law_glue cdv A outer s H E).nox (defBody s__law_glue) (t__law_glue K) := 
      (pss_cons (ps_set (i := 3) sc__law_glue.nd rfl (Or.inl rfl) (pe_callB (cr_sumG rfl) (by rfl) T.m_sum bi_sum (pa_cons (pe_slice sl_G (pe_ix ix_seq (pv 0) pe_int (fun _ _ => rfl)) (po_some (pv 1)) (po_some (pv 2))) pa_nil)))
      (pss_cons (ps_set (i := 4) sc__law_glue.nd rfl (Or.inl rfl) pe_int)
      (pss_cons (ps_set (i := 5) sc__law_glue.nd rfl (Or.inl rfl) pe_int)
      (pss_cons (ps_for PassesOwn.never rfl (pi_range2 (by rfl) T.m_range (pa_cons (pv 1) (pa_cons (pe_op op_sub (pv 2) pe_int) pa_nil))) (pg_name (i := 6) sc__law_glue.nd rfl (Or.inl rfl)) (pss_cons (ps_set (i := 7) sc__law_glue.nd rfl (Or.inl rfl) (pe_ix ix_seq (pe_ix ix_seq (pv 0) pe_int (fun _ _ => rfl)) (pv 6) (fun _ _ => rfl)))
      (pss_one (ps_if (pt_cmpR (op_eqG hr.units) (pe_ix ix_seq (pv 7) pe_int (fun _ _ => rfl)) pe_str (nomark _)) (pss_cons (ps_set (i := 3) sc__law_glue.nd rfl (Or.inl rfl) (pe_op op_addG (pv 3) (pe_ix ix_seq (pv 7) pe_int (fun _ _ => rfl))))
      (pss_cons (ps_set (i := 4) sc__law_glue.nd rfl (Or.inl rfl) (pe_op op_addG (pv 4) (pe_ix ix_seq (pv 7) pe_int (fun _ _ => rfl))))
      (pss_one (ps_set (i := 5) sc__law_glue.nd rfl (Or.inl rfl) (pe_op op_addG (pv 5) (pe_ix ix_seq (pv 7) pe_int (fun _ _ => rfl))))))) (pss_one (ps_set (i := 3) sc__law_glue.nd rfl (Or.inl rfl) (pe_op op_sub (pv 3) (pe_ix ix_seq (pv 7) pe_int (fun _ _ => rfl)))))))))
      (pss_cons (ps_if (PW.pt (pw_and (pt_cmpR (op_ltG hr.units0) (pv 2) (pe_callB call_len (by rfl) T.m_len bi_len (pa_cons (pe_ix ix_seq (pv 0) pe_int (fun _ _ => rfl)) pa_nil)) (nomark _)) (pw_and1 (pt_cmpR (op_eqG hr.units) (pe_ix ix_seq (pe_ix ix_seq (pe_ix ix_seq (pv 0) pe_int (fun _ _ => rfl)) (pe_op op_sub (pv 2) pe_int) (fun _ _ => rfl)) pe_int (fun _ _ => rfl)) pe_str (nomark _))))) (pss_one (ps_set (i := 3) sc__law_glue.nd rfl (Or.inl rfl) (pe_op op_addG (pv 3) (pe_ix ix_seq (pe_ix ix_seq (pe_ix ix_seq (pv 0) pe_int (fun _ _ => rfl)) (pe_op op_sub (pv 2) pe_int) (fun _ _ => rfl)) pe_int (fun _ _ => rfl))))) pss_nil)
      (pss_one (ps_ret (pe_lst (pa_cons (pv 3) (pa_cons (pv 4) (pa_cons (pv 5) pa_nil)))))))))))
theorem tm__law_line_key {ap__law_take : AP} {ap__law_glue : AP} (T : Txt K mg) (G__law_take : FnOk P w K mg base CX0 1 T.f__law_take T.fd__law_take ["_law_pool_here", "_law_many"] (toSp K ap__law_take)) (G__law_glue : FnOk P w K mg base CX0 1 T.f__law_glue T.fd__law_glue ["_law_row", "_law_start", "_law_end"] (toSp K ap__law_glue)) (cdv : Value) (A : Around) (outer : List PySem.Env) (s : Shared) (H : Hp) (E : XK) (hr : Room 1 (A.deeper (PyProof.Rows.envOfC "_law_line_key" (defScope s__law_line_key) s.heap.objs.size T.f__law_line_key cdv))) :
    PSs (cxOf CX0 P w K mg base ["_law_pool_here", "_law_row", "_law_gaps", "_law_whole", "_law_sort", "_law_wide", "_law_start", "_law_end", "_law_reach", "_law_begin", "_law_side", "_law_one", "_law_two", "_law_stream", "_law_slack", "_law_joint_here"] "_law_line_key" (defScope s__law_line_key) T.f__law_line_key cdv A outer s H E).nox (defBody s__law_line_key) (t__law_line_key K ap__law_take ap__law_glue) := 
      (pss_cons (ps_setLc (i := 2) (own := [("_law_joint_here", 15)]) (g := (gName 15)) (tt := (tTest (tOp (rEqG K) (tOp (rIx K) (tVar 15) (tC (.int 0))) (tC (.str "gap"))))) (by rfl) sc__law_line_key.nd rfl rfl (sw_true rfl rfl rfl (by decide +kernel)) (pi_tup (pe_ix ix_seq (pv 1) pe_int (fun _ _ => rfl))) (blkOk_by (own := [("_law_joint_here", 15)]) (N := ["_law_pool_here", "_law_row", "_law_gaps", "_law_whole", "_law_sort", "_law_wide", "_law_start", "_law_end", "_law_reach", "_law_begin", "_law_side", "_law_one", "_law_two", "_law_stream", "_law_slack", "_law_joint_here"]) (sc := defScope s__law_line_key) (by decide +kernel)) (fun _ _ _ _ _ => (pg_name (i := 15) sc__law_line_key.nd rfl (Or.inl rfl))) (fun _ _ _ _ _ => (pts_one (pt_cmpR (op_eqG hr.units) (pe_ix ix_seq (pv 15) pe_int (fun _ _ => rfl)) pe_str (nomark _)))) (fun _ _ _ _ _ => (pe_ix ix_seq (pv 15) pe_int (fun _ _ => rfl))))
      (pss_cons (ps_set (i := 3) sc__law_line_key.nd rfl (Or.inl rfl) (pe_op op_addG (pe_callB (cr_sumG rfl) (by rfl) T.m_sum bi_sum (pa_cons (pe_ix ix_seq (pv 1) pe_int (fun _ _ => rfl)) pa_nil)) (pe_callB (cr_sumG rfl) (by rfl) T.m_sum bi_sum (pa_cons (pv 2) pa_nil))))
      (pss_cons (ps_set (i := 4) sc__law_line_key.nd rfl (Or.inl rfl) (pe_call G__law_take (hr.mono (by decide)) (by rfl) T.g__law_take T.F__law_take.kp T.b__law_take .nil pass0 (pa_cons (pv 0) (pa_cons pe_int pa_nil))))
      (pss_cons (ps_set (i := 5) sc__law_line_key.nd rfl (Or.inl rfl) (pe_op op_addG pe_int (pe_call G__law_take (hr.mono (by decide)) (by rfl) T.g__law_take T.F__law_take.kp T.b__law_take .nil pass0 (pa_cons (pv 0) (pa_cons pe_int pa_nil)))))
      (pss_cons (ps_if (pt_cmpR op_inG (pv 4) (pe_lst (pa_cons pe_int (pa_cons pe_int (pa_cons pe_int (pa_cons pe_int pa_nil))))) (by rfl)) (pss_one (ps_set (i := 5) sc__law_line_key.nd rfl (Or.inl rfl) (pe_op op_addG (pe_op op_fdivW (pv 3) (pv 4)) (pe_call G__law_take (hr.mono (by decide)) (by rfl) T.g__law_take T.F__law_take.kp T.b__law_take .nil pass0 (pa_cons (pv 0) (pa_cons pe_int pa_nil)))))) pss_nil)
      (pss_cons (ps_if (PW.pt (pw_and (pt_cmpR op_inG (pv 4) (pe_lst (pa_cons pe_int (pa_cons pe_int pa_nil))) (by rfl)) (pw_and1 (pt_cmpR op_gt (pe_callB call_len (by rfl) T.m_len bi_len (pa_cons (pe_ix ix_seq (pv 1) pe_int (fun _ _ => rfl)) pa_nil)) pe_int (nomark _))))) (pss_cons (ps_set (i := 6) sc__law_line_key.nd rfl (Or.inl rfl) (pe_call G__law_take (hr.mono (by decide)) (by rfl) T.g__law_take T.F__law_take.kp T.b__law_take .nil pass0 (pa_cons (pv 0) (pa_cons (pe_callB call_len (by rfl) T.m_len bi_len (pa_cons (pe_ix ix_seq (pv 1) pe_int (fun _ _ => rfl)) pa_nil)) pa_nil))))
      (pss_cons (ps_set (i := 7) sc__law_line_key.nd rfl (Or.inl rfl) (pe_op op_addG (pe_op op_addG (pv 6) pe_int) (pe_call G__law_take (hr.mono (by decide)) (by rfl) T.g__law_take T.F__law_take.kp T.b__law_take .nil pass0 (pa_cons (pv 0) (pa_cons (pe_op op_sub (pe_callB call_len (by rfl) T.m_len bi_len (pa_cons (pe_ix ix_seq (pv 1) pe_int (fun _ _ => rfl)) pa_nil)) (pv 6)) pa_nil)))))
      (pss_one (ps_set (i := 5) sc__law_line_key.nd rfl (Or.inl rfl) (pe_ix ix_seq (pe_call G__law_glue (hr.mono (by decide)) (by rfl) T.g__law_glue T.F__law_glue.kp T.b__law_glue .nil pass0 (pa_cons (pv 1) (pa_cons (pv 6) (pa_cons (pv 7) pa_nil)))) pe_int (fun _ _ => rfl)))))) pss_nil)
      (pss_cons (ps_if (pt_cmpR (op_eqG hr.units) (pv 4) pe_int (nomark _)) (pss_one (ps_set (i := 5) sc__law_line_key.nd rfl (Or.inl rfl) (pe_op op_addG pe_int (pe_call G__law_take (hr.mono (by decide)) (by rfl) T.g__law_take T.F__law_take.kp T.b__law_take .nil pass0 (pa_cons (pv 0) (pa_cons pe_int pa_nil)))))) pss_nil)
      (pss_cons (ps_set (i := 8) sc__law_line_key.nd rfl (Or.inl rfl) (pe_ix ix_seq (pe_lst (pa_cons pe_int (pa_cons pe_int (pa_cons pe_int (pa_cons pe_int pa_nil))))) (pe_call G__law_take (hr.mono (by decide)) (by rfl) T.g__law_take T.F__law_take.kp T.b__law_take .nil pass0 (pa_cons (pv 0) (pa_cons pe_int pa_nil))) (fun _ _ => rfl)))
      (pss_cons (ps_set (i := 9) sc__law_line_key.nd rfl (Or.inl rfl) (pe_call G__law_take (hr.mono (by decide)) (by rfl) T.g__law_take T.F__law_take.kp T.b__law_take .nil pass0 (pa_cons (pv 0) (pa_cons (pv 8) pa_nil))))
      (pss_cons (ps_set (i := 10) sc__law_line_key.nd rfl (Or.inl rfl) (pe_ix ix_seq (pe_lst (pa_cons pe_str (pa_cons pe_str (pa_cons pe_str pa_nil)))) (pe_call G__law_take (hr.mono (by decide)) (by rfl) T.g__law_take T.F__law_take.kp T.b__law_take .nil pass0 (pa_cons (pv 0) (pa_cons pe_int pa_nil))) (fun _ _ => rfl)))
      (pss_cons (ps_set (i := 11) sc__law_line_key.nd rfl (Or.inl rfl) (pe_op op_mulG pe_int (pe_call G__law_take (hr.mono (by decide)) (by rfl) T.g__law_take T.F__law_take.kp T.b__law_take .nil pass0 (pa_cons (pv 0) (pa_cons pe_int pa_nil)))))
      (pss_cons (ps_set (i := 12) sc__law_line_key.nd rfl (Or.inl rfl) (pe_op op_mulG pe_int (pe_call G__law_take (hr.mono (by decide)) (by rfl) T.g__law_take T.F__law_take.kp T.b__law_take .nil pass0 (pa_cons (pv 0) (pa_cons pe_int pa_nil)))))
      (pss_cons (ps_if (pt_cmpR (op_eqG hr.units) (pe_call G__law_take (hr.mono (by decide)) (by rfl) T.g__law_take T.F__law_take.kp T.b__law_take .nil pass0 (pa_cons (pv 0) (pa_cons pe_int pa_nil))) pe_int (nomark _)) (pss_cons (ps_set (i := 11) sc__law_line_key.nd rfl (Or.inl rfl) (pe_call G__law_take (hr.mono (by decide)) (by rfl) T.g__law_take T.F__law_take.kp T.b__law_take .nil pass0 (pa_cons (pv 0) (pa_cons pe_int pa_nil))))
      (pss_one (ps_set (i := 12) sc__law_line_key.nd rfl (Or.inl rfl) (pe_call G__law_take (hr.mono (by decide)) (by rfl) T.g__law_take T.F__law_take.kp T.b__law_take .nil pass0 (pa_cons (pv 0) (pa_cons pe_int pa_nil)))))) pss_nil)
      (pss_cons (ps_set (i := 13) sc__law_line_key.nd rfl (Or.inl rfl) (pe_call G__law_take (hr.mono (by decide)) (by rfl) T.g__law_take T.F__law_take.kp T.b__law_take .nil pass0 (pa_cons (pv 0) (pa_cons pe_int pa_nil))))
      (pss_cons (ps_set (i := 14) sc__law_line_key.nd rfl (Or.inl rfl) (pe_call G__law_take (hr.mono (by decide)) (by rfl) T.g__law_take T.F__law_take.kp T.b__law_take .nil pass0 (pa_cons (pv 0) (pa_cons pe_int pa_nil))))
      (pss_cons (ps_if (pt_cmpR (op_eqG hr.units) (pe_call G__law_take (hr.mono (by decide)) (by rfl) T.g__law_take T.F__law_take.kp T.b__law_take .nil pass0 (pa_cons (pv 0) (pa_cons pe_int pa_nil))) pe_int (nomark _)) (pss_cons (ps_set (i := 13) sc__law_line_key.nd rfl (Or.inl rfl) (pe_call G__law_take (hr.mono (by decide)) (by rfl) T.g__law_take T.F__law_take.kp T.b__law_take .nil pass0 (pa_cons (pv 0) (pa_cons pe_int pa_nil))))
      (pss_one (ps_set (i := 14) sc__law_line_key.nd rfl (Or.inl rfl) (pe_call G__law_take (hr.mono (by decide)) (by rfl) T.g__law_take T.F__law_take.kp T.b__law_take .nil pass0 (pa_cons (pv 0) (pa_cons pe_int pa_nil)))))) pss_nil)
      (pss_cons (ps_if (PW.pt (pw_and (pt_cmpR op_gt (pe_callB call_len (by rfl) T.m_len bi_len (pa_cons (pe_ix ix_seq (pv 1) pe_int (fun _ _ => rfl)) pa_nil)) pe_int (nomark _)) (pw_and1 (pt_cmpR op_gt (pe_call G__law_take (hr.mono (by decide)) (by rfl) T.g__law_take T.F__law_take.kp T.b__law_take .nil pass0 (pa_cons (pv 0) (pa_cons pe_int pa_nil))) pe_int (nomark _))))) (pss_one (ps_set (i := 13) sc__law_line_key.nd rfl (Or.inl rfl) pe_int)) pss_nil)
      (pss_one (ps_ret (pe_tup (pa_cons (pe_callB (call_min2 rfl) (by rfl) T.m_min bi_min (pa_cons pe_int (pa_cons (pe_callB (call_max2 rfl) (by rfl) T.m_max bi_max (pa_cons pe_int (pa_cons (pv 5) pa_nil))) pa_nil))) (pa_cons (pv 9) (pa_cons (pv 10) (pa_cons (pv 11) (pa_cons (pv 12) (pa_cons (pv 13) (pa_cons (pv 14) pa_nil)))))))))))))))))))))))))))
theorem tm__law_possible {ap__law_glue : AP} (T : Txt K mg) (G__law_glue : FnOk P w K mg base CX0 1 T.f__law_glue T.fd__law_glue ["_law_row", "_law_start", "_law_end"] (toSp K ap__law_glue)) (cdv : Value) (A : Around) (outer : List PySem.Env) (s : Shared) (H : Hp) (E : XK) (hr : Room 1 (A.deeper (PyProof.Rows.envOfC "_law_possible" (defScope s__law_possible) s.heap.objs.size T.f__law_possible cdv))) :
    PSs (cxOf CX0 P w K mg base ["_law_row", "_law_start", "_law_end", "_law_key", "_law_glue_here", "_law_rest"] "_law_possible" (defScope s__law_possible) T.f__law_possible cdv A outer s H E).nox (defBody s__law_possible) (t__law_possible K ap__law_glue) := 
      (pss_cons (ps_set (i := 4) sc__law_possible.nd rfl (Or.inl rfl) (pe_call G__law_glue (hr.mono (by decide)) (by rfl) T.g__law_glue T.F__law_glue.kp T.b__law_glue .nil pass0 (pa_cons (pv 0) (pa_cons (pv 1) (pa_cons (pv 2) pa_nil)))))
      (pss_cons (ps_set (i := 5) sc__law_possible.nd rfl (Or.inl rfl) (pe_op op_sub (pe_op op_sub (pe_ix ix_seq (pv 3) pe_int (fun _ _ => rfl)) (pe_op op_mulG (pe_ix ix_seq (pv 3) pe_int (fun _ _ => rfl)) (pe_callTy call_int1 (by rfl) T.m_int bi_int (pa_cons (pe_cmpR (op_eqG hr.units) (pv 1) pe_int (nomark _)) pa_nil)))) (pe_ix ix_seq (pv 4) pe_int (fun _ _ => rfl))))
      (pss_cons (ps_if (pt_cmpR (op_ltG hr.units0) (pv 5) pe_int (nomark _)) (pss_one (ps_ret (pe_and (pe_cmpR (op_eqG hr.units) (pe_ix ix_seq (pv 3) pe_int (fun _ _ => rfl)) pe_str (nomark _)) (pe_one (pe_cmpR op_le (pe_un un_neg (pv 5)) (pe_ix ix_seq (pv 4) pe_int (fun _ _ => rfl)) (nomark _)))))) pss_nil)
      (pss_one (ps_ret (pe_or (pe_cmpR (op_eqG hr.units) (pe_ix ix_seq (pv 3) pe_int (fun _ _ => rfl)) pe_str (nomark _)) (pe_or (pe_cmpR (op_eqG hr.units) (pv 2) (pe_callB call_len (by rfl) T.m_len bi_len (pa_cons (pe_ix ix_seq (pv 0) pe_int (fun _ _ => rfl)) pa_nil)) (nomark _)) (pe_one (pe_cmpR op_le (pv 5) (pe_op op_mulG (pe_ix ix_seq (pv 3) pe_int (fun _ _ => rfl)) (pe_ix ix_seq (pv 4) pe_int (fun _ _ => rfl))) (nomark _))))))))))
theorem tm__law_spans {ap__law_glue : AP} (T : Txt K mg) (G__law_glue : FnOk P w K mg base CX0 1 T.f__law_glue T.fd__law_glue ["_law_row", "_law_start", "_law_end"] (toSp K ap__law_glue)) (cdv : Value) (A : Around) (outer : List PySem.Env) (s : Shared) (H : Hp) (E : XK) (hr : Room 1 (A.deeper (PyProof.Rows.envOfC "_law_spans" (defScope s__law_spans) s.heap.objs.size T.f__law_spans cdv))) :
    PSs (cxOf CX0 P w K mg base ["_law_row", "_law_start", "_law_end", "_law_key", "_law_glue_here", "_law_plain", "_law_rest", "_law_places", "_law_spans_here", "_law_gone", "_law_extra", "_law_k", "_law_ends"] "_law_spans" (defScope s__law_spans) T.f__law_spans cdv A outer s H E).nox (defBody s__law_spans) (t__law_spans K ap__law_glue) := 
      (pss_cons (ps_set (i := 4) sc__law_spans.nd rfl (Or.inl rfl) (pe_call G__law_glue (hr.mono (by decide)) (by rfl) T.g__law_glue T.F__law_glue.kp T.b__law_glue .nil pass0 (pa_cons (pv 0) (pa_cons (pv 1) (pa_cons (pv 2) pa_nil)))))
      (pss_cons (ps_set (i := 5) sc__law_spans.nd rfl (Or.inl rfl) (pe_op op_mulG (pe_ix ix_seq (pv 3) pe_int (fun _ _ => rfl)) (pe_callTy call_int1 (by rfl) T.m_int bi_int (pa_cons (pe_cmpR (op_eqG hr.units) (pv 1) pe_int (nomark _)) pa_nil))))
      (pss_cons (ps_set (i := 6) sc__law_spans.nd rfl (Or.inl rfl) (pe_op op_sub (pe_op op_sub (pe_ix ix_seq (pv 3) pe_int (fun _ _ => rfl)) (pv 5)) (pe_ix ix_seq (pv 4) pe_int (fun _ _ => rfl))))
      (pss_cons (ps_if (PW.pt (pw_or (pt_cmpR (op_eqG hr.units) (pe_ix ix_seq (pv 3) pe_int (fun _ _ => rfl)) pe_str (nomark _)) (pw_or1 (PW.pt (pw_and (pt_cmpR op_gt (pv 6) pe_int (nomark _)) (pw_and1 (pt_cmpR (op_eqG hr.units) (pv 2) (pe_callB call_len (by rfl) T.m_len bi_len (pa_cons (pe_ix ix_seq (pv 0) pe_int (fun _ _ => rfl)) pa_nil)) (nomark _)))))))) (pss_one (ps_set (i := 6) sc__law_spans.nd rfl (Or.inl rfl) pe_int)) pss_nil)
      (pss_cons (ps_set (i := 7) sc__law_spans.nd rfl (Or.inl rfl) (pe_lst pa_nil))
      (pss_cons (ps_set (i := 8) sc__law_spans.nd rfl (Or.inl rfl) (pe_lst pa_nil))
      (pss_cons (ps_set (i := 9) sc__law_spans.nd rfl (Or.inl rfl) pe_int)
      (pss_cons (ps_set (i := 10) sc__law_spans.nd rfl (Or.inl rfl) pe_int)
      (pss_cons (ps_for PassesOwn.never rfl (pi_range2 (by rfl) T.m_range (pa_cons (pv 1) (pa_cons (pv 2) pa_nil))) (pg_name (i := 11) sc__law_spans.nd rfl (Or.inl rfl)) (pss_cons (ps_expr (pe_bm PySem.F.plainAttrs_list PySem.F.slot_list_append PySem.F.type_list_append mt_append (pv 7) (pa_cons (pe_op op_addG (pv 5) (pv 10)) pa_nil)))
      (pss_cons (ps_set (i := 5) sc__law_spans.nd rfl (Or.inl rfl) (pe_op op_addG (pv 5) (pe_ix ix_seq (pe_ix ix_seq (pv 0) pe_int (fun _ _ => rfl)) (pv 11) (fun _ _ => rfl))))
      (pss_cons (ps_if (PW.pt (pw_and (pt_cmpR (op_ltG hr.units0) (pv 11) (pe_op op_sub (pv 2) pe_int) (nomark _)) (pw_and1 (pt_cmpR (op_eqG hr.units) (pe_ix ix_seq (pe_ix ix_seq (pe_ix ix_seq (pv 0) pe_int (fun _ _ => rfl)) (pv 11) (fun _ _ => rfl)) pe_int (fun _ _ => rfl)) pe_str (nomark _))))) (pss_one (ps_set (i := 5) sc__law_spans.nd rfl (Or.inl rfl) (pe_op op_sub (pv 5) (pe_ix ix_seq (pe_ix ix_seq (pe_ix ix_seq (pv 0) pe_int (fun _ _ => rfl)) (pv 11) (fun _ _ => rfl)) pe_int (fun _ _ => rfl))))) pss_nil)
      (pss_one (ps_if (PW.pt (pw_and (pt_cmpR (op_ltG hr.units0) (pv 11) (pe_op op_sub (pv 2) pe_int) (nomark _)) (pw_and1 (pt_cmpR (op_eqG hr.units) (pe_ix ix_seq (pe_ix ix_seq (pe_ix ix_seq (pv 0) pe_int (fun _ _ => rfl)) (pv 11) (fun _ _ => rfl)) pe_int (fun _ _ => rfl)) pe_str (nomark _))))) (pss_cons (ps_set (i := 12) sc__law_spans.nd rfl (Or.inl rfl) (pe_op op_addG (pv 5) (pv 10)))
      (pss_cons (ps_set (i := 5) sc__law_spans.nd rfl (Or.inl rfl) (pe_op op_addG (pv 5) (pe_ix ix_seq (pe_ix ix_seq (pe_ix ix_seq (pv 0) pe_int (fun _ _ => rfl)) (pv 11) (fun _ _ => rfl)) pe_int (fun _ _ => rfl))))
      (pss_cons (ps_if (pt_cmpR op_gt (pv 6) pe_int (nomark _)) (pss_cons (ps_set (i := 9) sc__law_spans.nd rfl (Or.inl rfl) (pe_op op_addG (pv 9) (pe_ix ix_seq (pe_ix ix_seq (pe_ix ix_seq (pv 0) pe_int (fun _ _ => rfl)) (pv 11) (fun _ _ => rfl)) pe_int (fun _ _ => rfl))))
      (pss_one (ps_set (i := 10) sc__law_spans.nd rfl (Or.inl rfl) (pe_op op_fdivW (pe_op op_mulG (pv 6) (pv 9)) (pe_ix ix_seq (pv 4) pe_int (fun _ _ => rfl)))))) pss_nil)
      (pss_cons (ps_if (pt_cmpR (op_ltG hr.units0) (pv 6) pe_int (nomark _)) (pss_cons (ps_set (i := 9) sc__law_spans.nd rfl (Or.inl rfl) (pe_op op_addG (pv 9) (pe_ix ix_seq (pe_ix ix_seq (pe_ix ix_seq (pv 0) pe_int (fun _ _ => rfl)) (pv 11) (fun _ _ => rfl)) pe_int (fun _ _ => rfl))))
      (pss_one (ps_set (i := 10) sc__law_spans.nd rfl (Or.inl rfl) (pe_un un_neg (pe_op op_fdivW (pe_op op_mulG (pe_un un_neg (pv 6)) (pv 9)) (pe_ix ix_seq (pv 4) pe_int (fun _ _ => rfl))))))) pss_nil)
      (pss_one (ps_expr (pe_bm PySem.F.plainAttrs_list PySem.F.slot_list_append PySem.F.type_list_append mt_append (pv 8) (pa_cons (pe_tup (pa_cons (pv 12) (pa_cons (pe_op op_addG (pv 5) (pv 10)) pa_nil))) pa_nil)))))))) pss_nil))))))
      (pss_one (ps_ret (pe_lst (pa_cons (pv 7) (pa_cons (pv 8) pa_nil))))))))))))))
theorem tm__law_overlap (T : Txt K mg) (cdv : Value) (A : Around) (outer : List PySem.Env) (s : Shared) (H : Hp) (E : XK) (hr : Room 0 (A.deeper (PyProof.Rows.envOfC "_law_overlap" (defScope s__law_overlap) s.heap.objs.size T.f__law_overlap cdv))) :
    PSs (cxOf CX0 P w K mg base ["_law_one", "_law_two"] "_law_overlap" (defScope s__law_overlap) T.f__law_overlap cdv A outer s H E).nox (defBody s__law_overlap) (t__law_overlap K) := 
      (pss_one (ps_ret (pe_cmpR (op_ltG hr.units0) (pe_callB (call_max2 rfl) (by rfl) T.m_max bi_max (pa_cons (pe_callTy call_int1 (by rfl) T.m_int bi_int (pa_cons (pe_ix ix_seq (pv 0) pe_int (fun _ _ => rfl)) pa_nil)) (pa_cons (pe_callTy call_int1 (by rfl) T.m_int bi_int (pa_cons (pe_ix ix_seq (pv 1) pe_int (fun _ _ => rfl)) pa_nil)) pa_nil))) (pe_callB (call_min2 rfl) (by rfl) T.m_min bi_min (pa_cons (pe_callTy call_int1 (by rfl) T.m_int bi_int (pa_cons (pe_ix ix_seq (pv 0) pe_int (fun _ _ => rfl)) pa_nil)) (pa_cons (pe_callTy call_int1 (by rfl) T.m_int bi_int (pa_cons (pe_ix ix_seq (pv 1) pe_int (fun _ _ => rfl)) pa_nil)) pa_nil))) (nomark _))))
theorem tm__law_meet {ap__law_overlap : AP} (T : Txt K mg) (G__law_overlap : FnOk P w K mg base CX0 1 T.f__law_overlap T.fd__law_overlap ["_law_one", "_law_two"] (toSp K ap__law_overlap)) (cdv : Value) (A : Around) (outer : List PySem.Env) (s : Shared) (H : Hp) (E : XK) (hr : Room 1 (A.deeper (PyProof.Rows.envOfC "_law_meet" (defScope s__law_meet) s.heap.objs.size T.f__law_meet cdv))) :
    PSs (cxOf CX0 P w K mg base ["_law_upper", "_law_lower", "_law_count", "_law_low", "_law_over", "_law_up"] "_law_meet" (defScope s__law_meet) T.f__law_meet cdv A outer s H E).nox (defBody s__law_meet) (t__law_meet K ap__law_overlap) := 
      (pss_cons (ps_set (i := 2) sc__law_meet.nd rfl (Or.inl rfl) pe_int)
      (pss_cons (ps_for PassesOwn.never rfl (pi_list (pv 1)) (pg_name (i := 3) sc__law_meet.nd rfl (Or.inr rfl)) (pss_cons (ps_setLc (i := 4) (own := [("_law_up", 5)]) (g := (gName 5)) (tt := (tB (tCall (toSp K ap__law_overlap) [] E0 (tCons (tVar 5) (tCons (tVar 3) tNil))))) (by rfl) sc__law_meet.nd rfl rfl (sw_true rfl rfl rfl (by decide +kernel)) (pi_list (pv 0)) (blkOk_by (own := [("_law_up", 5)]) (N := ["_law_upper", "_law_lower", "_law_count", "_law_low", "_law_over", "_law_up"]) (sc := defScope s__law_meet) (by decide +kernel)) (fun _ _ _ _ _ => (pg_name (i := 5) sc__law_meet.nd rfl (Or.inl rfl))) (fun _ _ _ _ _ => (pts_one (pt_val (pe_call G__law_overlap (hr.mono (by decide)) (by rfl) T.g__law_overlap T.F__law_overlap.kp T.b__law_overlap .nil pass0 (pa_cons (pv 5) (pa_cons (pv 3) pa_nil)))))) (fun _ _ _ _ _ => (pv 5)))
      (pss_one (ps_if (pt_cmpR op_gt (pe_callB call_len (by rfl) T.m_len bi_len (pa_cons (pv 4) pa_nil)) pe_int (nomark _)) (pss_one (ps_set (i := 2) sc__law_meet.nd rfl (Or.inl rfl) (pe_op op_addG (pv 2) pe_int))) pss_nil))))
      (pss_one (ps_ret (pv 2)))))
theorem tm__law_three {ap__law_take : AP} (T : Txt K mg) (G__law_take : FnOk P w K mg base CX0 1 T.f__law_take T.fd__law_take ["_law_pool_here", "_law_many"] (toSp K ap__law_take)) (cdv : Value) (A : Around) (outer : List PySem.Env) (s : Shared) (H : Hp) (E : XK) (hr : Room 1 (A.deeper (PyProof.Rows.envOfC "_law_three" (defScope s__law_three) s.heap.objs.size T.f__law_three cdv))) :
    PSs (cxOf CX0 P w K mg base ["_law_pool_here", "_law_row", "_law_many", "_law_hyphens", "_law_at", "_law_after", "_law_start", "_law_middle", "_law_k"] "_law_three" (defScope s__law_three) T.f__law_three cdv A outer s H E).nox (defBody s__law_three) (t__law_three K ap__law_take) := 
      (pss_cons (ps_set (i := 2) sc__law_three.nd rfl (Or.inl rfl) (pe_callB call_len (by rfl) T.m_len bi_len (pa_cons (pe_ix ix_seq (pv 1) pe_int (fun _ _ => rfl)) pa_nil)))
      (pss_cons (ps_setLc (i := 3) (own := [("_law_k", 8)]) (g := (gName 8)) (tt := (tTest (tOp (rEqG K) (tOp (rIx K) (tOp (rIx K) (tOp (rIx K) (tVar 1) (tC (.int 1))) (tVar 8)) (tC (.int 0))) (tC (.str "hyphen"))))) (by rfl) sc__law_three.nd rfl rfl (sw_true rfl rfl rfl (by decide +kernel)) (pi_range1 (by rfl) T.m_range (pa_cons (pe_op op_sub (pv 2) pe_int) pa_nil)) (blkOk_by (own := [("_law_k", 8)]) (N := ["_law_pool_here", "_law_row", "_law_many", "_law_hyphens", "_law_at", "_law_after", "_law_start", "_law_middle", "_law_k"]) (sc := defScope s__law_three) (by decide +kernel)) (fun _ _ _ _ _ => (pg_name (i := 8) sc__law_three.nd rfl (Or.inl rfl))) (fun _ _ _ _ _ => (pts_one (pt_cmpR (op_eqG hr.units) (pe_ix ix_seq (pe_ix ix_seq (pe_ix ix_seq (pv 1) pe_int (fun _ _ => rfl)) (pv 8) (fun _ _ => rfl)) pe_int (fun _ _ => rfl)) pe_str (nomark _)))) (fun _ _ _ _ _ => (pe_op op_addG (pv 8) pe_int)))
      (pss_cons (ps_if (PW.pt (pw_and (pt_cmpR (op_eqG hr.units) (pe_call G__law_take (hr.mono (by decide)) (by rfl) T.g__law_take T.F__law_take.kp T.b__law_take .nil pass0 (pa_cons (pv 0) (pa_cons pe_int pa_nil))) pe_int (nomark _)) (pw_and1 (pt_cmpR op_gt (pe_callB call_len (by rfl) T.m_len bi_len (pa_cons (pv 3) pa_nil)) pe_int (nomark _))))) (pss_cons (ps_set (i := 4) sc__law_three.nd rfl (Or.inl rfl) (pe_call G__law_take (hr.mono (by decide)) (by rfl) T.g__law_take T.F__law_take.kp T.b__law_take .nil pass0 (pa_cons (pv 0) (pa_cons (pe_op op_sub (pe_callB call_len (by rfl) T.m_len bi_len (pa_cons (pv 3) pa_nil)) pe_int) pa_nil))))
      (pss_cons (ps_set (i := 5) sc__law_three.nd rfl (Or.inl rfl) (pe_op op_addG (pe_op op_addG (pv 4) pe_int) (pe_call G__law_take (hr.mono (by decide)) (by rfl) T.g__law_take T.F__law_take.kp T.b__law_take .nil pass0 (pa_cons (pv 0) (pa_cons (pe_op op_sub (pe_op op_sub (pe_callB call_len (by rfl) T.m_len bi_len (pa_cons (pv 3) pa_nil)) pe_int) (pv 4)) pa_nil)))))
      (pss_one (ps_ret (pe_lst (pa_cons (pe_call G__law_take (hr.mono (by decide)) (by rfl) T.g__law_take T.F__law_take.kp T.b__law_take .nil pass0 (pa_cons (pv 0) (pa_cons (pe_ix ix_seq (pv 3) (pv 4) (fun _ _ => rfl)) pa_nil))) (pa_cons (pe_ix ix_seq (pv 3) (pv 4) (fun _ _ => rfl)) (pa_cons (pe_ix ix_seq (pv 3) (pv 5) (fun _ _ => rfl)) pa_nil)))))))) pss_nil)
      (pss_cons (ps_set (i := 6) sc__law_three.nd rfl (Or.inl rfl) (pe_call G__law_take (hr.mono (by decide)) (by rfl) T.g__law_take T.F__law_take.kp T.b__law_take .nil pass0 (pa_cons (pv 0) (pa_cons (pe_op op_sub (pv 2) pe_int) pa_nil))))
      (pss_cons (ps_set (i := 7) sc__law_three.nd rfl (Or.inl rfl) (pe_op op_addG (pe_op op_addG (pv 6) pe_int) (pe_call G__law_take (hr.mono (by decide)) (by rfl) T.g__law_take T.F__law_take.kp T.b__law_take .nil pass0 (pa_cons (pv 0) (pa_cons (pe_op op_sub (pe_op op_sub (pv 2) pe_int) (pv 6)) pa_nil)))))
      (pss_one (ps_ret (pe_lst (pa_cons (pv 6) (pa_cons (pv 7) (pa_cons (pe_op op_addG (pe_op op_addG (pv 7) pe_int) (pe_call G__law_take (hr.mono (by decide)) (by rfl) T.g__law_take T.F__law_take.kp T.b__law_take .nil pass0 (pa_cons (pv 0) (pa_cons (pe_op op_sub (pv 2) (pv 7)) pa_nil)))) pa_nil)))))))))))
theorem tm__law_shared {ap__law_glue : AP} {ap__law_take : AP} (T : Txt K mg) (G__law_glue : FnOk P w K mg base CX0 1 T.f__law_glue T.fd__law_glue ["_law_row", "_law_start", "_law_end"] (toSp K ap__law_glue)) (G__law_take : FnOk P w K mg base CX0 1 T.f__law_take T.fd__law_take ["_law_pool_here", "_law_many"] (toSp K ap__law_take)) (cdv : Value) (A : Around) (outer : List PySem.Env) (s : Shared) (H : Hp) (E : XK) (hr : Room 1 (A.deeper (PyProof.Rows.envOfC "_law_shared" (defScope s__law_shared) s.heap.objs.size T.f__law_shared cdv))) :
    PSs (cxOf CX0 P w K mg base ["_law_pool_here", "_law_row", "_law_three_here", "_law_key", "_law_upper", "_law_lower", "_law_begin", "_law_least", "_law_reach", "_law_wide", "_law_more"] "_law_shared" (defScope s__law_shared) T.f__law_shared cdv A outer s H E).nox (defBody s__law_shared) (t__law_shared K ap__law_glue ap__law_take) := 
      (pss_cons (ps_set (i := 4) sc__law_shared.nd rfl (Or.inl rfl) (pe_call G__law_glue (hr.mono (by decide)) (by rfl) T.g__law_glue T.F__law_glue.kp T.b__law_glue .nil pass0 (pa_cons (pv 1) (pa_cons (pe_ix ix_seq (pv 2) pe_int (fun _ _ => rfl)) (pa_cons (pe_ix ix_seq (pv 2) pe_int (fun _ _ => rfl)) pa_nil)))))
      (pss_cons (ps_set (i := 5) sc__law_shared.nd rfl (Or.inl rfl) (pe_call G__law_glue (hr.mono (by decide)) (by rfl) T.g__law_glue T.F__law_glue.kp T.b__law_glue .nil pass0 (pa_cons (pv 1) (pa_cons (pe_ix ix_seq (pv 2) pe_int (fun _ _ => rfl)) (pa_cons (pe_ix ix_seq (pv 2) pe_int (fun _ _ => rfl)) pa_nil)))))
      (pss_cons (ps_set (i := 6) sc__law_shared.nd rfl (Or.inl rfl) (pe_op op_mulG (pe_ix ix_seq (pv 3) pe_int (fun _ _ => rfl)) (pe_callTy call_int1 (by rfl) T.m_int bi_int (pa_cons (pe_cmpR (op_eqG hr.units) (pe_ix ix_seq (pv 2) pe_int (fun _ _ => rfl)) pe_int (nomark _)) pa_nil))))
      (pss_cons (ps_set (i := 7) sc__law_shared.nd rfl (Or.inl rfl) (pe_callB (call_max2 rfl) (by rfl) T.m_max bi_max (pa_cons (pe_callTy call_int1 (by rfl) T.m_int bi_int (pa_cons (pe_op op_addG (pe_op op_sub (pe_ix ix_seq (pv 4) pe_int (fun _ _ => rfl)) (pe_ix ix_seq (pv 4) pe_int (fun _ _ => rfl))) (pv 6)) pa_nil)) (pa_cons (pe_callTy call_int1 (by rfl) T.m_int bi_int (pa_cons (pe_op op_sub (pe_ix ix_seq (pv 5) pe_int (fun _ _ => rfl)) (pe_ix ix_seq (pv 5) pe_int (fun _ _ => rfl))) pa_nil)) pa_nil))))
      (pss_cons (ps_set (i := 8) sc__law_shared.nd rfl (Or.inl rfl) (pe_op op_addG (pe_op op_addG (pe_ix ix_seq (pv 4) pe_int (fun _ _ => rfl)) (pe_op op_mulG (pe_ix ix_seq (pv 3) pe_int (fun _ _ => rfl)) (pe_ix ix_seq (pv 4) pe_int (fun _ _ => rfl)))) (pv 6)))
      (pss_cons (ps_if (pt_cmpR (op_ltG hr.units0) (pe_ix ix_seq (pv 2) pe_int (fun _ _ => rfl)) (pe_callB call_len (by rfl) T.m_len bi_len (pa_cons (pe_ix ix_seq (pv 1) pe_int (fun _ _ => rfl)) pa_nil)) (nomark _)) (pss_one (ps_set (i := 8) sc__law_shared.nd rfl (Or.inl rfl) (pe_callB (call_min2 rfl) (by rfl) T.m_min bi_min (pa_cons (pe_callTy call_int1 (by rfl) T.m_int bi_int (pa_cons (pv 8) pa_nil)) (pa_cons (pe_callTy call_int1 (by rfl) T.m_int bi_int (pa_cons (pe_op op_addG (pe_ix ix_seq (pv 5) pe_int (fun _ _ => rfl)) (pe_op op_mulG (pe_ix ix_seq (pv 3) pe_int (fun _ _ => rfl)) (pe_ix ix_seq (pv 5) pe_int (fun _ _ => rfl)))) pa_nil)) pa_nil))))) pss_nil)
      (pss_cons (ps_if (PW.pt (pw_and (pt_cmpR (op_eqG hr.units) (pe_ix ix_seq (pv 3) pe_int (fun _ _ => rfl)) pe_str (nomark _)) (pw_and1 (pt_cmpR op_le (pv 7) (pv 8) (nomark _))))) (pss_cons (ps_set (i := 9) sc__law_shared.nd rfl (Or.inl rfl) (pe_op op_addG (pv 7) (pe_call G__law_take (hr.mono (by decide)) (by rfl) T.g__law_take T.F__law_take.kp T.b__law_take .nil pass0 (pa_cons (pv 0) (pa_cons (pe_op op_sub (pe_op op_addG (pv 8) pe_int) (pv 7)) pa_nil)))))
      (pss_one (ps_ret (pe_op op_addG (pe_tup (pa_cons (pe_callB (call_min2 rfl) (by rfl) T.m_min bi_min (pa_cons pe_int (pa_cons (pv 9) pa_nil))) pa_nil)) (pe_slice sl_G (pv 3) (po_some pe_int) po_none))))) pss_nil)
      (pss_cons (ps_set (i := 7) sc__law_shared.nd rfl (Or.inl rfl) (pe_callB (call_max2 rfl) (by rfl) T.m_max bi_max (pa_cons (pe_callTy call_int1 (by rfl) T.m_int bi_int (pa_cons (pe_op op_addG (pe_ix ix_seq (pv 4) pe_int (fun _ _ => rfl)) (pv 6)) pa_nil)) (pa_cons (pe_callTy call_int1 (by rfl) T.m_int bi_int (pa_cons (pe_ix ix_seq (pv 5) pe_int (fun _ _ => rfl)) pa_nil)) pa_nil))))
      (pss_cons (ps_set (i := 10) sc__law_shared.nd rfl (Or.inl rfl) (pe_ix ix_seq (pe_lst (pa_cons pe_int (pa_cons pe_int pa_nil))) (pe_callTy call_int1 (by rfl) T.m_int bi_int (pa_cons (pe_cmpR (op_eqG hr.units) (pe_call G__law_take (hr.mono (by decide)) (by rfl) T.g__law_take T.F__law_take.kp T.b__law_take .nil pass0 (pa_cons (pv 0) (pa_cons pe_int pa_nil))) pe_int (nomark _)) pa_nil)) (fun _ _ => rfl)))
      (pss_cons (ps_set (i := 9) sc__law_shared.nd rfl (Or.inl rfl) (pe_op op_addG (pv 7) (pe_call G__law_take (hr.mono (by decide)) (by rfl) T.g__law_take T.F__law_take.kp T.b__law_take .nil pass0 (pa_cons (pv 0) (pa_cons (pv 10) pa_nil)))))
      (pss_one (ps_ret (pe_op op_addG (pe_tup (pa_cons (pe_callB (call_min2 rfl) (by rfl) T.m_min bi_min (pa_cons pe_int (pa_cons (pv 9) pa_nil))) (pa_cons (pe_ix ix_seq (pv 3) pe_int (fun _ _ => rfl)) (pa_cons pe_str pa_nil)))) (pe_slice sl_G (pv 3) (po_some pe_int) po_none))))))))))))))
theorem tm__law_twin (T : Txt K mg) (cdv : Value) (A : Around) (outer : List PySem.Env) (s : Shared) (H : Hp) (E : XK) (hr : Room 0 (A.deeper (PyProof.Rows.envOfC "_law_twin" (defScope s__law_twin) s.heap.objs.size T.f__law_twin cdv))) :
    PSs (cxOf CX0 P w K mg base ["_law_row", "_law_three_here", "_law_key"] "_law_twin" (defScope s__law_twin) T.f__law_twin cdv A outer s H E).nox (defBody s__law_twin) (t__law_twin K) := 
      (pss_cons (ps_if (PW.pt (pw_or (pt_cmpR (op_eqG hr.units) (pe_ix ix_seq (pv 1) pe_int (fun _ _ => rfl)) (pe_callB call_len (by rfl) T.m_len bi_len (pa_cons (pe_ix ix_seq (pv 0) pe_int (fun _ _ => rfl)) pa_nil)) (nomark _)) (pw_or1 (pt_cmpR (op_neG hr.units) (pe_ix ix_seq (pe_ix ix_seq (pe_ix ix_seq (pv 0) pe_int (fun _ _ => rfl)) (pe_op op_sub (pe_ix ix_seq (pv 1) pe_int (fun _ _ => rfl)) pe_int) (fun _ _ => rfl)) pe_int (fun _ _ => rfl)) pe_str (nomark _))))) (pss_one (ps_ret pe_int)) pss_nil)
      (pss_one (ps_ret (pe_op op_mulG (pe_ix ix_seq (pv 2) pe_int (fun _ _ => rfl)) (pe_callTy call_int1 (by rfl) T.m_int bi_int (pa_cons (pe_cmpR (op_eqG hr.units) (pe_ix ix_seq (pe_ix ix_seq (pe_ix ix_seq (pv 0) pe_int (fun _ _ => rfl)) (pe_op op_sub (pe_ix ix_seq (pv 1) pe_int (fun _ _ => rfl)) pe_int) (fun _ _ => rfl)) pe_int (fun _ _ => rfl)) pe_str (nomark _)) pa_nil))))))
theorem tm_law {ap__law_bare : AP} {ap__law_pool : AP} {ap__law_line_key : AP} {ap__law_three : AP} {ap__law_shared : AP} {ap__law_possible : AP} {ap__law_spans : AP} {ap__law_meet : AP} {ap_Measure_of : AP} {ap_pair_price : AP} {ap__law_is_integer : AP} {ap__law_twin : AP} (T : Txt K mg) (G__law_bare : FnOk P w K mg base CX0 3 T.f__law_bare T.fd__law_bare ["_law_pool_here", "_law_least", "_law_often"] (toSp K ap__law_bare)) (G__law_pool : FnOk P w K mg base CX0 1 T.f__law_pool T.fd__law_pool ["_law_script", "_law_at"] (toSp K ap__law_pool)) (G__law_line_key : FnOk P w K mg base CX0 2 T.f__law_line_key T.fd__law_line_key ["_law_pool_here", "_law_row"] (toSp K ap__law_line_key)) (G__law_three : FnOk P w K mg base CX0 2 T.f__law_three T.fd__law_three ["_law_pool_here", "_law_row"] (toSp K ap__law_three)) (G__law_shared : FnOk P w K mg base CX0 2 T.f__law_shared T.fd__law_shared ["_law_pool_here", "_law_row", "_law_three_here", "_law_key"] (toSp K ap__law_shared)) (G__law_possible : FnOk P w K mg base CX0 2 T.f__law_possible T.fd__law_possible ["_law_row", "_law_start", "_law_end", "_law_key"] (toSp K ap__law_possible)) (G__law_spans : FnOk P w K mg base CX0 2 T.f__law_spans T.fd__law_spans ["_law_row", "_law_start", "_law_end", "_law_key"] (toSp K ap__law_spans)) (G__law_meet : FnOk P w K mg base CX0 2 T.f__law_meet T.fd__law_meet ["_law_upper", "_law_lower"] (toSp K ap__law_meet)) (G_Measure_of : FnOk P w K mg base CX0 3 T.f_Measure_of T.fd_Measure_of ["key"] (toSp K ap_Measure_of)) (G_pair_price : FnOk P w K mg base CX0 8 T.f_pair_price T.fd_pair_price ["row", "start", "middle", "end", "measure"] (toSp K ap_pair_price)) (G__law_is_integer : FnOk P w K mg base CX0 1 T.f__law_is_integer T.fd__law_is_integer ["_law_actual"] (toSp K ap__law_is_integer)) (G__law_twin : FnOk P w K mg base CX0 1 T.f__law_twin T.fd__law_twin ["_law_row", "_law_three_here", "_law_key"] (toSp K ap__law_twin)) (cdv : Value) (A : Around) (outer : List PySem.Env) (s : Shared) (H : Hp) (E : XK) (hr : Room 8 (A.deeper (PyProof.Rows.envOfC "law" (defScope s_law) s.heap.objs.size T.f_law cdv))) :
    PSs (cxOf CX0 P w K mg base ["_law_script", "_law_row", "_law_key", "_law_pool_here", "_law_three_here", "_law_upper", "_law_lower", "_law_count", "_law_stream", "_law_measure", "_law_price"] "law" (defScope s_law) T.f_law cdv A outer s H E).nox (defBody s_law) (t_law K T.c_Measure ap__law_bare ap__law_pool ap__law_line_key ap__law_three ap__law_shared ap__law_possible ap__law_spans ap__law_meet ap_Measure_of ap_pair_price ap__law_is_integer ap__law_twin) := 
      (pss_cons (ps_set (i := 1) sc_law.nd rfl (Or.inl rfl) (pe_call G__law_bare (hr.mono (by decide)) (by rfl) T.g__law_bare T.F__law_bare.kp T.b__law_bare .nil pass0 (pa_cons (pe_call G__law_pool (hr.mono (by decide)) (by rfl) T.g__law_pool T.F__law_pool.kp T.b__law_pool .nil pass0 (pa_cons (pv 0) (pa_cons pe_int pa_nil))) (pa_cons pe_int (pa_cons pe_int pa_nil)))))
      (pss_cons (ps_set (i := 2) sc_law.nd rfl (Or.inl rfl) (pe_call G__law_line_key (hr.mono (by decide)) (by rfl) T.g__law_line_key T.F__law_line_key.kp T.b__law_line_key .nil pass0 (pa_cons (pe_call G__law_pool (hr.mono (by decide)) (by rfl) T.g__law_pool T.F__law_pool.kp T.b__law_pool .nil pass0 (pa_cons (pv 0) (pa_cons pe_int pa_nil))) (pa_cons (pv 1) pa_nil))))
      (pss_cons (ps_set (i := 3) sc_law.nd rfl (Or.inl rfl) (pe_call G__law_pool (hr.mono (by decide)) (by rfl) T.g__law_pool T.F__law_pool.kp T.b__law_pool .nil pass0 (pa_cons (pv 0) (pa_cons pe_int pa_nil))))
      (pss_cons (ps_set (i := 4) sc_law.nd rfl (Or.inl rfl) (pe_call G__law_three (hr.mono (by decide)) (by rfl) T.g__law_three T.F__law_three.kp T.b__law_three .nil pass0 (pa_cons (pv 3) (pa_cons (pv 1) pa_nil))))
      (pss_cons (ps_set (i := 2) sc_law.nd rfl (Or.inl rfl) (pe_call G__law_shared (hr.mono (by decide)) (by rfl) T.g__law_shared T.F__law_shared.kp T.b__law_shared .nil pass0 (pa_cons (pv 3) (pa_cons (pv 1) (pa_cons (pv 4) (pa_cons (pv 2) pa_nil))))))
      (pss_cons (ps_if (pt_not (pt_val (pe_call G__law_possible (hr.mono (by decide)) (by rfl) T.g__law_possible T.F__law_possible.kp T.b__law_possible .nil pass0 (pa_cons (pv 1) (pa_cons (pe_ix ix_seq (pv 4) pe_int (fun _ _ => rfl)) (pa_cons (pe_ix ix_seq (pv 4) pe_int (fun _ _ => rfl)) (pa_cons (pv 2) pa_nil))))))) (pss_one (ps_ret pe_bl)) pss_nil)
      (pss_cons (ps_if (pt_not (pt_val (pe_call G__law_possible (hr.mono (by decide)) (by rfl) T.g__law_possible T.F__law_possible.kp T.b__law_possible .nil pass0 (pa_cons (pv 1) (pa_cons (pe_ix ix_seq (pv 4) pe_int (fun _ _ => rfl)) (pa_cons (pe_ix ix_seq (pv 4) pe_int (fun _ _ => rfl)) (pa_cons (pv 2) pa_nil))))))) (pss_one (ps_ret pe_bl)) pss_nil)
      (pss_cons (ps_set (i := 5) sc_law.nd rfl (Or.inl rfl) (pe_ix ix_seq (pe_call G__law_spans (hr.mono (by decide)) (by rfl) T.g__law_spans T.F__law_spans.kp T.b__law_spans .nil pass0 (pa_cons (pv 1) (pa_cons (pe_ix ix_seq (pv 4) pe_int (fun _ _ => rfl)) (pa_cons (pe_ix ix_seq (pv 4) pe_int (fun _ _ => rfl)) (pa_cons (pv 2) pa_nil))))) pe_int (fun _ _ => rfl)))
      (pss_cons (ps_set (i := 6) sc_law.nd rfl (Or.inl rfl) (pe_ix ix_seq (pe_call G__law_spans (hr.mono (by decide)) (by rfl) T.g__law_spans T.F__law_spans.kp T.b__law_spans .nil pass0 (pa_cons (pv 1) (pa_cons (pe_ix ix_seq (pv 4) pe_int (fun _ _ => rfl)) (pa_cons (pe_ix ix_seq (pv 4) pe_int (fun _ _ => rfl)) (pa_cons (pv 2) pa_nil))))) pe_int (fun _ _ => rfl)))
      (pss_cons (ps_set (i := 7) sc_law.nd rfl (Or.inl rfl) (pe_call G__law_meet (hr.mono (by decide)) (by rfl) T.g__law_meet T.F__law_meet.kp T.b__law_meet .nil pass0 (pa_cons (pv 5) (pa_cons (pv 6) pa_nil))))
      (pss_cons (ps_for PassesOwn.never rfl (pi_list (pe_lst (pa_cons (pe_ix ix_seq (pv 2) pe_int (fun _ _ => rfl)) (pa_cons pe_int (pa_cons pe_int (pa_cons pe_int (pa_cons pe_int (pa_cons pe_int (pa_cons pe_int (pa_cons pe_int (pa_cons pe_int (pa_cons pe_int (pa_cons pe_int (pa_cons (pe_ix ix_seq (pv 2) pe_int (fun _ _ => rfl)) pa_nil)))))))))))))) (pg_name (i := 8) sc_law.nd rfl (Or.inl rfl)) (pss_cons (ps_set (i := 9) sc_law.nd rfl (Or.inl rfl) (pe_smeth (pe_glob (v := .ref T.c_Measure) (by rfl) T.g_Measure rfl) T.sm_Measure_of G_Measure_of (hr.mono (by decide)) T.F_Measure_of.kp T.b_Measure_of pass0 (pa_cons (pe_op op_addG (pe_slice sl_G (pv 2) po_none (po_some pe_int)) (pe_tup (pa_cons (pv 8) (pa_cons (pe_ix ix_seq (pv 2) pe_int (fun _ _ => rfl)) pa_nil)))) pa_nil)))
      (pss_cons (ps_set (i := 10) sc_law.nd rfl (Or.inl rfl) (pe_call G_pair_price (hr.mono (by decide)) (by rfl) T.g_pair_price T.F_pair_price.kp T.b_pair_price .nil pass0 (pa_cons (pv 1) (pa_cons (pe_ix ix_seq (pv 4) pe_int (fun _ _ => rfl)) (pa_cons (pe_ix ix_seq (pv 4) pe_int (fun _ _ => rfl)) (pa_cons (pe_ix ix_seq (pv 4) pe_int (fun _ _ => rfl)) (pa_cons (pv 9) pa_nil)))))))
      (pss_one (ps_if (PW.pt (pw_and (pt_cmpR op_gt (pv 8) pe_int (nomark _)) (pw_and1 (pt_cmpR op_ge (pv 7) (pv 8) (nomark _))))) (pss_one (ps_if (pt_cmp (pc_notN (pv 10))) (pss_one (ps_ret pe_bl)) pss_nil)) (pss_one (ps_if (PW.pt (pw_or (pt_not (pt_val (pe_call G__law_is_integer (hr.mono (by decide)) (by rfl) T.g__law_is_integer T.F__law_is_integer.kp T.b__law_is_integer .nil pass0 (pa_cons (pv 10) pa_nil)))) (pw_or1 (pt_cmpR (op_neG hr.units) (pv 10) (pe_call G__law_twin (hr.mono (by decide)) (by rfl) T.g__law_twin T.F__law_twin.kp T.b__law_twin .nil pass0 (pa_cons (pv 1) (pa_cons (pv 4) (pa_cons (pv 2) pa_nil)))) (nomark _))))) (pss_one (ps_ret pe_bl)) pss_nil)))))))
      (pss_one (ps_ret pe_bl)))))))))))))
end
theorem txt_mk {K : PySem.W.Frag} {h : Heap} {mg : Str → Option Value} (X : K.In h) (G : h.Ns mainGlobals mg)
    {c_Glue : Addr} (aGlue : PySem.W.nsIn K mainGlobals "Glue" = some (some (.ref c_Glue)))
    (pgGlue : PySem.W.plainGet K c_Glue Str.empty = true) (hdGlue : PySem.W.hasDictIn K c_Glue = true) (poGlue : PySem.W.plainOver K c_Glue = true) (saGlue : PySem.W.findIn K (.ref c_Glue) "__setattr__" = some (some (.builtin "object.__setattr__"))) (mkGlue : PySem.W.makesIn K c_Glue = true) (kcGlue : PySem.W.keepIn K (.ref c_Glue) = true)
    (haGlue : PySem.W.findIn K (.ref c_Glue) "__class__" = some (some (.builtin "object.__class__"))) (hmGlue : PySem.W.mroIn K c_Glue (.type "object") = some true)
    (sfGlue : PySem.W.selfFirst K c_Glue = true)
    (naGlue_width : PySem.W.findIn K (.ref c_Glue) "width" = some none)
    (naGlue_stretch : PySem.W.findIn K (.ref c_Glue) "stretch" = some none)
    (naGlue_shrink : PySem.W.findIn K (.ref c_Glue) "shrink" = some none)
    {c_Measure : Addr} (aMeasure : PySem.W.nsIn K mainGlobals "Measure" = some (some (.ref c_Measure)))
    (pgMeasure : PySem.W.plainGet K c_Measure Str.empty = true) (hdMeasure : PySem.W.hasDictIn K c_Measure = true) (poMeasure : PySem.W.plainOver K c_Measure = true) (saMeasure : PySem.W.findIn K (.ref c_Measure) "__setattr__" = some (some (.builtin "object.__setattr__"))) (mkMeasure : PySem.W.makesIn K c_Measure = true) (kcMeasure : PySem.W.keepIn K (.ref c_Measure) = true)
    (haMeasure : PySem.W.findIn K (.ref c_Measure) "__class__" = some (some (.builtin "object.__class__"))) (hmMeasure : PySem.W.mroIn K c_Measure (.type "object") = some true)
    (rdMeasure : PySem.W.readsIn K c_Measure (.type "type") = true) (gaMeasure : PySem.W.specialIn K (.ref c_Measure) "__getattribute__" = some (some (.builtin "type.__getattribute__")))
    (naMeasure_width : PySem.W.findIn K (.ref c_Measure) "width" = some none)
    (naMeasure_indent : PySem.W.findIn K (.ref c_Measure) "indent" = some none)
    (naMeasure_align : PySem.W.findIn K (.ref c_Measure) "align" = some none)
    (naMeasure_hyphen : PySem.W.findIn K (.ref c_Measure) "hyphen" = some none)
    (naMeasure_twin : PySem.W.findIn K (.ref c_Measure) "twin" = some none)
    (naMeasure_river : PySem.W.findIn K (.ref c_Measure) "river" = some none)
    (naMeasure_loose : PySem.W.findIn K (.ref c_Measure) "loose" = some none)
    (hnO : PySem.W.specialIn K (.builtin "object.__class__") "__get__" = some (some (.builtin "getset_descriptor.__get__"))) (htO : PySem.W.takesIn K (.builtin "object.__class__") = some true)
    {f0 : Addr} {od0 an0 : Option Addr} {sl0 : Array (Option Value)} {oc0 kV0 dc0 pm0 cd0 ct0 : Value}
    (a0 : PySem.W.findIn K (.ref c_Glue) "__init__" = some (some (.ref f0))) (l0 : K.lookup f0 = some ⟨oc0, od0, .func (PySem.W.fnOf "__init__" "Glue.__init__" (defArgs s_Glue___init__) (defBody s_Glue___init__) (defScope s_Glue___init__) .none kV0 dc0 pm0 an0 cd0 ct0), sl0⟩) (c0 : PySem.W.codeIn K cd0 "Glue.__init__" = true) (k0 : PySem.W.keepIn K (.ref f0) = true)
    (i0 : PySem.W.isFn K (.ref f0) = true)
    {f1 : Addr} {od1 an1 : Option Addr} {sl1 : Array (Option Value)} {oc1 kV1 dc1 pm1 cd1 ct1 : Value}
    (a1 : PySem.W.findIn K (.ref c_Glue) "__add__" = some (some (.ref f1))) (l1 : K.lookup f1 = some ⟨oc1, od1, .func (PySem.W.fnOf "__add__" "Glue.__add__" (defArgs s_Glue___add__) (defBody s_Glue___add__) (defScope s_Glue___add__) .none kV1 dc1 pm1 an1 cd1 ct1), sl1⟩) (c1 : PySem.W.codeIn K cd1 "Glue.__add__" = true) (k1 : PySem.W.keepIn K (.ref f1) = true)
    (i1 : PySem.W.isFn K (.ref f1) = true)
    (o1 : PySem.W.findIn K (.ref c_Glue) (PySem.dunder (PySem.Operator.Add).info.2) = some (some (.ref f1)))
    {f2 : Addr} {od2 an2 : Option Addr} {sl2 : Array (Option Value)} {oc2 kV2 dc2 pm2 cd2 ct2 : Value}
    (a2 : PySem.W.nsIn K mainGlobals "ends_at_hyphen" = some (some (.ref f2))) (l2 : K.lookup f2 = some ⟨oc2, od2, .func (PySem.W.fnOf "ends_at_hyphen" "ends_at_hyphen" (defArgs s_ends_at_hyphen) (defBody s_ends_at_hyphen) (defScope s_ends_at_hyphen) .none kV2 dc2 pm2 an2 cd2 ct2), sl2⟩) (c2 : PySem.W.codeIn K cd2 "ends_at_hyphen" = true) (k2 : PySem.W.keepIn K (.ref f2) = true)
    {f3 : Addr} {od3 an3 : Option Addr} {sl3 : Array (Option Value)} {oc3 kV3 dc3 pm3 cd3 ct3 : Value}
    (a3 : PySem.W.nsIn K mainGlobals "joint_glue" = some (some (.ref f3))) (l3 : K.lookup f3 = some ⟨oc3, od3, .func (PySem.W.fnOf "joint_glue" "joint_glue" (defArgs s_joint_glue) (defBody s_joint_glue) (defScope s_joint_glue) .none kV3 dc3 pm3 an3 cd3 ct3), sl3⟩) (c3 : PySem.W.codeIn K cd3 "joint_glue" = true) (k3 : PySem.W.keepIn K (.ref f3) = true)
    {f4 : Addr} {od4 an4 : Option Addr} {sl4 : Array (Option Value)} {oc4 kV4 dc4 pm4 cd4 ct4 : Value}
    (a4 : PySem.W.nsIn K mainGlobals "extended_glue" = some (some (.ref f4))) (l4 : K.lookup f4 = some ⟨oc4, od4, .func (PySem.W.fnOf "extended_glue" "extended_glue" (defArgs s_extended_glue) (defBody s_extended_glue) (defScope s_extended_glue) .none kV4 dc4 pm4 an4 cd4 ct4), sl4⟩) (c4 : PySem.W.codeIn K cd4 "extended_glue" = true) (k4 : PySem.W.keepIn K (.ref f4) = true)
    {f5 : Addr} {od5 an5 : Option Addr} {sl5 : Array (Option Value)} {oc5 kV5 dc5 pm5 cd5 ct5 : Value}
    (a5 : PySem.W.nsIn K mainGlobals "finished_glue" = some (some (.ref f5))) (l5 : K.lookup f5 = some ⟨oc5, od5, .func (PySem.W.fnOf "finished_glue" "finished_glue" (defArgs s_finished_glue) (defBody s_finished_glue) (defScope s_finished_glue) .none kV5 dc5 pm5 an5 cd5 ct5), sl5⟩) (c5 : PySem.W.codeIn K cd5 "finished_glue" = true) (k5 : PySem.W.keepIn K (.ref f5) = true)
    {f6 : Addr} {od6 an6 : Option Addr} {sl6 : Array (Option Value)} {oc6 kV6 dc6 pm6 cd6 ct6 : Value}
    (a6 : PySem.W.nsIn K mainGlobals "line_glue" = some (some (.ref f6))) (l6 : K.lookup f6 = some ⟨oc6, od6, .func (PySem.W.fnOf "line_glue" "line_glue" (defArgs s_line_glue) (defBody s_line_glue) (defScope s_line_glue) .none kV6 dc6 pm6 an6 cd6 ct6), sl6⟩) (c6 : PySem.W.codeIn K cd6 "line_glue" = true) (k6 : PySem.W.keepIn K (.ref f6) = true)
    {f7 : Addr} {od7 an7 : Option Addr} {sl7 : Array (Option Value)} {oc7 kV7 dc7 pm7 cd7 ct7 : Value}
    (a7 : PySem.W.nsIn K mainGlobals "room_of" = some (some (.ref f7))) (l7 : K.lookup f7 = some ⟨oc7, od7, .func (PySem.W.fnOf "room_of" "room_of" (defArgs s_room_of) (defBody s_room_of) (defScope s_room_of) .none kV7 dc7 pm7 an7 cd7 ct7), sl7⟩) (c7 : PySem.W.codeIn K cd7 "room_of" = true) (k7 : PySem.W.keepIn K (.ref f7) = true)
    {f8 : Addr} {od8 an8 : Option Addr} {sl8 : Array (Option Value)} {oc8 kV8 dc8 pm8 cd8 ct8 : Value}
    (a8 : PySem.W.nsIn K mainGlobals "extra_of" = some (some (.ref f8))) (l8 : K.lookup f8 = some ⟨oc8, od8, .func (PySem.W.fnOf "extra_of" "extra_of" (defArgs s_extra_of) (defBody s_extra_of) (defScope s_extra_of) .none kV8 dc8 pm8 an8 cd8 ct8), sl8⟩) (c8 : PySem.W.codeIn K cd8 "extra_of" = true) (k8 : PySem.W.keepIn K (.ref f8) = true)
    {f9 : Addr} {od9 an9 : Option Addr} {sl9 : Array (Option Value)} {oc9 kV9 dc9 pm9 cd9 ct9 : Value}
    (a9 : PySem.W.nsIn K mainGlobals "box_places" = some (some (.ref f9))) (l9 : K.lookup f9 = some ⟨oc9, od9, .func (PySem.W.fnOf "box_places" "box_places" (defArgs s_box_places) (defBody s_box_places) (defScope s_box_places) .none kV9 dc9 pm9 an9 cd9 ct9), sl9⟩) (c9 : PySem.W.codeIn K cd9 "box_places" = true) (k9 : PySem.W.keepIn K (.ref f9) = true)
    {f10 : Addr} {od10 an10 : Option Addr} {sl10 : Array (Option Value)} {oc10 kV10 dc10 pm10 cd10 ct10 : Value}
    (a10 : PySem.W.nsIn K mainGlobals "gap_spans" = some (some (.ref f10))) (l10 : K.lookup f10 = some ⟨oc10, od10, .func (PySem.W.fnOf "gap_spans" "gap_spans" (defArgs s_gap_spans) (defBody s_gap_spans) (defScope s_gap_spans) .none kV10 dc10 pm10 an10 cd10 ct10), sl10⟩) (c10 : PySem.W.codeIn K cd10 "gap_spans" = true) (k10 : PySem.W.keepIn K (.ref f10) = true)
    {f11 : Addr} {od11 an11 : Option Addr} {sl11 : Array (Option Value)} {oc11 kV11 dc11 pm11 cd11 ct11 : Value}
    (a11 : PySem.W.nsIn K mainGlobals "count_overlapping" = some (some (.ref f11))) (l11 : K.lookup f11 = some ⟨oc11, od11, .func (PySem.W.fnOf "count_overlapping" "count_overlapping" (defArgs s_count_overlapping) (defBody s_count_overlapping) (defScope s_count_overlapping) .none kV11 dc11 pm11 an11 cd11 ct11), sl11⟩) (c11 : PySem.W.codeIn K cd11 "count_overlapping" = true) (k11 : PySem.W.keepIn K (.ref f11) = true)
    {f12 : Addr} {od12 an12 : Option Addr} {sl12 : Array (Option Value)} {oc12 kV12 dc12 pm12 cd12 ct12 : Value}
    (a12 : PySem.W.nsIn K mainGlobals "price_with_count" = some (some (.ref f12))) (l12 : K.lookup f12 = some ⟨oc12, od12, .func (PySem.W.fnOf "price_with_count" "price_with_count" (defArgs s_price_with_count) (defBody s_price_with_count) (defScope s_price_with_count) .none kV12 dc12 pm12 an12 cd12 ct12), sl12⟩) (c12 : PySem.W.codeIn K cd12 "price_with_count" = true) (k12 : PySem.W.keepIn K (.ref f12) = true)
    {f13 : Addr} {od13 an13 : Option Addr} {sl13 : Array (Option Value)} {oc13 kV13 dc13 pm13 cd13 ct13 : Value}
    (a13 : PySem.W.nsIn K mainGlobals "pair_price" = some (some (.ref f13))) (l13 : K.lookup f13 = some ⟨oc13, od13, .func (PySem.W.fnOf "pair_price" "pair_price" (defArgs s_pair_price) (defBody s_pair_price) (defScope s_pair_price) .none kV13 dc13 pm13 an13 cd13 ct13), sl13⟩) (c13 : PySem.W.codeIn K cd13 "pair_price" = true) (k13 : PySem.W.keepIn K (.ref f13) = true)
    {f14 : Addr} {od14 an14 : Option Addr} {sl14 : Array (Option Value)} {oc14  dc14 pm14 cd14 ct14 : Value}
    {D_Measure : Addr} {t_Measure_indent : Tok} {t_Measure_align : Tok} {t_Measure_hyphen : Tok} {t_Measure_twin : Tok} {t_Measure_river : Tok} {t_Measure_loose : Tok}
    (a14 : PySem.W.findIn K (.ref c_Measure) "__init__" = some (some (.ref f14))) (l14 : K.lookup f14 = some ⟨oc14, od14, .func (PySem.W.fnOf "__init__" "Measure.__init__" (defArgs s_Measure___init__) (defBody s_Measure___init__) (defScope s_Measure___init__) .none (.ref D_Measure) dc14 pm14 an14 cd14 ct14), sl14⟩) (c14 : PySem.W.codeIn K cd14 "Measure.__init__" = true) (k14 : PySem.W.keepIn K (.ref f14) = true)
    (i14 : PySem.W.isFn K (.ref f14) = true)
    (kd_Measure_indent : PySem.W.nsIn K D_Measure "indent" = some (some (.int 0 t_Measure_indent))) (kd_Measure_align : PySem.W.nsIn K D_Measure "align" = some (some (.str "both" t_Measure_align))) (kd_Measure_hyphen : PySem.W.nsIn K D_Measure "hyphen" = some (some (.int 50 t_Measure_hyphen))) (kd_Measure_twin : PySem.W.nsIn K D_Measure "twin" = some (some (.int 100 t_Measure_twin))) (kd_Measure_river : PySem.W.nsIn K D_Measure "river" = some (some (.int 0 t_Measure_river))) (kd_Measure_loose : PySem.W.nsIn K D_Measure "loose" = some (some (.int 2 t_Measure_loose)))
    {f15 : Addr} {od15 an15 : Option Addr} {sl15 : Array (Option Value)} {oc15 kV15 dc15 pm15 cd15 ct15 : Value}
    {p15 : Addr} {rest15 : List Value} (sa15 : PySem.W.findCls K (.ref c_Measure) (.type "type") "of" = some (.get (.builtin "staticmethod.__get__") (.ref p15) .none (.ref c_Measure))) (sr15 : PySem.W.recIn K p15 "staticmethod" = some (.ref f15 :: rest15))
    (l15 : K.lookup f15 = some ⟨oc15, od15, .func (PySem.W.fnOf "of" "Measure.of" (defArgs s_Measure_of) (defBody s_Measure_of) (defScope s_Measure_of) .none kV15 dc15 pm15 an15 cd15 ct15), sl15⟩) (c15 : PySem.W.codeIn K cd15 "Measure.of" = true) (k15 : PySem.W.keepIn K (.ref f15) = true)
    {f16 : Addr} {od16 an16 : Option Addr} {sl16 : Array (Option Value)} {oc16 kV16 dc16 pm16 cd16 ct16 : Value}
    (a16 : PySem.W.nsIn K mainGlobals "_law_pool" = some (some (.ref f16))) (l16 : K.lookup f16 = some ⟨oc16, od16, .func (PySem.W.fnOf "_law_pool" "_law_pool" (defArgs s__law_pool) (defBody s__law_pool) (defScope s__law_pool) .none kV16 dc16 pm16 an16 cd16 ct16), sl16⟩) (c16 : PySem.W.codeIn K cd16 "_law_pool" = true) (k16 : PySem.W.keepIn K (.ref f16) = true)
    {f17 : Addr} {od17 an17 : Option Addr} {sl17 : Array (Option Value)} {oc17 kV17 dc17 pm17 cd17 ct17 : Value}
    (a17 : PySem.W.nsIn K mainGlobals "_law_take" = some (some (.ref f17))) (l17 : K.lookup f17 = some ⟨oc17, od17, .func (PySem.W.fnOf "_law_take" "_law_take" (defArgs s__law_take) (defBody s__law_take) (defScope s__law_take) .none kV17 dc17 pm17 an17 cd17 ct17), sl17⟩) (c17 : PySem.W.codeIn K cd17 "_law_take" = true) (k17 : PySem.W.keepIn K (.ref f17) = true)
    {f18 : Addr} {od18 an18 : Option Addr} {sl18 : Array (Option Value)} {oc18 kV18 dc18 pm18 cd18 ct18 : Value}
    (a18 : PySem.W.nsIn K mainGlobals "_law_is_integer" = some (some (.ref f18))) (l18 : K.lookup f18 = some ⟨oc18, od18, .func (PySem.W.fnOf "_law_is_integer" "_law_is_integer" (defArgs s__law_is_integer) (defBody s__law_is_integer) (defScope s__law_is_integer) .none kV18 dc18 pm18 an18 cd18 ct18), sl18⟩) (c18 : PySem.W.codeIn K cd18 "_law_is_integer" = true) (k18 : PySem.W.keepIn K (.ref f18) = true)
    {f19 : Addr} {od19 an19 : Option Addr} {sl19 : Array (Option Value)} {oc19 kV19 dc19 pm19 cd19 ct19 : Value}
    (a19 : PySem.W.nsIn K mainGlobals "_law_joint" = some (some (.ref f19))) (l19 : K.lookup f19 = some ⟨oc19, od19, .func (PySem.W.fnOf "_law_joint" "_law_joint" (defArgs s__law_joint) (defBody s__law_joint) (defScope s__law_joint) .none kV19 dc19 pm19 an19 cd19 ct19), sl19⟩) (c19 : PySem.W.codeIn K cd19 "_law_joint" = true) (k19 : PySem.W.keepIn K (.ref f19) = true)
    {f20 : Addr} {od20 an20 : Option Addr} {sl20 : Array (Option Value)} {oc20 kV20 dc20 pm20 cd20 ct20 : Value}
    (a20 : PySem.W.nsIn K mainGlobals "_law_bare" = some (some (.ref f20))) (l20 : K.lookup f20 = some ⟨oc20, od20, .func (PySem.W.fnOf "_law_bare" "_law_bare" (defArgs s__law_bare) (defBody s__law_bare) (defScope s__law_bare) .none kV20 dc20 pm20 an20 cd20 ct20), sl20⟩) (c20 : PySem.W.codeIn K cd20 "_law_bare" = true) (k20 : PySem.W.keepIn K (.ref f20) = true)
    {f21 : Addr} {od21 an21 : Option Addr} {sl21 : Array (Option Value)} {oc21 kV21 dc21 pm21 cd21 ct21 : Value}
    (a21 : PySem.W.nsIn K mainGlobals "_law_glue" = some (some (.ref f21))) (l21 : K.lookup f21 = some ⟨oc21, od21, .func (PySem.W.fnOf "_law_glue" "_law_glue" (defArgs s__law_glue) (defBody s__law_glue) (defScope s__law_glue) .none kV21 dc21 pm21 an21 cd21 ct21), sl21⟩) (c21 : PySem.W.codeIn K cd21 "_law_glue" = true) (k21 : PySem.W.keepIn K (.ref f21) = true)
    {f22 : Addr} {od22 an22 : Option Addr} {sl22 : Array (Option Value)} {oc22 kV22 dc22 pm22 cd22 ct22 : Value}
    (a22 : PySem.W.nsIn K mainGlobals "_law_line_key" = some (some (.ref f22))) (l22 : K.lookup f22 = some ⟨oc22, od22, .func (PySem.W.fnOf "_law_line_key" "_law_line_key" (defArgs s__law_line_key) (defBody s__law_line_key) (defScope s__law_line_key) .none kV22 dc22 pm22 an22 cd22 ct22), sl22⟩) (c22 : PySem.W.codeIn K cd22 "_law_line_key" = true) (k22 : PySem.W.keepIn K (.ref f22) = true)
    {f23 : Addr} {od23 an23 : Option Addr} {sl23 : Array (Option Value)} {oc23 kV23 dc23 pm23 cd23 ct23 : Value}
    (a23 : PySem.W.nsIn K mainGlobals "_law_possible" = some (some (.ref f23))) (l23 : K.lookup f23 = some ⟨oc23, od23, .func (PySem.W.fnOf "_law_possible" "_law_possible" (defArgs s__law_possible) (defBody s__law_possible) (defScope s__law_possible) .none kV23 dc23 pm23 an23 cd23 ct23), sl23⟩) (c23 : PySem.W.codeIn K cd23 "_law_possible" = true) (k23 : PySem.W.keepIn K (.ref f23) = true)
    {f24 : Addr} {od24 an24 : Option Addr} {sl24 : Array (Option Value)} {oc24 kV24 dc24 pm24 cd24 ct24 : Value}
    (a24 : PySem.W.nsIn K mainGlobals "_law_spans" = some (some (.ref f24))) (l24 : K.lookup f24 = some ⟨oc24, od24, .func (PySem.W.fnOf "_law_spans" "_law_spans" (defArgs s__law_spans) (defBody s__law_spans) (defScope s__law_spans) .none kV24 dc24 pm24 an24 cd24 ct24), sl24⟩) (c24 : PySem.W.codeIn K cd24 "_law_spans" = true) (k24 : PySem.W.keepIn K (.ref f24) = true)
    {f25 : Addr} {od25 an25 : Option Addr} {sl25 : Array (Option Value)} {oc25 kV25 dc25 pm25 cd25 ct25 : Value}
    (a25 : PySem.W.nsIn K mainGlobals "_law_overlap" = some (some (.ref f25))) (l25 : K.lookup f25 = some ⟨oc25, od25, .func (PySem.W.fnOf "_law_overlap" "_law_overlap" (defArgs s__law_overlap) (defBody s__law_overlap) (defScope s__law_overlap) .none kV25 dc25 pm25 an25 cd25 ct25), sl25⟩) (c25 : PySem.W.codeIn K cd25 "_law_overlap" = true) (k25 : PySem.W.keepIn K (.ref f25) = true)
    {f26 : Addr} {od26 an26 : Option Addr} {sl26 : Array (Option Value)} {oc26 kV26 dc26 pm26 cd26 ct26 : Value}
    (a26 : PySem.W.nsIn K mainGlobals "_law_meet" = some (some (.ref f26))) (l26 : K.lookup f26 = some ⟨oc26, od26, .func (PySem.W.fnOf "_law_meet" "_law_meet" (defArgs s__law_meet) (defBody s__law_meet) (defScope s__law_meet) .none kV26 dc26 pm26 an26 cd26 ct26), sl26⟩) (c26 : PySem.W.codeIn K cd26 "_law_meet" = true) (k26 : PySem.W.keepIn K (.ref f26) = true)
    {f27 : Addr} {od27 an27 : Option Addr} {sl27 : Array (Option Value)} {oc27 kV27 dc27 pm27 cd27 ct27 : Value}
    (a27 : PySem.W.nsIn K mainGlobals "_law_three" = some (some (.ref f27))) (l27 : K.lookup f27 = some ⟨oc27, od27, .func (PySem.W.fnOf "_law_three" "_law_three" (defArgs s__law_three) (defBody s__law_three) (defScope s__law_three) .none kV27 dc27 pm27 an27 cd27 ct27), sl27⟩) (c27 : PySem.W.codeIn K cd27 "_law_three" = true) (k27 : PySem.W.keepIn K (.ref f27) = true)
    {f28 : Addr} {od28 an28 : Option Addr} {sl28 : Array (Option Value)} {oc28 kV28 dc28 pm28 cd28 ct28 : Value}
    (a28 : PySem.W.nsIn K mainGlobals "_law_shared" = some (some (.ref f28))) (l28 : K.lookup f28 = some ⟨oc28, od28, .func (PySem.W.fnOf "_law_shared" "_law_shared" (defArgs s__law_shared) (defBody s__law_shared) (defScope s__law_shared) .none kV28 dc28 pm28 an28 cd28 ct28), sl28⟩) (c28 : PySem.W.codeIn K cd28 "_law_shared" = true) (k28 : PySem.W.keepIn K (.ref f28) = true)
    {f29 : Addr} {od29 an29 : Option Addr} {sl29 : Array (Option Value)} {oc29 kV29 dc29 pm29 cd29 ct29 : Value}
    (a29 : PySem.W.nsIn K mainGlobals "_law_twin" = some (some (.ref f29))) (l29 : K.lookup f29 = some ⟨oc29, od29, .func (PySem.W.fnOf "_law_twin" "_law_twin" (defArgs s__law_twin) (defBody s__law_twin) (defScope s__law_twin) .none kV29 dc29 pm29 an29 cd29 ct29), sl29⟩) (c29 : PySem.W.codeIn K cd29 "_law_twin" = true) (k29 : PySem.W.keepIn K (.ref f29) = true)
    {f30 : Addr} {od30 an30 : Option Addr} {sl30 : Array (Option Value)} {oc30 kV30 dc30 pm30 cd30 ct30 : Value}
    (a30 : PySem.W.nsIn K mainGlobals "law" = some (some (.ref f30))) (l30 : K.lookup f30 = some ⟨oc30, od30, .func (PySem.W.fnOf "law" "law" (defArgs s_law) (defBody s_law) (defScope s_law) .none kV30 dc30 pm30 an30 cd30 ct30), sl30⟩) (c30 : PySem.W.codeIn K cd30 "law" = true) (k30 : PySem.W.keepIn K (.ref f30) = true)
    (z_abs : PySem.W.nsIn K mainGlobals "abs" = some none)
    (z_bool : PySem.W.nsIn K mainGlobals "bool" = some none)
    (z_int : PySem.W.nsIn K mainGlobals "int" = some none)
    (z_isinstance : PySem.W.nsIn K mainGlobals "isinstance" = some none)
    (z_len : PySem.W.nsIn K mainGlobals "len" = some none)
    (z_max : PySem.W.nsIn K mainGlobals "max" = some none)
    (z_min : PySem.W.nsIn K mainGlobals "min" = some none)
    (z_range : PySem.W.nsIn K mainGlobals "range" = some none)
    (z_sum : PySem.W.nsIn K mainGlobals "sum" = some none)
    (z_tuple : PySem.W.nsIn K mainGlobals "tuple" = some none)
    : ∃ T : Txt K mg, T.f_law = f30 ∧ ∀ (s : Shared) (v : Value), BindsTo s T.fd_law ⟨[v], []⟩ [("_law_script", v)] := by
  have F0 := fun_mk (st := s_Glue___init__) l0 c0 k0
  have b0 := F0.binds (ps := ["self", "width", "stretch", "shrink"]) fun _ _ _ _ _ _ us hl => match us, hl with | [_, _, _, _], _ => rfl
  have F1 := fun_mk (st := s_Glue___add__) l1 c1 k1
  have b1 := F1.binds (ps := ["self", "other"]) fun _ _ _ _ _ _ us hl => match us, hl with | [_, _], _ => rfl
  have F2 := fun_mk (st := s_ends_at_hyphen) l2 c2 k2
  have b2 := F2.binds (ps := ["row", "end"]) fun _ _ _ _ _ _ us hl => match us, hl with | [_, _], _ => rfl
  have F3 := fun_mk (st := s_joint_glue) l3 c3 k3
  have b3 := F3.binds (ps := ["joint"]) fun _ _ _ _ _ _ us hl => match us, hl with | [_], _ => rfl
  have F4 := fun_mk (st := s_extended_glue) l4 c4 k4
  have b4 := F4.binds (ps := ["row", "inner", "box"]) fun _ _ _ _ _ _ us hl => match us, hl with | [_, _, _], _ => rfl
  have F5 := fun_mk (st := s_finished_glue) l5 c5 k5
  have b5 := F5.binds (ps := ["row", "inner", "end"]) fun _ _ _ _ _ _ us hl => match us, hl with | [_, _, _], _ => rfl
  have F6 := fun_mk (st := s_line_glue) l6 c6 k6
  have b6 := F6.binds (ps := ["row", "start", "end"]) fun _ _ _ _ _ _ us hl => match us, hl with | [_, _, _], _ => rfl
  have F7 := fun_mk (st := s_room_of) l7 c7 k7
  have b7 := F7.binds (ps := ["start", "measure"]) fun _ _ _ _ _ _ us hl => match us, hl with | [_, _], _ => rfl
  have F8 := fun_mk (st := s_extra_of) l8 c8 k8
  have b8 := F8.binds (ps := ["rest", "glue", "before", "last", "measure"]) fun _ _ _ _ _ _ us hl => match us, hl with | [_, _, _, _, _], _ => rfl
  have F9 := fun_mk (st := s_box_places) l9 c9 k9
  have b9 := F9.binds (ps := ["row", "start", "end", "measure"]) fun _ _ _ _ _ _ us hl => match us, hl with | [_, _, _, _], _ => rfl
  have F10 := fun_mk (st := s_gap_spans) l10 c10 k10
  have b10 := F10.binds (ps := ["row", "start", "end", "measure"]) fun _ _ _ _ _ _ us hl => match us, hl with | [_, _, _, _], _ => rfl
  have F11 := fun_mk (st := s_count_overlapping) l11 c11 k11
  have b11 := F11.binds (ps := ["upper", "lower"]) fun _ _ _ _ _ _ us hl => match us, hl with | [_, _], _ => rfl
  have F12 := fun_mk (st := s_price_with_count) l12 c12 k12
  have b12 := F12.binds (ps := ["row", "middle", "end", "measure", "count"]) fun _ _ _ _ _ _ us hl => match us, hl with | [_, _, _, _, _], _ => rfl
  have F13 := fun_mk (st := s_pair_price) l13 c13 k13
  have b13 := F13.binds (ps := ["row", "start", "middle", "end", "measure"]) fun _ _ _ _ _ _ us hl => match us, hl with | [_, _, _, _, _], _ => rfl
  have F14 := fun_mk (st := s_Measure___init__) l14 c14 k14
  have F15 := fun_mk (st := s_Measure_of) l15 c15 k15
  have b15 := F15.binds (ps := ["key"]) fun _ _ _ _ _ _ us hl => match us, hl with | [_], _ => rfl
  have F16 := fun_mk (st := s__law_pool) l16 c16 k16
  have b16 := F16.binds (ps := ["_law_script", "_law_at"]) fun _ _ _ _ _ _ us hl => match us, hl with | [_, _], _ => rfl
  have F17 := fun_mk (st := s__law_take) l17 c17 k17
  have b17 := F17.binds (ps := ["_law_pool_here", "_law_many"]) fun _ _ _ _ _ _ us hl => match us, hl with | [_, _], _ => rfl
  have F18 := fun_mk (st := s__law_is_integer) l18 c18 k18
  have b18 := F18.binds (ps := ["_law_actual"]) fun _ _ _ _ _ _ us hl => match us, hl with | [_], _ => rfl
  have F19 := fun_mk (st := s__law_joint) l19 c19 k19
  have b19 := F19.binds (ps := ["_law_pool_here", "_law_below", "_law_broad"]) fun _ _ _ _ _ _ us hl => match us, hl with | [_, _, _], _ => rfl
  have F20 := fun_mk (st := s__law_bare) l20 c20 k20
  have b20 := F20.binds (ps := ["_law_pool_here", "_law_least", "_law_often"]) fun _ _ _ _ _ _ us hl => match us, hl with | [_, _, _], _ => rfl
  have F21 := fun_mk (st := s__law_glue) l21 c21 k21
  have b21 := F21.binds (ps := ["_law_row", "_law_start", "_law_end"]) fun _ _ _ _ _ _ us hl => match us, hl with | [_, _, _], _ => rfl
  have F22 := fun_mk (st := s__law_line_key) l22 c22 k22
  have b22 := F22.binds (ps := ["_law_pool_here", "_law_row"]) fun _ _ _ _ _ _ us hl => match us, hl with | [_, _], _ => rfl
  have F23 := fun_mk (st := s__law_possible) l23 c23 k23
  have b23 := F23.binds (ps := ["_law_row", "_law_start", "_law_end", "_law_key"]) fun _ _ _ _ _ _ us hl => match us, hl with | [_, _, _, _], _ => rfl
  have F24 := fun_mk (st := s__law_spans) l24 c24 k24
  have b24 := F24.binds (ps := ["_law_row", "_law_start", "_law_end", "_law_key"]) fun _ _ _ _ _ _ us hl => match us, hl with | [_, _, _, _], _ => rfl
  have F25 := fun_mk (st := s__law_overlap) l25 c25 k25
  have b25 := F25.binds (ps := ["_law_one", "_law_two"]) fun _ _ _ _ _ _ us hl => match us, hl with | [_, _], _ => rfl
  have F26 := fun_mk (st := s__law_meet) l26 c26 k26
  have b26 := F26.binds (ps := ["_law_upper", "_law_lower"]) fun _ _ _ _ _ _ us hl => match us, hl with | [_, _], _ => rfl
  have F27 := fun_mk (st := s__law_three) l27 c27 k27
  have b27 := F27.binds (ps := ["_law_pool_here", "_law_row"]) fun _ _ _ _ _ _ us hl => match us, hl with | [_, _], _ => rfl
  have F28 := fun_mk (st := s__law_shared) l28 c28 k28
  have b28 := F28.binds (ps := ["_law_pool_here", "_law_row", "_law_three_here", "_law_key"]) fun _ _ _ _ _ _ us hl => match us, hl with | [_, _, _, _], _ => rfl
  have F29 := fun_mk (st := s__law_twin) l29 c29 k29
  have b29 := F29.binds (ps := ["_law_row", "_law_three_here", "_law_key"]) fun _ _ _ _ _ _ us hl => match us, hl with | [_, _, _], _ => rfl
  have F30 := fun_mk (st := s_law) l30 c30 k30
  have b30 := F30.binds (ps := ["_law_script"]) fun _ _ _ _ _ _ us hl => match us, hl with | [_], _ => rfl
  exact ⟨{ m_abs := PySem.W.mg_none_of X G z_abs, m_bool := PySem.W.mg_none_of X G z_bool, m_int := PySem.W.mg_none_of X G z_int, m_isinstance := PySem.W.mg_none_of X G z_isinstance, m_len := PySem.W.mg_none_of X G z_len, m_max := PySem.W.mg_none_of X G z_max, m_min := PySem.W.mg_none_of X G z_min, m_range := PySem.W.mg_none_of X G z_range, m_sum := PySem.W.mg_none_of X G z_sum, m_tuple := PySem.W.mg_none_of X G z_tuple, c_Glue := c_Glue, g_Glue := PySem.W.mg_of X G aGlue, co_Glue := ⟨⟨pgGlue, hdGlue, poGlue, saGlue⟩, haGlue, hnO, htO, hmGlue⟩, sf_Glue := sfGlue, na_Glue_width := naGlue_width, na_Glue_stretch := naGlue_stretch, na_Glue_shrink := naGlue_shrink, c_Measure := c_Measure, g_Measure := PySem.W.mg_of X G aMeasure, co_Measure := ⟨⟨pgMeasure, hdMeasure, poMeasure, saMeasure⟩, haMeasure, hnO, htO, hmMeasure⟩, na_Measure_width := naMeasure_width, na_Measure_indent := naMeasure_indent, na_Measure_align := naMeasure_align, na_Measure_hyphen := naMeasure_hyphen, na_Measure_twin := naMeasure_twin, na_Measure_river := naMeasure_river, na_Measure_loose := naMeasure_loose, f_Glue___init__ := f0, fd_Glue___init__ := _, F_Glue___init__ := F0, b_Glue___init__ := b0, mk_Glue := ⟨mkGlue, a0, i0, kcGlue⟩, f_Glue___add__ := f1, fd_Glue___add__ := _, F_Glue___add__ := F1, b_Glue___add__ := b1, mt_Glue___add__ := ⟨a1, i1, k1⟩, op_Glue___add__ := o1, f_ends_at_hyphen := f2, fd_ends_at_hyphen := _, F_ends_at_hyphen := F2, b_ends_at_hyphen := b2, g_ends_at_hyphen := PySem.W.mg_of X G a2, f_joint_glue := f3, fd_joint_glue := _, F_joint_glue := F3, b_joint_glue := b3, g_joint_glue := PySem.W.mg_of X G a3, f_extended_glue := f4, fd_extended_glue := _, F_extended_glue := F4, b_extended_glue := b4, g_extended_glue := PySem.W.mg_of X G a4, f_finished_glue := f5, fd_finished_glue := _, F_finished_glue := F5, b_finished_glue := b5, g_finished_glue := PySem.W.mg_of X G a5, f_line_glue := f6, fd_line_glue := _, F_line_glue := F6, b_line_glue := b6, g_line_glue := PySem.W.mg_of X G a6, f_room_of := f7, fd_room_of := _, F_room_of := F7, b_room_of := b7, g_room_of := PySem.W.mg_of X G a7, f_extra_of := f8, fd_extra_of := _, F_extra_of := F8, b_extra_of := b8, g_extra_of := PySem.W.mg_of X G a8, f_box_places := f9, fd_box_places := _, F_box_places := F9, b_box_places := b9, g_box_places := PySem.W.mg_of X G a9, f_gap_spans := f10, fd_gap_spans := _, F_gap_spans := F10, b_gap_spans := b10, g_gap_spans := PySem.W.mg_of X G a10, f_count_overlapping := f11, fd_count_overlapping := _, F_count_overlapping := F11, b_count_overlapping := b11, g_count_overlapping := PySem.W.mg_of X G a11, f_price_with_count := f12, fd_price_with_count := _, F_price_with_count := F12, b_price_with_count := b12, g_price_with_count := PySem.W.mg_of X G a12, f_pair_price := f13, fd_pair_price := _, F_pair_price := F13, b_pair_price := b13, g_pair_price := PySem.W.mg_of X G a13, f_Measure___init__ := f14, fd_Measure___init__ := _, F_Measure___init__ := F14, fk_Measure := ⟨⟨_, _, _, _, _, _, _, _, _, _, rfl, l14, c14, .inl ⟨rfl, rfl⟩, .inr ⟨D_Measure, rfl, (kw_cons ⟨_, kd_Measure_indent, _, rfl⟩ (kw_cons ⟨_, kd_Measure_align, _, rfl⟩ (kw_cons ⟨_, kd_Measure_hyphen, _, rfl⟩ (kw_cons ⟨_, kd_Measure_twin, _, rfl⟩ (kw_cons ⟨_, kd_Measure_river, _, rfl⟩ (kw_cons ⟨_, kd_Measure_loose, _, rfl⟩ kw_nil))))))⟩⟩, k14⟩, mk_Measure := ⟨mkMeasure, a14, i14, kcMeasure⟩, f_Measure_of := f15, fd_Measure_of := _, F_Measure_of := F15, b_Measure_of := b15, p_Measure_of := p15, sm_Measure_of := ⟨rdMeasure, gaMeasure, sa15, ⟨_, sr15⟩⟩, f__law_pool := f16, fd__law_pool := _, F__law_pool := F16, b__law_pool := b16, g__law_pool := PySem.W.mg_of X G a16, f__law_take := f17, fd__law_take := _, F__law_take := F17, b__law_take := b17, g__law_take := PySem.W.mg_of X G a17, f__law_is_integer := f18, fd__law_is_integer := _, F__law_is_integer := F18, b__law_is_integer := b18, g__law_is_integer := PySem.W.mg_of X G a18, f__law_joint := f19, fd__law_joint := _, F__law_joint := F19, b__law_joint := b19, g__law_joint := PySem.W.mg_of X G a19, f__law_bare := f20, fd__law_bare := _, F__law_bare := F20, b__law_bare := b20, g__law_bare := PySem.W.mg_of X G a20, f__law_glue := f21, fd__law_glue := _, F__law_glue := F21, b__law_glue := b21, g__law_glue := PySem.W.mg_of X G a21, f__law_line_key := f22, fd__law_line_key := _, F__law_line_key := F22, b__law_line_key := b22, g__law_line_key := PySem.W.mg_of X G a22, f__law_possible := f23, fd__law_possible := _, F__law_possible := F23, b__law_possible := b23, g__law_possible := PySem.W.mg_of X G a23, f__law_spans := f24, fd__law_spans := _, F__law_spans := F24, b__law_spans := b24, g__law_spans := PySem.W.mg_of X G a24, f__law_overlap := f25, fd__law_overlap := _, F__law_overlap := F25, b__law_overlap := b25, g__law_overlap := PySem.W.mg_of X G a25, f__law_meet := f26, fd__law_meet := _, F__law_meet := F26, b__law_meet := b26, g__law_meet := PySem.W.mg_of X G a26, f__law_three := f27, fd__law_three := _, F__law_three := F27, b__law_three := b27, g__law_three := PySem.W.mg_of X G a27, f__law_shared := f28, fd__law_shared := _, F__law_shared := F28, b__law_shared := b28, g__law_shared := PySem.W.mg_of X G a28, f__law_twin := f29, fd__law_twin := _, F__law_twin := F29, b__law_twin := b29, g__law_twin := PySem.W.mg_of X G a29, f_law := f30, fd_law := _, F_law := F30, b_law := b30, g_law := PySem.W.mg_of X G a30 }, rfl, fun s v => .of_eq rfl⟩
abbrev o_Glue (c : Addr) (d0 d1 d2 : Dt) : Dt := .obj c [("width", d0), ("stretch", d1), ("shrink", d2)]
abbrev fs_Glue (d0 d1 d2 : Dt) : List (Str × Dt) := [("width", d0), ("stretch", d1), ("shrink", d2)]
theorem lk_Glue_width {d0 d1 d2 : Dt} : List.lookup ("width" : Str) (fs_Glue d0 d1 d2) = some d0 := lk_hit
theorem ne_Glue_1_0 : ¬ (("stretch" : Str) = "width") := by decide +kernel
theorem lk_Glue_stretch {d0 d1 d2 : Dt} : List.lookup ("stretch" : Str) (fs_Glue d0 d1 d2) = some d1 := (lk_miss ne_Glue_1_0).trans (lk_hit)
theorem ne_Glue_2_0 : ¬ (("shrink" : Str) = "width") := by decide +kernel
theorem ne_Glue_2_1 : ¬ (("shrink" : Str) = "stretch") := by decide +kernel
theorem lk_Glue_shrink {d0 d1 d2 : Dt} : List.lookup ("shrink" : Str) (fs_Glue d0 d1 d2) = some d2 := (lk_miss ne_Glue_2_0).trans ((lk_miss ne_Glue_2_1).trans (lk_hit))
theorem lk_Glue_no___add__ {d0 d1 d2 : Dt} : List.lookup ("__add__" : Str) (fs_Glue d0 d1 d2) = none := (lk_miss (by decide +kernel)).trans ((lk_miss (by decide +kernel)).trans ((lk_miss (by decide +kernel)).trans (rfl)))
def ai_Glue : AI := fun ds Post => ∃ e0 e1 e2, ds = [e0, e1, e2] ∧ Post [("width", e0), ("stretch", e1), ("shrink", e2)]
theorem ok_Glue___init__ {P : Program} {w : World} {K : PySem.W.Frag} {mg : Str → Option Value} {base : Heap} (T : Txt K mg) : FnOk P w K mg base CX0 1 T.f_Glue___init__ T.fd_Glue___init__ ["self", "width", "stretch", "shrink"] (toSpI K T.c_Glue ai_Glue) := by
  refine fn_init T.F_Glue___init__ sc_Glue___init__ (by rintro ds Post ⟨e0, e1, e2, rfl, _⟩; rfl) rfl (fun cdv A outer s H E hr => ⟨_, tm_Glue___init__ T cdv A outer s H E hr, ?_⟩)
  rintro ds Post ⟨e0, e1, e2, rfl, k⟩
  unfold t_Glue___init__
  show WI K T.c_Glue _ [.un, .val e0, .val e1, .val e2] [] _
  refine wi_seq (wi_set T.co_Glue.cl T.na_Glue_width (rfl) (Nat.le_of_ble_eq_true rfl) (we_var rfl ⟨_, rfl, rfl, ?_⟩))
  refine wi_seq (wi_set T.co_Glue.cl T.na_Glue_stretch ((lk_miss ne_Glue_1_0).trans (rfl)) (Nat.le_of_ble_eq_true rfl) (we_var rfl ⟨_, rfl, rfl, ?_⟩))
  refine wi_set T.co_Glue.cl T.na_Glue_shrink ((lk_miss ne_Glue_2_0).trans ((lk_miss ne_Glue_2_1).trans (rfl))) (Nat.le_of_ble_eq_true rfl) (we_var rfl ⟨_, rfl, rfl, ?_⟩)
  exact k
abbrev o_Measure (c : Addr) (d0 d1 d2 d3 d4 d5 d6 : Dt) : Dt := .obj c [("width", d0), ("indent", d1), ("align", d2), ("hyphen", d3), ("twin", d4), ("river", d5), ("loose", d6)]
abbrev fs_Measure (d0 d1 d2 d3 d4 d5 d6 : Dt) : List (Str × Dt) := [("width", d0), ("indent", d1), ("align", d2), ("hyphen", d3), ("twin", d4), ("river", d5), ("loose", d6)]
theorem lk_Measure_width {d0 d1 d2 d3 d4 d5 d6 : Dt} : List.lookup ("width" : Str) (fs_Measure d0 d1 d2 d3 d4 d5 d6) = some d0 := lk_hit
theorem ne_Measure_1_0 : ¬ (("indent" : Str) = "width") := by decide +kernel
theorem lk_Measure_indent {d0 d1 d2 d3 d4 d5 d6 : Dt} : List.lookup ("indent" : Str) (fs_Measure d0 d1 d2 d3 d4 d5 d6) = some d1 := (lk_miss ne_Measure_1_0).trans (lk_hit)
theorem ne_Measure_2_0 : ¬ (("align" : Str) = "width") := by decide +kernel
theorem ne_Measure_2_1 : ¬ (("align" : Str) = "indent") := by decide +kernel
theorem lk_Measure_align {d0 d1 d2 d3 d4 d5 d6 : Dt} : List.lookup ("align" : Str) (fs_Measure d0 d1 d2 d3 d4 d5 d6) = some d2 := (lk_miss ne_Measure_2_0).trans ((lk_miss ne_Measure_2_1).trans (lk_hit))
theorem ne_Measure_3_0 : ¬ (("hyphen" : Str) = "width") := by decide +kernel
theorem ne_Measure_3_1 : ¬ (("hyphen" : Str) = "indent") := by decide +kernel
theorem ne_Measure_3_2 : ¬ (("hyphen" : Str) = "align") := by decide +kernel
theorem lk_Measure_hyphen {d0 d1 d2 d3 d4 d5 d6 : Dt} : List.lookup ("hyphen" : Str) (fs_Measure d0 d1 d2 d3 d4 d5 d6) = some d3 := (lk_miss ne_Measure_3_0).trans ((lk_miss ne_Measure_3_1).trans ((lk_miss ne_Measure_3_2).trans (lk_hit)))
theorem ne_Measure_4_0 : ¬ (("twin" : Str) = "width") := by decide +kernel
theorem ne_Measure_4_1 : ¬ (("twin" : Str) = "indent") := by decide +kernel
theorem ne_Measure_4_2 : ¬ (("twin" : Str) = "align") := by decide +kernel
theorem ne_Measure_4_3 : ¬ (("twin" : Str) = "hyphen") := by decide +kernel
theorem lk_Measure_twin {d0 d1 d2 d3 d4 d5 d6 : Dt} : List.lookup ("twin" : Str) (fs_Measure d0 d1 d2 d3 d4 d5 d6) = some d4 := (lk_miss ne_Measure_4_0).trans ((lk_miss ne_Measure_4_1).trans ((lk_miss ne_Measure_4_2).trans ((lk_miss ne_Measure_4_3).trans (lk_hit))))
theorem ne_Measure_5_0 : ¬ (("river" : Str) = "width") := by decide +kernel
theorem ne_Measure_5_1 : ¬ (("river" : Str) = "indent") := by decide +kernel
theorem ne_Measure_5_2 : ¬ (("river" : Str) = "align") := by decide +kernel
theorem ne_Measure_5_3 : ¬ (("river" : Str) = "hyphen") := by decide +kernel
theorem ne_Measure_5_4 : ¬ (("river" : Str) = "twin") := by decide +kernel
theorem lk_Measure_river {d0 d1 d2 d3 d4 d5 d6 : Dt} : List.lookup ("river" : Str) (fs_Measure d0 d1 d2 d3 d4 d5 d6) = some d5 := (lk_miss ne_Measure_5_0).trans ((lk_miss ne_Measure_5_1).trans ((lk_miss ne_Measure_5_2).trans ((lk_miss ne_Measure_5_3).trans ((lk_miss ne_Measure_5_4).trans (lk_hit)))))
theorem ne_Measure_6_0 : ¬ (("loose" : Str) = "width") := by decide +kernel
theorem ne_Measure_6_1 : ¬ (("loose" : Str) = "indent") := by decide +kernel
theorem ne_Measure_6_2 : ¬ (("loose" : Str) = "align") := by decide +kernel
theorem ne_Measure_6_3 : ¬ (("loose" : Str) = "hyphen") := by decide +kernel
theorem ne_Measure_6_4 : ¬ (("loose" : Str) = "twin") := by decide +kernel
theorem ne_Measure_6_5 : ¬ (("loose" : Str) = "river") := by decide +kernel
theorem lk_Measure_loose {d0 d1 d2 d3 d4 d5 d6 : Dt} : List.lookup ("loose" : Str) (fs_Measure d0 d1 d2 d3 d4 d5 d6) = some d6 := (lk_miss ne_Measure_6_0).trans ((lk_miss ne_Measure_6_1).trans ((lk_miss ne_Measure_6_2).trans ((lk_miss ne_Measure_6_3).trans ((lk_miss ne_Measure_6_4).trans ((lk_miss ne_Measure_6_5).trans (lk_hit))))))
theorem lk_Measure_no_of {d0 d1 d2 d3 d4 d5 d6 : Dt} : List.lookup ("of" : Str) (fs_Measure d0 d1 d2 d3 d4 d5 d6) = none := (lk_miss (by decide +kernel)).trans ((lk_miss (by decide +kernel)).trans ((lk_miss (by decide +kernel)).trans ((lk_miss (by decide +kernel)).trans ((lk_miss (by decide +kernel)).trans ((lk_miss (by decide +kernel)).trans ((lk_miss (by decide +kernel)).trans (rfl)))))))
def ai_Measure : AI := fun ds Post => ∃ e0 e1 e2 e3 e4 e5 e6, ds = [e0, e1, e2, e3, e4, e5, e6] ∧ Post [("width", e0), ("indent", e1), ("align", e2), ("hyphen", e3), ("twin", e4), ("river", e5), ("loose", e6)]
theorem ok_Measure___init__ {P : Program} {w : World} {K : PySem.W.Frag} {mg : Str → Option Value} {base : Heap} (T : Txt K mg) : FnOk P w K mg base CX0 1 T.f_Measure___init__ T.fd_Measure___init__ ["self", "width", "indent", "align", "hyphen", "twin", "river", "loose"] (toSpI K T.c_Measure ai_Measure) := by
  refine fn_init T.F_Measure___init__ sc_Measure___init__ (by rintro ds Post ⟨e0, e1, e2, e3, e4, e5, e6, rfl, _⟩; rfl) rfl (fun cdv A outer s H E hr => ⟨_, tm_Measure___init__ T cdv A outer s H E hr, ?_⟩)
  rintro ds Post ⟨e0, e1, e2, e3, e4, e5, e6, rfl, k⟩
  unfold t_Measure___init__
  show WI K T.c_Measure _ [.un, .val e0, .val e1, .val e2, .val e3, .val e4, .val e5, .val e6] [] _
  refine wi_seq (wi_set T.co_Measure.cl T.na_Measure_width (rfl) (Nat.le_of_ble_eq_true rfl) (we_var rfl ⟨_, rfl, rfl, ?_⟩))
  refine wi_seq (wi_set T.co_Measure.cl T.na_Measure_indent ((lk_miss ne_Measure_1_0).trans (rfl)) (Nat.le_of_ble_eq_true rfl) (we_var rfl ⟨_, rfl, rfl, ?_⟩))
  refine wi_seq (wi_set T.co_Measure.cl T.na_Measure_align ((lk_miss ne_Measure_2_0).trans ((lk_miss ne_Measure_2_1).trans (rfl))) (Nat.le_of_ble_eq_true rfl) (we_var rfl ⟨_, rfl, rfl, ?_⟩))
  refine wi_seq (wi_set T.co_Measure.cl T.na_Measure_hyphen ((lk_miss ne_Measure_3_0).trans ((lk_miss ne_Measure_3_1).trans ((lk_miss ne_Measure_3_2).trans (rfl)))) (Nat.le_of_ble_eq_true rfl) (we_var rfl ⟨_, rfl, rfl, ?_⟩))
  refine wi_seq (wi_set T.co_Measure.cl T.na_Measure_twin ((lk_miss ne_Measure_4_0).trans ((lk_miss ne_Measure_4_1).trans ((lk_miss ne_Measure_4_2).trans ((lk_miss ne_Measure_4_3).trans (rfl))))) (Nat.le_of_ble_eq_true rfl) (we_var rfl ⟨_, rfl, rfl, ?_⟩))
  refine wi_seq (wi_set T.co_Measure.cl T.na_Measure_river ((lk_miss ne_Measure_5_0).trans ((lk_miss ne_Measure_5_1).trans ((lk_miss ne_Measure_5_2).trans ((lk_miss ne_Measure_5_3).trans ((lk_miss ne_Measure_5_4).trans (rfl)))))) (Nat.le_of_ble_eq_true rfl) (we_var rfl ⟨_, rfl, rfl, ?_⟩))
  refine wi_set T.co_Measure.cl T.na_Measure_loose ((lk_miss ne_Measure_6_0).trans ((lk_miss ne_Measure_6_1).trans ((lk_miss ne_Measure_6_2).trans ((lk_miss ne_Measure_6_3).trans ((lk_miss ne_Measure_6_4).trans ((lk_miss ne_Measure_6_5).trans (rfl))))))) (Nat.le_of_ble_eq_true rfl) (we_var rfl ⟨_, rfl, rfl, ?_⟩)
  exact k
end Lk53
/-! measures, prices of lines: law-free -/
namespace Lin
open PySem L2 Ab
local macro_rules | `(tactic| walk_at "no") => `(tactic| first
  | exact fun h => Bool.noConfusion (show true = false from h)
  | exact fun h => Bool.noConfusion (show false = true from h)
  | exact fun h => absurd (of_decide_eq_true h) (by omega)
  | exact fun h => absurd (by omega) (of_decide_eq_false h)
  | exact fun h => absurd (by omega) (nd_t h)
  | exact fun h => absurd (nd_f h) (by omega)
  | fail "no")
local macro_rules | `(tactic| walk_at "kb") => `(tactic| first | exact kb_tt | exact kb_ll | exact kb_ii | exact kb_ib | exact kb_ss | exact kb_sb | exact kb_si | exact kb_tb | exact kb_ti | exact kb_ts | exact kb_tl | exact kb_lb | exact kb_li | exact kb_ls | exact kb_lt | exact kb_is | exact kb_it | exact kb_il | exact kb_st | exact kb_sl | exact kb_bb | exact kb_bi | exact kb_nb | exact kb_ni | exact kb_ns | exact kb_nt | exact kb_nl | exact kb_bs | exact kb_bt | exact kb_bl | fail "kb")
local macro_rules | `(tactic| walk_at "norm") => `(tactic| first
  | exact (rfl : _ = ([] : List Sl))
  | ((refine' norm_cons (rfl : _ = _ :: _) ?ea ?et); (case ea => first | exact norm_v | exact norm_n | exact norm_o | exact rfl | fail "norm"); (case et => walk_at "norm"))
  | fail "norm")
local macro_rules | `(tactic| walk_at "x") => `(tactic| first
  | ((with_reducible refine' norm_intro ?hn ?_); (case hn => walk_at "norm"))
  | ((with_reducible refine' we_var ?hh ?_); (case hh => exact rfl))
  | ((with_reducible refine' we_own ?hh ?_); (case hh => exact rfl))
  | with_reducible refine we_c ?_
  | with_reducible refine we_addG ?_
  | with_reducible refine addp_i ?_
  | with_reducible refine we_opI0 ?_
  | with_reducible refine we_opI ?_
  | with_reducible refine we_mulG ?_
  | ((with_reducible refine' mulp_r ?h1 ?_); (case h1 => first | decide | omega | fail "m"))
  | ((with_reducible refine' mulp_l ?h1 ?_); (case h1 => first | decide | omega | fail "m"))
  | with_reducible refine we_neg ?_
  | with_reducible refine we_ltG ?_
  | with_reducible refine ltp_i ?_
  | with_reducible refine we_eqG ?_
  | with_reducible refine we_neG ?_
  | with_reducible refine eqp_i ?_
  | with_reducible refine nep_i ?_
  | with_reducible refine we_ixG ?_
  | ((with_reducible refine' ixp ?h1 ?h2 ?_); (case h1 => exact rfl); (case h2 => exact rfl))
  | with_reducible refine we_lenG ?_
  | ((with_reducible refine' lenp ?hh ?_); (case hh => exact rfl))
  | with_reducible refine we_intG ?_
  | with_reducible refine intp_i ?_
  | with_reducible refine intp_b ?_
  | with_reducible refine we_abs ?_
  | with_reducible refine we_tup ?_
  | with_reducible refine we_lst ?_
  | with_reducible refine we_tuple ?_
  | with_reducible refine we_list ?_
  | with_reducible refine we_sum ?_
  | with_reducible refine we_max2 ?_
  | with_reducible refine we_min2 ?_
  | with_reducible refine wd_cons ?_
  | with_reducible refine wd_nil ?_
  | with_reducible refine wa_cons ?_
  | with_reducible refine wa_nil ?_
  | with_reducible refine we_callH ?_
  | with_reducible refine we_isiG ?_
  | ((with_reducible refine' isi_own ?h1 ?h2 ?_); (case h1 => exact rfl); (case h2 => walk_at "kb"))
  | ((with_reducible refine' isi_val ?h1 ?h2 ?_); (case h1 => exact rfl); (case h2 => walk_at "kb"))
  | ((with_reducible refine' isi_new ?h2 ?_); (case h2 => walk_at "kb"))
  | with_reducible refine we_chainI ?_
  | with_reducible refine we_andV ?_
  | with_reducible refine we_orV ?_
  | with_reducible refine we_notV ?_
  | with_reducible refine wt_test ?_
  | with_reducible refine wt_B ?_
  | with_reducible refine wt_yes ?_
  | with_reducible refine wt_and ?_
  | with_reducible refine wt_or ?_
  | with_reducible refine wt_not ?_
  | ((with_reducible refine' ws_retA ?hh ?_); (case hh => exact rfl))
  | with_reducible refine ws_ret ?_
  | with_reducible refine ws_if ?_
  | with_reducible refine ws_nil ?_
  | with_reducible refine ws_expr ?_
  | with_reducible refine ws_asgN rfl rfl ?_
  | with_reducible refine ws_setN ?_
  | with_reducible refine ws_asgG ?_
  | ((with_reducible refine' wg_tup ?hh ?_); (case hh => exact rfl))
  | with_reducible refine wgs_cons ?_
  | with_reducible refine wgs_nil ?_
  | with_reducible refine wg_nameN rfl rfl ?_
  | ((with_reducible refine' we_appendN ?hh ?_); (case hh => exact rfl))
  | ((with_reducible refine' we_reverseN ?hh ?_); (case hh => exact rfl))
  | ((with_reducible refine' ws_augN ?h1 ?h2 ?_); (case h1 => exact rfl); (case h2 => exact rfl))
  | (refine ⟨_, rfl, ⟨_, rfl⟩, ?_⟩)
  | (refine ⟨_, rfl, ?_⟩)
  | (refine ⟨_, _, _, rfl, rfl, rfl, ?_⟩)
  | (refine ⟨_, _, rfl, rfl, (Nat.le_of_ble_eq_true rfl : _ ≤ _), ?_⟩)
  | (refine ⟨_, _, rfl, rfl, ?_⟩)
  | (refine ⟨(Nat.le_of_ble_eq_true rfl : _ ≤ _), ?_⟩)
  | (refine ⟨(rfl : _ = true), ?_⟩)
  | ((refine' ⟨fun _ => ?_, fun hY => absurd hY ?k2⟩); (case k2 => walk_at "no"))
  | ((refine' ⟨fun hY => absurd hY ?k2, fun _ => ?_⟩); (case k2 => walk_at "no"))
  | (refine ⟨⟨(by omega), (by omega)⟩, ?_⟩)
  | (refine ⟨⟨(by decide), (by decide), (by decide)⟩, ?_⟩)
  | (refine ⟨(by first | decide | omega | fail "c"), ?_⟩)
  | fail "stop")
local macro_rules | `(tactic| walk_at "e") => `(tactic| first | with_reducible refine ws_seq ?_ | walk_at "x" | fail "stop")
local macro_rules | `(tactic| walk_at "xs") => `(tactic| repeat' walk_at "x")
local macro_rules | `(tactic| walk_at "es") => `(tactic| repeat' walk_at "e")
local macro_rules | `(tactic| walk_at "len") => `(tactic| ((intro as Post h); (repeat (first | (obtain ⟨e, _⟩ := h; exact (congrArg List.length e).trans rfl) | (obtain ⟨_, h⟩ := h)))))
local macro_rules | `(tactic| walk_at "x") => `(tactic| first
  | with_reducible refine we_isN ?_
  | with_reducible refine we_notN ?_
  | with_reducible refine we_slG ?_
  | with_reducible refine wo_none ?_
  | with_reducible refine wo_some ?_
  | ((with_reducible refine' ixp ?h1 ?h2 ?_); (case h1 => exact rfl); (case h2 => assumption))
  | ((with_reducible refine' ixp_s ?h1 ?h2 ?_); (case h1 => assumption); (case h2 => assumption))
  | ((with_reducible refine' lenp_s ?h1 ?_); (case h1 => assumption))
  | ((with_reducible refine' slp_s ?h1 ?_); (case h1 => assumption))
  | with_reducible refine we_join ?_
  | with_reducible refine we_gtS ?_
  | ((with_reducible refine' we_ktup ?h1 ?_); (case h1 => assumption))
  | fail "x3")
local macro_rules | `(tactic| walk_at "x") => `(tactic| first
  | with_reducible refine we_fldG ?_
  | ((with_reducible refine' fldp ?h1 ?h2 ?h3 ?_); (case h1 => assumption); (case h2 => assumption); (case h3 => walk_at "lk"))
  | with_reducible refine we_methG ?_
  | ((with_reducible refine' metp ?h3 ?_); (case h3 => walk_at "lk"))
  | with_reducible refine we_make ?_
  | with_reducible refine we_own2 ?_
  | with_reducible refine we_isoG ?_
  | ((with_reducible refine' isop ?h1 ?_); (case h1 => assumption))
  | fail "x4")
local macro_rules | `(tactic| walk_at "nd") => `(tactic| first
  | exact (rfl : _ = ([] : List Dt))
  | ((refine' normD_cons (rfl : _ = _ :: _) ?et); (case et => walk_at "nd"))
  | fail "nd")
local macro_rules | `(tactic| walk_at "x") => `(tactic| first
  | with_reducible refine we_sumG ?_
  | with_reducible refine eqp_st ?_
  | with_reducible refine nep_st ?_
  | ((with_reducible refine' eqp_sf ?h1 ?_); (case h1 => first | assumption | decide +kernel))
  | ((with_reducible refine' nep_sf ?h1 ?_); (case h1 => first | assumption | decide +kernel))
  | with_reducible refine we_inG ?_
  | with_reducible refine we_notInG ?_
  | with_reducible refine we_smeth ?_
  | with_reducible refine we_makeD ?_
  | with_reducible refine we_makeK ?_
  | ((with_reducible refine' slp_tE ?h ?_); (case h => walk_at "nd"))
  | ((with_reducible refine' addp_tE ?hz ?h ?_); (case h => walk_at "nd"); (case hz => exact Nat.le_of_ble_eq_true rfl))
  | fail "x5")
local macro_rules | `(tactic| walk_at "tk") => `(tactic| refine .a (tk (by assumption) (by omega) (by omega) (by omega) fun _ _ _ _ _ => ?_))
def tq_Measure_of (K : PySem.W.Frag) (c_Measure : Addr) (ai_Measure : AI) : TS :=
    (tSeq (tAsg (tVar 0) (gTup K 7 (gCons (gName 1) (gCons (gName 2) (gCons (gName 3) (gCons (gName 4) (gCons (gName 5) (gCons (gName 6) (gCons (gName 7) gNil)))))))))
    (tRet (tMakeK c_Measure 1 6 (toSpI K c_Measure ai_Measure) (fun (vs zs : List V) => pick (0 :: upO ([0, 1, 2, 3, 4, 5, 6] : List Nat)) (vs ++ ([] : List V) ++ zs)) E0 (tCons (tVar 1) tNil) (tCons (tVar 2) (tCons (tVar 3) (tCons (tVar 4) (tCons (tVar 5) (tCons (tVar 6) (tCons (tVar 7) tNil)))))))))
def tq_room_of (K : PySem.W.Frag) : TS :=
    (tSeq (tIfS (tTest (tOp (rEqG K) (tVar 0) (tC (.int 0)))) (tRet (tOp rSubI (tFld K (tVar 1) "width") (tFld K (tVar 1) "indent"))) tNext)
    (tRet (tFld K (tVar 1) "width")))
def tq_both_price (K : PySem.W.Frag) : TS :=
    (tSeq (tAsg (tOp rSubI (tVar 1) (tFld K (tVar 0) "width")) (gName 4))
    (tSeq (tIfS (tTest (tOp (rLtG K) (tVar 4) (tC (.int 0)))) (tSeq (tIfS (tTest (tOp rGtI (tUn rNegI (tVar 4)) (tFld K (tVar 0) "shrink"))) (tRet (tC .non)) tNext)
    (tRet (tOp rDivI (tOp (rMulG K) (tOp (rMulG K) (tC (.int 100)) (tVar 4)) (tVar 4)) (tOp (rMulG K) (tFld K (tVar 0) "shrink") (tFld K (tVar 0) "shrink"))))) tNext)
    (tSeq (tIfS (tOr (tTest (tOp (rEqG K) (tVar 4) (tC (.int 0)))) (tB (tVar 2))) (tRet (tC (.int 0))) tNext)
    (tSeq (tIfS (tTest (tOp rGtI (tVar 4) (tOp (rMulG K) (tVar 3) (tFld K (tVar 0) "stretch")))) (tRet (tC .non)) tNext)
    (tRet (tOp rDivI (tOp (rMulG K) (tOp (rMulG K) (tC (.int 100)) (tVar 4)) (tVar 4)) (tOp (rMulG K) (tFld K (tVar 0) "stretch") (tFld K (tVar 0) "stretch"))))))))
def tq_left_price (K : PySem.W.Frag) : TS :=
    (tSeq (tAsg (tOp rSubI (tVar 1) (tFld K (tVar 0) "width")) (gName 3))
    (tSeq (tIfS (tTest (tOp (rLtG K) (tVar 3) (tC (.int 0)))) (tRet (tC .non)) tNext)
    (tSeq (tIfS (tB (tVar 2)) (tRet (tC (.int 0))) tNext)
    (tRet (tOp rDivI (tOp (rMulG K) (tOp (rMulG K) (tC (.int 100)) (tVar 3)) (tVar 3)) (tOp (rMulG K) (tVar 1) (tVar 1)))))))
def tq_price_with_glue (K : PySem.W.Frag) (ap_both_price : AP) (ap_left_price : AP) (ap_ends_at_hyphen : AP) : TS :=
    (tSeq (tAsg (tOp (rEqG K) (tVar 1) (tCB (rLenV K) (tCons (tOp (rIx K) (tVar 0) (tC (.int 0))) tNil))) (gName 5))
    (tSeq (tIfS (tTest (tOp (rEqG K) (tFld K (tVar 4) "align") (tC (.str "both")))) (tAsg (tCall (toSp K ap_both_price) [] E0 (tCons (tVar 2) (tCons (tVar 3) (tCons (tVar 5) (tCons (tFld K (tVar 4) "loose") tNil))))) (gName 6)) (tAsg (tCall (toSp K ap_left_price) [] E0 (tCons (tVar 2) (tCons (tVar 3) (tCons (tVar 5) tNil)))) (gName 6)))
    (tSeq (tIfS (tAnd (tB (tNotN (tVar 6))) (tB (tCall (toSp K ap_ends_at_hyphen) [] E0 (tCons (tVar 0) (tCons (tVar 1) tNil))))) (tRet (tOp (rAddG K) (tVar 6) (tFld K (tVar 4) "hyphen"))) tNext)
    (tRet (tVar 6)))))
def tq_line_price (K : PySem.W.Frag) (ap_price_with_glue : AP) (ap_room_of : AP) (ap_line_glue : AP) : TS :=
    (tRet (tCall (toSp K ap_price_with_glue) [] E0 (tCons (tVar 0) (tCons (tVar 2) (tCons (tCall (toSp K ap_line_glue) [] E0 (tCons (tVar 0) (tCons (tVar 1) (tCons (tVar 2) tNil)))) (tCons (tCall (toSp K ap_room_of) [] E0 (tCons (tVar 1) (tCons (tVar 3) tNil))) (tCons (tVar 3) tNil)))))))
def tq_glue (K : PySem.W.Frag) : TS :=
    (tSeq (tAsg (tCB (rSumG K) (tCons (tSl (rSlG K) (tOp (rIx K) (tVar 0) (tC (.int 0))) (tPart (tVar 1)) (tPart (tVar 2))) tNil)) (gName 3))
    (tSeq (tAsg (tC (.int 0)) (gName 4))
    (tSeq (tAsg (tC (.int 0)) (gName 5))
    (tSeq (tFor (iRng2 (tCons (tVar 1) (tCons (tOp rSubI (tVar 2) (tC (.int 1))) tNil))) (gName 6) (tSeq (tAsg (tOp (rIx K) (tOp (rIx K) (tVar 0) (tC (.int 1))) (tVar 6)) (gName 7))
    (tIfS (tTest (tOp (rEqG K) (tOp (rIx K) (tVar 7) (tC (.int 0))) (tC (.str "gap")))) (tSeq (tAsg (tOp (rAddG K) (tVar 3) (tOp (rIx K) (tVar 7) (tC (.int 1)))) (gName 3))
    (tSeq (tAsg (tOp (rAddG K) (tVar 4) (tOp (rIx K) (tVar 7) (tC (.int 2)))) (gName 4))
    (tAsg (tOp (rAddG K) (tVar 5) (tOp (rIx K) (tVar 7) (tC (.int 3)))) (gName 5)))) (tAsg (tOp rSubI (tVar 3) (tOp (rIx K) (tVar 7) (tC (.int 2)))) (gName 3)))))
    (tSeq (tIfS (tAnd (tTest (tOp (rLtG K) (tVar 2) (tCB (rLenV K) (tCons (tOp (rIx K) (tVar 0) (tC (.int 0))) tNil)))) (tTest (tOp (rEqG K) (tOp (rIx K) (tOp (rIx K) (tOp (rIx K) (tVar 0) (tC (.int 1))) (tOp rSubI (tVar 2) (tC (.int 1)))) (tC (.int 0))) (tC (.str "hyphen"))))) (tAsg (tOp (rAddG K) (tVar 3) (tOp (rIx K) (tOp (rIx K) (tOp (rIx K) (tVar 0) (tC (.int 1))) (tOp rSubI (tVar 2) (tC (.int 1)))) (tC (.int 1)))) (gName 3)) tNext)
    (tRet (tLst (tCons (tVar 3) (tCons (tVar 4) (tCons (tVar 5) tNil))))))))))
def tq_line_key (K : PySem.W.Frag) (ap__law_take : AP) (ap__law_glue : AP) : TS :=
    (tSeq (tAsg (tLc (iTup K (tOp (rIx K) (tVar 1) (tC (.int 1)))) (gName 15) (tTest (tOp (rEqG K) (tOp (rIx K) (tVar 15) (tC (.int 0))) (tC (.str "gap")))) (tOp (rIx K) (tVar 15) (tC (.int 1))) [15]) (gName 2))
    (tSeq (tAsg (tOp (rAddG K) (tCB (rSumG K) (tCons (tOp (rIx K) (tVar 1) (tC (.int 0))) tNil)) (tCB (rSumG K) (tCons (tVar 2) tNil))) (gName 3))
    (tSeq (tAsg (tCall (toSp K ap__law_take) [] E0 (tCons (tVar 0) (tCons (tC (.int 8)) tNil))) (gName 4))
    (tSeq (tAsg (tOp (rAddG K) (tC (.int 5)) (tCall (toSp K ap__law_take) [] E0 (tCons (tVar 0) (tCons (tC (.int 150)) tNil)))) (gName 5))
    (tSeq (tIfS (tTest (tOp (rInG K) (tVar 4) (tLst (tCons (tC (.int 2)) (tCons (tC (.int 4)) (tCons (tC (.int 5)) (tCons (tC (.int 6)) tNil))))))) (tAsg (tOp (rAddG K) (tOp rDivI (tVar 3) (tVar 4)) (tCall (toSp K ap__law_take) [] E0 (tCons (tVar 0) (tCons (tC (.int 24)) tNil)))) (gName 5)) tNext)
    (tSeq (tIfS (tAnd (tTest (tOp (rInG K) (tVar 4) (tLst (tCons (tC (.int 1)) (tCons (tC (.int 3)) tNil))))) (tTest (tOp rGtI (tCB (rLenV K) (tCons (tOp (rIx K) (tVar 1) (tC (.int 0))) tNil)) (tC (.int 0))))) (tSeq (tAsg (tCall (toSp K ap__law_take) [] E0 (tCons (tVar 0) (tCons (tCB (rLenV K) (tCons (tOp (rIx K) (tVar 1) (tC (.int 0))) tNil)) tNil))) (gName 6))
    (tSeq (tAsg (tOp (rAddG K) (tOp (rAddG K) (tVar 6) (tC (.int 1))) (tCall (toSp K ap__law_take) [] E0 (tCons (tVar 0) (tCons (tOp rSubI (tCB (rLenV K) (tCons (tOp (rIx K) (tVar 1) (tC (.int 0))) tNil)) (tVar 6)) tNil)))) (gName 7))
    (tAsg (tOp (rIx K) (tCall (toSp K ap__law_glue) [] E0 (tCons (tVar 1) (tCons (tVar 6) (tCons (tVar 7) tNil)))) (tC (.int 0))) (gName 5)))) tNext)
    (tSeq (tIfS (tTest (tOp (rEqG K) (tVar 4) (tC (.int 7)))) (tAsg (tOp (rAddG K) (tC (.int 1)) (tCall (toSp K ap__law_take) [] E0 (tCons (tVar 0) (tCons (tC (.int 10500)) tNil)))) (gName 5)) tNext)
    (tSeq (tAsg (tOp (rIx K) (tLst (tCons (tC (.int 1)) (tCons (tC (.int 1)) (tCons (tC (.int 12)) (tCons (tC (.int 100)) tNil))))) (tCall (toSp K ap__law_take) [] E0 (tCons (tVar 0) (tCons (tC (.int 4)) tNil)))) (gName 8))
    (tSeq (tAsg (tCall (toSp K ap__law_take) [] E0 (tCons (tVar 0) (tCons (tVar 8) tNil))) (gName 9))
    (tSeq (tAsg (tOp (rIx K) (tLst (tCons (tC (.str "both")) (tCons (tC (.str "both")) (tCons (tC (.str "left")) tNil)))) (tCall (toSp K ap__law_take) [] E0 (tCons (tVar 0) (tCons (tC (.int 3)) tNil)))) (gName 10))
    (tSeq (tAsg (tOp (rMulG K) (tC (.int 25)) (tCall (toSp K ap__law_take) [] E0 (tCons (tVar 0) (tCons (tC (.int 4)) tNil)))) (gName 11))
    (tSeq (tAsg (tOp (rMulG K) (tC (.int 50)) (tCall (toSp K ap__law_take) [] E0 (tCons (tVar 0) (tCons (tC (.int 4)) tNil)))) (gName 12))
    (tSeq (tIfS (tTest (tOp (rEqG K) (tCall (toSp K ap__law_take) [] E0 (tCons (tVar 0) (tCons (tC (.int 8)) tNil))) (tC (.int 7)))) (tSeq (tAsg (tCall (toSp K ap__law_take) [] E0 (tCons (tVar 0) (tCons (tC (.int 10000)) tNil))) (gName 11))
    (tAsg (tCall (toSp K ap__law_take) [] E0 (tCons (tVar 0) (tCons (tC (.int 10000)) tNil))) (gName 12))) tNext)
    (tSeq (tAsg (tCall (toSp K ap__law_take) [] E0 (tCons (tVar 0) (tCons (tC (.int 4)) tNil))) (gName 13))
    (tSeq (tAsg (tCall (toSp K ap__law_take) [] E0 (tCons (tVar 0) (tCons (tC (.int 4)) tNil))) (gName 14))
    (tSeq (tIfS (tTest (tOp (rEqG K) (tCall (toSp K ap__law_take) [] E0 (tCons (tVar 0) (tCons (tC (.int 8)) tNil))) (tC (.int 7)))) (tSeq (tAsg (tCall (toSp K ap__law_take) [] E0 (tCons (tVar 0) (tCons (tC (.int 10)) tNil))) (gName 13))
    (tAsg (tCall (toSp K ap__law_take) [] E0 (tCons (tVar 0) (tCons (tC (.int 10)) tNil))) (gName 14))) tNext)
    (tSeq (tIfS (tAnd (tTest (tOp rGtI (tCB (rLenV K) (tCons (tOp (rIx K) (tVar 1) (tC (.int 0))) tNil)) (tC (.int 12)))) (tTest (tOp rGtI (tCall (toSp K ap__law_take) [] E0 (tCons (tVar 0) (tCons (tC (.int 8)) tNil))) (tC (.int 0))))) (tAsg (tC (.int 0)) (gName 13)) tNext)
    (tRet (tTup (tCons (tCB rMn2 (tCons (tC (.int 10500)) (tCons (tCB rMx2 (tCons (tC (.int 1)) (tCons (tVar 5) tNil))) tNil))) (tCons (tVar 9) (tCons (tVar 10) (tCons (tVar 11) (tCons (tVar 12) (tCons (tVar 13) (tCons (tVar 14) tNil))))))))))))))))))))))))))
def tq_measure (K : PySem.W.Frag) (c_Measure : Addr) (ai_Measure : AI) (ap_Measure_of : AP) : TS :=
    (tSeq (tIfS (tTest (tOp (rEqG K) (tVar 1) (tC (.int 1)))) (tRet (tMakeK c_Measure 1 6 (toSpI K c_Measure ai_Measure) (fun (vs zs : List V) => pick (0 :: upO ([0, 1, 2, 3, 4, 5, 6] : List Nat)) (vs ++ ([] : List V) ++ zs)) E0 (tCons (tOp (rIx K) (tVar 0) (tC (.int 0))) tNil) (tCons (tOp (rIx K) (tVar 0) (tC (.int 1))) (tCons (tOp (rIx K) (tVar 0) (tC (.int 2))) (tCons (tOp (rIx K) (tVar 0) (tC (.int 3))) (tCons (tOp (rIx K) (tVar 0) (tC (.int 4))) (tCons (tOp (rIx K) (tVar 0) (tC (.int 5))) (tCons (tOp (rIx K) (tVar 0) (tC (.int 6))) tNil)))))))) tNext)
    (tRet (tSMeth c_Measure (toSp K ap_Measure_of) E0 (tC (.ref c_Measure)) (tCons (tVar 0) tNil))))

abbrev fs_Measure (d0 d1 d2 d3 d4 d5 d6 : Dt) : List (Str × Dt) := [("width", d0), ("indent", d1), ("align", d2), ("hyphen", d3), ("twin", d4), ("river", d5), ("loose", d6)]
theorem lk_Measure_width {d0 d1 d2 d3 d4 d5 d6 : Dt} : List.lookup ("width" : Str) (fs_Measure d0 d1 d2 d3 d4 d5 d6) = some d0 := lk_hit
theorem ne_Measure_1_0 : ¬ (("indent" : Str) = "width") := by decide +kernel
theorem lk_Measure_indent {d0 d1 d2 d3 d4 d5 d6 : Dt} : List.lookup ("indent" : Str) (fs_Measure d0 d1 d2 d3 d4 d5 d6) = some d1 := (lk_miss ne_Measure_1_0).trans (lk_hit)
theorem ne_Measure_2_0 : ¬ (("align" : Str) = "width") := by decide +kernel
theorem ne_Measure_2_1 : ¬ (("align" : Str) = "indent") := by decide +kernel
theorem lk_Measure_align {d0 d1 d2 d3 d4 d5 d6 : Dt} : List.lookup ("align" : Str) (fs_Measure d0 d1 d2 d3 d4 d5 d6) = some d2 := (lk_miss ne_Measure_2_0).trans ((lk_miss ne_Measure_2_1).trans (lk_hit))
theorem ne_Measure_3_0 : ¬ (("hyphen" : Str) = "width") := by decide +kernel
theorem ne_Measure_3_1 : ¬ (("hyphen" : Str) = "indent") := by decide +kernel
theorem ne_Measure_3_2 : ¬ (("hyphen" : Str) = "align") := by decide +kernel
theorem lk_Measure_hyphen {d0 d1 d2 d3 d4 d5 d6 : Dt} : List.lookup ("hyphen" : Str) (fs_Measure d0 d1 d2 d3 d4 d5 d6) = some d3 := (lk_miss ne_Measure_3_0).trans ((lk_miss ne_Measure_3_1).trans ((lk_miss ne_Measure_3_2).trans (lk_hit)))
theorem ne_Measure_4_0 : ¬ (("twin" : Str) = "width") := by decide +kernel
theorem ne_Measure_4_1 : ¬ (("twin" : Str) = "indent") := by decide +kernel
theorem ne_Measure_4_2 : ¬ (("twin" : Str) = "align") := by decide +kernel
theorem ne_Measure_4_3 : ¬ (("twin" : Str) = "hyphen") := by decide +kernel
theorem lk_Measure_twin {d0 d1 d2 d3 d4 d5 d6 : Dt} : List.lookup ("twin" : Str) (fs_Measure d0 d1 d2 d3 d4 d5 d6) = some d4 := (lk_miss ne_Measure_4_0).trans ((lk_miss ne_Measure_4_1).trans ((lk_miss ne_Measure_4_2).trans ((lk_miss ne_Measure_4_3).trans (lk_hit))))
theorem ne_Measure_5_0 : ¬ (("river" : Str) = "width") := by decide +kernel
theorem ne_Measure_5_1 : ¬ (("river" : Str) = "indent") := by decide +kernel
theorem ne_Measure_5_2 : ¬ (("river" : Str) = "align") := by decide +kernel
theorem ne_Measure_5_3 : ¬ (("river" : Str) = "hyphen") := by decide +kernel
theorem ne_Measure_5_4 : ¬ (("river" : Str) = "twin") := by decide +kernel
theorem lk_Measure_river {d0 d1 d2 d3 d4 d5 d6 : Dt} : List.lookup ("river" : Str) (fs_Measure d0 d1 d2 d3 d4 d5 d6) = some d5 := (lk_miss ne_Measure_5_0).trans ((lk_miss ne_Measure_5_1).trans ((lk_miss ne_Measure_5_2).trans ((lk_miss ne_Measure_5_3).trans ((lk_miss ne_Measure_5_4).trans (lk_hit)))))
theorem ne_Measure_6_0 : ¬ (("loose" : Str) = "width") := by decide +kernel
theorem ne_Measure_6_1 : ¬ (("loose" : Str) = "indent") := by decide +kernel
theorem ne_Measure_6_2 : ¬ (("loose" : Str) = "align") := by decide +kernel
theorem ne_Measure_6_3 : ¬ (("loose" : Str) = "hyphen") := by decide +kernel
theorem ne_Measure_6_4 : ¬ (("loose" : Str) = "twin") := by decide +kernel
theorem ne_Measure_6_5 : ¬ (("loose" : Str) = "river") := by decide +kernel
theorem lk_Measure_loose {d0 d1 d2 d3 d4 d5 d6 : Dt} : List.lookup ("loose" : Str) (fs_Measure d0 d1 d2 d3 d4 d5 d6) = some d6 := (lk_miss ne_Measure_6_0).trans ((lk_miss ne_Measure_6_1).trans ((lk_miss ne_Measure_6_2).trans ((lk_miss ne_Measure_6_3).trans ((lk_miss ne_Measure_6_4).trans ((lk_miss ne_Measure_6_5).trans (lk_hit))))))
theorem lk_Measure_no_of {d0 d1 d2 d3 d4 d5 d6 : Dt} : List.lookup ("of" : Str) (fs_Measure d0 d1 d2 d3 d4 d5 d6) = none := (lk_miss (by decide +kernel)).trans ((lk_miss (by decide +kernel)).trans ((lk_miss (by decide +kernel)).trans ((lk_miss (by decide +kernel)).trans ((lk_miss (by decide +kernel)).trans ((lk_miss (by decide +kernel)).trans ((lk_miss (by decide +kernel)).trans (rfl)))))))
def ai_Measure : AI := fun ds Post => ∃ e0 e1 e2 e3 e4 e5 e6, ds = [e0, e1, e2, e3, e4, e5, e6] ∧ Post [("width", e0), ("indent", e1), ("align", e2), ("hyphen", e3), ("twin", e4), ("river", e5), ("loose", e6)]
theorem sum_cut (ws : List Int) (s : Nat) : ∀ n, s + n ≤ ws.length → ((ws.drop s).take n).sum = Lin.sumTo n (fun k => ws.getD (s + k) 0)
  | 0, _ => by simp [Lin.sumTo]
  | n + 1, h => by
    have hx : (ws.drop s)[n]? = some (ws.getD (s + n) 0) := by
      rw [List.getElem?_drop, List.getD_eq_getElem?_getD, List.getElem?_eq_getElem (by omega)]; rfl
    rw [List.take_add_one, hx, List.sum_append, sum_cut ws s n (by omega)]
    simp [Lin.sumTo]
def ap_lglue : AP := fun as Post => ∃ (r : Row) (s e : Nat), as = [.val r.dt, .val (.int s), .val (.int e)] ∧ RowOk r ∧ s < e ∧ e ≤ r.ws.length ∧ Post (.new [.int (lineG r s e).w, .int (lineG r s e).s, .int (lineG r s e).h]) as
theorem sumTo_succ (n : Nat) (f : Nat → Int) : Lin.sumTo (n + 1) f = Lin.sumTo n f + f n := rfl
theorem sumTo_add (a : Nat) (f : Nat → Int) : ∀ b, Lin.sumTo (a + b) f = Lin.sumTo a f + Lin.sumTo b (fun k => f (a + k))
  | 0 => by simp [Lin.sumTo]
  | b + 1 => by
    rw [show a + (b + 1) = a + b + 1 by omega, sumTo_succ, sumTo_succ, sumTo_add a f b]
    omega
def hx (r : Row) (e : Nat) : Int := if r.hyE e = true then (r.J (e - 1)).hyW else 0
theorem fin_eq (r : Row) (g : G3) (e : Nat) : fin r g e = ⟨g.w + hx r e, g.s, g.h⟩ := by
  unfold fin hx
  split
  · simp [G3.add]
  · simp
theorem inn_pos {r : Row} (ok : RowOk r) (s : Nat) : ∀ n, s + n < r.ws.length → 0 < (inn r s n).w
  | 0, h => by
    have := (ok.w s (by omega)).1
    unfold inn
    simp only [Lin.sumTo, Nat.add_zero]
    omega
  | n + 1, h => by
    have ih := inn_pos ok s n (by omega)
    have hw := (ok.w (s + (n + 1)) h).1
    have hj := ok.j (s + n) (by have := ok.len; omega)
    unfold inn at ih ⊢
    simp only [sumTo_succ] at ih ⊢
    rw [show s + n + 1 = s + (n + 1) by omega] at hj
    cases q : r.J (s + n) with
    | hy a b => rw [q] at hj; have hg : (Jt.hy a b).g.w = -b := rfl
                obtain ⟨h1, h2, h3, h4, h5⟩ := hj; omega
    | gap w x y => rw [q] at hj; have hg : (Jt.gap w x y).g.w = w := rfl
                   obtain ⟨h1, h2, h3, h4, h5⟩ := hj; omega
theorem hx_nonneg {r : Row} (ok : RowOk r) {e : Nat} (he : 1 ≤ e) : 0 ≤ hx r e := by
  unfold hx Row.hyE
  split
  · rename_i h
    rw [Bool.and_eq_true] at h
    have h1 := of_decide_eq_true h.1
    have hj := ok.j (e - 1) (by have := ok.len; omega)
    cases q : r.J (e - 1) with
    | hy a b => rw [q] at hj; simp only [Jt.hyW]; have := hj.1; omega
    | gap w x y => simp [Jt.hyW]
  · omega
theorem line_pos {r : Row} (ok : RowOk r) {s e : Nat} (h : s < e) (he : e ≤ r.ws.length) : 0 < (lineG r s e).w := by
  unfold lineG
  rw [fin_eq]
  have := inn_pos ok s (e - s - 1) (by omega)
  have := hx_nonneg ok (e := e) (by omega)
  show 0 < (inn r s (e - s - 1)).w + hx r e
  omega

local macro_rules | `(tactic| walk_at "lk") => `(tactic| first | exact lk_Glue_width | exact lk_Glue_stretch | exact lk_Glue_shrink | exact lk_Glue_no___add__ | exact lk_Measure_width | exact lk_Measure_indent | exact lk_Measure_align | exact lk_Measure_hyphen | exact lk_Measure_twin | exact lk_Measure_river | exact lk_Measure_loose | exact lk_Measure_no_of | fail "lk")
/-! ### keys -/
structure Key where
  w : Int
  i : Int
  b : Bool
  hy : Int
  tw : Int
  ri : Int
  lo : Int
def alS (b : Bool) : Str := if b then "both" else "left"
abbrev Key.dt (k : Key) : Dt := .tup [.int k.w, .int k.i, .str (alS k.b), .int k.hy, .int k.tw, .int k.ri, .int k.lo]
abbrev Key.ob (c : Addr) (k : Key) : Dt := .obj c [("width", .int k.w), ("indent", .int k.i), ("align", .str (alS k.b)), ("hyphen", .int k.hy), ("twin", .int k.tw), ("river", .int k.ri), ("loose", .int k.lo)]
structure KeyOk (k : Key) : Prop where
  w1 : 1 ≤ k.w
  w2 : k.w ≤ 10500
  i1 : 0 ≤ k.i
  i2 : k.i < 100
  h1 : 0 ≤ k.hy
  h2 : k.hy < 10000
  t1 : 0 ≤ k.tw
  t2 : k.tw < 10000
  r1 : 0 ≤ k.ri
  r2 : k.ri < 10
  l1 : 0 ≤ k.lo
  l2 : k.lo < 10
structure MeasOk (K : PySem.W.Frag) (c : Addr) : Prop where
  co : ClsOk K c
  n0 : NoAttr K c "width"
  n1 : NoAttr K c "indent"
  n2 : NoAttr K c "align"
  n3 : NoAttr K c "hyphen"
  n4 : NoAttr K c "twin"
  n5 : NoAttr K c "river"
  n6 : NoAttr K c "loose"
def optD : Option Int → Dt
  | none => .non
  | some i => .int i
def roomOf (s : Nat) (k : Key) : Int := if s = 0 then k.w - k.i else k.w
def bothP (g : G3) (room : Int) (last : Bool) (lo : Int) : Option Int :=
  if room - g.w < 0 then (if g.h < -(room - g.w) then none else some (100 * (room - g.w) * (room - g.w) / (g.h * g.h)))
  else if room - g.w = 0 ∨ last = true then some 0
  else if lo * g.s < room - g.w then none else some (100 * (room - g.w) * (room - g.w) / (g.s * g.s))
def leftP (g : G3) (room : Int) (last : Bool) : Option Int :=
  if room - g.w < 0 then none else if last = true then some 0 else some (100 * (room - g.w) * (room - g.w) / (room * room))
def plainP (r : Row) (e : Nat) (g : G3) (room : Int) (k : Key) : Option Int := if k.b = true then bothP g room (decide (e = r.ws.length)) k.lo else leftP g room (decide (e = r.ws.length))
def priceG (r : Row) (e : Nat) (g : G3) (room : Int) (k : Key) : Option Int := match plainP r e g room k with
  | none => none
  | some p => some (if r.hyE e = true then p + k.hy else p)
def priceL (r : Row) (s e : Nat) (k : Key) : Option Int := priceG r e (lineG r s e) (roomOf s k) k
/-- glue within bounds -/
structure GB (g : G3) : Prop where
  w1 : 1 ≤ g.w
  w2 : g.w ≤ 1000000
  s1 : 0 ≤ g.s
  s2 : g.s ≤ 1000000
  h1 : 0 ≤ g.h
  h2 : g.h ≤ 1000000
theorem inn_bd {r : Row} (ok : RowOk r) (s : Nat) : ∀ n, s + n < r.ws.length → (inn r s n).w ≤ 5000 + 5500 * n ∧ 0 ≤ (inn r s n).s ∧ (inn r s n).s ≤ 500 * n ∧ 0 ≤ (inn r s n).h ∧ (inn r s n).h ≤ 500 * n
  | 0, h => by
    have := (ok.w s (by omega)).2
    unfold inn
    simp only [Lin.sumTo, Nat.add_zero]
    omega
  | n + 1, h => by
    have ih := inn_bd ok s n (by omega)
    have hw := (ok.w (s + (n + 1)) h).2
    have hj := ok.j (s + n) (by have := ok.len; omega)
    unfold inn at ih ⊢
    simp only [sumTo_succ] at ih ⊢
    cases q : r.J (s + n) with
    | hy a b => rw [q] at hj; have hg : (Jt.hy a b).g.w = -b := rfl
                have hs : (Jt.hy a b).g.s = 0 := rfl
                have hh : (Jt.hy a b).g.h = 0 := rfl
                obtain ⟨h1, h2, h3, h4, h5⟩ := hj; omega
    | gap w x y => rw [q] at hj; have hg : (Jt.gap w x y).g.w = w := rfl
                   have hs : (Jt.gap w x y).g.s = x := rfl
                   have hh : (Jt.gap w x y).g.h = y := rfl
                   obtain ⟨h1, h2, h3, h4, h5, h6⟩ := hj; omega
theorem hx_le {r : Row} (ok : RowOk r) {e : Nat} (he : 1 ≤ e) : hx r e ≤ 500 := by
  unfold hx Row.hyE
  split
  · rename_i h
    rw [Bool.and_eq_true] at h
    have h1 := of_decide_eq_true h.1
    have hj := ok.j (e - 1) (by have := ok.len; omega)
    cases q : r.J (e - 1) with
    | hy a b => rw [q] at hj; simp only [Jt.hyW]; have := hj.2.1; omega
    | gap w x y => simp [Jt.hyW]
  · omega
theorem line_bd {r : Row} (ok : RowOk r) {s e : Nat} (h : s < e) (he : e ≤ r.ws.length) : GB (lineG r s e) := by
  have h1 := line_pos ok h he
  have h2 := inn_bd ok s (e - s - 1) (by omega)
  have h3 := hx_le ok (e := e) (by omega)
  have on := ok.n
  unfold lineG at h1 ⊢
  rw [fin_eq] at h1 ⊢
  have h1 : 0 < (inn r s (e - s - 1)).w + hx r e := h1
  exact ⟨by show 1 ≤ (inn r s (e - s - 1)).w + hx r e; omega, by show (inn r s (e - s - 1)).w + hx r e ≤ 1000000; omega, by show 0 ≤ (inn r s (e - s - 1)).s; omega, by show (inn r s (e - s - 1)).s ≤ 1000000; omega, by show 0 ≤ (inn r s (e - s - 1)).h; omega, by show (inn r s (e - s - 1)).h ≤ 1000000; omega⟩
theorem sq_pos {x : Int} (h1 : 1 ≤ x) (h2 : x ≤ 1000000) : 0 < x * x ∧ x * x ≤ 1000000000000 := by
  have a : 1 * 1 ≤ x * x := Int.mul_le_mul h1 h1 (by omega) (by omega)
  have b : x * x ≤ 1000000 * 1000000 := Int.mul_le_mul h2 h2 (by omega) (by omega)
  omega
def ap_mof (c : Addr) : AP := fun as Post => ∃ k : Key, as = [.val k.dt] ∧ Post (.val (k.ob c)) as
def ap_room (c : Addr) : AP := fun as Post => ∃ (s : Nat) (k : Key), as = [.val (.int s), .val (k.ob c)] ∧ Post (.val (.int (roomOf s k))) as
def ap_both (c : Addr) : AP := fun as Post => ∃ (g : G3) (room : Int) (last : Bool) (lo : Int), as = [.val (gD c g), .val (.int room), .val (.bl last), .val (.int lo)] ∧ GB g ∧ -1000000 ≤ room ∧ room ≤ 1000000 ∧ 0 ≤ lo ∧ lo ≤ 100 ∧ Post (.val (optD (bothP g room last lo))) as
def ap_left (c : Addr) : AP := fun as Post => ∃ (g : G3) (room : Int) (last : Bool), as = [.val (gD c g), .val (.int room), .val (.bl last)] ∧ GB g ∧ -1000000 ≤ room ∧ room ≤ 1000000 ∧ Post (.val (optD (leftP g room last))) as
def ap_pwg (c m : Addr) : AP := fun as Post => ∃ (r : Row) (e : Nat) (g : G3) (room : Int) (k : Key), as = [.val r.dt, .val (.int e), .val (gD c g), .val (.int room), .val (k.ob m)] ∧ RowOk r ∧ 1 ≤ e ∧ GB g ∧ -1000000 ≤ room ∧ room ≤ 1000000 ∧ 0 ≤ k.lo ∧ k.lo ≤ 100 ∧ Post (.val (optD (priceG r e g room k))) as
def ap_lprice (m : Addr) : AP := fun as Post => ∃ (r : Row) (s e : Nat) (k : Key), as = [.val r.dt, .val (.int s), .val (.int e), .val (k.ob m)] ∧ RowOk r ∧ s < e ∧ e ≤ r.ws.length ∧ -10000 ≤ k.w ∧ k.w ≤ 100000 ∧ 0 ≤ k.i ∧ k.i ≤ 100000 ∧ 0 ≤ k.lo ∧ k.lo ≤ 100 ∧ Post (.val (optD (priceL r s e k))) as
def ap_lkey : AP := fun as Post => ∃ (ds : List Dt) (r : Row), as = [.acc ds, .val r.dt] ∧ PoolUp 10000 ds ∧ RowOk r ∧ ∀ ds' (k : Key), KeyOk k → PoolUp 10100 ds' → Post (.val k.dt) [.acc ds', .val r.dt]
def ap_meas (m : Addr) : AP := fun as Post => ∃ (k : Key) (n : Int), as = [.val k.dt, .val (.int n)] ∧ Post (.val (k.ob m)) as
section
variable {K : PySem.W.Frag} {c m : Addr}
theorem run_lglue : RunOk K [] (tq_glue K) 8 ap_lglue := by
  rintro as Post ⟨r, s, e, rfl, ok, hs, he, k⟩
  unfold tq_glue
  show WS K [] _ [.val r.dt, .val (.int s), .val (.int e), .un, .un, .un, .un, .un] _
  have ol := ok.len
  have on := ok.n
  refine ws_seq ?_
  walk_at "xs"
  refine slp_t ?_
  rw [cut_mid (by omega) he]
  walk_at "xs"
  refine .a ⟨(r.ws.drop s).take (e - s), rfl, ?_⟩
  rw [sum_cut _ _ _ (by omega)]
  walk_at "es"
  refine for_range2 (s : Int) ((e : Int) - 1) (fun i G => ∃ s6 s7, G = [.val r.dt, .val (.int s), .val (.int e), .val (.int (sumTo (e - s) (fun k => r.ws.getD (s + k) 0) + sumTo i (fun k => (r.J (s + k)).g.w))), .val (.int (sumTo i (fun k => (r.J (s + k)).g.s))), .val (.int (sumTo i (fun k => (r.J (s + k)).g.h))), s6, s7]) ?_ ?_ ?_
  · walk_at "es"
    refine .a ⟨rfl, ⟨by omega, by omega, by omega, by omega⟩, .un, .un, ?_⟩
    simp only [Lin.sumTo, Int.add_zero]
  · rintro i G hi ⟨s6, s7, rfl⟩
    have hj := at_J (r := r) (k := s + i) (i := (s : Int) + i) (by omega) (by omega)
    cases q : r.J (s + i) with
    | hy a b =>
      rw [q] at hj
      unfold Jt.dt at hj
      walk_at "es"
      refine .a ⟨.val (.int ((s : Int) + i)), .val (Jt.hy a b).dt, ?_⟩
      simp only [Lin.sumTo, q, Jt.g, Int.add_zero, Jt.dt]
      rw [show ∀ x y z : Int, x + (y + -z) = x + y - z by intros; omega]
    | gap x y z =>
      rw [q] at hj
      unfold Jt.dt at hj
      walk_at "es"
      refine .a ⟨.val (.int ((s : Int) + i)), .val (Jt.gap x y z).dt, ?_⟩
      simp only [Lin.sumTo, q, Jt.g, Jt.dt, Int.add_assoc]
  · rintro G ⟨s6, s7, rfl⟩
    rw [show ((e : Int) - 1 - (s : Int)).toNat = e - s - 1 by omega]
    have hl : ((r.ws.map Dt.int).length : Int) = r.ws.length := by rw [List.length_map]
    have hw : sumTo (e - s) (fun k => r.ws.getD (s + k) 0) = sumTo (e - s - 1 + 1) (fun k => r.W (s + k)) := by rw [show e - s - 1 + 1 = e - s by omega]; rfl
    rw [hw]
    unfold lineG fin Row.hyE at k
    by_cases hlt : (e : Int) < r.ws.length
    · have hj := at_J (r := r) (k := e - 1) (i := (e : Int) - 1) (by omega) (by omega)
      rw [decide_eq_true (show e < r.ws.length by omega), Bool.true_and] at k
      cases q : r.J (e - 1) with
      | hy a b =>
        rw [q] at hj k
        unfold Jt.dt at hj
        walk_at "es"
        simp [Jt.isHy, inn, G3.add, Jt.hyW] at k
        exact k
      | gap x y z =>
        rw [q] at hj k
        unfold Jt.dt at hj
        walk_at "es"
        simp [Jt.isHy, inn, G3.add, Jt.hyW] at k
        exact k
    · rw [decide_eq_false (show ¬ e < r.ws.length by omega), Bool.false_and] at k
      walk_at "es"
      simp [inn] at k
      exact k

theorem run_mof : RunOk K [] (tq_Measure_of K m ai_Measure) 8 (ap_mof m) := by
  rintro as Post ⟨k, rfl, p⟩
  unfold tq_Measure_of
  show WS K [] _ [.val k.dt, .un, .un, .un, .un, .un, .un, .un] _
  walk_at "es"
  refine .a ⟨_, _, _, _, _, _, _, rfl, ?_⟩
  walk_at "es"
  exact p
theorem run_meas : RunOk K [] (tq_measure K m ai_Measure (ap_mof m)) 2 (ap_meas m) := by
  rintro as Post ⟨k, n, rfl, p⟩
  unfold tq_measure
  show WS K [] _ [.val k.dt, .val (.int n)] _
  walk_at "es"
  refine ⟨fun _ => ?_, fun _ => ?_⟩
  · walk_at "es"
    refine .a ⟨_, _, _, _, _, _, _, rfl, ?_⟩
    walk_at "es"
    exact p
  · walk_at "es"
    refine .a ⟨k, rfl, ?_⟩
    walk_at "es"
    exact p
theorem run_room (go : MeasOk K m) : RunOk K [] (tq_room_of K) 2 (ap_room m) := by
  rintro as Post ⟨s, k, rfl, p⟩
  have cl := go.co.cl; have n0 := go.n0; have n1 := go.n1
  unfold tq_room_of
  show WS K [] _ [.val (.int s), .val (k.ob m)] _
  unfold roomOf at p
  by_cases hs : s = 0
  · rw [if_pos hs] at p
    walk_at "es"
    exact p
  · rw [if_neg hs] at p
    walk_at "es"
    exact p
theorem run_both (go : GlueOk K c) : RunOk K [] (tq_both_price K) 5 (ap_both c) := by
  rintro as Post ⟨g, room, last, lo, rfl, gb, r1, r2, l1, l2, p⟩
  obtain ⟨w1, w2, s1, s2, h1, h2⟩ := gb
  have cl := go.co.cl; have n1 := go.n1; have n2 := go.n2; have n3 := go.n3
  unfold tq_both_price
  show WS K [] _ [.val (gD c g), .val (.int room), .val (.bl last), .val (.int lo), .un] _
  unfold bothP at p
  by_cases c1 : room - g.w < 0
  · rw [if_pos c1] at p
    by_cases c2 : g.h < -(room - g.w)
    · rw [if_pos c2] at p
      walk_at "es"
      exact p
    · rw [if_neg c2] at p
      have sq := sq_pos (x := g.h) (by omega) h2
      walk_at "es"
      exact p
  · rw [if_neg c1] at p
    by_cases c2 : room - g.w = 0
    · rw [if_pos (.inl c2)] at p
      walk_at "es"
      exact p
    · cases last with
      | true =>
        rw [if_pos (.inr rfl)] at p
        walk_at "es"
        exact p
      | false =>
        rw [if_neg (fun z => z.elim c2 Bool.noConfusion)] at p
        by_cases c3 : lo * g.s < room - g.w
        · rw [if_pos c3] at p
          walk_at "es"
          exact p
        · rw [if_neg c3] at p
          have hs : 1 ≤ g.s := by
            by_cases hz : g.s = 0
            · rw [hz, Int.mul_zero] at c3; omega
            · omega
          have sq := sq_pos (x := g.s) hs s2
          walk_at "es"
          exact p
theorem run_left (go : GlueOk K c) : RunOk K [] (tq_left_price K) 4 (ap_left c) := by
  rintro as Post ⟨g, room, last, rfl, gb, r1, r2, p⟩
  obtain ⟨w1, w2, s1, s2, h1, h2⟩ := gb
  have cl := go.co.cl; have n1 := go.n1; have n2 := go.n2; have n3 := go.n3
  unfold tq_left_price
  show WS K [] _ [.val (gD c g), .val (.int room), .val (.bl last), .un] _
  unfold leftP at p
  by_cases c1 : room - g.w < 0
  · rw [if_pos c1] at p
    walk_at "es"
    exact p
  · rw [if_neg c1] at p
    cases last with
    | true =>
      rw [if_pos rfl] at p
      walk_at "es"
      exact p
    | false =>
      rw [if_neg Bool.false_ne_true] at p
      have sq := sq_pos (x := room) (by omega) r2
      walk_at "es"
      exact p
theorem run_pwg (go : MeasOk K m) : RunOk K [] (tq_price_with_glue K (ap_both c) (ap_left c) ap_ends) 7 (ap_pwg c m) := by
  rintro as Post ⟨r, e, g, room, k, rfl, ok, he, gb, r1, r2, l1, l2, p⟩
  have cl := go.co.cl; have n2 := go.n2; have n3 := go.n3; have n6 := go.n6
  have hl : ((r.ws.map Dt.int).length : Int) = r.ws.length := by rw [List.length_map]
  unfold tq_price_with_glue
  show WS K [] _ [.val r.dt, .val (.int e), .val (gD c g), .val (.int room), .val (k.ob m), .un, .un] _
  refine ws_seq ?_
  walk_at "xs"
  rw [hl, show decide ((e : Int) = r.ws.length) = decide (e = r.ws.length) by by_cases h : e = r.ws.length <;> simp [h, Int.ofNat_inj]]
  refine ws_cut (fun G => G = [.val r.dt, .val (.int e), .val (gD c g), .val (.int room), .val (k.ob m), .val (.bl (decide (e = r.ws.length))), .val (optD (plainP r e g room k))]) ?_ ?_
  · unfold plainP
    obtain ⟨kw, ki, kb, kh, kt, kr, kl⟩ := k
    cases kb with
    | true =>
      rw [if_pos rfl]
      show WS K [] _ [.val r.dt, .val (.int e), .val (gD c g), .val (.int room), .val (.obj m [("width", .int kw), ("indent", .int ki), ("align", .str "both"), ("hyphen", .int kh), ("twin", .int kt), ("river", .int kr), ("loose", .int kl)]), .val (.bl (decide (e = r.ws.length))), .un] _
      walk_at "es"
      refine .a ⟨g, room, _, kl, rfl, gb, r1, r2, l1, l2, ?_⟩
      walk_at "es"
      exact .a rfl
    | false =>
      rw [if_neg Bool.false_ne_true]
      show WS K [] _ [.val r.dt, .val (.int e), .val (gD c g), .val (.int room), .val (.obj m [("width", .int kw), ("indent", .int ki), ("align", .str "left"), ("hyphen", .int kh), ("twin", .int kt), ("river", .int kr), ("loose", .int kl)]), .val (.bl (decide (e = r.ws.length))), .un] _
      walk_at "es"
      refine .a ⟨g, room, _, rfl, gb, r1, r2, ?_⟩
      walk_at "es"
      exact .a rfl
  · rintro G rfl
    unfold priceG at p
    cases q : plainP r e g room k with
    | none =>
      rw [q] at p
      show WS K [] _ [.val r.dt, .val (.int e), .val (gD c g), .val (.int room), .val (k.ob m), .val (.bl (decide (e = r.ws.length))), .val .non] _
      walk_at "es"
      exact p
    | some v =>
      rw [q] at p
      dsimp only at p
      show WS K [] _ [.val r.dt, .val (.int e), .val (gD c g), .val (.int room), .val (k.ob m), .val (.bl (decide (e = r.ws.length))), .val (.int v)] _
      walk_at "es"
      refine .a ⟨r, e, rfl, ok, he, ?_⟩
      walk_at "es"
      refine ⟨fun h => ?_, fun h => ?_⟩
      · rw [if_pos h] at p
        walk_at "es"
        exact p
      · rw [if_neg (by rw [h]; exact Bool.false_ne_true)] at p
        walk_at "es"
        exact p
theorem run_lprice : RunOk K [] (tq_line_price K (ap_pwg c m) (ap_room m) (ap_line c)) 4 (ap_lprice m) := by
  rintro as Post ⟨r, s, e, k, rfl, ok, hs, he, w1, w2, i1, i2, l1, l2, p⟩
  unfold tq_line_price
  show WS K [] _ [.val r.dt, .val (.int s), .val (.int e), .val (k.ob m)] _
  walk_at "es"
  refine .a ⟨r, s, e, rfl, ok, hs, he, ?_⟩
  walk_at "es"
  refine .a ⟨s, k, rfl, ?_⟩
  walk_at "es"
  have hr : -1000000 ≤ roomOf s k ∧ roomOf s k ≤ 1000000 := by unfold roomOf; split <;> omega
  refine .a ⟨r, e, lineG r s e, roomOf s k, k, rfl, ok, by omega, line_bd ok hs he, hr.1, hr.2, l1, l2, ?_⟩
  walk_at "es"
  exact p
theorem run_lkey : RunOk K [0] (tq_line_key K ap_take ap_lglue) 16 ap_lkey := by
  rintro as Post ⟨ds, r, rfl, h0, ok, k⟩
  have ol := ok.len
  have on := ok.n
  have hl : ((r.ws.map Dt.int).length : Int) = r.ws.length := by rw [List.length_map]
  unfold tq_line_key
  show WS K [0] _ [.acc ds, .val r.dt, .un, .un, .un, .un, .un, .un, .un, .un, .un, .un, .un, .un, .un, .un] _
  refine ws_seq ?_
  walk_at "xs"
  refine lc_tuple (r.js.map Jt.dt) (fun i es G => ∃ gs : List Int, gs.length ≤ i ∧ es = gs.map Dt.int ∧ G = [.acc ds, .val r.dt, .un, .un, .un, .un, .un, .un, .un, .un, .un, .un, .un, .un, .un, .un]) ?_ ?_ ?_
  · walk_at "xs"
    exact .a ⟨rfl, by rw [List.length_map]; omega, rfl, rfl, rfl, [], Nat.le_refl _, rfl, rfl⟩
  · rintro i d es G hd ⟨gs, gl, rfl, rfl⟩
    rw [List.getElem?_map] at hd
    obtain ⟨j, hj, rfl⟩ := Option.map_eq_some_iff.mp hd
    cases j with
    | hy a b =>
      show WT K _ [.acc ds, .val r.dt, .un, .un, .un, .un, .un, .un, .un, .un, .un, .un, .un, .un, .un, .val (.tup [.str "hyphen", .int a, .int b])] _
      walk_at "xs"
      exact .a ⟨gs, by omega, rfl, rfl⟩
    | gap x y z =>
      show WT K _ [.acc ds, .val r.dt, .un, .un, .un, .un, .un, .un, .un, .un, .un, .un, .un, .un, .un, .val (.tup [.str "gap", .int x, .int y, .int z])] _
      walk_at "xs"
      exact .a ⟨gs ++ [x], by rw [List.length_append]; simp; omega, by rw [List.map_append]; rfl, rfl⟩
  · rintro es G ⟨gs, gl, rfl, rfl⟩
    walk_at "xs"
    refine ws_seq ?_
    walk_at "xs"
    refine .a ⟨r.ws, rfl, ?_⟩
    walk_at "xs"
    refine .a ⟨gs, rfl, ?_⟩
    walk_at "xs"
    generalize r.ws.sum + gs.sum = whole
    refine ws_seq ?_
    walk_at "xs"
    walk_at "tk"
    rename_i d1 g1 h1 g10 g11
    walk_at "xs"
    refine ws_seq ?_
    walk_at "xs"
    walk_at "tk"
    rename_i d2 g2 h2 g20 g21
    walk_at "xs"
    refine ws_cut (fun G => ∃ (d3 : List Dt) (w : Int), PoolUp 10010 d3 ∧ G = [.acc d3, .val r.dt, .acc (gs.map Dt.int), .val (.int whole), .val (.int g1), .val (.int w), .un, .un, .un, .un, .un, .un, .un, .un, .un, .un]) ?_ ?_
    · walk_at "es"
      refine inI (ns := [2, 4, 5, 6]) rfl ?_
      walk_at "es"
      refine ⟨fun h => ?_, fun h => ?_⟩
      · have hm := of_decide_eq_true h
        simp only [List.mem_cons, List.mem_nil_iff, or_false, List.not_mem_nil] at hm
        walk_at "es"
        walk_at "tk"
        rename_i d3 g3 h3 g30 g31
        walk_at "es"
        exact .a ⟨d3, _, h3.mono (by omega), rfl⟩
      · walk_at "es"
        exact .a ⟨d2, _, h2.mono (by omega), rfl⟩
    · rintro G ⟨d3, w3, h3, rfl⟩
      refine ws_cut (fun G => ∃ (d4 : List Dt) (w : Int) (s6 s7 : Sl), PoolUp 10020 d4 ∧ G = [.acc d4, .val r.dt, .acc (gs.map Dt.int), .val (.int whole), .val (.int g1), .val (.int w), s6, s7, .un, .un, .un, .un, .un, .un, .un, .un]) ?_ ?_
      · walk_at "es"
        refine inI (ns := [1, 3]) rfl ?_
        walk_at "es"
        refine ⟨fun h => ?_, fun h => ?_⟩
        · walk_at "es"
          rw [hl]
          walk_at "tk"
          rename_i d4 g4 h4 g40 g41
          obtain ⟨s, rfl⟩ : ∃ s : Nat, g4 = s := ⟨g4.toNat, by omega⟩
          walk_at "xs"
          refine ws_seq ?_
          walk_at "xs"
          rw [hl]
          walk_at "tk"
          rename_i d5 g5 h5 g50 g51
          obtain ⟨q, rfl⟩ : ∃ q : Nat, g5 = q := ⟨g5.toNat, by omega⟩
          walk_at "xs"
          rw [show (s : Int) + 1 + q = ((s + 1 + q : Nat) : Int) by omega]
          walk_at "xs"
          refine .a ⟨r, s, s + 1 + q, rfl, ok, by omega, by omega, ?_⟩
          walk_at "xs"
          exact .a ⟨d5, _, _, _, h5.mono (by omega), rfl⟩
        · walk_at "es"
          exact .a ⟨d3, _, _, _, h3.mono (by omega), rfl⟩
      · rintro G ⟨d4, w4, s6, s7, h4, rfl⟩
        refine ws_cut (fun G => ∃ (d5 : List Dt) (w : Int), PoolUp 10021 d5 ∧ G = [.acc d5, .val r.dt, .acc (gs.map Dt.int), .val (.int whole), .val (.int g1), .val (.int w), s6, s7, .un, .un, .un, .un, .un, .un, .un, .un]) ?_ ?_
        · walk_at "es"
          refine ⟨fun h => ?_, fun h => ?_⟩
          · walk_at "es"
            walk_at "tk"
            rename_i d5 g5 h5 g50 g51
            walk_at "es"
            exact .a ⟨d5, _, h5.mono (by omega), rfl⟩
          · walk_at "es"
            exact .a ⟨d4, _, h4.mono (by omega), rfl⟩
        · rintro G ⟨d5, w5, h5, rfl⟩
          refine ws_seq ?_
          walk_at "xs"
          walk_at "tk"
          rename_i d6 g6 h6 g60 g61
          obtain ⟨u6, hu6, u61, u62⟩ : ∃ u : Int, atI [Dt.int 1, Dt.int 1, Dt.int 12, Dt.int 100] g6 = some (.int u) ∧ 1 ≤ u ∧ u ≤ 100 := by
            rcases (show g6 = 0 ∨ g6 = 1 ∨ g6 = 2 ∨ g6 = 3 by omega) with rfl | rfl | rfl | rfl
            · exact ⟨1, rfl, by omega, by omega⟩
            · exact ⟨1, rfl, by omega, by omega⟩
            · exact ⟨12, rfl, by omega, by omega⟩
            · exact ⟨100, rfl, by omega, by omega⟩
          walk_at "xs"
          refine ws_seq ?_
          walk_at "xs"
          walk_at "tk"
          rename_i d7 g7 h7 g70 g71
          walk_at "xs"
          refine ws_seq ?_
          walk_at "xs"
          walk_at "tk"
          rename_i d8 g8 h8 g80 g81
          obtain ⟨kb, hu8⟩ : ∃ b : Bool, atI [Dt.str "both", Dt.str "both", Dt.str "left"] g8 = some (.str (alS b)) := by
            rcases (show g8 = 0 ∨ g8 = 1 ∨ g8 = 2 by omega) with rfl | rfl | rfl
            · exact ⟨true, rfl⟩
            · exact ⟨true, rfl⟩
            · exact ⟨false, rfl⟩
          walk_at "xs"
          refine ws_seq ?_
          walk_at "xs"
          walk_at "tk"
          rename_i d9 g9 h9 g90 g91
          walk_at "xs"
          refine ws_seq ?_
          walk_at "xs"
          walk_at "tk"
          rename_i d10 g10' h10 g100 g101
          walk_at "xs"
          refine ws_cut (fun G => ∃ (d11 : List Dt) (x y : Int), PoolUp 10035 d11 ∧ 0 ≤ x ∧ x < 10000 ∧ 0 ≤ y ∧ y < 10000 ∧ G = [.acc d11, .val r.dt, .acc (gs.map Dt.int), .val (.int whole), .val (.int g1), .val (.int w5), s6, s7, .val (.int u6), .val (.int g7), .val (.str (alS kb)), .val (.int x), .val (.int y), .un, .un, .un]) ?_ ?_
          · walk_at "es"
            walk_at "tk"
            rename_i d11 g11' h11 g110 g111
            walk_at "es"
            refine ⟨fun h => ?_, fun h => ?_⟩
            · walk_at "es"
              walk_at "tk"
              rename_i d12 g12 h12 g120 g121
              walk_at "es"
              walk_at "tk"
              rename_i d13 g13 h13 g130 g131
              walk_at "es"
              exact .a ⟨d13, _, _, h13.mono (by omega), g120, g121, g130, g131, rfl⟩
            · walk_at "es"
              exact .a ⟨d11, _, _, h11.mono (by omega), by omega, by omega, by omega, by omega, rfl⟩
          · rintro G ⟨d11, x, y, h11, x1, x2, y1, y2, rfl⟩
            refine ws_seq ?_
            walk_at "xs"
            walk_at "tk"
            rename_i d12 g12 h12 g120 g121
            walk_at "xs"
            refine ws_seq ?_
            walk_at "xs"
            walk_at "tk"
            rename_i d13 g13 h13 g130 g131
            walk_at "xs"
            refine ws_cut (fun G => ∃ (d14 : List Dt) (a b : Int), PoolUp 10045 d14 ∧ 0 ≤ a ∧ a < 10 ∧ 0 ≤ b ∧ b < 10 ∧ G = [.acc d14, .val r.dt, .acc (gs.map Dt.int), .val (.int whole), .val (.int g1), .val (.int w5), s6, s7, .val (.int u6), .val (.int g7), .val (.str (alS kb)), .val (.int x), .val (.int y), .val (.int a), .val (.int b), .un]) ?_ ?_
            · walk_at "es"
              walk_at "tk"
              rename_i d14 g14 h14 g140 g141
              walk_at "es"
              refine ⟨fun h => ?_, fun h => ?_⟩
              · walk_at "es"
                walk_at "tk"
                rename_i d15 g15 h15 g150 g151
                walk_at "es"
                walk_at "tk"
                rename_i d16 g16 h16 g160 g161
                walk_at "es"
                exact .a ⟨d16, _, _, h16.mono (by omega), g150, g151, g160, g161, rfl⟩
              · walk_at "es"
                exact .a ⟨d14, _, _, h14.mono (by omega), by omega, by omega, by omega, by omega, rfl⟩
            · rintro G ⟨d14, a, b, h14, a1, a2, b1, b2, rfl⟩
              refine ws_cut (fun G => ∃ (d15 : List Dt) (a : Int), PoolUp 10046 d15 ∧ 0 ≤ a ∧ a < 10 ∧ G = [.acc d15, .val r.dt, .acc (gs.map Dt.int), .val (.int whole), .val (.int g1), .val (.int w5), s6, s7, .val (.int u6), .val (.int g7), .val (.str (alS kb)), .val (.int x), .val (.int y), .val (.int a), .val (.int b), .un]) ?_ ?_
              · walk_at "es"
                rw [hl]
                refine ⟨fun h => ?_, fun h => ?_⟩
                · walk_at "es"
                  walk_at "tk"
                  rename_i d15 g15 h15 g150 g151
                  walk_at "es"
                  refine ⟨fun h => ?_, fun h => ?_⟩
                  · walk_at "es"
                    exact .a ⟨d15, 0, h15.mono (by omega), by omega, by omega, rfl⟩
                  · walk_at "es"
                    exact .a ⟨d15, a, h15.mono (by omega), by omega, by omega, rfl⟩
                · walk_at "es"
                  exact .a ⟨d14, a, h14.mono (by omega), by omega, by omega, rfl⟩
              · rintro G ⟨d15, a', h15, a1', a2', rfl⟩
                have hm : ∀ x : Int, 1 ≤ x → 1 ≤ (if x < 10500 then x else 10500) ∧ (if x < 10500 then x else 10500) ≤ 10500 := by intro x hx; split <;> omega
                have hx5 : 1 ≤ (if w5 > 1 then w5 else 1) := by split <;> omega
                walk_at "es"
                refine k d15 ⟨_, _, kb, _, _, _, _⟩ ⟨?_, ?_, g70, by show g7 < 100; omega, x1, x2, y1, y2, a1', a2', b1, b2⟩ (h15.mono (by omega))
                · exact (hm _ hx5).1
                · exact (hm _ hx5).2
end
end Lin
/-! places of boxes, spans of gaps: law-free -/
namespace Lin
open PySem L2 Ab
local macro_rules | `(tactic| walk_at "no") => `(tactic| first
  | exact fun h => Bool.noConfusion (show true = false from h)
  | exact fun h => Bool.noConfusion (show false = true from h)
  | exact fun h => absurd (of_decide_eq_true h) (by omega)
  | exact fun h => absurd (by omega) (of_decide_eq_false h)
  | exact fun h => absurd (by omega) (nd_t h)
  | exact fun h => absurd (nd_f h) (by omega)
  | fail "no")
local macro_rules | `(tactic| walk_at "kb") => `(tactic| first | exact kb_tt | exact kb_ll | exact kb_ii | exact kb_ib | exact kb_ss | exact kb_sb | exact kb_si | exact kb_tb | exact kb_ti | exact kb_ts | exact kb_tl | exact kb_lb | exact kb_li | exact kb_ls | exact kb_lt | exact kb_is | exact kb_it | exact kb_il | exact kb_st | exact kb_sl | exact kb_bb | exact kb_bi | exact kb_nb | exact kb_ni | exact kb_ns | exact kb_nt | exact kb_nl | exact kb_bs | exact kb_bt | exact kb_bl | fail "kb")
local macro_rules | `(tactic| walk_at "norm") => `(tactic| first
  | exact (rfl : _ = ([] : List Sl))
  | ((refine' norm_cons (rfl : _ = _ :: _) ?ea ?et); (case ea => first | exact norm_v | exact norm_n | exact norm_o | exact rfl | fail "norm"); (case et => walk_at "norm"))
  | fail "norm")
local macro_rules | `(tactic| walk_at "x") => `(tactic| first
  | ((with_reducible refine' norm_intro ?hn ?_); (case hn => walk_at "norm"))
  | ((with_reducible refine' we_var ?hh ?_); (case hh => exact rfl))
  | ((with_reducible refine' we_own ?hh ?_); (case hh => exact rfl))
  | with_reducible refine we_c ?_
  | with_reducible refine we_addG ?_
  | with_reducible refine addp_i ?_
  | with_reducible refine we_opI0 ?_
  | with_reducible refine we_opI ?_
  | with_reducible refine we_mulG ?_
  | ((with_reducible refine' mulp_r ?h1 ?_); (case h1 => first | decide | omega | fail "m"))
  | ((with_reducible refine' mulp_l ?h1 ?_); (case h1 => first | decide | omega | fail "m"))
  | with_reducible refine we_neg ?_
  | with_reducible refine we_ltG ?_
  | with_reducible refine ltp_i ?_
  | with_reducible refine we_eqG ?_
  | with_reducible refine we_neG ?_
  | with_reducible refine eqp_i ?_
  | with_reducible refine nep_i ?_
  | with_reducible refine we_ixG ?_
  | ((with_reducible refine' ixp ?h1 ?h2 ?_); (case h1 => exact rfl); (case h2 => exact rfl))
  | with_reducible refine we_lenG ?_
  | ((with_reducible refine' lenp ?hh ?_); (case hh => exact rfl))
  | with_reducible refine we_intG ?_
  | with_reducible refine intp_i ?_
  | with_reducible refine intp_b ?_
  | with_reducible refine we_abs ?_
  | with_reducible refine we_tup ?_
  | with_reducible refine we_lst ?_
  | with_reducible refine we_tuple ?_
  | with_reducible refine we_list ?_
  | with_reducible refine we_sum ?_
  | with_reducible refine we_max2 ?_
  | with_reducible refine we_min2 ?_
  | with_reducible refine wd_cons ?_
  | with_reducible refine wd_nil ?_
  | with_reducible refine wa_cons ?_
  | with_reducible refine wa_nil ?_
  | with_reducible refine we_callH ?_
  | with_reducible refine we_isiG ?_
  | ((with_reducible refine' isi_own ?h1 ?h2 ?_); (case h1 => exact rfl); (case h2 => walk_at "kb"))
  | ((with_reducible refine' isi_val ?h1 ?h2 ?_); (case h1 => exact rfl); (case h2 => walk_at "kb"))
  | ((with_reducible refine' isi_new ?h2 ?_); (case h2 => walk_at "kb"))
  | with_reducible refine we_chainI ?_
  | with_reducible refine we_andV ?_
  | with_reducible refine we_orV ?_
  | with_reducible refine we_notV ?_
  | with_reducible refine wt_test ?_
  | with_reducible refine wt_B ?_
  | with_reducible refine wt_yes ?_
  | with_reducible refine wt_and ?_
  | with_reducible refine wt_or ?_
  | with_reducible refine wt_not ?_
  | ((with_reducible refine' ws_retA ?hh ?_); (case hh => exact rfl))
  | with_reducible refine ws_ret ?_
  | with_reducible refine ws_if ?_
  | with_reducible refine ws_nil ?_
  | with_reducible refine ws_expr ?_
  | with_reducible refine ws_asgN rfl rfl ?_
  | with_reducible refine ws_setN ?_
  | with_reducible refine ws_asgG ?_
  | ((with_reducible refine' wg_tup ?hh ?_); (case hh => exact rfl))
  | with_reducible refine wgs_cons ?_
  | with_reducible refine wgs_nil ?_
  | with_reducible refine wg_nameN rfl rfl ?_
  | ((with_reducible refine' we_appendN ?hh ?_); (case hh => exact rfl))
  | ((with_reducible refine' we_reverseN ?hh ?_); (case hh => exact rfl))
  | ((with_reducible refine' ws_augN ?h1 ?h2 ?_); (case h1 => exact rfl); (case h2 => exact rfl))
  | (refine ⟨_, rfl, ⟨_, rfl⟩, ?_⟩)
  | (refine ⟨_, rfl, ?_⟩)
  | (refine ⟨_, _, _, rfl, rfl, rfl, ?_⟩)
  | (refine ⟨_, _, rfl, rfl, (Nat.le_of_ble_eq_true rfl : _ ≤ _), ?_⟩)
  | (refine ⟨_, _, rfl, rfl, ?_⟩)
  | (refine ⟨(Nat.le_of_ble_eq_true rfl : _ ≤ _), ?_⟩)
  | (refine ⟨(rfl : _ = true), ?_⟩)
  | ((refine' ⟨fun _ => ?_, fun hY => absurd hY ?k2⟩); (case k2 => walk_at "no"))
  | ((refine' ⟨fun hY => absurd hY ?k2, fun _ => ?_⟩); (case k2 => walk_at "no"))
  | (refine ⟨⟨(by omega), (by omega)⟩, ?_⟩)
  | (refine ⟨⟨(by decide), (by decide), (by decide)⟩, ?_⟩)
  | (refine ⟨(by first | decide | omega | fail "c"), ?_⟩)
  | fail "stop")
local macro_rules | `(tactic| walk_at "e") => `(tactic| first | with_reducible refine ws_seq ?_ | walk_at "x" | fail "stop")
local macro_rules | `(tactic| walk_at "xs") => `(tactic| repeat' walk_at "x")
local macro_rules | `(tactic| walk_at "es") => `(tactic| repeat' walk_at "e")
local macro_rules | `(tactic| walk_at "len") => `(tactic| ((intro as Post h); (repeat (first | (obtain ⟨e, _⟩ := h; exact (congrArg List.length e).trans rfl) | (obtain ⟨_, h⟩ := h)))))
local macro_rules | `(tactic| walk_at "x") => `(tactic| first
  | with_reducible refine we_isN ?_
  | with_reducible refine we_notN ?_
  | with_reducible refine we_slG ?_
  | with_reducible refine wo_none ?_
  | with_reducible refine wo_some ?_
  | ((with_reducible refine' ixp ?h1 ?h2 ?_); (case h1 => exact rfl); (case h2 => assumption))
  | ((with_reducible refine' ixp_s ?h1 ?h2 ?_); (case h1 => assumption); (case h2 => assumption))
  | ((with_reducible refine' lenp_s ?h1 ?_); (case h1 => assumption))
  | ((with_reducible refine' slp_s ?h1 ?_); (case h1 => assumption))
  | with_reducible refine we_join ?_
  | with_reducible refine we_gtS ?_
  | ((with_reducible refine' we_ktup ?h1 ?_); (case h1 => assumption))
  | fail "x3")
local macro_rules | `(tactic| walk_at "x") => `(tactic| first
  | with_reducible refine we_fldG ?_
  | ((with_reducible refine' fldp ?h1 ?h2 ?h3 ?_); (case h1 => assumption); (case h2 => assumption); (case h3 => walk_at "lk"))
  | with_reducible refine we_methG ?_
  | ((with_reducible refine' metp ?h3 ?_); (case h3 => walk_at "lk"))
  | with_reducible refine we_make ?_
  | with_reducible refine we_own2 ?_
  | with_reducible refine we_isoG ?_
  | ((with_reducible refine' isop ?h1 ?_); (case h1 => assumption))
  | fail "x4")
local macro_rules | `(tactic| walk_at "nd") => `(tactic| first
  | exact (rfl : _ = ([] : List Dt))
  | ((refine' normD_cons (rfl : _ = _ :: _) ?et); (case et => walk_at "nd"))
  | fail "nd")
local macro_rules | `(tactic| walk_at "x") => `(tactic| first
  | with_reducible refine we_sumG ?_
  | with_reducible refine eqp_st ?_
  | with_reducible refine nep_st ?_
  | ((with_reducible refine' eqp_sf ?h1 ?_); (case h1 => first | assumption | decide +kernel))
  | ((with_reducible refine' nep_sf ?h1 ?_); (case h1 => first | assumption | decide +kernel))
  | with_reducible refine we_inG ?_
  | with_reducible refine we_if ?_
  | ((with_reducible refine' we_clearN ?hh ?_); (case hh => exact rfl))
  | with_reducible refine we_notInG ?_
  | with_reducible refine we_smeth ?_
  | with_reducible refine we_makeD ?_
  | with_reducible refine we_makeK ?_
  | ((with_reducible refine' slp_tE ?h ?_); (case h => walk_at "nd"))
  | ((with_reducible refine' addp_tE ?hz ?h ?_); (case h => walk_at "nd"); (case hz => exact Nat.le_of_ble_eq_true rfl))
  | fail "x5")
local macro_rules | `(tactic| walk_at "tk") => `(tactic| refine .a (tk (by assumption) (by omega) (by omega) (by omega) fun _ _ _ _ _ => ?_))
local macro_rules | `(tactic| walk_at "lk") => `(tactic| first | exact lk_Glue_width | exact lk_Glue_stretch | exact lk_Glue_shrink | exact lk_Glue_no___add__ | exact lk_Measure_width | exact lk_Measure_indent | exact lk_Measure_align | exact lk_Measure_hyphen | exact lk_Measure_twin | exact lk_Measure_river | exact lk_Measure_loose | exact lk_Measure_no_of | fail "lk")
def tq_extra_of (K : PySem.W.Frag) : TS :=
    (tSeq (tIfS (tAnd (tTest (tOp (rEqG K) (tFld K (tVar 4) "align") (tC (.str "both")))) (tTest (tOp (rLtG K) (tVar 0) (tC (.int 0))))) (tRet (tUn rNegI (tOp rDivI (tOp (rMulG K) (tUn rNegI (tVar 0)) (tFld K (tVar 2) "shrink")) (tFld K (tVar 1) "shrink")))) tNext)
    (tSeq (tIfS (tAnd (tTest (tOp (rEqG K) (tFld K (tVar 4) "align") (tC (.str "both")))) (tAnd (tTest (tOp rGtI (tVar 0) (tC (.int 0)))) (tNot (tB (tVar 3))))) (tRet (tOp rDivI (tOp (rMulG K) (tVar 0) (tFld K (tVar 2) "stretch")) (tFld K (tVar 1) "stretch"))) tNext)
    (tRet (tC (.int 0)))))
def tq_box_places (K : PySem.W.Frag) (c_Glue : Addr) (ap_line_glue : AP) (ap_room_of : AP) (ai_Glue : AI) (ap_joint_glue : AP) (ap_Glue___add__ : AP) (ap_extra_of : AP) : TS :=
    (tSeq (tAsg (tVar 0) (gTup K 2 (gCons (gName 4) (gCons (gName 5) gNil))))
    (tSeq (tAsg (tCall (toSp K ap_line_glue) [] E0 (tCons (tVar 0) (tCons (tVar 1) (tCons (tVar 2) tNil)))) (gName 6))
    (tSeq (tAsg (tOp rSubI (tCall (toSp K ap_room_of) [] E0 (tCons (tVar 1) (tCons (tVar 3) tNil))) (tFld K (tVar 6) "width")) (gName 7))
    (tSeq (tAsg (tOp (rEqG K) (tVar 2) (tCB (rLenV K) (tCons (tVar 4) tNil))) (gName 8))
    (tSeq (tAsg (tIf (tTest (tOp (rEqG K) (tVar 1) (tC (.int 0)))) (tFld K (tVar 3) "indent") (tC (.int 0))) (gName 9))
    (tSeq (tAsg (tMake c_Glue (toSpI K c_Glue ai_Glue) [] E0 (tCons (tC (.int 0)) (tCons (tC (.int 0)) (tCons (tC (.int 0)) tNil)))) (gName 10))
    (tSeq (tAsg (tLst tNil) (gName 11))
    (tSeq (tFor (iRng2 (tCons (tVar 1) (tCons (tVar 2) tNil))) (gName 12) (tSeq (tIfS (tTest (tOp rGtI (tVar 12) (tVar 1))) (tSeq (tAsg (tCall (toSp K ap_joint_glue) [] E0 (tCons (tOp (rIx K) (tVar 5) (tOp rSubI (tVar 12) (tC (.int 1)))) tNil)) (gName 13))
    (tSeq (tAsg (tOp (rAddG K) (tOp (rAddG K) (tVar 9) (tOp (rIx K) (tVar 4) (tOp rSubI (tVar 12) (tC (.int 1))))) (tFld K (tVar 13) "width")) (gName 9))
    (tAsg (tOp (rOwn c_Glue (toSp K ap_Glue___add__) E0) (tVar 10) (tVar 13)) (gName 10)))) tNext)
    (tDrop (tBM K "list" rAppend (tVar 11) (tCons (tOp (rAddG K) (tVar 9) (tCall (toSp K ap_extra_of) [] E0 (tCons (tVar 7) (tCons (tVar 6) (tCons (tVar 10) (tCons (tVar 8) (tCons (tVar 3) tNil))))))) tNil)))))
    (tRet (tVar 11))))))))))
def tq_gap_spans (K : PySem.W.Frag) (ap_box_places : AP) : TS :=
    (tSeq (tAsg (tVar 0) (gTup K 2 (gCons (gName 4) (gCons (gName 5) gNil))))
    (tSeq (tAsg (tCall (toSp K ap_box_places) [] E0 (tCons (tVar 0) (tCons (tVar 1) (tCons (tVar 2) (tCons (tVar 3) tNil))))) (gName 6))
    (tSeq (tAsg (tLst tNil) (gName 7))
    (tSeq (tFor (iRng2 (tCons (tVar 1) (tCons (tOp rSubI (tVar 2) (tC (.int 1))) tNil))) (gName 8) (tIfS (tTest (tOp (rEqG K) (tOp (rIx K) (tOp (rIx K) (tVar 5) (tVar 8)) (tC (.int 0))) (tC (.str "gap")))) (tSeq (tAsg (tOp (rAddG K) (tOp (rIx K) (tVar 6) (tOp rSubI (tVar 8) (tVar 1))) (tOp (rIx K) (tVar 4) (tVar 8))) (gName 9))
    (tDrop (tBM K "list" rAppend (tVar 7) (tCons (tTup (tCons (tVar 9) (tCons (tOp (rIx K) (tVar 6) (tOp (rAddG K) (tOp rSubI (tVar 8) (tVar 1)) (tC (.int 1)))) tNil))) tNil)))) tNext))
    (tRet (tVar 7))))))
/-- what the plain price is -/
structure PF (g : G3) (room : Int) (b last : Bool) (p : Int) : Prop where
  f0 : b = false → 0 ≤ room - g.w
  f1 : room - g.w = 0 ∨ (0 < room - g.w ∧ last = true) → p = 0
  f2 : b = true → room - g.w < 0 → 1 ≤ g.h ∧ p = 100 * (room - g.w) * (room - g.w) / (g.h * g.h)
  f3 : b = true → 0 < room - g.w → last = false → 1 ≤ g.s ∧ p = 100 * (room - g.w) * (room - g.w) / (g.s * g.s)
  f4 : b = false → 0 < room - g.w → last = false → p = 100 * (room - g.w) * (room - g.w) / (room * room)
def posB (g : G3) (room : Int) (k : Key) (last : Bool) : Bool := if k.b = true then (if room - g.w < 0 then decide (-(room - g.w) ≤ g.h) else if room - g.w = 0 ∨ last = true then true else decide (room - g.w ≤ k.lo * g.s)) else decide (0 ≤ room - g.w)
def plP (g : G3) (room : Int) (k : Key) (last : Bool) : Option Int := if k.b = true then bothP g room last k.lo else leftP g room last
theorem pos_none {g : G3} {room : Int} {k : Key} {last : Bool} (h : posB g room k last = false) : plP g room k last = none := by
  unfold posB at h
  unfold plP bothP leftP
  cases hb : k.b with
  | true =>
    rw [hb, if_pos rfl] at h
    rw [if_pos rfl]
    by_cases c1 : room - g.w < 0
    · rw [if_pos c1] at h ⊢
      rw [if_pos (by have := of_decide_eq_false h; omega)]
    · rw [if_neg c1] at h ⊢
      by_cases c2 : room - g.w = 0 ∨ last = true
      · rw [if_pos c2] at h; cases h
      · rw [if_neg c2] at h ⊢
        rw [if_pos (by have := of_decide_eq_false h; omega)]
  | false =>
    rw [hb, if_neg Bool.false_ne_true] at h
    rw [if_neg Bool.false_ne_true, if_pos (by have := of_decide_eq_false h; omega)]
theorem pos_some {g : G3} {room : Int} {k : Key} {last : Bool} (gb : GB g) (hlo : 0 ≤ k.lo) (h : posB g room k last = true) : ∃ p, plP g room k last = some p ∧ PF g room k.b last p := by
  obtain ⟨w1, w2, s1, s2, h1, h2⟩ := gb
  unfold posB at h
  unfold plP bothP leftP
  cases hb : k.b with
  | true =>
    rw [hb, if_pos rfl] at h
    rw [if_pos rfl]
    by_cases c1 : room - g.w < 0
    · rw [if_pos c1] at h ⊢
      have h' := of_decide_eq_true h
      rw [if_neg (by omega)]
      exact ⟨_, rfl, (fun z => nomatch z), (fun z => absurd z (by omega)), (fun _ _ => ⟨by omega, rfl⟩), (fun _ z => absurd z (by omega)), (fun z => nomatch z)⟩
    · rw [if_neg c1] at h ⊢
      by_cases c2 : room - g.w = 0 ∨ last = true
      · rw [if_pos c2] at h ⊢
        refine ⟨_, rfl, (fun z => nomatch z), (fun _ => rfl), (fun _ z => absurd z (by omega)), (fun _ z1 z2 => ?_), (fun z => nomatch z)⟩
        rcases c2 with c2 | c2
        · omega
        · rw [c2] at z2; cases z2
      · rw [if_neg c2] at h ⊢
        have h' := of_decide_eq_true h
        rw [if_neg (by omega)]
        have hs : 1 ≤ g.s := by
          by_cases hz : g.s = 0
          · rw [hz, Int.mul_zero] at h'; omega
          · omega
        refine ⟨_, rfl, (fun z => nomatch z), (fun z => ?_), (fun _ z => absurd z c1), (fun _ _ _ => ⟨hs, rfl⟩), (fun z => nomatch z)⟩
        rcases z with z | z
        · exact absurd (.inl z) c2
        · exact absurd (.inr z.2) c2
  | false =>
    rw [hb, if_neg Bool.false_ne_true] at h
    have h' := of_decide_eq_true h
    rw [if_neg Bool.false_ne_true, if_neg (by omega)]
    cases last with
    | true => exact ⟨0, by rw [if_pos rfl], (fun _ => h'), (fun _ => rfl), (fun z => nomatch z), (fun z => nomatch z), (fun _ _ z => nomatch z)⟩
    | false =>
      refine ⟨100 * (room - g.w) * (room - g.w) / (room * room), by rw [if_neg Bool.false_ne_true], (fun _ => h'), (fun z => ?_), (fun z => nomatch z), (fun z => nomatch z), (fun _ _ _ => rfl)⟩
      rcases z with z | z
      · rw [z]; simp
      · exact Bool.noConfusion z.2

def lastB (r : Row) (e : Nat) : Bool := decide (e = r.ws.length)
/-- the line can be set -/
def Fit (r : Row) (s e : Nat) (k : Key) : Prop := posB (lineG r s e) (roomOf s k) k (lastB r e) = true
def plain0 (k : Key) (s : Nat) : Int := if s = 0 then k.i else 0
def plainAt (r : Row) (k : Key) (s i : Nat) : Int := plain0 k s + sumTo i (fun j => r.W (s + j) + (r.J (s + j)).g.w)
def bef (r : Row) (s i : Nat) : G3 := ⟨sumTo i (fun j => (r.J (s + j)).g.w), sumTo i (fun j => (r.J (s + j)).g.s), sumTo i (fun j => (r.J (s + j)).g.h)⟩
def extraOf (b : Bool) (rest : Int) (g : G3) (x : G3) (last : Bool) : Int := if b = true ∧ rest < 0 then -(-rest * x.h / g.h) else if b = true ∧ 0 < rest ∧ last = false then rest * x.s / g.s else 0
def restOf (r : Row) (s e : Nat) (k : Key) : Int := roomOf s k - (lineG r s e).w
def placeAt (r : Row) (s e : Nat) (k : Key) (i : Nat) : Int := plainAt r k s i + extraOf k.b (restOf r s e k) (lineG r s e) (bef r s i) (lastB r e)
def isGap (r : Row) (i : Nat) : Bool := !(r.J i).isHy
def spanAt (r : Row) (s e : Nat) (k : Key) (i : Nat) : Int × Int := (placeAt r s e k i + r.W (s + i), placeAt r s e k (i + 1))
def spansTo (r : Row) (s e : Nat) (k : Key) (n : Nat) : List (Int × Int) := ((List.range n).filter fun i => isGap r (s + i)).map (spanAt r s e k)
def spans (r : Row) (s e : Nat) (k : Key) : List (Int × Int) := spansTo r s e k (e - s - 1)
abbrev pairD (p : Int × Int) : Dt := .tup [.int p.1, .int p.2]
theorem spansTo_succ (r : Row) (s e : Nat) (k : Key) (n : Nat) : spansTo r s e k (n + 1) = if isGap r (s + n) = true then spansTo r s e k n ++ [spanAt r s e k n] else spansTo r s e k n := by
  unfold spansTo
  rw [List.range_succ, List.filter_append]
  by_cases h : isGap r (s + n) = true
  · rw [if_pos h, List.map_append]
    simp [h]
  · rw [if_neg h]
    simp [h]
structure KeyB (k : Key) : Prop where
  w1 : -2000000 ≤ k.w
  w2 : k.w ≤ 100000
  i1 : 0 ≤ k.i
  i2 : k.i ≤ 100000
  l1 : 0 ≤ k.lo
  l2 : k.lo ≤ 100
theorem KeyOk.b {k : Key} (h : KeyOk k) : KeyB k := by
  obtain ⟨h1, h2, h3, h4, _, _, _, _, _, _, h5, h6⟩ := h
  exact ⟨by omega, by omega, by omega, by omega, by omega, by omega⟩
theorem room_bd {k : Key} (h : KeyB k) (s : Nat) : -3000000 ≤ roomOf s k ∧ roomOf s k ≤ 1000000 := by
  obtain ⟨h1, h2, h3, h4, _, _⟩ := h
  unfold roomOf; split <;> omega
theorem fit_h {r : Row} {s e : Nat} {k : Key} (gb : GB (lineG r s e)) (kl : 0 ≤ k.lo) (f : Fit r s e k) : (k.b = true → restOf r s e k < 0 → 1 ≤ (lineG r s e).h ∧ -(restOf r s e k) ≤ (lineG r s e).h) ∧ (k.b = true → 0 < restOf r s e k → lastB r e = false → 1 ≤ (lineG r s e).s) ∧ (k.b = false → 0 ≤ restOf r s e k) := by
  have f' := f
  obtain ⟨p, _, pf⟩ := pos_some gb kl f
  refine ⟨fun h1 h2 => ?_, fun h1 h2 h3 => (pf.f3 h1 h2 h3).1, fun h1 => pf.f0 h1⟩
  refine ⟨(pf.f2 h1 h2).1, ?_⟩
  unfold Fit posB at f'
  unfold restOf at h2 ⊢
  rw [if_pos h1, if_pos h2] at f'
  exact of_decide_eq_true f'
def ap_extra (c m : Addr) : AP := fun as Post => ∃ (rest : Int) (g x : G3) (last : Bool) (k : Key), as = [.val (.int rest), .val (gD c g), .val (gD c x), .val (.bl last), .val (k.ob m)] ∧ -10000000 ≤ rest ∧ rest ≤ 10000000 ∧ g.h ≤ 1000000 ∧ g.s ≤ 1000000 ∧ (k.b = true → rest < 0 → 1 ≤ g.h) ∧ (k.b = true → 0 < rest → last = false → 1 ≤ g.s) ∧ Post (.val (.int (extraOf k.b rest g x last))) as
def ap_places (m : Addr) : AP := fun as Post => ∃ (r : Row) (s e : Nat) (k : Key), as = [.val r.dt, .val (.int s), .val (.int e), .val (k.ob m)] ∧ RowOk r ∧ s < e ∧ e ≤ r.ws.length ∧ KeyB k ∧ Fit r s e k ∧ Post (.new ((List.range (e - s)).map fun i => .int (placeAt r s e k i))) as
def ap_spans (m : Addr) : AP := fun as Post => ∃ (r : Row) (s e : Nat) (k : Key), as = [.val r.dt, .val (.int s), .val (.int e), .val (k.ob m)] ∧ RowOk r ∧ s < e ∧ e ≤ r.ws.length ∧ KeyB k ∧ Fit r s e k ∧ Post (.new ((spans r s e k).map pairD)) as
theorem at_range {f : Nat → Dt} {n i : Nat} {j : Int} (h : i < n) (e : j = (i : Int)) : atI ((List.range n).map f) j = some (f i) := atI_of e (by rw [List.getElem?_map, List.getElem?_range h]; rfl)
section
variable {K : PySem.W.Frag} {c m : Addr}
theorem run_extra (go : GlueOk K c) (mo : MeasOk K m) : RunOk K [] (tq_extra_of K) 5 (ap_extra c m) := by
  rintro as Post ⟨rest, g, x, last, k, rfl, r1, r2, gh, gs, f1, f2, p⟩
  have cl := go.co.cl; have n1 := go.n1; have n2 := go.n2; have n3 := go.n3
  have cm := mo.co.cl; have m2 := mo.n2
  unfold tq_extra_of
  obtain ⟨kw, ki, kb, kh, kt, kr, kl⟩ := k
  unfold extraOf at p
  cases kb with
  | true =>
    show WS K [] _ [.val (.int rest), .val (gD c g), .val (gD c x), .val (.bl last), .val (.obj m [("width", .int kw), ("indent", .int ki), ("align", .str "both"), ("hyphen", .int kh), ("twin", .int kt), ("river", .int kr), ("loose", .int kl)])] _
    by_cases c1 : rest < 0
    · have hh := f1 rfl c1
      rw [if_pos ⟨rfl, c1⟩] at p
      walk_at "es"
      exact p
    · rw [if_neg (fun z => c1 z.2)] at p
      by_cases c2 : 0 < rest
      · cases last with
        | true =>
          rw [if_neg (fun z => Bool.noConfusion z.2.2)] at p
          walk_at "es"
          exact p
        | false =>
          have hh := f2 rfl c2 rfl
          rw [if_pos ⟨rfl, c2, rfl⟩] at p
          walk_at "es"
          exact p
      · rw [if_neg (fun z => c2 z.2.1)] at p
        walk_at "es"
        exact p
  | false =>
    show WS K [] _ [.val (.int rest), .val (gD c g), .val (gD c x), .val (.bl last), .val (.obj m [("width", .int kw), ("indent", .int ki), ("align", .str "left"), ("hyphen", .int kh), ("twin", .int kt), ("river", .int kr), ("loose", .int kl)])] _
    rw [if_neg (fun z => Bool.noConfusion z.1), if_neg (fun z => Bool.noConfusion z.1)] at p
    walk_at "es"
    exact p
theorem run_places (go : GlueOk K c) (mo : MeasOk K m) : RunOk K [] (tq_box_places K c (ap_line c) (ap_room m) ai_Glue (ap_jg c) (ap_add c) (ap_extra c m)) 14 (ap_places m) := by
  rintro as Post ⟨r, s, e, k, rfl, ok, hs, he, kb, ft, p⟩
  have cl := go.co.cl; have n1 := go.n1; have n2 := go.n2; have n3 := go.n3
  have cm := mo.co.cl; have m1 := mo.n1
  have ol := ok.len
  have on := ok.n
  have gb := line_bd ok hs he
  have fh := fit_h gb kb.l1 ft
  have rb := room_bd kb s
  have hl : ((r.ws.map Dt.int).length : Int) = r.ws.length := by rw [List.length_map]
  have el : decide ((e : Int) = r.ws.length) = lastB r e := by unfold lastB; by_cases h : e = r.ws.length <;> simp [h, Int.ofNat_inj]
  unfold tq_box_places
  show WS K [] _ [.val r.dt, .val (.int s), .val (.int e), .val (k.ob m), .un, .un, .un, .un, .un, .un, .un, .un, .un, .un] _
  walk_at "es"
  refine .a ⟨r, s, e, rfl, ok, hs, he, ?_⟩
  walk_at "xs"
  refine ws_seq ?_
  walk_at "xs"
  refine .a ⟨s, k, rfl, ?_⟩
  walk_at "xs"
  rw [show roomOf s k - (lineG r s e).w = restOf r s e k from rfl]
  have rr : -10000000 ≤ restOf r s e k ∧ restOf r s e k ≤ 10000000 := by
    obtain ⟨w1, w2, _, _, _, _⟩ := gb
    unfold restOf
    omega
  refine ws_seq ?_
  walk_at "xs"
  rw [hl, el]
  refine ws_cut (fun G => G = [.val r.dt, .val (.int s), .val (.int e), .val (k.ob m), .val (.tup (r.ws.map Dt.int)), .val (.tup (r.js.map Jt.dt)), .val (gD c (lineG r s e)), .val (.int (restOf r s e k)), .val (.bl (lastB r e)), .val (.int (plain0 k s)), .un, .un, .un, .un]) ?_ ?_
  · unfold plain0
    by_cases h0 : s = 0
    · rw [if_pos h0]
      walk_at "es"
      exact .a rfl
    · rw [if_neg h0]
      walk_at "es"
      exact .a rfl
  · rintro G rfl
    refine ws_seq ?_
    walk_at "xs"
    refine .a ⟨_, _, _, rfl, ?_⟩
    walk_at "xs"
    refine ws_seq ?_
    walk_at "xs"
    refine ws_seq ?_
    refine for_range2 (s : Int) (e : Int) (fun i G => ∃ s12 s13, G = [.val r.dt, .val (.int s), .val (.int e), .val (k.ob m), .val (.tup (r.ws.map Dt.int)), .val (.tup (r.js.map Jt.dt)), .val (gD c (lineG r s e)), .val (.int (restOf r s e k)), .val (.bl (lastB r e)), .val (.int (plainAt r k s (i - 1))), .val (gD c (bef r s (i - 1))), .acc ((List.range i).map fun i => .int (placeAt r s e k i)), s12, s13]) ?_ ?_ ?_
    · walk_at "xs"
      refine .a ⟨rfl, ⟨by omega, by omega, by omega, by omega⟩, .un, .un, ?_⟩
      have e1 : plainAt r k s (0 - 1) = plain0 k s := by unfold plainAt; simp [Lin.sumTo]
      rw [e1]
      rfl
    · rintro i G hi ⟨s12, s13, rfl⟩
      have hll : ((List.range i).map fun i => Dt.int (placeAt r s e k i)).length < 1000000 := by rw [List.length_map, List.length_range]; omega
      walk_at "xs"
      refine ws_cut (fun G => ∃ s13, G = [.val r.dt, .val (.int s), .val (.int e), .val (k.ob m), .val (.tup (r.ws.map Dt.int)), .val (.tup (r.js.map Jt.dt)), .val (gD c (lineG r s e)), .val (.int (restOf r s e k)), .val (.bl (lastB r e)), .val (.int (plainAt r k s i)), .val (gD c (bef r s i)), .acc ((List.range i).map fun i => .int (placeAt r s e k i)), .val (.int ((s : Int) + i)), s13]) ?_ ?_
      · cases i with
        | zero =>
          walk_at "es"
          exact .a ⟨_, rfl⟩
        | succ i =>
          have hj := at_J (r := r) (k := s + i) (i := (s : Int) + ((i + 1 : Nat) : Int) - 1) (by omega) (by omega)
          have hw := at_W (r := r) (k := s + i) (i := (s : Int) + ((i + 1 : Nat) : Int) - 1) (by omega) (by omega)
          walk_at "es"
          refine .a ⟨r.J (s + i), rfl, ?_⟩
          walk_at "es"
          refine .a ⟨bef r s i, (r.J (s + i)).g, rfl, ?_⟩
          walk_at "es"
          refine .a ⟨.val (gD c (r.J (s + i)).g), ?_⟩
          have e1 : plainAt r k s (i + 1 - 1) + r.W (s + i) + (r.J (s + i)).g.w = plainAt r k s (i + 1) := by
            show plainAt r k s i + _ + _ = _
            unfold plainAt
            rw [sumTo_succ]
            omega
          rw [e1]
          rfl
      · rintro G ⟨s13, rfl⟩
        walk_at "es"
        refine .a ⟨restOf r s e k, lineG r s e, bef r s i, lastB r e, k, rfl, rr.1, rr.2, gb.h2, gb.s2, fun h1 h2 => (fh.1 h1 h2).1, fh.2.1, ?_⟩
        walk_at "es"
        refine .a ⟨.val (.int ((s : Int) + i)), s13, ?_⟩
        rw [List.range_succ, List.map_append]
        rfl
    · rintro G ⟨s12, s13, rfl⟩
      rw [show ((e : Int) - (s : Int)).toNat = e - s by omega]
      walk_at "es"
      exact p
theorem run_spans : RunOk K [] (tq_gap_spans K (ap_places m)) 10 (ap_spans m) := by
  rintro as Post ⟨r, s, e, k, rfl, ok, hs, he, kb, ft, p⟩
  have ol := ok.len
  have on := ok.n
  unfold tq_gap_spans
  show WS K [] _ [.val r.dt, .val (.int s), .val (.int e), .val (k.ob m), .un, .un, .un, .un, .un, .un] _
  walk_at "es"
  refine .a ⟨r, s, e, k, rfl, ok, hs, he, kb, ft, ?_⟩
  walk_at "es"
  refine for_range2 (s : Int) ((e : Int) - 1) (fun i G => ∃ s8 s9, G = [.val r.dt, .val (.int s), .val (.int e), .val (k.ob m), .val (.tup (r.ws.map Dt.int)), .val (.tup (r.js.map Jt.dt)), .acc ((List.range (e - s)).map fun i => .int (placeAt r s e k i)), .acc ((spansTo r s e k i).map pairD), s8, s9]) ?_ ?_ ?_
  · walk_at "xs"
    exact .a ⟨rfl, ⟨by omega, by omega, by omega, by omega⟩, .un, .un, rfl⟩
  · rintro i G hi ⟨s8, s9, rfl⟩
    have hsl : (spansTo r s e k i).length ≤ i := by
      unfold spansTo
      rw [List.length_map]
      exact Nat.le_trans (List.length_filter_le _ _) (by rw [List.length_range]; exact Nat.le_refl _)
    have hll : ((spansTo r s e k i).map pairD).length < 1000000 := by rw [List.length_map]; omega
    have hj := at_J (r := r) (k := s + i) (i := (s : Int) + i) (by omega) (by omega)
    have hw := at_W (r := r) (k := s + i) (i := (s : Int) + i) (by omega) (by omega)
    have p1 : atI ((List.range (e - s)).map fun i => Dt.int (placeAt r s e k i)) ((s : Int) + i - s) = some (.int (placeAt r s e k i)) := at_range (i := i) (by omega) (by omega)
    have p2 : atI ((List.range (e - s)).map fun i => Dt.int (placeAt r s e k i)) ((s : Int) + i - s + 1) = some (.int (placeAt r s e k (i + 1))) := at_range (i := i + 1) (by omega) (by omega)
    cases q : r.J (s + i) with
    | hy a b =>
      rw [q] at hj
      unfold Jt.dt at hj
      walk_at "es"
      refine .a ⟨.val (.int ((s : Int) + i)), s9, ?_⟩
      rw [spansTo_succ, if_neg (by unfold isGap; rw [q]; exact Bool.false_ne_true)]
    | gap x y z =>
      rw [q] at hj
      unfold Jt.dt at hj
      walk_at "es"
      refine .a ⟨.val (.int ((s : Int) + i)), .val (.int (placeAt r s e k i + r.W (s + i))), ?_⟩
      rw [spansTo_succ, if_pos (by unfold isGap; rw [q]; rfl), List.map_append]
      rfl
  · rintro G ⟨s8, s9, rfl⟩
    rw [show ((e : Int) - 1 - (s : Int)).toNat = e - s - 1 by omega]
    walk_at "es"
    exact p
end
/-! ### the plain laws of places -/
theorem sumTo_mono {f : Nat → Int} : ∀ {a b : Nat}, a ≤ b → (∀ i, i < b → 0 ≤ f i) → Lin.sumTo a f ≤ Lin.sumTo b f
  | a, 0, h, hf => by rw [show a = 0 by omega]; exact Int.le_refl _
  | a, b + 1, h, hf => by
    by_cases hab : a = b + 1
    · rw [hab]; exact Int.le_refl _
    · have := sumTo_mono (a := a) (b := b) (by omega) (fun i hi => hf i (by omega))
      have := hf b (by omega)
      rw [sumTo_succ]; omega
theorem jt_nn {j : Jt} {x y : Int} (h : JtOk j x y) : 0 ≤ j.g.s ∧ 0 ≤ j.g.h ∧ (j.isHy = true → j.g.h = 0 ∧ -x < j.g.w ∧ j.g.w ≤ 0 ∧ -y < j.g.w) ∧ (j.isHy = false → j.g.h < j.g.w) := by
  cases j with
  | hy a b => obtain ⟨h1, h2, h3, h4, h5⟩ := h; refine ⟨by simp [Jt.g], by simp [Jt.g], fun _ => ⟨rfl, by show -x < -b; omega, by show -b ≤ 0; omega, by show -y < -b; omega⟩, fun z => nomatch z⟩
  | gap w s h' => obtain ⟨h1, h2, h3, h4, h5, h6⟩ := h; exact ⟨by show 0 ≤ s; omega, by show 0 ≤ h'; omega, (fun z => nomatch z), fun _ => by show h' < w; omega⟩
theorem line_sh {r : Row} {s e : Nat} : (lineG r s e).s = Lin.sumTo (e - s - 1) (fun j => (r.J (s + j)).g.s) ∧ (lineG r s e).h = Lin.sumTo (e - s - 1) (fun j => (r.J (s + j)).g.h) := by
  unfold lineG
  rw [fin_eq]
  exact ⟨rfl, rfl⟩
theorem div_step {a b c h : Int} (hc : 0 < c) (hb : 0 ≤ b) (hbc : b ≤ c * h) : a / c ≤ (a + b) / c ∧ (a + b) / c ≤ a / c + h := by
  constructor
  · exact Int.ediv_le_ediv hc (by omega)
  · have h1 := Int.ediv_le_ediv hc (show a + b ≤ a + h * c by rw [Int.mul_comm h c]; omega)
    rw [Int.add_mul_ediv_right _ _ (by omega)] at h1
    exact h1
/-- what is given or taken grows by no more than a gap's own -/
theorem extra_step {r : Row} {s e : Nat} {k : Key} (ok : RowOk r) (hs : s < e) (he : e ≤ r.ws.length) (kl : 0 ≤ k.lo) (ft : Fit r s e k) {i : Nat} (hi : i < e - s - 1) :
    extraOf k.b (restOf r s e k) (lineG r s e) (bef r s i) (lastB r e) - (r.J (s + i)).g.h ≤ extraOf k.b (restOf r s e k) (lineG r s e) (bef r s (i + 1)) (lastB r e) := by
  have gb := line_bd ok hs he
  have fh := fit_h gb kl ft
  have hj := jt_nn (ok.j (s + i) (by have := ok.len; omega))
  unfold extraOf
  by_cases c1 : k.b = true ∧ restOf r s e k < 0
  · rw [if_pos c1, if_pos c1]
    obtain ⟨h1, h2⟩ := fh.1 c1.1 c1.2
    have eb : (bef r s (i + 1)).h = (bef r s i).h + (r.J (s + i)).g.h := rfl
    rw [eb, Int.mul_add]
    have := (div_step (a := -restOf r s e k * (bef r s i).h) (b := -restOf r s e k * (r.J (s + i)).g.h) (c := (lineG r s e).h) (h := (r.J (s + i)).g.h) (by omega) (Int.mul_nonneg (by omega) hj.2.1) (Int.mul_le_mul_of_nonneg_right h2 hj.2.1)).2
    omega
  · rw [if_neg c1, if_neg c1]
    by_cases c2 : k.b = true ∧ 0 < restOf r s e k ∧ lastB r e = false
    · rw [if_pos c2, if_pos c2]
      have h1 := fh.2.1 c2.1 c2.2.1 c2.2.2
      have eb : (bef r s (i + 1)).s = (bef r s i).s + (r.J (s + i)).g.s := rfl
      rw [eb, Int.mul_add]
      have := Int.ediv_le_ediv (a := restOf r s e k * (bef r s i).s) (b := restOf r s e k * (bef r s i).s + restOf r s e k * (r.J (s + i)).g.s) (c := (lineG r s e).s) (by omega) (by have := Int.mul_nonneg (a := restOf r s e k) (b := (r.J (s + i)).g.s) (by omega) hj.1; omega)
      have := hj.2.1
      omega
    · rw [if_neg c2, if_neg c2]
      have := hj.2.1
      omega
theorem place_step {r : Row} {s e : Nat} {k : Key} (ok : RowOk r) (hs : s < e) (he : e ≤ r.ws.length) (kl : 0 ≤ k.lo) (ft : Fit r s e k) {i : Nat} (hi : i < e - s - 1) :
    placeAt r s e k i + 1 ≤ placeAt r s e k (i + 1) ∧ (isGap r (s + i) = true → placeAt r s e k i + r.W (s + i) + 1 ≤ placeAt r s e k (i + 1)) := by
  have hx := extra_step ok hs he kl ft hi
  have hj := jt_nn (ok.j (s + i) (by have := ok.len; omega))
  have hw := (ok.w (s + i) (by omega)).1
  have ep : plainAt r k s (i + 1) = plainAt r k s i + r.W (s + i) + (r.J (s + i)).g.w := by unfold plainAt; rw [sumTo_succ]; omega
  unfold placeAt
  rw [ep]
  unfold isGap
  cases q : (r.J (s + i)).isHy with
  | true => have := hj.2.2.1 q; exact ⟨by omega, fun z => nomatch z⟩
  | false => have := hj.2.2.2 q; exact ⟨by omega, fun _ => by omega⟩
/-- the last box ends where it should -/
theorem place_end {r : Row} {s e : Nat} {k : Key} (ok : RowOk r) (hs : s < e) (he : e ≤ r.ws.length) (kl : 0 ≤ k.lo) (ft : Fit r s e k) :
    placeAt r s e k (e - s - 1) + r.W (e - 1) + hx r e = if k.b = true ∧ (restOf r s e k ≤ 0 ∨ lastB r e = false) then k.w else k.w - restOf r s e k := by
  have gb := line_bd ok hs he
  have fh := fit_h gb kl ft
  obtain ⟨es, eh⟩ := line_sh (r := r) (s := s) (e := e)
  have e0 : plainAt r k s (e - s - 1) + r.W (e - 1) + hx r e = k.w - restOf r s e k := by
    have e1 : (lineG r s e).w = (inn r s (e - s - 1)).w + hx r e := by unfold lineG; rw [fin_eq]
    unfold restOf
    rw [e1]
    unfold plainAt inn plain0 roomOf
    simp only [sumTo_succ]
    have e2 : ∀ n, Lin.sumTo n (fun j => r.W (s + j) + (r.J (s + j)).g.w) = Lin.sumTo n (fun j => r.W (s + j)) + Lin.sumTo n (fun j => (r.J (s + j)).g.w) := fun n => by
      induction n with
      | zero => rfl
      | succ n ih => rw [sumTo_succ, sumTo_succ, sumTo_succ, ih]; omega
    rw [e2, show s + (e - s - 1) = e - 1 by omega]
    split <;> omega
  unfold placeAt extraOf
  have bs : (bef r s (e - s - 1)).s = (lineG r s e).s := by rw [es]; rfl
  have bh : (bef r s (e - s - 1)).h = (lineG r s e).h := by rw [eh]; rfl
  rw [bs, bh]
  by_cases c1 : k.b = true ∧ restOf r s e k < 0
  · rw [if_pos c1, if_pos ⟨c1.1, .inl (by omega)⟩]
    have := (fh.1 c1.1 c1.2).1
    rw [Int.mul_ediv_cancel _ (by omega)]
    omega
  · rw [if_neg c1]
    by_cases c2 : k.b = true ∧ 0 < restOf r s e k ∧ lastB r e = false
    · rw [if_pos c2, if_pos ⟨c2.1, .inr c2.2.2⟩]
      have := fh.2.1 c2.1 c2.2.1 c2.2.2
      rw [Int.mul_ediv_cancel _ (by omega)]
      omega
    · rw [if_neg c2]
      split
      · rename_i h
        by_cases hz : restOf r s e k = 0
        · omega
        · exfalso
          by_cases hlt : restOf r s e k < 0
          · exact c1 ⟨h.1, hlt⟩
          · rcases h.2 with h2 | h2
            · omega
            · exact c2 ⟨h.1, by omega, h2⟩
      · omega
end Lin
/-! rivers: spans that overlap: law-free -/
namespace Lin
open PySem L2 Ab
local macro_rules | `(tactic| walk_at "no") => `(tactic| first
  | exact fun h => Bool.noConfusion (show true = false from h)
  | exact fun h => Bool.noConfusion (show false = true from h)
  | exact fun h => absurd (of_decide_eq_true h) (by omega)
  | exact fun h => absurd (by omega) (of_decide_eq_false h)
  | exact fun h => absurd (by omega) (nd_t h)
  | exact fun h => absurd (nd_f h) (by omega)
  | fail "no")
local macro_rules | `(tactic| walk_at "kb") => `(tactic| first | exact kb_tt | exact kb_ll | exact kb_ii | exact kb_ib | exact kb_ss | exact kb_sb | exact kb_si | exact kb_tb | exact kb_ti | exact kb_ts | exact kb_tl | exact kb_lb | exact kb_li | exact kb_ls | exact kb_lt | exact kb_is | exact kb_it | exact kb_il | exact kb_st | exact kb_sl | exact kb_bb | exact kb_bi | exact kb_nb | exact kb_ni | exact kb_ns | exact kb_nt | exact kb_nl | exact kb_bs | exact kb_bt | exact kb_bl | fail "kb")
local macro_rules | `(tactic| walk_at "norm") => `(tactic| first
  | exact (rfl : _ = ([] : List Sl))
  | ((refine' norm_cons (rfl : _ = _ :: _) ?ea ?et); (case ea => first | exact norm_v | exact norm_n | exact norm_o | exact rfl | fail "norm"); (case et => walk_at "norm"))
  | fail "norm")
local macro_rules | `(tactic| walk_at "x") => `(tactic| first
  | ((with_reducible refine' norm_intro ?hn ?_); (case hn => walk_at "norm"))
  | ((with_reducible refine' we_var ?hh ?_); (case hh => exact rfl))
  | ((with_reducible refine' we_own ?hh ?_); (case hh => exact rfl))
  | with_reducible refine we_c ?_
  | with_reducible refine we_addG ?_
  | with_reducible refine addp_i ?_
  | with_reducible refine we_opI0 ?_
  | with_reducible refine we_opI ?_
  | with_reducible refine we_mulG ?_
  | ((with_reducible refine' mulp_r ?h1 ?_); (case h1 => first | decide | omega | fail "m"))
  | ((with_reducible refine' mulp_l ?h1 ?_); (case h1 => first | decide | omega | fail "m"))
  | with_reducible refine we_neg ?_
  | with_reducible refine we_ltG ?_
  | with_reducible refine ltp_i ?_
  | with_reducible refine we_eqG ?_
  | with_reducible refine we_neG ?_
  | with_reducible refine eqp_i ?_
  | with_reducible refine nep_i ?_
  | with_reducible refine we_ixG ?_
  | ((with_reducible refine' ixp ?h1 ?h2 ?_); (case h1 => exact rfl); (case h2 => exact rfl))
  | with_reducible refine we_lenG ?_
  | ((with_reducible refine' lenp ?hh ?_); (case hh => exact rfl))
  | with_reducible refine we_intG ?_
  | with_reducible refine intp_i ?_
  | with_reducible refine intp_b ?_
  | with_reducible refine we_abs ?_
  | with_reducible refine we_tup ?_
  | with_reducible refine we_lst ?_
  | with_reducible refine we_tuple ?_
  | with_reducible refine we_list ?_
  | with_reducible refine we_sum ?_
  | with_reducible refine we_max2 ?_
  | with_reducible refine we_min2 ?_
  | with_reducible refine wd_cons ?_
  | with_reducible refine wd_nil ?_
  | with_reducible refine wa_cons ?_
  | with_reducible refine wa_nil ?_
  | with_reducible refine we_callH ?_
  | with_reducible refine we_isiG ?_
  | ((with_reducible refine' isi_own ?h1 ?h2 ?_); (case h1 => exact rfl); (case h2 => walk_at "kb"))
  | ((with_reducible refine' isi_val ?h1 ?h2 ?_); (case h1 => exact rfl); (case h2 => walk_at "kb"))
  | ((with_reducible refine' isi_new ?h2 ?_); (case h2 => walk_at "kb"))
  | with_reducible refine we_chainI ?_
  | with_reducible refine we_andV ?_
  | with_reducible refine we_orV ?_
  | with_reducible refine we_notV ?_
  | with_reducible refine wt_test ?_
  | with_reducible refine wt_B ?_
  | with_reducible refine wt_yes ?_
  | with_reducible refine wt_and ?_
  | with_reducible refine wt_or ?_
  | with_reducible refine wt_not ?_
  | ((with_reducible refine' ws_retA ?hh ?_); (case hh => exact rfl))
  | with_reducible refine ws_ret ?_
  | with_reducible refine ws_if ?_
  | with_reducible refine ws_nil ?_
  | with_reducible refine ws_expr ?_
  | with_reducible refine ws_asgN rfl rfl ?_
  | with_reducible refine ws_setN ?_
  | with_reducible refine ws_asgG ?_
  | ((with_reducible refine' wg_tup ?hh ?_); (case hh => exact rfl))
  | with_reducible refine wgs_cons ?_
  | with_reducible refine wgs_nil ?_
  | with_reducible refine wg_nameN rfl rfl ?_
  | ((with_reducible refine' we_appendN ?hh ?_); (case hh => exact rfl))
  | ((with_reducible refine' we_reverseN ?hh ?_); (case hh => exact rfl))
  | ((with_reducible refine' ws_augN ?h1 ?h2 ?_); (case h1 => exact rfl); (case h2 => exact rfl))
  | (refine ⟨_, rfl, ⟨_, rfl⟩, ?_⟩)
  | (refine ⟨_, rfl, ?_⟩)
  | (refine ⟨_, _, _, rfl, rfl, rfl, ?_⟩)
  | (refine ⟨_, _, rfl, rfl, (Nat.le_of_ble_eq_true rfl : _ ≤ _), ?_⟩)
  | (refine ⟨_, _, rfl, rfl, ?_⟩)
  | (refine ⟨(Nat.le_of_ble_eq_true rfl : _ ≤ _), ?_⟩)
  | (refine ⟨(rfl : _ = true), ?_⟩)
  | ((refine' ⟨fun _ => ?_, fun hY => absurd hY ?k2⟩); (case k2 => walk_at "no"))
  | ((refine' ⟨fun hY => absurd hY ?k2, fun _ => ?_⟩); (case k2 => walk_at "no"))
  | (refine ⟨⟨(by omega), (by omega)⟩, ?_⟩)
  | (refine ⟨⟨(by decide), (by decide), (by decide)⟩, ?_⟩)
  | (refine ⟨(by first | decide | omega | fail "c"), ?_⟩)
  | fail "stop")
local macro_rules | `(tactic| walk_at "e") => `(tactic| first | with_reducible refine ws_seq ?_ | walk_at "x" | fail "stop")
local macro_rules | `(tactic| walk_at "xs") => `(tactic| repeat' walk_at "x")
local macro_rules | `(tactic| walk_at "es") => `(tactic| repeat' walk_at "e")
local macro_rules | `(tactic| walk_at "len") => `(tactic| ((intro as Post h); (repeat (first | (obtain ⟨e, _⟩ := h; exact (congrArg List.length e).trans rfl) | (obtain ⟨_, h⟩ := h)))))
local macro_rules | `(tactic| walk_at "x") => `(tactic| first
  | with_reducible refine we_isN ?_
  | with_reducible refine we_notN ?_
  | with_reducible refine we_slG ?_
  | with_reducible refine wo_none ?_
  | with_reducible refine wo_some ?_
  | ((with_reducible refine' ixp ?h1 ?h2 ?_); (case h1 => exact rfl); (case h2 => assumption))
  | ((with_reducible refine' ixp_s ?h1 ?h2 ?_); (case h1 => assumption); (case h2 => assumption))
  | ((with_reducible refine' lenp_s ?h1 ?_); (case h1 => assumption))
  | ((with_reducible refine' slp_s ?h1 ?_); (case h1 => assumption))
  | with_reducible refine we_join ?_
  | with_reducible refine we_gtS ?_
  | ((with_reducible refine' we_ktup ?h1 ?_); (case h1 => assumption))
  | fail "x3")
local macro_rules | `(tactic| walk_at "x") => `(tactic| first
  | with_reducible refine we_fldG ?_
  | ((with_reducible refine' fldp ?h1 ?h2 ?h3 ?_); (case h1 => assumption); (case h2 => assumption); (case h3 => walk_at "lk"))
  | with_reducible refine we_methG ?_
  | ((with_reducible refine' metp ?h3 ?_); (case h3 => walk_at "lk"))
  | with_reducible refine we_make ?_
  | with_reducible refine we_own2 ?_
  | with_reducible refine we_isoG ?_
  | ((with_reducible refine' isop ?h1 ?_); (case h1 => assumption))
  | fail "x4")
local macro_rules | `(tactic| walk_at "nd") => `(tactic| first
  | exact (rfl : _ = ([] : List Dt))
  | ((refine' normD_cons (rfl : _ = _ :: _) ?et); (case et => walk_at "nd"))
  | fail "nd")
local macro_rules | `(tactic| walk_at "x") => `(tactic| first
  | with_reducible refine we_sumG ?_
  | with_reducible refine eqp_st ?_
  | with_reducible refine nep_st ?_
  | ((with_reducible refine' eqp_sf ?h1 ?_); (case h1 => first | assumption | decide +kernel))
  | ((with_reducible refine' nep_sf ?h1 ?_); (case h1 => first | assumption | decide +kernel))
  | with_reducible refine we_inG ?_
  | with_reducible refine we_if ?_
  | ((with_reducible refine' we_clearN ?hh ?_); (case hh => exact rfl))
  | with_reducible refine we_notInG ?_
  | with_reducible refine we_smeth ?_
  | with_reducible refine we_makeD ?_
  | with_reducible refine we_makeK ?_
  | ((with_reducible refine' slp_tE ?h ?_); (case h => walk_at "nd"))
  | ((with_reducible refine' addp_tE ?hz ?h ?_); (case h => walk_at "nd"); (case hz => exact Nat.le_of_ble_eq_true rfl))
  | fail "x5")
local macro_rules | `(tactic| walk_at "tk") => `(tactic| refine .a (tk (by assumption) (by omega) (by omega) (by omega) fun _ _ _ _ _ => ?_))
local macro_rules | `(tactic| walk_at "lk") => `(tactic| first | exact lk_Glue_width | exact lk_Glue_stretch | exact lk_Glue_shrink | exact lk_Glue_no___add__ | exact lk_Measure_width | exact lk_Measure_indent | exact lk_Measure_align | exact lk_Measure_hyphen | exact lk_Measure_twin | exact lk_Measure_river | exact lk_Measure_loose | exact lk_Measure_no_of | fail "lk")
def tq_count_overlapping (K : PySem.W.Frag) : TS :=
    (tSeq (tAsg (tC (.int 0)) (gName 2))
    (tSeq (tAsg (tC (.int 0)) (gName 3))
    (tSeq (tFor (iList K (tVar 1)) (gTup K 2 (gCons (gName 4) (gCons (gName 5) gNil))) (tSeq (tWhile (tAnd (tTest (tOp (rLtG K) (tVar 3) (tCB (rLenV K) (tCons (tVar 0) tNil)))) (tTest (tOp rLeI (tOp (rIx K) (tOp (rIx K) (tVar 0) (tVar 3)) (tC (.int 1))) (tVar 4)))) (tAsg (tOp (rAddG K) (tVar 3) (tC (.int 1))) (gName 3)))
    (tIfS (tAnd (tTest (tOp (rLtG K) (tVar 3) (tCB (rLenV K) (tCons (tVar 0) tNil)))) (tTest (tOp (rLtG K) (tOp (rIx K) (tOp (rIx K) (tVar 0) (tVar 3)) (tC (.int 0))) (tVar 5)))) (tAsg (tOp (rAddG K) (tVar 2) (tC (.int 1))) (gName 2)) tNext)))
    (tRet (tVar 2)))))
def tq_price_with_count (K : PySem.W.Frag) (ap_ends_at_hyphen : AP) : TS :=
    (tSeq (tIfS (tAnd (tTest (tOp rGtI (tFld K (tVar 3) "river") (tC (.int 0)))) (tTest (tOp rGeI (tVar 4) (tFld K (tVar 3) "river")))) (tRet (tC .non)) tNext)
    (tSeq (tIfS (tAnd (tB (tCall (toSp K ap_ends_at_hyphen) [] E0 (tCons (tVar 0) (tCons (tVar 1) tNil)))) (tB (tCall (toSp K ap_ends_at_hyphen) [] E0 (tCons (tVar 0) (tCons (tVar 2) tNil))))) (tRet (tFld K (tVar 3) "twin")) tNext)
    (tRet (tC (.int 0)))))
def tq_pair_price (K : PySem.W.Frag) (ap_gap_spans : AP) (ap_count_overlapping : AP) (ap_price_with_count : AP) : TS :=
    (tSeq (tAsg (tC (.int 0)) (gName 5))
    (tSeq (tIfS (tTest (tOp rGtI (tFld K (tVar 4) "river") (tC (.int 0)))) (tSeq (tAsg (tCall (toSp K ap_gap_spans) [] E0 (tCons (tVar 0) (tCons (tVar 1) (tCons (tVar 2) (tCons (tVar 4) tNil))))) (gName 6))
    (tSeq (tAsg (tCall (toSp K ap_gap_spans) [] E0 (tCons (tVar 0) (tCons (tVar 2) (tCons (tVar 3) (tCons (tVar 4) tNil))))) (gName 7))
    (tAsg (tCall (toSp K ap_count_overlapping) [] E0 (tCons (tVar 6) (tCons (tVar 7) tNil))) (gName 5)))) tNext)
    (tRet (tCall (toSp K ap_price_with_count) [] E0 (tCons (tVar 0) (tCons (tVar 2) (tCons (tVar 3) (tCons (tVar 4) (tCons (tVar 5) tNil)))))))))
def tq_overlap (K : PySem.W.Frag) : TS :=
    (tRet (tOp (rLtG K) (tCB rMx2 (tCons (tCB rInt1 (tCons (tOp (rIx K) (tVar 0) (tC (.int 0))) tNil)) (tCons (tCB rInt1 (tCons (tOp (rIx K) (tVar 1) (tC (.int 0))) tNil)) tNil))) (tCB rMn2 (tCons (tCB rInt1 (tCons (tOp (rIx K) (tVar 0) (tC (.int 1))) tNil)) (tCons (tCB rInt1 (tCons (tOp (rIx K) (tVar 1) (tC (.int 1))) tNil)) tNil)))))
def tq_meet (K : PySem.W.Frag) (ap__law_overlap : AP) : TS :=
    (tSeq (tAsg (tC (.int 0)) (gName 2))
    (tSeq (tFor (iList K (tVar 1)) (gName 3) (tSeq (tAsg (tLc (iList K (tVar 0)) (gName 5) (tB (tCall (toSp K ap__law_overlap) [] E0 (tCons (tVar 5) (tCons (tVar 3) tNil)))) (tVar 5) [5]) (gName 4))
    (tIfS (tTest (tOp rGtI (tCB (rLenV K) (tCons (tVar 4) tNil)) (tC (.int 0)))) (tAsg (tOp (rAddG K) (tVar 2) (tC (.int 1))) (gName 2)) tNext)))
    (tRet (tVar 2))))

def ovl (p q : Int × Int) : Bool := decide ((if q.1 > p.1 then q.1 else p.1) < (if q.2 < p.2 then q.2 else p.2))
def hits (up : List (Int × Int)) (q : Int × Int) : Bool := up.any fun p => ovl p q
def cnt (up lo : List (Int × Int)) : Nat := (lo.filter (hits up)).length
structure Ord (ps : List (Int × Int)) : Prop where
  pos : ∀ p ∈ ps, p.1 < p.2
  dis : ps.Pairwise fun p q => p.2 ≤ q.1
theorem ovl_iff {p q : Int × Int} (hp : p.1 < p.2) (hq : q.1 < q.2) : ovl p q = true ↔ p.1 < q.2 ∧ q.1 < p.2 := by
  unfold ovl
  rw [decide_eq_true_iff]
  split <;> split <;> omega
theorem Ord.le {ps : List (Int × Int)} (h : Ord ps) {i j : Nat} {p q : Int × Int} (hij : i < j) (hp : ps[i]? = some p) (hq : ps[j]? = some q) : p.2 ≤ q.1 := by
  obtain ⟨h1, rfl⟩ := List.getElem?_eq_some_iff.mp hp
  obtain ⟨h2, rfl⟩ := List.getElem?_eq_some_iff.mp hq
  exact List.pairwise_iff_getElem.mp h.dis i j h1 h2 hij
/-- what the two pointers find -/
theorem hits_iff {up : List (Int × Int)} (ou : Ord up) {q : Int × Int} (hq : q.1 < q.2) {a : Nat} (hlow : ∀ i p, i < a → up[i]? = some p → p.2 ≤ q.1) (hup : ∀ p, up[a]? = some p → q.1 < p.2) :
    hits up q = true ↔ ∃ p, up[a]? = some p ∧ p.1 < q.2 := by
  unfold hits
  rw [List.any_eq_true]
  constructor
  · rintro ⟨p, hp, ho⟩
    obtain ⟨h1, h2⟩ := (ovl_iff (ou.pos p hp) hq).mp ho
    obtain ⟨i, hi⟩ := List.mem_iff_getElem?.mp hp
    have hai : ¬ i < a := fun z => by have := hlow i p z hi; omega
    have hal : a < up.length := by have := (List.getElem?_eq_some_iff.mp hi).1; omega
    refine ⟨up[a], List.getElem?_eq_getElem hal, ?_⟩
    by_cases hia : i = a
    · subst hia
      rw [List.getElem?_eq_getElem hal] at hi
      cases hi
      exact h1
    · have := ou.le (show a < i by omega) (List.getElem?_eq_getElem hal) hi
      have := ou.pos up[a] (List.getElem_mem hal)
      omega
  · rintro ⟨p, hp, h1⟩
    exact ⟨p, List.mem_of_getElem? hp, (ovl_iff (ou.pos p (List.mem_of_getElem? hp)) hq).mpr ⟨h1, hup p hp⟩⟩
theorem cnt_snoc (up lo : List (Int × Int)) (q : Int × Int) : cnt up (lo ++ [q]) = cnt up lo + (if hits up q = true then 1 else 0) := by
  unfold cnt
  rw [List.filter_append, List.length_append]
  by_cases h : hits up q = true
  · simp [h]
  · simp [h]
def ap_countA : AP := fun as Post => ∃ (up lo : List (Int × Int)), as = [.acc (up.map pairD), .acc (lo.map pairD)] ∧ Ord up ∧ Ord lo ∧ up.length ≤ 1000 ∧ lo.length ≤ 1000 ∧ Post (.val (.int (cnt up lo))) as
def ap_countV : AP := fun as Post => ∃ (up lo : List (Int × Int)), as = [.val (.lst (up.map pairD)), .val (.lst (lo.map pairD))] ∧ Ord up ∧ Ord lo ∧ up.length ≤ 1000 ∧ lo.length ≤ 1000 ∧ Post (.val (.int (cnt up lo))) as
def ap_ovl : AP := fun as Post => ∃ p q : Int × Int, as = [.val (pairD p), .val (pairD q)] ∧ Post (.val (.bl (ovl p q))) as
def ap_meet : AP := fun as Post => ∃ up lo : List (Int × Int), as = [.val (.lst (up.map pairD)), .val (.lst (lo.map pairD))] ∧ up.length ≤ 1000 ∧ lo.length ≤ 1000 ∧ Post (.val (.int (cnt up lo))) as
def pairC (r : Row) (m e : Nat) (k : Key) (n : Nat) : Option Int := if 0 < k.ri ∧ k.ri ≤ (n : Int) then none else some (if r.hyE m = true ∧ r.hyE e = true then k.tw else 0)
def pairP (r : Row) (s m e : Nat) (k : Key) : Option Int := pairC r m e k (if 0 < k.ri then cnt (spans r s m k) (spans r m e k) else 0)
def ap_pwc (m : Addr) : AP := fun as Post => ∃ (r : Row) (i e : Nat) (k : Key) (n : Nat), as = [.val r.dt, .val (.int i), .val (.int e), .val (k.ob m), .val (.int n)] ∧ RowOk r ∧ 1 ≤ i ∧ 1 ≤ e ∧ Post (.val (optD (pairC r i e k n))) as
def ap_pair (m : Addr) : AP := fun as Post => ∃ (r : Row) (s i e : Nat) (k : Key), as = [.val r.dt, .val (.int s), .val (.int i), .val (.int e), .val (k.ob m)] ∧ RowOk r ∧ s < i ∧ i < e ∧ e ≤ r.ws.length ∧ KeyB k ∧ Fit r s i k ∧ Fit r i e k ∧ Post (.val (optD (pairP r s i e k))) as
/-! spans of a line are in order -/
theorem place_mono {r : Row} {s e : Nat} {k : Key} (ok : RowOk r) (hs : s < e) (he : e ≤ r.ws.length) (kl : 0 ≤ k.lo) (ft : Fit r s e k) : ∀ {i j : Nat}, i ≤ j → j ≤ e - s - 1 → placeAt r s e k i ≤ placeAt r s e k j
  | i, 0, h, _ => by rw [show i = 0 by omega]; exact Int.le_refl _
  | i, j + 1, h, hj => by
    by_cases hij : i = j + 1
    · rw [hij]; exact Int.le_refl _
    · have := place_mono ok hs he kl ft (i := i) (j := j) (by omega) (by omega)
      have := (place_step ok hs he kl ft (i := j) (by omega)).1
      omega
theorem spans_ord {r : Row} {s e : Nat} {k : Key} (ok : RowOk r) (hs : s < e) (he : e ≤ r.ws.length) (kl : 0 ≤ k.lo) (ft : Fit r s e k) : Ord (spans r s e k) := by
  constructor
  · intro p hp
    unfold spans spansTo at hp
    obtain ⟨i, hi, rfl⟩ := List.mem_map.mp hp
    obtain ⟨h1, h2⟩ := List.mem_filter.mp hi
    have := (place_step ok hs he kl ft (List.mem_range.mp h1)).2 h2
    show placeAt r s e k i + r.W (s + i) < placeAt r s e k (i + 1)
    omega
  · unfold spans spansTo
    rw [List.pairwise_map]
    refine List.Pairwise.imp_of_mem ?_ (List.Pairwise.filter _ List.pairwise_lt_range)
    intro i j hi hj hij
    have h2 := List.mem_range.mp (List.mem_filter.mp hj).1
    have := place_mono ok hs he kl ft (i := i + 1) (j := j) (by omega) (by omega)
    have := (ok.w (s + j) (by omega)).1
    show placeAt r s e k (i + 1) ≤ placeAt r s e k j + r.W (s + j)
    omega
theorem spans_len {r : Row} {s e : Nat} {k : Key} (ok : RowOk r) (he : e ≤ r.ws.length) : (spans r s e k).length ≤ 100 := by
  unfold spans spansTo
  rw [List.length_map]
  have := ok.n
  exact Nat.le_trans (List.length_filter_le _ _) (by rw [List.length_range]; omega)
theorem sl_lst {s : Sl} {ds : List Dt} (h : slDt s = some (.lst ds)) : s = .val (.lst ds) ∨ s = .acc ds := by
  cases s with
  | un => cases h
  | val d => cases h; exact .inl rfl
  | acc es => cases h; exact .inr rfl
section
variable {K : PySem.W.Frag} {c m : Addr}
theorem run_ovl : RunOk K [] (tq_overlap K) 2 ap_ovl := by
  rintro as Post ⟨p, q, rfl, k⟩
  unfold tq_overlap
  show WS K [] _ [.val (pairD p), .val (pairD q)] _
  walk_at "es"
  exact k
theorem run_meet : RunOk K [] (tq_meet K ap_ovl) 6 ap_meet := by
  rintro as Post ⟨up, lo, rfl, hu, hlo, k⟩
  unfold tq_meet
  show WS K [] _ [.val (.lst (up.map pairD)), .val (.lst (lo.map pairD)), .un, .un, .un, .un] _
  walk_at "es"
  refine for_lst (lo.map pairD) (fun i G => ∃ s3 s4, G = [.val (.lst (up.map pairD)), .val (.lst (lo.map pairD)), .val (.int (cnt up (lo.take i))), s3, s4, .un]) ?_ ?_ ?_
  · walk_at "xs"
    exact .a ⟨rfl, _, _, rfl⟩
  · rintro i d G hd ⟨s3, s4, rfl⟩
    rw [List.getElem?_map] at hd
    obtain ⟨q, hq, rfl⟩ := Option.map_eq_some_iff.mp hd
    walk_at "es"
    refine lc_lst (up.map pairD) (fun j es G => es = ((up.take j).filter fun p => ovl p q).map pairD ∧ G = [.val (.lst (up.map pairD)), .val (.lst (lo.map pairD)), .val (.int (cnt up (lo.take i))), .val (pairD q), s4, .un]) ?_ ?_ ?_
    · walk_at "xs"
      exact .a ⟨rfl, by rw [List.length_map]; omega, rfl, rfl, rfl, rfl, rfl⟩
    · rintro j d es G hd ⟨rfl, rfl⟩
      rw [List.getElem?_map] at hd
      obtain ⟨p, hp, rfl⟩ := Option.map_eq_some_iff.mp hd
      show WT K _ [.val (.lst (up.map pairD)), .val (.lst (lo.map pairD)), .val (.int (cnt up (lo.take i))), .val (pairD q), s4, .val (pairD p)] _
      have tk1 : up.take (j + 1) = up.take j ++ [p] := by rw [List.take_add_one, hp]; rfl
      walk_at "xs"
      refine .a ⟨p, q, rfl, ?_⟩
      walk_at "xs"
      refine ⟨fun h => ?_, fun h => ?_⟩
      · walk_at "xs"
        refine .a ⟨?_, rfl⟩
        rw [tk1, List.filter_append, List.map_append]
        simp [h]
      · walk_at "xs"
        refine .a ⟨?_, rfl⟩
        rw [tk1, List.filter_append, List.map_append]
        simp [h]
    · rintro es G ⟨rfl, rfl⟩
      rw [List.length_map, List.take_length]
      have e1 : lo.take (i + 1) = lo.take i ++ [q] := by rw [List.take_add_one, hq]; rfl
      have hh : (0 < (up.filter fun p => ovl p q).length) ↔ hits up q = true := by
        unfold hits
        rw [List.any_eq_true, List.length_pos_iff_exists_mem]
        constructor
        · rintro ⟨p, hp⟩; exact ⟨p, (List.mem_filter.mp hp).1, (List.mem_filter.mp hp).2⟩
        · rintro ⟨p, h1, h2⟩; exact ⟨p, List.mem_filter.mpr ⟨h1, h2⟩⟩
      have hl : ((((up.filter fun p => ovl p q).map pairD).length : Nat) : Int) = ((up.filter fun p => ovl p q).length : Int) := by rw [List.length_map]
      walk_at "es"
      rw [hl]
      refine ⟨fun h => ?_, fun h => ?_⟩
      · have h' := of_decide_eq_true h
        have hy := hh.mp (by omega)
        walk_at "es"
        refine .a ⟨.val (pairD q), .acc ((up.filter fun p => ovl p q).map pairD), ?_⟩
        rw [e1, cnt_snoc, if_pos hy]
        rfl
      · have h' := of_decide_eq_false h
        have hy : ¬ hits up q = true := fun z => h' (by have := hh.mpr z; omega)
        walk_at "es"
        refine .a ⟨.val (pairD q), .acc ((up.filter fun p => ovl p q).map pairD), ?_⟩
        rw [e1, cnt_snoc, if_neg hy]
        rfl
  · rintro G ⟨s3, s4, rfl⟩
    rw [List.length_map, List.take_length]
    walk_at "es"
    exact k
theorem run_pwc (mo : MeasOk K m) : RunOk K [] (tq_price_with_count K ap_ends) 5 (ap_pwc m) := by
  rintro as Post ⟨r, i, e, k, n, rfl, ok, hi, he, p⟩
  have cl := mo.co.cl; have n4 := mo.n4; have n5 := mo.n5
  unfold tq_price_with_count
  show WS K [] _ [.val r.dt, .val (.int i), .val (.int e), .val (k.ob m), .val (.int n)] _
  unfold pairC at p
  by_cases c1 : 0 < k.ri ∧ k.ri ≤ (n : Int)
  · rw [if_pos c1] at p
    walk_at "es"
    exact p
  · rw [if_neg c1] at p
    refine ws_cut (fun G => G = [.val r.dt, .val (.int i), .val (.int e), .val (k.ob m), .val (.int n)]) ?_ ?_
    · by_cases c2 : 0 < k.ri
      · have c3 : ¬ k.ri ≤ (n : Int) := fun z => c1 ⟨c2, z⟩
        walk_at "es"
        exact .a rfl
      · walk_at "es"
        exact .a rfl
    · rintro G rfl
      walk_at "es"
      refine .a ⟨r, i, rfl, ok, hi, ?_⟩
      walk_at "es"
      refine ⟨fun h1 => ?_, fun h1 => ?_⟩
      · walk_at "es"
        refine .a ⟨r, e, rfl, ok, he, ?_⟩
        walk_at "es"
        refine ⟨fun h2 => ?_, fun h2 => ?_⟩
        · rw [if_pos ⟨h1, h2⟩] at p
          walk_at "es"
          exact p
        · rw [if_neg (fun z => by rw [h2] at z; exact Bool.noConfusion z.2)] at p
          walk_at "es"
          exact p
      · rw [if_neg (fun z => by rw [h1] at z; exact Bool.noConfusion z.1)] at p
        walk_at "es"
        exact p
theorem run_pair (mo : MeasOk K m) : RunOk K [] (tq_pair_price K (ap_spans m) ap_countA (ap_pwc m)) 8 (ap_pair m) := by
  rintro as Post ⟨r, s, i, e, k, rfl, ok, hs, hi, he, kb, f1, f2, p⟩
  have cl := mo.co.cl; have n5 := mo.n5
  unfold tq_pair_price
  show WS K [] _ [.val r.dt, .val (.int s), .val (.int i), .val (.int e), .val (k.ob m), .un, .un, .un] _
  unfold pairP at p
  by_cases c1 : 0 < k.ri
  · rw [if_pos c1] at p
    walk_at "es"
    refine .a ⟨r, s, i, k, rfl, ok, hs, by omega, kb, f1, ?_⟩
    walk_at "es"
    refine .a ⟨r, i, e, k, rfl, ok, hi, he, kb, f2, ?_⟩
    walk_at "es"
    refine .a ⟨spans r s i k, spans r i e k, rfl, spans_ord ok hs (by omega) kb.l1 f1, spans_ord ok hi he kb.l1 f2, Nat.le_trans (spans_len ok (by omega)) (by decide), Nat.le_trans (spans_len ok he) (by decide), ?_⟩
    walk_at "es"
    refine .a ⟨r, i, e, k, _, rfl, ok, by omega, by omega, ?_⟩
    walk_at "es"
    exact p
  · rw [if_neg c1] at p
    walk_at "es"
    refine .a ⟨r, i, e, k, 0, rfl, ok, by omega, by omega, ?_⟩
    walk_at "es"
    exact p
theorem run_countA : RunOk K [0, 1] (tq_count_overlapping K) 6 ap_countA := by
  rintro as Post ⟨up, lo, rfl, ou, ol, hu, hlo, k⟩
  have hlen : ((up.map pairD).length : Int) = up.length := by rw [List.length_map]
  unfold tq_count_overlapping
  show WS K [0, 1] _ [.acc (up.map pairD), .acc (lo.map pairD), .un, .un, .un, .un] _
  walk_at "es"
  refine for_acc (k := 1) (lo.map pairD) (fun i G => ∃ (a : Nat) (s4 s5 : Sl), a ≤ up.length ∧ (∀ j p q, j < a → up[j]? = some p → lo[i]? = some q → p.2 ≤ q.1) ∧ G = [.acc (up.map pairD), .acc (lo.map pairD), .val (.int (cnt up (lo.take i))), .val (.int a), s4, s5]) rfl ⟨0, .un, .un, Nat.zero_le _, (fun j p q hj => absurd hj (Nat.not_lt_zero _)), rfl⟩ (by rintro j G ⟨a, s4, s5, _, _, rfl⟩; rfl) ?_ ?_
  · rintro i d G hd ⟨a, s4, s5, ha, hlow, rfl⟩
    rw [List.getElem?_map] at hd
    obtain ⟨q, hq, rfl⟩ := Option.map_eq_some_iff.mp hd
    have hqp := ol.pos q (List.mem_of_getElem? hq)
    have e1 : lo.take (i + 1) = lo.take i ++ [q] := by rw [List.take_add_one, hq]; rfl
    walk_at "xs"
    refine ws_cut (fun G => ∃ b : Nat, b ≤ up.length ∧ (∀ j p, j < b → up[j]? = some p → p.2 ≤ q.1) ∧ (∀ p, up[b]? = some p → q.1 < p.2) ∧ G = [.acc (up.map pairD), .acc (lo.map pairD), .val (.int (cnt up (lo.take i))), .val (.int b), .val (.int q.1), .val (.int q.2)]) ?_ ?_
    · refine while_ab (fun m G => ∃ b : Nat, b ≤ up.length ∧ m = up.length - b ∧ (∀ j p, j < b → up[j]? = some p → p.2 ≤ q.1) ∧ G = [.acc (up.map pairD), .acc (lo.map pairD), .val (.int (cnt up (lo.take i))), .val (.int b), .val (.int q.1), .val (.int q.2)]) (up.length - a) ⟨a, ha, rfl, fun j p hj hp => hlow j p q hj hp hq, rfl⟩ ?_
      rintro m G ⟨b, hb, rfl, hlw, rfl⟩
      by_cases hbl : (b : Int) < up.length
      · obtain ⟨p, hp⟩ : ∃ p, up[b]? = some p := ⟨_, List.getElem?_eq_getElem (by omega)⟩
        have hix : atI (up.map pairD) (b : Int) = some (pairD p) := atI_of rfl (by rw [List.getElem?_map, hp]; rfl)
        by_cases hpq : p.2 ≤ q.1
        · walk_at "es"
          refine .a ⟨up.length - (b + 1), by omega, b + 1, by omega, rfl, fun j p' hj hp' => ?_, by rw [show ((b + 1 : Nat) : Int) = (b : Int) + 1 by omega]⟩
          by_cases hjb : j < b
          · exact hlw j p' hjb hp'
          · have : j = b := by omega
            subst this
            rw [hp] at hp'
            cases hp'
            exact hpq
        · walk_at "es"
          exact .a ⟨b, hb, hlw, fun p' hp' => by rw [hp] at hp'; cases hp'; omega, rfl⟩
      · walk_at "es"
        exact .a ⟨b, hb, hlw, fun p' hp' => by have := (List.getElem?_eq_some_iff.mp hp').1; omega, rfl⟩
    · rintro G ⟨b, hb, hlw, hup, rfl⟩
      have hi := hits_iff ou hqp hlw hup
      have nxt : ∀ j p q', j < b → up[j]? = some p → lo[i + 1]? = some q' → p.2 ≤ q'.1 := fun j p q' hj hp hq' => by
        have := hlw j p hj hp
        have := ol.le (show i < i + 1 by omega) hq hq'
        omega
      by_cases hbl : (b : Int) < up.length
      · obtain ⟨p, hp⟩ : ∃ p, up[b]? = some p := ⟨_, List.getElem?_eq_getElem (by omega)⟩
        have hix : atI (up.map pairD) (b : Int) = some (pairD p) := atI_of rfl (by rw [List.getElem?_map, hp]; rfl)
        by_cases hpq : p.1 < q.2
        · have hy : hits up q = true := hi.mpr ⟨p, hp, hpq⟩
          walk_at "es"
          refine .a ⟨b, .val (.int q.1), .val (.int q.2), hb, nxt, ?_⟩
          rw [e1, cnt_snoc, if_pos hy]
          rfl
        · have hy : ¬ hits up q = true := fun z => by
            obtain ⟨p', hp', h'⟩ := hi.mp z
            rw [hp] at hp'; cases hp'; exact hpq h'
          walk_at "es"
          refine .a ⟨b, .val (.int q.1), .val (.int q.2), hb, nxt, ?_⟩
          rw [e1, cnt_snoc, if_neg hy]
          rfl
      · have hy : ¬ hits up q = true := fun z => by
          obtain ⟨p', hp', h'⟩ := hi.mp z
          have := (List.getElem?_eq_some_iff.mp hp').1
          omega
        walk_at "es"
        refine .a ⟨b, .val (.int q.1), .val (.int q.2), hb, nxt, ?_⟩
        rw [e1, cnt_snoc, if_neg hy]
        rfl
  · rintro G ⟨a, s4, s5, _, _, rfl⟩
    rw [List.length_map, List.take_length]
    walk_at "es"
    exact k
theorem run_countV : RunOk K [] (tq_count_overlapping K) 6 ap_countV := by
  rintro as Post ⟨up, lo, rfl, ou, ol, hu, hlo, k⟩
  have hlen : ((up.map pairD).length : Int) = up.length := by rw [List.length_map]
  unfold tq_count_overlapping
  show WS K [] _ [.val (.lst (up.map pairD)), .val (.lst (lo.map pairD)), .un, .un, .un, .un] _
  walk_at "es"
  refine for_lst (lo.map pairD) (fun i G => ∃ (a : Nat) (s4 s5 : Sl), a ≤ up.length ∧ (∀ j p q, j < a → up[j]? = some p → lo[i]? = some q → p.2 ≤ q.1) ∧ G = [.val (.lst (up.map pairD)), .val (.lst (lo.map pairD)), .val (.int (cnt up (lo.take i))), .val (.int a), s4, s5]) ?_ ?_ ?_
  · walk_at "xs"
    exact .a ⟨rfl, 0, .un, .un, Nat.zero_le _, (fun j p q hj => absurd hj (Nat.not_lt_zero _)), rfl⟩
  · rintro i d G hd ⟨a, s4, s5, ha, hlow, rfl⟩
    rw [List.getElem?_map] at hd
    obtain ⟨q, hq, rfl⟩ := Option.map_eq_some_iff.mp hd
    have hqp := ol.pos q (List.mem_of_getElem? hq)
    have e1 : lo.take (i + 1) = lo.take i ++ [q] := by rw [List.take_add_one, hq]; rfl
    walk_at "xs"
    refine ws_cut (fun G => ∃ b : Nat, b ≤ up.length ∧ (∀ j p, j < b → up[j]? = some p → p.2 ≤ q.1) ∧ (∀ p, up[b]? = some p → q.1 < p.2) ∧ G = [.val (.lst (up.map pairD)), .val (.lst (lo.map pairD)), .val (.int (cnt up (lo.take i))), .val (.int b), .val (.int q.1), .val (.int q.2)]) ?_ ?_
    · refine while_ab (fun m G => ∃ b : Nat, b ≤ up.length ∧ m = up.length - b ∧ (∀ j p, j < b → up[j]? = some p → p.2 ≤ q.1) ∧ G = [.val (.lst (up.map pairD)), .val (.lst (lo.map pairD)), .val (.int (cnt up (lo.take i))), .val (.int b), .val (.int q.1), .val (.int q.2)]) (up.length - a) ⟨a, ha, rfl, fun j p hj hp => hlow j p q hj hp hq, rfl⟩ ?_
      rintro m G ⟨b, hb, rfl, hlw, rfl⟩
      by_cases hbl : (b : Int) < up.length
      · obtain ⟨p, hp⟩ : ∃ p, up[b]? = some p := ⟨_, List.getElem?_eq_getElem (by omega)⟩
        have hix : atI (up.map pairD) (b : Int) = some (pairD p) := atI_of rfl (by rw [List.getElem?_map, hp]; rfl)
        by_cases hpq : p.2 ≤ q.1
        · walk_at "es"
          refine .a ⟨up.length - (b + 1), by omega, b + 1, by omega, rfl, fun j p' hj hp' => ?_, by rw [show ((b + 1 : Nat) : Int) = (b : Int) + 1 by omega]⟩
          by_cases hjb : j < b
          · exact hlw j p' hjb hp'
          · have : j = b := by omega
            subst this
            rw [hp] at hp'
            cases hp'
            exact hpq
        · walk_at "es"
          exact .a ⟨b, hb, hlw, fun p' hp' => by rw [hp] at hp'; cases hp'; omega, rfl⟩
      · walk_at "es"
        exact .a ⟨b, hb, hlw, fun p' hp' => by have := (List.getElem?_eq_some_iff.mp hp').1; omega, rfl⟩
    · rintro G ⟨b, hb, hlw, hup, rfl⟩
      have hi := hits_iff ou hqp hlw hup
      have nxt : ∀ j p q', j < b → up[j]? = some p → lo[i + 1]? = some q' → p.2 ≤ q'.1 := fun j p q' hj hp hq' => by
        have := hlw j p hj hp
        have := ol.le (show i < i + 1 by omega) hq hq'
        omega
      by_cases hbl : (b : Int) < up.length
      · obtain ⟨p, hp⟩ : ∃ p, up[b]? = some p := ⟨_, List.getElem?_eq_getElem (by omega)⟩
        have hix : atI (up.map pairD) (b : Int) = some (pairD p) := atI_of rfl (by rw [List.getElem?_map, hp]; rfl)
        by_cases hpq : p.1 < q.2
        · have hy : hits up q = true := hi.mpr ⟨p, hp, hpq⟩
          walk_at "es"
          refine .a ⟨b, .val (.int q.1), .val (.int q.2), hb, nxt, ?_⟩
          rw [e1, cnt_snoc, if_pos hy]
          rfl
        · have hy : ¬ hits up q = true := fun z => by
            obtain ⟨p', hp', h'⟩ := hi.mp z
            rw [hp] at hp'; cases hp'; exact hpq h'
          walk_at "es"
          refine .a ⟨b, .val (.int q.1), .val (.int q.2), hb, nxt, ?_⟩
          rw [e1, cnt_snoc, if_neg hy]
          rfl
      · have hy : ¬ hits up q = true := fun z => by
          obtain ⟨p', hp', h'⟩ := hi.mp z
          have := (List.getElem?_eq_some_iff.mp hp').1
          omega
        walk_at "es"
        refine .a ⟨b, .val (.int q.1), .val (.int q.2), hb, nxt, ?_⟩
        rw [e1, cnt_snoc, if_neg hy]
        rfl
  · rintro G ⟨a, s4, s5, _, _, rfl⟩
    rw [List.length_map, List.take_length]
    walk_at "es"
    exact k
end
def tq_possible (K : PySem.W.Frag) (ap__law_glue : AP) : TS :=
    (tSeq (tAsg (tCall (toSp K ap__law_glue) [] E0 (tCons (tVar 0) (tCons (tVar 1) (tCons (tVar 2) tNil)))) (gName 4))
    (tSeq (tAsg (tOp rSubI (tOp rSubI (tOp (rIx K) (tVar 3) (tC (.int 0))) (tOp (rMulG K) (tOp (rIx K) (tVar 3) (tC (.int 1))) (tCB rInt1 (tCons (tOp (rEqG K) (tVar 1) (tC (.int 0))) tNil)))) (tOp (rIx K) (tVar 4) (tC (.int 0)))) (gName 5))
    (tSeq (tIfS (tTest (tOp (rLtG K) (tVar 5) (tC (.int 0)))) (tRet (tAndV (tOp (rEqG K) (tOp (rIx K) (tVar 3) (tC (.int 2))) (tC (.str "both"))) (tOp rLeI (tUn rNegI (tVar 5)) (tOp (rIx K) (tVar 4) (tC (.int 2)))))) tNext)
    (tRet (tOrV (tOp (rEqG K) (tOp (rIx K) (tVar 3) (tC (.int 2))) (tC (.str "left"))) (tOrV (tOp (rEqG K) (tVar 2) (tCB (rLenV K) (tCons (tOp (rIx K) (tVar 0) (tC (.int 0))) tNil))) (tOp rLeI (tVar 5) (tOp (rMulG K) (tOp (rIx K) (tVar 3) (tC (.int 6))) (tOp (rIx K) (tVar 4) (tC (.int 1)))))))))))
def ap_poss : AP := fun as Post => ∃ (r : Row) (s e : Nat) (k : Key), as = [.val r.dt, .val (.int s), .val (.int e), .val k.dt] ∧ RowOk r ∧ s < e ∧ e ≤ r.ws.length ∧ KeyB k ∧ Post (.val (.bl (posB (lineG r s e) (roomOf s k) k (lastB r e)))) as
theorem room_rest {k : Key} (s : Nat) : k.i * (if decide ((s : Int) = 0) = true then 1 else 0) = plain0 k s ∧ ∀ w, k.w - plain0 k s - w = roomOf s k - w := by
  unfold plain0 roomOf
  by_cases h : s = 0
  · simp [h]
  · have : ¬ ((s : Int) = 0) := by omega
    simp [h, this]
theorem last_lt {r : Row} {e : Nat} (he : e ≤ r.ws.length) : (lastB r e = false ↔ (e : Int) < r.ws.length) := by
  unfold lastB
  rw [decide_eq_false_iff_not]
  omega
section
variable {K : PySem.W.Frag} {c m : Addr}
theorem run_poss : RunOk K [] (tq_possible K ap_lglue) 6 ap_poss := by
  rintro as Post ⟨r, s, e, k, rfl, ok, hs, he, kb, p⟩
  have gb := line_bd ok hs he
  obtain ⟨er, er2⟩ := room_rest (k := k) s
  have rb := room_bd kb s
  obtain ⟨_, _, ki1, ki2, kl1, kl2⟩ := id kb
  have hl : ((r.ws.map Dt.int).length : Int) = r.ws.length := by rw [List.length_map]
  have el : decide ((e : Int) = r.ws.length) = lastB r e := by unfold lastB; by_cases h : e = r.ws.length <;> simp [h, Int.ofNat_inj]
  unfold tq_possible
  show WS K [] _ [.val r.dt, .val (.int s), .val (.int e), .val k.dt, .un, .un] _
  refine ws_seq ?_
  walk_at "xs"
  refine .a ⟨r, s, e, rfl, ok, hs, he, ?_⟩
  generalize lineG r s e = g at gb p ⊢
  obtain ⟨w1, w2, s1, s2, h1, h2⟩ := gb
  walk_at "xs"
  refine ws_seq ?_
  walk_at "xs"
  rw [er, er2]
  generalize roomOf s k = room at rb p ⊢
  have hls : 0 ≤ k.lo * g.s := Int.mul_nonneg kl1 s1
  unfold posB at p
  obtain ⟨kw, ki, kb', kh, kt, kr, kl⟩ := k
  cases kb' with
  | true =>
    rw [if_pos rfl] at p
    show WS K [] _ [.val r.dt, .val (.int s), .val (.int e), .val (.tup [.int kw, .int ki, .str "both", .int kh, .int kt, .int kr, .int kl]), .acc [.int g.w, .int g.s, .int g.h], .val (.int (room - g.w))] _
    by_cases c1 : room - g.w < 0
    · rw [if_pos c1] at p
      walk_at "es"
      exact p
    · rw [if_neg c1] at p
      walk_at "es"
      rw [hl, el]
      cases hla : lastB r e with
      | true =>
        rw [hla, if_pos (.inr rfl)] at p
        walk_at "es"
        exact p
      | false =>
        rw [hla] at p
        walk_at "es"
        by_cases c2 : room - g.w = 0
        · rw [if_pos (.inl c2)] at p
          rw [decide_eq_true (show room - g.w ≤ kl * g.s by show room - g.w ≤ kl * g.s; have : 0 ≤ kl * g.s := hls; omega)]
          exact p
        · rw [if_neg (fun z => z.elim c2 Bool.noConfusion)] at p
          exact p
  | false =>
    rw [if_neg Bool.false_ne_true] at p
    show WS K [] _ [.val r.dt, .val (.int s), .val (.int e), .val (.tup [.int kw, .int ki, .str "left", .int kh, .int kt, .int kr, .int kl]), .acc [.int g.w, .int g.s, .int g.h], .val (.int (room - g.w))] _
    by_cases c1 : room - g.w < 0
    · rw [decide_eq_false (by omega)] at p
      walk_at "es"
      exact p
    · rw [decide_eq_true (by omega)] at p
      walk_at "es"
      exact p
end
end Lin
namespace Lk53
open PySem L2 Ab Lin
local macro_rules | `(tactic| walk_at "no") => `(tactic| first
  | exact fun h => Bool.noConfusion (show true = false from h)
  | exact fun h => Bool.noConfusion (show false = true from h)
  | exact fun h => absurd (of_decide_eq_true h) (by omega)
  | exact fun h => absurd (by omega) (of_decide_eq_false h)
  | exact fun h => absurd (by omega) (nd_t h)
  | exact fun h => absurd (nd_f h) (by omega)
  | fail "no")
local macro_rules | `(tactic| walk_at "kb") => `(tactic| first | exact kb_tt | exact kb_ll | exact kb_ii | exact kb_ib | exact kb_ss | exact kb_sb | exact kb_si | exact kb_tb | exact kb_ti | exact kb_ts | exact kb_tl | exact kb_lb | exact kb_li | exact kb_ls | exact kb_lt | exact kb_is | exact kb_it | exact kb_il | exact kb_st | exact kb_sl | exact kb_bb | exact kb_bi | exact kb_nb | exact kb_ni | exact kb_ns | exact kb_nt | exact kb_nl | exact kb_bs | exact kb_bt | exact kb_bl | fail "kb")
local macro_rules | `(tactic| walk_at "norm") => `(tactic| first
  | exact (rfl : _ = ([] : List Sl))
  | ((refine' norm_cons (rfl : _ = _ :: _) ?ea ?et); (case ea => first | exact norm_v | exact norm_n | exact norm_o | exact rfl | fail "norm"); (case et => walk_at "norm"))
  | fail "norm")
local macro_rules | `(tactic| walk_at "x") => `(tactic| first
  | ((with_reducible refine' norm_intro ?hn ?_); (case hn => walk_at "norm"))
  | ((with_reducible refine' we_var ?hh ?_); (case hh => exact rfl))
  | ((with_reducible refine' we_own ?hh ?_); (case hh => exact rfl))
  | with_reducible refine we_c ?_
  | with_reducible refine we_addG ?_
  | with_reducible refine addp_i ?_
  | with_reducible refine we_opI0 ?_
  | with_reducible refine we_opI ?_
  | with_reducible refine we_mulG ?_
  | ((with_reducible refine' mulp_r ?h1 ?_); (case h1 => first | decide | omega | fail "m"))
  | ((with_reducible refine' mulp_l ?h1 ?_); (case h1 => first | decide | omega | fail "m"))
  | with_reducible refine we_neg ?_
  | with_reducible refine we_ltG ?_
  | with_reducible refine ltp_i ?_
  | with_reducible refine we_eqG ?_
  | with_reducible refine we_neG ?_
  | with_reducible refine eqp_i ?_
  | with_reducible refine nep_i ?_
  | with_reducible refine we_ixG ?_
  | ((with_reducible refine' ixp ?h1 ?h2 ?_); (case h1 => exact rfl); (case h2 => exact rfl))
  | with_reducible refine we_lenG ?_
  | ((with_reducible refine' lenp ?hh ?_); (case hh => exact rfl))
  | with_reducible refine we_intG ?_
  | with_reducible refine intp_i ?_
  | with_reducible refine intp_b ?_
  | with_reducible refine we_abs ?_
  | with_reducible refine we_tup ?_
  | with_reducible refine we_lst ?_
  | with_reducible refine we_tuple ?_
  | with_reducible refine we_list ?_
  | with_reducible refine we_sum ?_
  | with_reducible refine we_max2 ?_
  | with_reducible refine we_min2 ?_
  | with_reducible refine wd_cons ?_
  | with_reducible refine wd_nil ?_
  | with_reducible refine wa_cons ?_
  | with_reducible refine wa_nil ?_
  | with_reducible refine we_callH ?_
  | with_reducible refine we_isiG ?_
  | ((with_reducible refine' isi_own ?h1 ?h2 ?_); (case h1 => exact rfl); (case h2 => walk_at "kb"))
  | ((with_reducible refine' isi_val ?h1 ?h2 ?_); (case h1 => exact rfl); (case h2 => walk_at "kb"))
  | ((with_reducible refine' isi_new ?h2 ?_); (case h2 => walk_at "kb"))
  | with_reducible refine we_chainI ?_
  | with_reducible refine we_andV ?_
  | with_reducible refine we_orV ?_
  | with_reducible refine we_notV ?_
  | with_reducible refine wt_test ?_
  | with_reducible refine wt_B ?_
  | with_reducible refine wt_yes ?_
  | with_reducible refine wt_and ?_
  | with_reducible refine wt_or ?_
  | with_reducible refine wt_not ?_
  | ((with_reducible refine' ws_retA ?hh ?_); (case hh => exact rfl))
  | with_reducible refine ws_ret ?_
  | with_reducible refine ws_if ?_
  | with_reducible refine ws_nil ?_
  | with_reducible refine ws_expr ?_
  | with_reducible refine ws_asgN rfl rfl ?_
  | with_reducible refine ws_setN ?_
  | with_reducible refine ws_asgG ?_
  | ((with_reducible refine' wg_tup ?hh ?_); (case hh => exact rfl))
  | with_reducible refine wgs_cons ?_
  | with_reducible refine wgs_nil ?_
  | with_reducible refine wg_nameN rfl rfl ?_
  | ((with_reducible refine' we_appendN ?hh ?_); (case hh => exact rfl))
  | ((with_reducible refine' we_reverseN ?hh ?_); (case hh => exact rfl))
  | ((with_reducible refine' ws_augN ?h1 ?h2 ?_); (case h1 => exact rfl); (case h2 => exact rfl))
  | (refine ⟨_, rfl, ⟨_, rfl⟩, ?_⟩)
  | (refine ⟨_, rfl, ?_⟩)
  | (refine ⟨_, _, _, rfl, rfl, rfl, ?_⟩)
  | (refine ⟨_, _, rfl, rfl, (Nat.le_of_ble_eq_true rfl : _ ≤ _), ?_⟩)
  | (refine ⟨_, _, rfl, rfl, ?_⟩)
  | (refine ⟨(Nat.le_of_ble_eq_true rfl : _ ≤ _), ?_⟩)
  | (refine ⟨(rfl : _ = true), ?_⟩)
  | ((refine' ⟨fun _ => ?_, fun hY => absurd hY ?k2⟩); (case k2 => walk_at "no"))
  | ((refine' ⟨fun hY => absurd hY ?k2, fun _ => ?_⟩); (case k2 => walk_at "no"))
  | (refine ⟨⟨(by omega), (by omega)⟩, ?_⟩)
  | (refine ⟨⟨(by decide), (by decide), (by decide)⟩, ?_⟩)
  | (refine ⟨(by first | decide | omega | fail "c"), ?_⟩)
  | fail "stop")
local macro_rules | `(tactic| walk_at "e") => `(tactic| first | with_reducible refine ws_seq ?_ | walk_at "x" | fail "stop")
local macro_rules | `(tactic| walk_at "xs") => `(tactic| repeat' walk_at "x")
local macro_rules | `(tactic| walk_at "es") => `(tactic| repeat' walk_at "e")
local macro_rules | `(tactic| walk_at "len") => `(tactic| ((intro as Post h); (repeat (first | (obtain ⟨e, _⟩ := h; exact (congrArg List.length e).trans rfl) | (obtain ⟨_, h⟩ := h)))))
local macro_rules | `(tactic| walk_at "x") => `(tactic| first
  | with_reducible refine we_isN ?_
  | with_reducible refine we_notN ?_
  | with_reducible refine we_slG ?_
  | with_reducible refine wo_none ?_
  | with_reducible refine wo_some ?_
  | ((with_reducible refine' ixp ?h1 ?h2 ?_); (case h1 => exact rfl); (case h2 => assumption))
  | ((with_reducible refine' ixp_s ?h1 ?h2 ?_); (case h1 => assumption); (case h2 => assumption))
  | ((with_reducible refine' lenp_s ?h1 ?_); (case h1 => assumption))
  | ((with_reducible refine' slp_s ?h1 ?_); (case h1 => assumption))
  | with_reducible refine we_join ?_
  | with_reducible refine we_gtS ?_
  | ((with_reducible refine' we_ktup ?h1 ?_); (case h1 => assumption))
  | fail "x3")
local macro_rules | `(tactic| walk_at "x") => `(tactic| first
  | with_reducible refine we_fldG ?_
  | ((with_reducible refine' fldp ?h1 ?h2 ?h3 ?_); (case h1 => assumption); (case h2 => assumption); (case h3 => walk_at "lk"))
  | with_reducible refine we_methG ?_
  | ((with_reducible refine' metp ?h3 ?_); (case h3 => walk_at "lk"))
  | with_reducible refine we_make ?_
  | with_reducible refine we_own2 ?_
  | with_reducible refine we_isoG ?_
  | ((with_reducible refine' isop ?h1 ?_); (case h1 => assumption))
  | fail "x4")
local macro_rules | `(tactic| walk_at "nd") => `(tactic| first
  | exact (rfl : _ = ([] : List Dt))
  | ((refine' normD_cons (rfl : _ = _ :: _) ?et); (case et => walk_at "nd"))
  | fail "nd")
local macro_rules | `(tactic| walk_at "x") => `(tactic| first
  | with_reducible refine we_sumG ?_
  | with_reducible refine eqp_st ?_
  | with_reducible refine nep_st ?_
  | ((with_reducible refine' eqp_sf ?h1 ?_); (case h1 => first | assumption | decide +kernel))
  | ((with_reducible refine' nep_sf ?h1 ?_); (case h1 => first | assumption | decide +kernel))
  | with_reducible refine we_inG ?_
  | with_reducible refine we_if ?_
  | ((with_reducible refine' we_clearN ?hh ?_); (case hh => exact rfl))
  | with_reducible refine we_notInG ?_
  | with_reducible refine we_smeth ?_
  | with_reducible refine we_makeD ?_
  | with_reducible refine we_makeK ?_
  | ((with_reducible refine' slp_tE ?h ?_); (case h => walk_at "nd"))
  | ((with_reducible refine' addp_tE ?hz ?h ?_); (case h => walk_at "nd"); (case hz => exact Nat.le_of_ble_eq_true rfl))
  | fail "x5")
local macro_rules | `(tactic| walk_at "tk") => `(tactic| refine .a (tk (by assumption) (by omega) (by omega) (by omega) fun _ _ _ _ _ => ?_))
local macro_rules | `(tactic| walk_at "lk") => `(tactic| first | exact lk_Glue_width | exact lk_Glue_stretch | exact lk_Glue_shrink | exact lk_Glue_no___add__ | exact lk_Measure_width | exact lk_Measure_indent | exact lk_Measure_align | exact lk_Measure_hyphen | exact lk_Measure_twin | exact lk_Measure_river | exact lk_Measure_loose | exact lk_Measure_no_of | fail "lk")
def rst (r : Row) (s e : Nat) (k : Lin.Key) : Int := if k.b = false ∨ (0 < restOf r s e k ∧ lastB r e = true) then 0 else restOf r s e k
def exA (r : Row) (s e : Nat) (k : Lin.Key) (i : Nat) : Int := extraOf k.b (restOf r s e k) (lineG r s e) (bef r s i) (lastB r e)
def goneX (r : Row) (s e : Nat) (k : Lin.Key) (i : Nat) : Int := if 0 < rst r s e k then (bef r s i).s else if rst r s e k < 0 then (bef r s i).h else 0
theorem ex_rst (r : Row) (s e : Nat) (k : Lin.Key) (i : Nat) : exA r s e k i = if 0 < rst r s e k then rst r s e k * (bef r s i).s / (lineG r s e).s else if rst r s e k < 0 then -(-rst r s e k * (bef r s i).h / (lineG r s e).h) else 0 := by
  unfold exA extraOf
  cases hb : k.b with
  | false =>
    have hr : rst r s e k = 0 := by unfold rst; rw [if_pos (.inl hb)]
    rw [hr, if_neg (fun z => Bool.noConfusion z.1), if_neg (fun z => Bool.noConfusion z.1), if_neg (by omega), if_neg (by omega)]
  | true =>
    by_cases c1 : restOf r s e k < 0
    · have hr : rst r s e k = restOf r s e k := by unfold rst; rw [if_neg (fun z => z.elim (fun y => by rw [hb] at y; cases y) (fun y => by omega))]
      rw [hr, if_pos ⟨rfl, c1⟩, if_neg (show ¬ 0 < restOf r s e k by omega), if_pos c1]
    · rw [if_neg (fun z => c1 z.2)]
      by_cases c2 : 0 < restOf r s e k
      · cases hl : lastB r e with
        | true =>
          have hr : rst r s e k = 0 := by unfold rst; rw [if_pos (.inr ⟨c2, hl⟩)]
          rw [hr, if_neg (fun z => Bool.noConfusion z.2.2), if_neg (by omega), if_neg (by omega)]
        | false =>
          have hr : rst r s e k = restOf r s e k := by unfold rst; rw [if_neg (fun z => z.elim (fun y => by rw [hb] at y; cases y) (fun y => by rw [hl] at y; exact Bool.noConfusion y.2))]
          rw [hr, if_pos ⟨rfl, c2, rfl⟩, if_pos c2]
      · have hr : rst r s e k = restOf r s e k := by unfold rst; rw [if_neg (fun z => z.elim (fun y => by rw [hb] at y; cases y) (fun y => c2 y.1))]
        rw [hr, if_neg (fun z => c2 z.2.1), if_neg c2, if_neg c1]
theorem rst_bd {r : Row} {s e : Nat} {k : Lin.Key} (ok : RowOk r) (hs : s < e) (he : e ≤ r.ws.length) (kb : KeyB k) (ft : Fit r s e k) : -10000000 ≤ rst r s e k ∧ rst r s e k ≤ 10000000 ∧ (0 < rst r s e k → 1 ≤ (lineG r s e).s) ∧ (rst r s e k < 0 → 1 ≤ (lineG r s e).h) := by
  have gb := line_bd ok hs he
  have fh := fit_h gb kb.l1 ft
  have rb := room_bd kb s
  have rr : -10000000 ≤ restOf r s e k ∧ restOf r s e k ≤ 10000000 := by
    obtain ⟨w1, w2, _, _, _, _⟩ := gb
    unfold restOf
    omega
  unfold rst
  by_cases c : k.b = false ∨ (0 < restOf r s e k ∧ lastB r e = true)
  · rw [if_pos c]
    exact ⟨by omega, by omega, fun z => by omega, fun z => by omega⟩
  · rw [if_neg c]
    have hb : k.b = true := by
      cases h : k.b with
      | true => rfl
      | false => exact absurd (.inl h) c
    refine ⟨rr.1, rr.2, fun z => fh.2.1 hb z ?_, fun z => (fh.1 hb z).1⟩
    cases h : lastB r e with
    | false => rfl
    | true => exact absurd (.inr ⟨z, h⟩) c
def ap_lspans : AP := fun as Post => ∃ (r : Row) (s e : Nat) (k : Lin.Key), as = [.val r.dt, .val (.int s), .val (.int e), .val k.dt] ∧ RowOk r ∧ s < e ∧ e ≤ r.ws.length ∧ KeyB k ∧ Fit r s e k ∧ ∀ pl : List Dt, Post (.new [.lst pl, .lst ((spans r s e k).map pairD)]) as
def ap_three : AP := fun as Post => ∃ (ds : List Dt) (r : Row), as = [.acc ds, .val r.dt] ∧ PoolUp 1000 ds ∧ RowOk r ∧ 2 ≤ r.ws.length ∧ ∀ ds' (s m e : Nat), s < m → m < e → e ≤ r.ws.length → PoolUp 1010 ds' → Post (.new [.int s, .int m, .int e]) [.acc ds', .val r.dt]
def ap_shared : AP := fun as Post => ∃ (ds : List Dt) (r : Row) (s m e : Nat) (k : Lin.Key), as = [.acc ds, .val r.dt, .acc [.int s, .int m, .int e], .val k.dt] ∧ PoolUp 1010 ds ∧ RowOk r ∧ s < m ∧ m < e ∧ e ≤ r.ws.length ∧ KeyOk k ∧ ∀ ds' (k' : Lin.Key), KeyB k' → 0 ≤ k'.tw → k'.tw < 10000 → Post (.val k'.dt) [.acc ds', .val r.dt, .acc [.int s, .int m, .int e], .val k.dt]
def ap_twin : AP := fun as Post => ∃ (r : Row) (s m e : Nat) (k : Lin.Key), as = [.val r.dt, .acc [.int s, .int m, .int e], .val k.dt] ∧ RowOk r ∧ s < m ∧ m < e ∧ e ≤ r.ws.length ∧ Post (.val (.int (if r.hyE m = true ∧ r.hyE e = true then k.tw else 0))) as
section
variable {K : PySem.W.Frag} {c m : Addr}
theorem run_lspans : RunOk K [] (t__law_spans K ap_lglue) 13 ap_lspans := by
  rintro as Post ⟨r, s, e, k, rfl, ok, hs, he, kb, ft, p⟩
  obtain ⟨er, er2⟩ := room_rest (k := k) s
  obtain ⟨rb1, rb2, rb3, rb4⟩ := rst_bd ok hs he kb ft
  have gb := line_bd ok hs he
  obtain ⟨_, _, ki1, ki2, kl1, kl2⟩ := id kb
  have ol := ok.len
  have on := ok.n
  have hl : ((r.ws.map Dt.int).length : Int) = r.ws.length := by rw [List.length_map]
  have el : decide ((e : Int) = r.ws.length) = lastB r e := by unfold lastB; by_cases h : e = r.ws.length <;> simp [h, Int.ofNat_inj]
  unfold t__law_spans
  show WS K [] _ [.val r.dt, .val (.int s), .val (.int e), .val k.dt, .un, .un, .un, .un, .un, .un, .un, .un, .un] _
  refine ws_seq ?_
  walk_at "xs"
  refine .a ⟨r, s, e, rfl, ok, hs, he, ?_⟩
  walk_at "xs"
  refine ws_seq ?_
  walk_at "xs"
  rw [er]
  refine ws_seq ?_
  walk_at "xs"
  rw [er2, show roomOf s k - (lineG r s e).w = restOf r s e k from rfl]
  refine ws_cut (fun G => G = [.val r.dt, .val (.int s), .val (.int e), .val k.dt, .acc [.int (lineG r s e).w, .int (lineG r s e).s, .int (lineG r s e).h], .val (.int (plain0 k s)), .val (.int (rst r s e k)), .un, .un, .un, .un, .un, .un]) ?_ ?_
  · obtain ⟨b, hbb⟩ : ∃ b, b = rst r s e k := ⟨_, rfl⟩
    rw [← hbb]
    unfold rst at hbb
    generalize lineG r s e = g
    generalize restOf r s e k = rest at hbb ⊢
    generalize plain0 k s = p0
    obtain ⟨kw, ki, kb', kh, kt, kr, kl⟩ := k
    cases kb' with
    | true =>
      show WS K [] _ [.val r.dt, .val (.int s), .val (.int e), .val (.tup [.int kw, .int ki, .str "both", .int kh, .int kt, .int kr, .int kl]), .acc [.int g.w, .int g.s, .int g.h], .val (.int p0), .val (.int rest), .un, .un, .un, .un, .un, .un] _
      by_cases c1 : 0 < rest
      · walk_at "es"
        rw [hl, el]
        cases hla : lastB r e with
        | true =>
          rw [hla, if_pos (.inr ⟨c1, rfl⟩)] at hbb
          subst hbb
          walk_at "es"
          exact .a rfl
        | false =>
          rw [hla, if_neg (fun z => z.elim Bool.noConfusion (fun y => Bool.noConfusion y.2))] at hbb
          subst hbb
          walk_at "es"
          exact .a rfl
      · rw [if_neg (fun z => z.elim Bool.noConfusion (fun y => c1 y.1))] at hbb
        subst hbb
        walk_at "es"
        exact .a rfl
    | false =>
      rw [if_pos (.inl rfl)] at hbb
      subst hbb
      show WS K [] _ [.val r.dt, .val (.int s), .val (.int e), .val (.tup [.int kw, .int ki, .str "left", .int kh, .int kt, .int kr, .int kl]), .acc [.int g.w, .int g.s, .int g.h], .val (.int p0), .val (.int rest), .un, .un, .un, .un, .un, .un] _
      walk_at "es"
      exact .a rfl
  · rintro G rfl
    walk_at "es"
    refine for_range2 (s : Int) (e : Int) (fun i G => ∃ (pl gn ex : Int) (plc : List Dt) (s11 s12 : Sl), plc.length = i ∧ (i < e - s → pl = plainAt r k s i ∧ gn = goneX r s e k i ∧ ex = exA r s e k i) ∧ G = [.val r.dt, .val (.int s), .val (.int e), .val k.dt, .acc [.int (lineG r s e).w, .int (lineG r s e).s, .int (lineG r s e).h], .val (.int pl), .val (.int (rst r s e k)), .acc plc, .acc ((spansTo r s e k (min i (e - s - 1))).map pairD), .val (.int gn), .val (.int ex), s11, s12]) ?_ ?_ ?_
    · walk_at "xs"
      refine .a ⟨rfl, ⟨by omega, by omega, by omega, by omega⟩, plain0 k s, 0, 0, [], .un, .un, rfl, fun _ => ⟨?_, ?_, ?_⟩, ?_⟩
      · unfold plainAt; simp [Lin.sumTo]
      · unfold goneX bef; simp [Lin.sumTo]
      · rw [ex_rst]; unfold bef; simp [Lin.sumTo]
      · rw [show min 0 (e - s - 1) = 0 by omega]; rfl
    · rintro i G hi ⟨pl, gn, ex, plc, s11, s12, hpl, hpg, rfl⟩
      obtain ⟨e1, e2, e3⟩ := hpg (by omega)
      subst e1 e2 e3
      have hl1 : plc.length < 1000000 := by omega
      have hsl : (spansTo r s e k (min i (e - s - 1))).length ≤ i := by
        unfold spansTo
        rw [List.length_map]
        exact Nat.le_trans (List.length_filter_le _ _) (by rw [List.length_range]; omega)
      have hl2 : ((spansTo r s e k (min i (e - s - 1))).map pairD).length < 1000000 := by rw [List.length_map]; omega
      have hw := at_W (r := r) (k := s + i) (i := (s : Int) + i) (by omega) (by omega)
      have hpl2 : ∀ d : Dt, (plc ++ [d]).length = i + 1 := fun d => by rw [List.length_append, hpl]; rfl
      by_cases c5 : (s : Int) + i < (e : Int) - 1
      · have hj := at_J (r := r) (k := s + i) (i := (s : Int) + i) (by omega) (by omega)
        have ep : plainAt r k s (i + 1) = plainAt r k s i + r.W (s + i) + (r.J (s + i)).g.w := by unfold plainAt; rw [sumTo_succ]; omega
        have egs : (bef r s (i + 1)).s = (bef r s i).s + (r.J (s + i)).g.s := rfl
        have egh : (bef r s (i + 1)).h = (bef r s i).h + (r.J (s + i)).g.h := rfl
        have hm1 : min i (e - s - 1) = i := by omega
        have hm2 : min (i + 1) (e - s - 1) = i + 1 := by omega
        rw [hm1] at hl2 ⊢
        cases q : r.J (s + i) with
        | hy a b =>
          rw [q] at hj ep egs egh
          have hg0 : (Jt.hy a b).g.s = 0 := rfl
          have hg1 : (Jt.hy a b).g.h = 0 := rfl
          rw [hg0] at egs
          rw [hg1] at egh
          unfold Jt.dt at hj
          walk_at "es"
          refine .a ⟨plainAt r k s (i + 1), goneX r s e k i, exA r s e k i, plc ++ [.int (plainAt r k s i + exA r s e k i)], .val (.int ((s : Int) + i)), s12, hpl2 _, fun _ => ⟨rfl, ?_, ?_⟩, ?_⟩
          · unfold goneX; rw [egs, egh, Int.add_zero, Int.add_zero]
          · rw [ex_rst, ex_rst, egs, egh, Int.add_zero, Int.add_zero]
          · rw [hm2, spansTo_succ, if_neg (by unfold isGap; rw [q]; exact Bool.false_ne_true), ep]
            show [_, _, _, _, _, Sl.val (.int (plainAt r k s i + r.W (s + i) - b)), _, _, _, _, _, _, _] = _
            rw [show plainAt r k s i + r.W (s + i) - b = plainAt r k s i + r.W (s + i) + (Jt.hy a b).g.w from rfl]
        | gap x y z =>
          rw [q] at hj ep egs egh
          have hg0 : (Jt.gap x y z).g.s = y := rfl
          have hg1 : (Jt.gap x y z).g.h = z := rfl
          have hg2 : (Jt.gap x y z).g.w = x := rfl
          rw [hg0] at egs
          rw [hg1] at egh
          rw [hg2] at ep
          unfold Jt.dt at hj
          have espan : spansTo r s e k (i + 1) = spansTo r s e k i ++ [(plainAt r k s i + r.W (s + i) + exA r s e k i, plainAt r k s i + r.W (s + i) + x + exA r s e k (i + 1))] := by
            rw [spansTo_succ, if_pos (by unfold isGap; rw [q]; rfl)]
            unfold spanAt placeAt
            rw [ep]
            congr 3
            show plainAt r k s i + exA r s e k i + r.W (s + i) = _
            omega
          by_cases c1 : 0 < rst r s e k
          · have hS := rb3 c1
            have hS2 := gb.s2
            have eg : goneX r s e k i = (bef r s i).s := by unfold goneX; rw [if_pos c1]
            have eg2 : goneX r s e k (i + 1) = (bef r s i).s + y := by unfold goneX; rw [if_pos c1, egs]
            have ee : exA r s e k (i + 1) = rst r s e k * ((bef r s i).s + y) / (lineG r s e).s := by rw [ex_rst, if_pos c1, egs]
            rw [eg]
            walk_at "es"
            refine .a ⟨plainAt r k s (i + 1), goneX r s e k (i + 1), exA r s e k (i + 1), plc ++ [.int (plainAt r k s i + exA r s e k i)], .val (.int ((s : Int) + i)), .val (.int (plainAt r k s i + r.W (s + i) + exA r s e k i)), hpl2 _, fun _ => ⟨rfl, rfl, rfl⟩, ?_⟩
            rw [hm2, espan, ep, eg2, ee, List.map_append]
            rfl
          · by_cases c2 : rst r s e k < 0
            · have hS := rb4 c2
              have hS2 := gb.h2
              have eg : goneX r s e k i = (bef r s i).h := by unfold goneX; rw [if_neg c1, if_pos c2]
              have eg2 : goneX r s e k (i + 1) = (bef r s i).h + z := by unfold goneX; rw [if_neg c1, if_pos c2, egh]
              have ee : exA r s e k (i + 1) = -(-rst r s e k * ((bef r s i).h + z) / (lineG r s e).h) := by rw [ex_rst, if_neg c1, if_pos c2, egh]
              rw [eg]
              walk_at "es"
              refine .a ⟨plainAt r k s (i + 1), goneX r s e k (i + 1), exA r s e k (i + 1), plc ++ [.int (plainAt r k s i + exA r s e k i)], .val (.int ((s : Int) + i)), .val (.int (plainAt r k s i + r.W (s + i) + exA r s e k i)), hpl2 _, fun _ => ⟨rfl, rfl, rfl⟩, ?_⟩
              rw [hm2, espan, ep, eg2, ee, List.map_append]
              rfl
            · have eg : goneX r s e k i = 0 := by unfold goneX; rw [if_neg c1, if_neg c2]
              have eg2 : goneX r s e k (i + 1) = 0 := by unfold goneX; rw [if_neg c1, if_neg c2]
              have ee : exA r s e k (i + 1) = exA r s e k i := by rw [ex_rst, ex_rst, if_neg c1, if_neg c2, if_neg c1, if_neg c2]
              rw [eg]
              walk_at "es"
              refine .a ⟨plainAt r k s (i + 1), goneX r s e k (i + 1), exA r s e k (i + 1), plc ++ [.int (plainAt r k s i + exA r s e k i)], .val (.int ((s : Int) + i)), .val (.int (plainAt r k s i + r.W (s + i) + exA r s e k i)), hpl2 _, fun _ => ⟨rfl, rfl, rfl⟩, ?_⟩
              rw [hm2, espan, ep, eg2, ee, List.map_append]
              rfl
      · have hm1 : min i (e - s - 1) = min (i + 1) (e - s - 1) := by omega
        rw [hm1]
        walk_at "es"
        exact .a ⟨_, _, _, _, _, _, hpl2 _, fun z => absurd z (by omega), rfl⟩
    · rintro G ⟨pl, gn, ex, plc, s11, s12, hpl, _, rfl⟩
      rw [show min ((e : Int) - (s : Int)).toNat (e - s - 1) = e - s - 1 by omega]
      refine ws_frz 7 rfl (ws_frz 8 rfl ?_)
      show WS K [] _ [.val r.dt, .val (.int s), .val (.int e), .val k.dt, .acc [.int (lineG r s e).w, .int (lineG r s e).s, .int (lineG r s e).h], .val (.int pl), .val (.int (rst r s e k)), .val (.lst plc), .val (.lst ((spans r s e k).map pairD)), .val (.int gn), .val (.int ex), s11, s12] _
      walk_at "es"
      exact p plc
end
end Lk53
namespace Lk53
open PySem L2 Ab Lin
local macro_rules | `(tactic| walk_at "no") => `(tactic| first
  | exact fun h => Bool.noConfusion (show true = false from h)
  | exact fun h => Bool.noConfusion (show false = true from h)
  | exact fun h => absurd (of_decide_eq_true h) (by omega)
  | exact fun h => absurd (by omega) (of_decide_eq_false h)
  | exact fun h => absurd (by omega) (nd_t h)
  | exact fun h => absurd (nd_f h) (by omega)
  | fail "no")
local macro_rules | `(tactic| walk_at "kb") => `(tactic| first | exact kb_tt | exact kb_ll | exact kb_ii | exact kb_ib | exact kb_ss | exact kb_sb | exact kb_si | exact kb_tb | exact kb_ti | exact kb_ts | exact kb_tl | exact kb_lb | exact kb_li | exact kb_ls | exact kb_lt | exact kb_is | exact kb_it | exact kb_il | exact kb_st | exact kb_sl | exact kb_bb | exact kb_bi | exact kb_nb | exact kb_ni | exact kb_ns | exact kb_nt | exact kb_nl | exact kb_bs | exact kb_bt | exact kb_bl | fail "kb")
local macro_rules | `(tactic| walk_at "norm") => `(tactic| first
  | exact (rfl : _ = ([] : List Sl))
  | ((refine' norm_cons (rfl : _ = _ :: _) ?ea ?et); (case ea => first | exact norm_v | exact norm_n | exact norm_o | exact rfl | fail "norm"); (case et => walk_at "norm"))
  | fail "norm")
local macro_rules | `(tactic| walk_at "x") => `(tactic| first
  | ((with_reducible refine' norm_intro ?hn ?_); (case hn => walk_at "norm"))
  | ((with_reducible refine' we_var ?hh ?_); (case hh => exact rfl))
  | ((with_reducible refine' we_own ?hh ?_); (case hh => exact rfl))
  | with_reducible refine we_c ?_
  | with_reducible refine we_addG ?_
  | with_reducible refine addp_i ?_
  | with_reducible refine we_opI0 ?_
  | with_reducible refine we_opI ?_
  | with_reducible refine we_mulG ?_
  | ((with_reducible refine' mulp_r ?h1 ?_); (case h1 => first | decide | omega | fail "m"))
  | ((with_reducible refine' mulp_l ?h1 ?_); (case h1 => first | decide | omega | fail "m"))
  | with_reducible refine we_neg ?_
  | with_reducible refine we_ltG ?_
  | with_reducible refine ltp_i ?_
  | with_reducible refine we_eqG ?_
  | with_reducible refine we_neG ?_
  | with_reducible refine eqp_i ?_
  | with_reducible refine nep_i ?_
  | with_reducible refine we_ixG ?_
  | ((with_reducible refine' ixp ?h1 ?h2 ?_); (case h1 => exact rfl); (case h2 => exact rfl))
  | with_reducible refine we_lenG ?_
  | ((with_reducible refine' lenp ?hh ?_); (case hh => exact rfl))
  | with_reducible refine we_intG ?_
  | with_reducible refine intp_i ?_
  | with_reducible refine intp_b ?_
  | with_reducible refine we_abs ?_
  | with_reducible refine we_tup ?_
  | with_reducible refine we_lst ?_
  | with_reducible refine we_tuple ?_
  | with_reducible refine we_list ?_
  | with_reducible refine we_sum ?_
  | with_reducible refine we_max2 ?_
  | with_reducible refine we_min2 ?_
  | with_reducible refine wd_cons ?_
  | with_reducible refine wd_nil ?_
  | with_reducible refine wa_cons ?_
  | with_reducible refine wa_nil ?_
  | with_reducible refine we_callH ?_
  | with_reducible refine we_isiG ?_
  | ((with_reducible refine' isi_own ?h1 ?h2 ?_); (case h1 => exact rfl); (case h2 => walk_at "kb"))
  | ((with_reducible refine' isi_val ?h1 ?h2 ?_); (case h1 => exact rfl); (case h2 => walk_at "kb"))
  | ((with_reducible refine' isi_new ?h2 ?_); (case h2 => walk_at "kb"))
  | with_reducible refine we_chainI ?_
  | with_reducible refine we_andV ?_
  | with_reducible refine we_orV ?_
  | with_reducible refine we_notV ?_
  | with_reducible refine wt_test ?_
  | with_reducible refine wt_B ?_
  | with_reducible refine wt_yes ?_
  | with_reducible refine wt_and ?_
  | with_reducible refine wt_or ?_
  | with_reducible refine wt_not ?_
  | ((with_reducible refine' ws_retA ?hh ?_); (case hh => exact rfl))
  | with_reducible refine ws_ret ?_
  | with_reducible refine ws_if ?_
  | with_reducible refine ws_nil ?_
  | with_reducible refine ws_expr ?_
  | with_reducible refine ws_asgN rfl rfl ?_
  | with_reducible refine ws_setN ?_
  | with_reducible refine ws_asgG ?_
  | ((with_reducible refine' wg_tup ?hh ?_); (case hh => exact rfl))
  | with_reducible refine wgs_cons ?_
  | with_reducible refine wgs_nil ?_
  | with_reducible refine wg_nameN rfl rfl ?_
  | ((with_reducible refine' we_appendN ?hh ?_); (case hh => exact rfl))
  | ((with_reducible refine' we_reverseN ?hh ?_); (case hh => exact rfl))
  | ((with_reducible refine' ws_augN ?h1 ?h2 ?_); (case h1 => exact rfl); (case h2 => exact rfl))
  | (refine ⟨_, rfl, ⟨_, rfl⟩, ?_⟩)
  | (refine ⟨_, rfl, ?_⟩)
  | (refine ⟨_, _, _, rfl, rfl, rfl, ?_⟩)
  | (refine ⟨_, _, rfl, rfl, (Nat.le_of_ble_eq_true rfl : _ ≤ _), ?_⟩)
  | (refine ⟨_, _, rfl, rfl, ?_⟩)
  | (refine ⟨(Nat.le_of_ble_eq_true rfl : _ ≤ _), ?_⟩)
  | (refine ⟨(rfl : _ = true), ?_⟩)
  | ((refine' ⟨fun _ => ?_, fun hY => absurd hY ?k2⟩); (case k2 => walk_at "no"))
  | ((refine' ⟨fun hY => absurd hY ?k2, fun _ => ?_⟩); (case k2 => walk_at "no"))
  | (refine ⟨⟨(by omega), (by omega)⟩, ?_⟩)
  | (refine ⟨⟨(by decide), (by decide), (by decide)⟩, ?_⟩)
  | (refine ⟨(by first | decide | omega | fail "c"), ?_⟩)
  | fail "stop")
local macro_rules | `(tactic| walk_at "e") => `(tactic| first | with_reducible refine ws_seq ?_ | walk_at "x" | fail "stop")
local macro_rules | `(tactic| walk_at "xs") => `(tactic| repeat' walk_at "x")
local macro_rules | `(tactic| walk_at "es") => `(tactic| repeat' walk_at "e")
local macro_rules | `(tactic| walk_at "len") => `(tactic| ((intro as Post h); (repeat (first | (obtain ⟨e, _⟩ := h; exact (congrArg List.length e).trans rfl) | (obtain ⟨_, h⟩ := h)))))
local macro_rules | `(tactic| walk_at "x") => `(tactic| first
  | with_reducible refine we_isN ?_
  | with_reducible refine we_notN ?_
  | with_reducible refine we_slG ?_
  | with_reducible refine wo_none ?_
  | with_reducible refine wo_some ?_
  | ((with_reducible refine' ixp ?h1 ?h2 ?_); (case h1 => exact rfl); (case h2 => assumption))
  | ((with_reducible refine' ixp_s ?h1 ?h2 ?_); (case h1 => assumption); (case h2 => assumption))
  | ((with_reducible refine' lenp_s ?h1 ?_); (case h1 => assumption))
  | ((with_reducible refine' slp_s ?h1 ?_); (case h1 => assumption))
  | with_reducible refine we_join ?_
  | with_reducible refine we_gtS ?_
  | ((with_reducible refine' we_ktup ?h1 ?_); (case h1 => assumption))
  | fail "x3")
local macro_rules | `(tactic| walk_at "x") => `(tactic| first
  | with_reducible refine we_fldG ?_
  | ((with_reducible refine' fldp ?h1 ?h2 ?h3 ?_); (case h1 => assumption); (case h2 => assumption); (case h3 => walk_at "lk"))
  | with_reducible refine we_methG ?_
  | ((with_reducible refine' metp ?h3 ?_); (case h3 => walk_at "lk"))
  | with_reducible refine we_make ?_
  | with_reducible refine we_own2 ?_
  | with_reducible refine we_isoG ?_
  | ((with_reducible refine' isop ?h1 ?_); (case h1 => assumption))
  | fail "x4")
local macro_rules | `(tactic| walk_at "nd") => `(tactic| first
  | exact (rfl : _ = ([] : List Dt))
  | ((refine' normD_cons (rfl : _ = _ :: _) ?et); (case et => walk_at "nd"))
  | fail "nd")
local macro_rules | `(tactic| walk_at "x") => `(tactic| first
  | with_reducible refine we_sumG ?_
  | with_reducible refine eqp_st ?_
  | with_reducible refine nep_st ?_
  | ((with_reducible refine' eqp_sf ?h1 ?_); (case h1 => first | assumption | decide +kernel))
  | ((with_reducible refine' nep_sf ?h1 ?_); (case h1 => first | assumption | decide +kernel))
  | with_reducible refine we_inG ?_
  | with_reducible refine we_if ?_
  | ((with_reducible refine' we_clearN ?hh ?_); (case hh => exact rfl))
  | with_reducible refine we_notInG ?_
  | with_reducible refine we_smeth ?_
  | with_reducible refine we_makeD ?_
  | with_reducible refine we_makeK ?_
  | ((with_reducible refine' slp_tE ?h ?_); (case h => walk_at "nd"))
  | ((with_reducible refine' addp_tE ?hz ?h ?_); (case h => walk_at "nd"); (case hz => exact Nat.le_of_ble_eq_true rfl))
  | fail "x5")
local macro_rules | `(tactic| walk_at "tk") => `(tactic| refine .a (tk (by assumption) (by omega) (by omega) (by omega) fun _ _ _ _ _ => ?_))
local macro_rules | `(tactic| walk_at "lk") => `(tactic| first | exact lk_Glue_width | exact lk_Glue_stretch | exact lk_Glue_shrink | exact lk_Glue_no___add__ | exact lk_Measure_width | exact lk_Measure_indent | exact lk_Measure_align | exact lk_Measure_hyphen | exact lk_Measure_twin | exact lk_Measure_river | exact lk_Measure_loose | exact lk_Measure_no_of | fail "lk")
def ap_law : AP := fun as Post => ∃ ns, as = [.val (.scr ns)] ∧ Post (.val (.bl true)) [.val (.scr ns)]
abbrev nD (n : Nat) : Dt := .int n
section
variable {K : PySem.W.Frag} {c m : Addr}
theorem run_three : RunOk K [0] (t__law_three K ap_take) 9 ap_three := by
  rintro as Post ⟨ds, r, rfl, h0, ok, h2, p⟩
  have ol := ok.len
  have on := ok.n
  have hl : ((r.ws.map Dt.int).length : Int) = r.ws.length := by rw [List.length_map]
  unfold t__law_three
  show WS K [0] _ [.acc ds, .val r.dt, .un, .un, .un, .un, .un, .un, .un] _
  refine ws_seq ?_
  walk_at "xs"
  rw [hl]
  refine ws_seq ?_
  walk_at "xs"
  refine lc_range1 (r.ws.length - 1) (fun i es G => ∃ hs : List Nat, hs.length ≤ i ∧ hs.Pairwise (· < ·) ∧ (∀ h ∈ hs, 1 ≤ h ∧ h ≤ i) ∧ es = hs.map nD ∧ G = [.acc ds, .val r.dt, .val (.int r.ws.length), .un, .un, .un, .un, .un, .un]) ?_ ?_ ?_
  · walk_at "xs"
    exact .a ⟨by rw [show (r.ws.length : Int) - 1 = ((r.ws.length - 1 : Nat) : Int) by omega], by omega, rfl, rfl, rfl, [], Nat.le_refl _, .nil, (fun _ h => nomatch h), rfl, rfl⟩
  · rintro i es G hi ⟨hs, hsl, hpw, hall, rfl, rfl⟩
    show WT K _ [.acc ds, .val r.dt, .val (.int r.ws.length), .un, .un, .un, .un, .un, .val (.int i)] _
    have hj := at_J (r := r) (k := i) (i := (i : Int)) rfl (by omega)
    cases q : r.J i with
    | hy a b =>
      rw [q] at hj
      unfold Jt.dt at hj
      walk_at "xs"
      refine .a ⟨hs ++ [i + 1], by rw [List.length_append]; simp; omega, ?_, fun h hh => ?_, by rw [List.map_append]; rfl, rfl⟩
      · rw [List.pairwise_append]
        exact ⟨hpw, List.pairwise_singleton _ _, fun a ha b hb => by rw [List.mem_singleton.mp hb]; have := (hall a ha).2; omega⟩
      · rcases List.mem_append.mp hh with hh | hh
        · have := hall h hh; omega
        · rw [List.mem_singleton.mp hh]; omega
    | gap x y z =>
      rw [q] at hj
      unfold Jt.dt at hj
      walk_at "xs"
      exact .a ⟨hs, by omega, hpw, fun h hh => by have := hall h hh; omega, rfl, rfl⟩
  · rintro es G ⟨hs, hsl, hpw, hall, rfl, rfl⟩
    have hhl : ((hs.map nD).length : Int) = hs.length := by rw [List.length_map]
    walk_at "xs"
    refine ws_cut (fun G => ∃ (d2 : List Dt) (s4 s5 : Sl), PoolUp 1005 d2 ∧ G = [.acc d2, .val r.dt, .val (.int r.ws.length), .acc (hs.map nD), s4, s5, .un, .un, .un]) ?_ ?_
    · walk_at "es"
      walk_at "tk"
      rename_i d1 g1 h1 g10 g11
      walk_at "es"
      refine ⟨fun h => ?_, fun h => ?_⟩
      · walk_at "es"
        rw [hhl]
        refine ⟨fun h => ?_, fun h => ?_⟩
        · have h' := of_decide_eq_true h
          refine ws_seq ?_
          walk_at "xs"
          rw [hhl]
          walk_at "tk"
          rename_i d2 g2 h2' g20 g21
          obtain ⟨a, rfl⟩ : ∃ a : Nat, g2 = a := ⟨g2.toNat, by omega⟩
          walk_at "xs"
          refine ws_seq ?_
          walk_at "xs"
          rw [hhl]
          walk_at "tk"
          rename_i d3 g3 h3 g30 g31
          obtain ⟨b, rfl⟩ : ∃ b : Nat, g3 = b := ⟨g3.toNat, by omega⟩
          walk_at "xs"
          have hA : hs[a]? = some hs[a] := List.getElem?_eq_getElem (by omega)
          have hB : hs[a + 1 + b]? = some hs[a + 1 + b] := List.getElem?_eq_getElem (by omega)
          have hlt : hs[a] < hs[a + 1 + b] := List.pairwise_iff_getElem.mp hpw a (a + 1 + b) (by omega) (by omega) (by omega)
          have hbA := hall _ (List.getElem_mem (l := hs) (n := a) (by omega))
          have hbB := hall _ (List.getElem_mem (l := hs) (n := a + 1 + b) (by omega))
          generalize hs[a] = x at hA hlt hbA
          generalize hs[a + 1 + b] = y at hB hlt hbB
          have xA : atI (hs.map nD) (a : Int) = some (.int x) := atI_of rfl (by rw [List.getElem?_map, hA]; rfl)
          have xB : atI (hs.map nD) ((a : Int) + 1 + b) = some (.int y) := atI_of (j := a + 1 + b) (by omega) (by rw [List.getElem?_map, hB]; rfl)
          walk_at "xs"
          walk_at "tk"
          rename_i d4 g4 h4 g40 g41
          obtain ⟨z, rfl⟩ : ∃ z : Nat, g4 = z := ⟨g4.toNat, by omega⟩
          walk_at "xs"
          exact p d4 z x y (by omega) (by omega) (by omega) (h4.mono (by omega))
        · walk_at "es"
          exact .a ⟨d1, _, _, h1.mono (by omega), rfl⟩
      · walk_at "es"
        exact .a ⟨d1, _, _, h1.mono (by omega), rfl⟩
    · rintro G ⟨d2, s4, s5, h2', rfl⟩
      refine ws_seq ?_
      walk_at "xs"
      walk_at "tk"
      rename_i d3 g3 h3 g30 g31
      obtain ⟨s, rfl⟩ : ∃ b : Nat, g3 = b := ⟨g3.toNat, by omega⟩
      walk_at "xs"
      refine ws_seq ?_
      walk_at "xs"
      walk_at "tk"
      rename_i d4 g4 h4 g40 g41
      obtain ⟨b, rfl⟩ : ∃ b : Nat, g4 = b := ⟨g4.toNat, by omega⟩
      walk_at "xs"
      walk_at "tk"
      rename_i d5 g5 h5 g50 g51
      obtain ⟨b2, rfl⟩ : ∃ b : Nat, g5 = b := ⟨g5.toNat, by omega⟩
      walk_at "xs"
      rw [show (s : Int) + 1 + b + 1 + b2 = ((s + 1 + b + 1 + b2 : Nat) : Int) by omega, show (s : Int) + 1 + b = ((s + 1 + b : Nat) : Int) by omega]
      exact p d5 s (s + 1 + b) (s + 1 + b + 1 + b2) (by omega) (by omega) (by omega) (h5.mono (by omega))
theorem run_shared : RunOk K [0, 2] (t__law_shared K ap_lglue ap_take) 11 ap_shared := by
  rintro as Post ⟨ds, r, s, i, e, k, rfl, h0, ok, hs, hi, he, kok, p⟩
  have ga := line_bd ok hs (by omega : i ≤ r.ws.length)
  have gb := line_bd ok hi he
  obtain ⟨kw1, kw2, ki1, ki2, _, _, kt1, kt2, _, _, kl1, kl2⟩ := kok
  have hl : ((r.ws.map Dt.int).length : Int) = r.ws.length := by rw [List.length_map]
  unfold t__law_shared
  show WS K [0, 2] _ [.acc ds, .val r.dt, .acc [.int s, .int i, .int e], .val k.dt, .un, .un, .un, .un, .un, .un, .un] _
  refine ws_seq ?_
  walk_at "xs"
  refine .a ⟨r, s, i, rfl, ok, hs, by omega, ?_⟩
  walk_at "xs"
  refine ws_seq ?_
  walk_at "xs"
  refine .a ⟨r, i, e, rfl, ok, hi, he, ?_⟩
  walk_at "xs"
  generalize lineG r s i = g at ga ⊢
  generalize lineG r i e = f at gb ⊢
  obtain ⟨w1, w2, s1, s2, h1, h2⟩ := ga
  obtain ⟨v1, v2, t1, t2, u1, u2⟩ := gb
  have hb0 : 0 ≤ k.i * (if decide ((s : Int) = 0) = true then 1 else 0) ∧ k.i * (if decide ((s : Int) = 0) = true then 1 else 0) ≤ 100 := by split <;> omega
  have m1 : 0 ≤ k.lo * g.s ∧ k.lo * g.s ≤ 100 * 1000000 := ⟨Int.mul_nonneg kl1 s1, Int.mul_le_mul (by omega) s2 s1 (by omega)⟩
  have m2 : 0 ≤ k.lo * f.s ∧ k.lo * f.s ≤ 100 * 1000000 := ⟨Int.mul_nonneg kl1 t1, Int.mul_le_mul (by omega) t2 t1 (by omega)⟩
  refine ws_seq ?_
  walk_at "xs"
  generalize k.i * (if decide ((s : Int) = 0) = true then 1 else 0) = bg at hb0 ⊢
  refine ws_seq ?_
  walk_at "xs"
  obtain ⟨le, hle, le1, le2⟩ : ∃ le : Int, (if f.w - f.h > g.w - g.h + bg then f.w - f.h else g.w - g.h + bg) = le ∧ -1000000 ≤ le ∧ le ≤ 2000000 := ⟨_, rfl, by split <;> omega, by split <;> omega⟩
  rw [hle]
  refine ws_seq ?_
  walk_at "xs"
  refine ws_cut (fun G => ∃ rc : Int, rc ≤ 200000000 ∧ G = [.acc ds, .val r.dt, .acc [.int s, .int i, .int e], .val k.dt, .acc [.int g.w, .int g.s, .int g.h], .acc [.int f.w, .int f.s, .int f.h], .val (.int bg), .val (.int le), .val (.int rc), .un, .un]) ?_ ?_
  · walk_at "es"
    rw [hl]
    refine ⟨fun h => ?_, fun h => ?_⟩
    · walk_at "es"
      refine .a ⟨_, ?_, rfl⟩
      split <;> omega
    · walk_at "es"
      exact .a ⟨_, by omega, rfl⟩
  · rintro G ⟨rc, hrc, rfl⟩
    have mn : ∀ w : Int, -2000000 ≤ w → -2000000 ≤ (if w < 10500 then w else 10500) ∧ (if w < 10500 then w else 10500) ≤ 100000 := fun w hw => by split <;> omega
    refine ws_cut (fun G => G = [.acc ds, .val r.dt, .acc [.int s, .int i, .int e], .val k.dt, .acc [.int g.w, .int g.s, .int g.h], .acc [.int f.w, .int f.s, .int f.h], .val (.int bg), .val (.int le), .val (.int rc), .un, .un]) ?_ ?_
    · have kB : ∀ w : Int, -2000000 ≤ w → w ≤ 100000 → KeyB ⟨w, k.i, k.b, k.hy, k.tw, k.ri, k.lo⟩ := fun w a b => ⟨a, b, ki1, by show k.i ≤ 100000; omega, kl1, by show k.lo ≤ 100; omega⟩
      have pp := fun ds' w (a : -2000000 ≤ w) (b : w ≤ 100000) => p ds' ⟨w, k.i, k.b, k.hy, k.tw, k.ri, k.lo⟩ (kB w a b) kt1 kt2
      clear p
      obtain ⟨kw, ki, kb', kh, kt, kr, kl⟩ := k
      cases kb' with
      | true =>
        show WS K [0, 2] _ [.acc ds, .val r.dt, .acc [.int s, .int i, .int e], .val (.tup [.int kw, .int ki, .str "both", .int kh, .int kt, .int kr, .int kl]), .acc [.int g.w, .int g.s, .int g.h], .acc [.int f.w, .int f.s, .int f.h], .val (.int bg), .val (.int le), .val (.int rc), .un, .un] _
        by_cases c1 : le ≤ rc
        · walk_at "es"
          walk_at "tk"
          rename_i d1 g1 hp1 g10 g11
          walk_at "es"
          exact pp d1 _ (mn _ (by omega)).1 (mn _ (by omega)).2
        · walk_at "es"
          exact .a rfl
      | false =>
        show WS K [0, 2] _ [.acc ds, .val r.dt, .acc [.int s, .int i, .int e], .val (.tup [.int kw, .int ki, .str "left", .int kh, .int kt, .int kr, .int kl]), .acc [.int g.w, .int g.s, .int g.h], .acc [.int f.w, .int f.s, .int f.h], .val (.int bg), .val (.int le), .val (.int rc), .un, .un] _
        walk_at "es"
        exact .a rfl
    · rintro G rfl
      refine ws_seq ?_
      walk_at "xs"
      obtain ⟨l2, hl2, l21, l22⟩ : ∃ l : Int, (if f.w > g.w + bg then f.w else g.w + bg) = l ∧ 0 ≤ l ∧ l ≤ 2000000 := ⟨_, rfl, by split <;> omega, by split <;> omega⟩
      rw [hl2]
      refine ws_seq ?_
      walk_at "xs"
      walk_at "tk"
      rename_i d1 g1 hp1 g10 g11
      obtain ⟨br, hbr, br0, br1⟩ : ∃ b : Int, (if decide (g1 = 7) = true then (1 : Int) else 0) = b ∧ 0 ≤ b ∧ b ≤ 1 := ⟨_, rfl, by split <;> omega, by split <;> omega⟩
      walk_at "xs"
      rw [hbr]
      obtain ⟨u1', hu1, e1⟩ := at_two (a := 40) (b := 10500) br0 br1
      walk_at "xs"
      refine ws_seq ?_
      walk_at "xs"
      walk_at "tk"
      rename_i d2 g2 hp2 g20 g21
      walk_at "xs"
      exact p d2 ⟨_, k.i, false, k.hy, k.tw, k.ri, k.lo⟩ ⟨(mn _ (by omega)).1, (mn _ (by omega)).2, ki1, by show k.i ≤ 100000; omega, kl1, by show k.lo ≤ 100; omega⟩ kt1 kt2
theorem run_twin : RunOk K [1] (t__law_twin K) 3 ap_twin := by
  rintro as Post ⟨r, s, i, e, k, rfl, ok, hs, hi, he, p⟩
  have ol := ok.len
  have hl : ((r.ws.map Dt.int).length : Int) = r.ws.length := by rw [List.length_map]
  unfold t__law_twin
  show WS K [1] _ [.val r.dt, .acc [.int s, .int i, .int e], .val k.dt] _
  have him : r.hyE i = (r.J (i - 1)).isHy := by unfold Row.hyE; rw [decide_eq_true (by omega), Bool.true_and]
  have hj1 := at_J (r := r) (k := i - 1) (i := (i : Int) - 1) (by omega) (by omega)
  by_cases c1 : e = r.ws.length
  · have he' : r.hyE e = false := by unfold Row.hyE; rw [decide_eq_false (by omega)]; rfl
    rw [if_neg (fun z => by rw [he'] at z; exact Bool.noConfusion z.2)] at p
    walk_at "es"
    exact p
  · have he' : r.hyE e = (r.J (e - 1)).isHy := by unfold Row.hyE; rw [decide_eq_true (by omega), Bool.true_and]
    rw [him, he'] at p
    have hj2 := at_J (r := r) (k := e - 1) (i := (e : Int) - 1) (by omega) (by omega)
    cases q : r.J (e - 1) with
    | gap x y z =>
      rw [q] at hj2 p
      rw [if_neg (fun z => Bool.noConfusion z.2)] at p
      unfold Jt.dt at hj2
      walk_at "es"
      exact p
    | hy a b =>
      rw [q] at hj2 p
      unfold Jt.dt at hj2
      cases q1 : r.J (i - 1) with
      | gap x y z =>
        rw [q1] at hj1 p
        rw [if_neg (fun z => Bool.noConfusion z.1)] at p
        unfold Jt.dt at hj1
        walk_at "es"
        rw [if_neg Bool.false_ne_true, Int.mul_zero]
        exact p
      | hy a' b' =>
        rw [q1] at hj1 p
        rw [if_pos ⟨rfl, rfl⟩] at p
        unfold Jt.dt at hj1
        walk_at "es"
        rw [if_pos rfl, Int.mul_one]
        exact p
theorem run_law : RunOk K [] (t_law K m ap_bare ap_pool ap_lkey ap_three ap_shared ap_poss ap_lspans ap_meet (ap_mof m) (ap_pair m) ap_isint ap_twin) 11 ap_law := by
  rintro as Post ⟨ns, rfl, post⟩
  unfold t_law
  show WS K [] _ [.val (.scr ns), .un, .un, .un, .un, .un, .un, .un, .un, .un, .un] _
  refine ws_seq ?_
  walk_at "xs"
  refine .a ⟨ns, 0, rfl, by omega, by omega, fun d0 h0 => ?_⟩
  walk_at "xs"
  refine .a ⟨d0, 0, 2, 6, rfl, h0, by omega, by omega, by omega, by omega, by omega, by omega, fun d1 r ok hm hn => ?_⟩
  walk_at "xs"
  refine ws_seq ?_
  walk_at "xs"
  refine .a ⟨ns, 1, rfl, by omega, by omega, fun d2 h2 => ?_⟩
  walk_at "xs"
  refine .a ⟨d2, r, rfl, h2.up (by omega) (by omega), ok, fun d3 k0 kok h3 => ?_⟩
  walk_at "xs"
  refine ws_seq ?_
  walk_at "xs"
  refine .a ⟨ns, 2, rfl, by omega, by omega, fun d4 h4 => ?_⟩
  walk_at "xs"
  refine ws_seq ?_
  walk_at "xs"
  refine .a ⟨d4, r, rfl, h4.up (by omega) (by omega), ok, by omega, fun d5 s i e hs hi he h5 => ?_⟩
  walk_at "xs"
  refine ws_seq ?_
  walk_at "xs"
  refine .a ⟨d5, r, s, i, e, k0, rfl, h5, ok, hs, hi, he, kok, fun d6 k kb kt1 kt2 => ?_⟩
  walk_at "es"
  refine .a ⟨r, s, i, k, rfl, ok, hs, by omega, kb, ?_⟩
  cases hp : posB (lineG r s i) (roomOf s k) k (lastB r i) with
  | false =>
    walk_at "es"
    exact post
  | true =>
    have f1 : Fit r s i k := hp
    walk_at "es"
    refine .a ⟨r, i, e, k, rfl, ok, hi, he, kb, ?_⟩
    cases hp2 : posB (lineG r i e) (roomOf i k) k (lastB r e) with
    | false =>
      walk_at "es"
      exact post
    | true =>
      have f2 : Fit r i e k := hp2
      walk_at "es"
      refine .a ⟨r, s, i, k, rfl, ok, hs, by omega, kb, f1, fun pl1 => ?_⟩
      walk_at "es"
      refine .a ⟨r, i, e, k, rfl, ok, hi, he, kb, f2, fun pl2 => ?_⟩
      walk_at "es"
      refine .a ⟨spans r s i k, spans r i e k, rfl, Nat.le_trans (spans_len ok (by omega)) (by decide), Nat.le_trans (spans_len ok he) (by decide), ?_⟩
      generalize hn' : cnt (spans r s i k) (spans r i e k) = n
      walk_at "es"
      refine for_lst ([k.ri, 0, 1, 2, 3, 4, 5, 6, 7, 8, 9, k.ri].map Dt.int) (fun j G => ∃ s8 s9 s10, G = [.val (.scr ns), .val r.dt, .val k.dt, .acc d6, .acc [.int s, .int i, .int e], .val (.lst ((spans r s i k).map pairD)), .val (.lst ((spans r i e k).map pairD)), .val (.int n), s8, s9, s10]) ?_ ?_ ?_
      · walk_at "xs"
        exact .a ⟨rfl, _, _, _, rfl⟩
      · rintro j d G hd ⟨s8, s9, s10, rfl⟩
        rw [List.getElem?_map] at hd
        obtain ⟨x, hx', rfl⟩ := Option.map_eq_some_iff.mp hd
        obtain ⟨ak, hak⟩ : ∃ ak : Lin.Key, ak = ⟨k.w, k.i, k.b, k.hy, k.tw, x, k.lo⟩ := ⟨_, rfl⟩
        have akb : KeyB ak := by subst hak; exact ⟨kb.w1, kb.w2, kb.i1, kb.i2, kb.l1, kb.l2⟩
        have fa1 : Fit r s i ak := by subst hak; exact f1
        have fa2 : Fit r i e ak := by subst hak; exact f2
        have ec : cnt (spans r s i ak) (spans r i e ak) = n := by subst hak; exact hn'
        have eri : ak.ri = x := by subst hak; rfl
        have etw : ak.tw = k.tw := by subst hak; rfl
        have ead : Dt.tup [Dt.int k.w, Dt.int k.i, Dt.str (alS k.b), Dt.int k.hy, Dt.int k.tw, Dt.int x, Dt.int k.lo] = ak.dt := by subst hak; rfl
        walk_at "xs"
        refine ws_seq ?_
        walk_at "xs"
        rw [ead]
        refine .a ⟨ak, rfl, ?_⟩
        walk_at "xs"
        refine ws_seq ?_
        walk_at "xs"
        refine .a ⟨r, s, i, e, ak, rfl, ok, hs, hi, he, akb, fa1, fa2, ?_⟩
        by_cases c1 : 0 < x ∧ x ≤ (n : Int)
        · have epp : pairP r s i e ak = none := by
            unfold pairP pairC
            rw [eri, if_pos c1.1, ec, if_pos c1]
          rw [epp]
          simp only [optD]
          walk_at "es"
          exact .a ⟨_, _, _, rfl⟩
        · have epp : pairP r s i e ak = some (if r.hyE i = true ∧ r.hyE e = true then k.tw else 0) := by
            unfold pairP pairC
            rw [eri, etw]
            by_cases c2 : 0 < x
            · rw [if_pos c2, ec, if_neg c1]
            · rw [if_neg c2, if_neg (fun z => c2 z.1)]
          rw [epp]
          generalize htw : (if r.hyE i = true ∧ r.hyE e = true then k.tw else 0) = tv
          simp only [optD]
          have hz : 0 < x ∨ ¬ 0 < x := by omega
          rcases hz with hz | hz
          · have c3 : ¬ x ≤ (n : Int) := fun z => c1 ⟨hz, z⟩
            walk_at "es"
            refine .a ⟨tv, rfl, ?_⟩
            walk_at "es"
            refine .a ⟨r, s, i, e, k, rfl, ok, hs, hi, he, ?_⟩
            rw [htw]
            walk_at "es"
            exact .a ⟨_, _, _, rfl⟩
          · walk_at "es"
            refine .a ⟨tv, rfl, ?_⟩
            walk_at "es"
            refine .a ⟨r, s, i, e, k, rfl, ok, hs, hi, he, ?_⟩
            rw [htw]
            walk_at "es"
            exact .a ⟨_, _, _, rfl⟩
      · rintro G ⟨s8, s9, s10, rfl⟩
        walk_at "es"
        exact post
end
section
variable {P : Program} {w : World} {K : PySem.W.Frag} {mg : Str → Option Value} {base : Heap}
theorem glueOk (T : Txt K mg) : GlueOk K T.c_Glue := ⟨T.co_Glue, T.na_Glue_width, T.na_Glue_stretch, T.na_Glue_shrink⟩
theorem measOk (T : Txt K mg) : MeasOk K T.c_Measure := ⟨T.co_Measure, T.na_Measure_width, T.na_Measure_indent, T.na_Measure_align, T.na_Measure_hyphen, T.na_Measure_twin, T.na_Measure_river, T.na_Measure_loose⟩
theorem ok_Glue___add__ (T : Txt K mg) : FnOk P w K mg base CX0 3 T.f_Glue___add__ T.fd_Glue___add__ ["self", "other"] (toSp K (Lin.ap_add T.c_Glue)) := by
  have G_Glue___init__ := ok_Glue___init__ (P := P) (w := w) (base := base) T
  exact fn_ab [] T.F_Glue___add__ sc_Glue___add__ (by walk_at "len") rfl (fun cdv A outer s H E hr => ⟨_, tm_Glue___add__ T G_Glue___init__ cdv A outer s H E hr, Lin.run_add (glueOk T)⟩)
theorem ok_ends_at_hyphen (T : Txt K mg) : FnOk P w K mg base CX0 1 T.f_ends_at_hyphen T.fd_ends_at_hyphen ["row", "end"] (toSp K (Lin.ap_ends)) := by
  exact fn_ab [] T.F_ends_at_hyphen sc_ends_at_hyphen (by walk_at "len") rfl (fun cdv A outer s H E hr => ⟨_, tm_ends_at_hyphen T cdv A outer s H E hr, Lin.run_ends⟩)
theorem ok_joint_glue (T : Txt K mg) : FnOk P w K mg base CX0 3 T.f_joint_glue T.fd_joint_glue ["joint"] (toSp K (Lin.ap_jg T.c_Glue)) := by
  have G_Glue___init__ := ok_Glue___init__ (P := P) (w := w) (base := base) T
  exact fn_ab [] T.F_joint_glue sc_joint_glue (by walk_at "len") rfl (fun cdv A outer s H E hr => ⟨_, tm_joint_glue T G_Glue___init__ cdv A outer s H E hr, Lin.run_jg⟩)
theorem ok_extended_glue (T : Txt K mg) : FnOk P w K mg base CX0 4 T.f_extended_glue T.fd_extended_glue ["row", "inner", "box"] (toSp K (Lin.ap_ext T.c_Glue)) := by
  have G_joint_glue := ok_joint_glue (P := P) (w := w) (base := base) T
  have G_Glue___add__ := ok_Glue___add__ (P := P) (w := w) (base := base) T
  have G_Glue___init__ := ok_Glue___init__ (P := P) (w := w) (base := base) T
  exact fn_ab [] T.F_extended_glue sc_extended_glue (by walk_at "len") rfl (fun cdv A outer s H E hr => ⟨_, tm_extended_glue T G_joint_glue G_Glue___add__ G_Glue___init__ cdv A outer s H E hr, Lin.run_ext⟩)
theorem ok_finished_glue (T : Txt K mg) : FnOk P w K mg base CX0 4 T.f_finished_glue T.fd_finished_glue ["row", "inner", "end"] (toSp K (Lin.ap_fin T.c_Glue)) := by
  have G_ends_at_hyphen := ok_ends_at_hyphen (P := P) (w := w) (base := base) T
  have G_Glue___init__ := ok_Glue___init__ (P := P) (w := w) (base := base) T
  have G_Glue___add__ := ok_Glue___add__ (P := P) (w := w) (base := base) T
  exact fn_ab [] T.F_finished_glue sc_finished_glue (by walk_at "len") rfl (fun cdv A outer s H E hr => ⟨_, tm_finished_glue T G_ends_at_hyphen G_Glue___init__ G_Glue___add__ cdv A outer s H E hr, Lin.run_fin⟩)
theorem ok_line_glue (T : Txt K mg) : FnOk P w K mg base CX0 5 T.f_line_glue T.fd_line_glue ["row", "start", "end"] (toSp K (Lin.ap_line T.c_Glue)) := by
  have G_Glue___init__ := ok_Glue___init__ (P := P) (w := w) (base := base) T
  have G_extended_glue := ok_extended_glue (P := P) (w := w) (base := base) T
  have G_finished_glue := ok_finished_glue (P := P) (w := w) (base := base) T
  exact fn_ab [] T.F_line_glue sc_line_glue (by walk_at "len") rfl (fun cdv A outer s H E hr => ⟨_, tm_line_glue T G_Glue___init__ G_extended_glue G_finished_glue cdv A outer s H E hr, Lin.run_line⟩)
theorem ok_room_of (T : Txt K mg) : FnOk P w K mg base CX0 1 T.f_room_of T.fd_room_of ["start", "measure"] (toSp K (Lin.ap_room T.c_Measure)) := by
  exact fn_ab [] T.F_room_of sc_room_of (by walk_at "len") rfl (fun cdv A outer s H E hr => ⟨_, tm_room_of T cdv A outer s H E hr, Lin.run_room (measOk T)⟩)
theorem ok_extra_of (T : Txt K mg) : FnOk P w K mg base CX0 1 T.f_extra_of T.fd_extra_of ["rest", "glue", "before", "last", "measure"] (toSp K (Lin.ap_extra T.c_Glue T.c_Measure)) := by
  exact fn_ab [] T.F_extra_of sc_extra_of (by walk_at "len") rfl (fun cdv A outer s H E hr => ⟨_, tm_extra_of T cdv A outer s H E hr, Lin.run_extra (glueOk T) (measOk T)⟩)
theorem ok_box_places (T : Txt K mg) : FnOk P w K mg base CX0 6 T.f_box_places T.fd_box_places ["row", "start", "end", "measure"] (toSp K (Lin.ap_places T.c_Measure)) := by
  have G_line_glue := ok_line_glue (P := P) (w := w) (base := base) T
  have G_room_of := ok_room_of (P := P) (w := w) (base := base) T
  have G_Glue___init__ := ok_Glue___init__ (P := P) (w := w) (base := base) T
  have G_joint_glue := ok_joint_glue (P := P) (w := w) (base := base) T
  have G_Glue___add__ := ok_Glue___add__ (P := P) (w := w) (base := base) T
  have G_extra_of := ok_extra_of (P := P) (w := w) (base := base) T
  exact fn_ab [] T.F_box_places sc_box_places (by walk_at "len") rfl (fun cdv A outer s H E hr => ⟨_, tm_box_places T G_line_glue G_room_of G_Glue___init__ G_joint_glue G_Glue___add__ G_extra_of cdv A outer s H E hr, Lin.run_places (glueOk T) (measOk T)⟩)
theorem ok_gap_spans (T : Txt K mg) : FnOk P w K mg base CX0 7 T.f_gap_spans T.fd_gap_spans ["row", "start", "end", "measure"] (toSp K (Lin.ap_spans T.c_Measure)) := by
  have G_box_places := ok_box_places (P := P) (w := w) (base := base) T
  exact fn_ab [] T.F_gap_spans sc_gap_spans (by walk_at "len") rfl (fun cdv A outer s H E hr => ⟨_, tm_gap_spans T G_box_places cdv A outer s H E hr, Lin.run_spans⟩)
theorem ok_count_overlapping (T : Txt K mg) : FnOk P w K mg base CX0 1 T.f_count_overlapping T.fd_count_overlapping ["upper", "lower"] (toSp K (Lin.ap_countA)) := by
  exact fn_ab [0, 1] T.F_count_overlapping sc_count_overlapping (by walk_at "len") rfl (fun cdv A outer s H E hr => ⟨_, tm_count_overlapping T cdv A outer s H E hr, Lin.run_countA⟩)
theorem ok_price_with_count (T : Txt K mg) : FnOk P w K mg base CX0 2 T.f_price_with_count T.fd_price_with_count ["row", "middle", "end", "measure", "count"] (toSp K (Lin.ap_pwc T.c_Measure)) := by
  have G_ends_at_hyphen := ok_ends_at_hyphen (P := P) (w := w) (base := base) T
  exact fn_ab [] T.F_price_with_count sc_price_with_count (by walk_at "len") rfl (fun cdv A outer s H E hr => ⟨_, tm_price_with_count T G_ends_at_hyphen cdv A outer s H E hr, Lin.run_pwc (measOk T)⟩)
theorem ok_pair_price (T : Txt K mg) : FnOk P w K mg base CX0 8 T.f_pair_price T.fd_pair_price ["row", "start", "middle", "end", "measure"] (toSp K (Lin.ap_pair T.c_Measure)) := by
  have G_gap_spans := ok_gap_spans (P := P) (w := w) (base := base) T
  have G_count_overlapping := ok_count_overlapping (P := P) (w := w) (base := base) T
  have G_price_with_count := ok_price_with_count (P := P) (w := w) (base := base) T
  exact fn_ab [] T.F_pair_price sc_pair_price (by walk_at "len") rfl (fun cdv A outer s H E hr => ⟨_, tm_pair_price T G_gap_spans G_count_overlapping G_price_with_count cdv A outer s H E hr, Lin.run_pair (measOk T)⟩)
theorem ok_Measure_of (T : Txt K mg) : FnOk P w K mg base CX0 3 T.f_Measure_of T.fd_Measure_of ["key"] (toSp K (Lin.ap_mof T.c_Measure)) := by
  have G_Measure___init__ := ok_Measure___init__ (P := P) (w := w) (base := base) T
  exact fn_ab [] T.F_Measure_of sc_Measure_of (by walk_at "len") rfl (fun cdv A outer s H E hr => ⟨_, tm_Measure_of T G_Measure___init__ cdv A outer s H E hr, Lin.run_mof⟩)
theorem ok__law_pool (T : Txt K mg) : FnOk P w K mg base CX0 1 T.f__law_pool T.fd__law_pool ["_law_script", "_law_at"] (toSp K (ap_pool)) := by
  exact fn_ab [] T.F__law_pool sc__law_pool (by walk_at "len") rfl (fun cdv A outer s H E hr => ⟨_, tm__law_pool T cdv A outer s H E hr, run_tPool⟩)
theorem ok__law_take (T : Txt K mg) : FnOk P w K mg base CX0 1 T.f__law_take T.fd__law_take ["_law_pool_here", "_law_many"] (toSp K (ap_take)) := by
  exact fn_ab [0] T.F__law_take sc__law_take (by walk_at "len") rfl (fun cdv A outer s H E hr => ⟨_, tm__law_take T cdv A outer s H E hr, run_tTakeA⟩)
theorem ok__law_is_integer (T : Txt K mg) : FnOk P w K mg base CX0 1 T.f__law_is_integer T.fd__law_is_integer ["_law_actual"] (toSp K (Lin.ap_isint)) := by
  exact fn_ab [] T.F__law_is_integer sc__law_is_integer (by walk_at "len") rfl (fun cdv A outer s H E hr => ⟨_, tm__law_is_integer T cdv A outer s H E hr, Lin.run_isint⟩)
theorem ok__law_joint (T : Txt K mg) : FnOk P w K mg base CX0 2 T.f__law_joint T.fd__law_joint ["_law_pool_here", "_law_below", "_law_broad"] (toSp K (Lin.ap_joint)) := by
  have G__law_take := ok__law_take (P := P) (w := w) (base := base) T
  exact fn_ab [0] T.F__law_joint sc__law_joint (by walk_at "len") rfl (fun cdv A outer s H E hr => ⟨_, tm__law_joint T G__law_take cdv A outer s H E hr, Lin.run_joint⟩)
theorem ok__law_bare (T : Txt K mg) : FnOk P w K mg base CX0 3 T.f__law_bare T.fd__law_bare ["_law_pool_here", "_law_least", "_law_often"] (toSp K (Lin.ap_bare)) := by
  have G__law_take := ok__law_take (P := P) (w := w) (base := base) T
  have G__law_joint := ok__law_joint (P := P) (w := w) (base := base) T
  exact fn_ab [0] T.F__law_bare sc__law_bare (by walk_at "len") rfl (fun cdv A outer s H E hr => ⟨_, tm__law_bare T G__law_take G__law_joint cdv A outer s H E hr, Lin.run_bare⟩)
theorem ok__law_glue (T : Txt K mg) : FnOk P w K mg base CX0 1 T.f__law_glue T.fd__law_glue ["_law_row", "_law_start", "_law_end"] (toSp K (Lin.ap_lglue)) := by
  exact fn_ab [] T.F__law_glue sc__law_glue (by walk_at "len") rfl (fun cdv A outer s H E hr => ⟨_, tm__law_glue T cdv A outer s H E hr, Lin.run_lglue⟩)
theorem ok__law_line_key (T : Txt K mg) : FnOk P w K mg base CX0 2 T.f__law_line_key T.fd__law_line_key ["_law_pool_here", "_law_row"] (toSp K (Lin.ap_lkey)) := by
  have G__law_take := ok__law_take (P := P) (w := w) (base := base) T
  have G__law_glue := ok__law_glue (P := P) (w := w) (base := base) T
  exact fn_ab [0] T.F__law_line_key sc__law_line_key (by walk_at "len") rfl (fun cdv A outer s H E hr => ⟨_, tm__law_line_key T G__law_take G__law_glue cdv A outer s H E hr, Lin.run_lkey⟩)
theorem ok__law_possible (T : Txt K mg) : FnOk P w K mg base CX0 2 T.f__law_possible T.fd__law_possible ["_law_row", "_law_start", "_law_end", "_law_key"] (toSp K (Lin.ap_poss)) := by
  have G__law_glue := ok__law_glue (P := P) (w := w) (base := base) T
  exact fn_ab [] T.F__law_possible sc__law_possible (by walk_at "len") rfl (fun cdv A outer s H E hr => ⟨_, tm__law_possible T G__law_glue cdv A outer s H E hr, Lin.run_poss⟩)
theorem ok__law_spans (T : Txt K mg) : FnOk P w K mg base CX0 2 T.f__law_spans T.fd__law_spans ["_law_row", "_law_start", "_law_end", "_law_key"] (toSp K (ap_lspans)) := by
  have G__law_glue := ok__law_glue (P := P) (w := w) (base := base) T
  exact fn_ab [] T.F__law_spans sc__law_spans (by walk_at "len") rfl (fun cdv A outer s H E hr => ⟨_, tm__law_spans T G__law_glue cdv A outer s H E hr, run_lspans⟩)
theorem ok__law_overlap (T : Txt K mg) : FnOk P w K mg base CX0 1 T.f__law_overlap T.fd__law_overlap ["_law_one", "_law_two"] (toSp K (Lin.ap_ovl)) := by
  exact fn_ab [] T.F__law_overlap sc__law_overlap (by walk_at "len") rfl (fun cdv A outer s H E hr => ⟨_, tm__law_overlap T cdv A outer s H E hr, Lin.run_ovl⟩)
theorem ok__law_meet (T : Txt K mg) : FnOk P w K mg base CX0 2 T.f__law_meet T.fd__law_meet ["_law_upper", "_law_lower"] (toSp K (Lin.ap_meet)) := by
  have G__law_overlap := ok__law_overlap (P := P) (w := w) (base := base) T
  exact fn_ab [] T.F__law_meet sc__law_meet (by walk_at "len") rfl (fun cdv A outer s H E hr => ⟨_, tm__law_meet T G__law_overlap cdv A outer s H E hr, Lin.run_meet⟩)
theorem ok__law_three (T : Txt K mg) : FnOk P w K mg base CX0 2 T.f__law_three T.fd__law_three ["_law_pool_here", "_law_row"] (toSp K (ap_three)) := by
  have G__law_take := ok__law_take (P := P) (w := w) (base := base) T
  exact fn_ab [0] T.F__law_three sc__law_three (by walk_at "len") rfl (fun cdv A outer s H E hr => ⟨_, tm__law_three T G__law_take cdv A outer s H E hr, run_three⟩)
theorem ok__law_shared (T : Txt K mg) : FnOk P w K mg base CX0 2 T.f__law_shared T.fd__law_shared ["_law_pool_here", "_law_row", "_law_three_here", "_law_key"] (toSp K (ap_shared)) := by
  have G__law_glue := ok__law_glue (P := P) (w := w) (base := base) T
  have G__law_take := ok__law_take (P := P) (w := w) (base := base) T
  exact fn_ab [0, 2] T.F__law_shared sc__law_shared (by walk_at "len") rfl (fun cdv A outer s H E hr => ⟨_, tm__law_shared T G__law_glue G__law_take cdv A outer s H E hr, run_shared⟩)
theorem ok__law_twin (T : Txt K mg) : FnOk P w K mg base CX0 1 T.f__law_twin T.fd__law_twin ["_law_row", "_law_three_here", "_law_key"] (toSp K (ap_twin)) := by
  exact fn_ab [1] T.F__law_twin sc__law_twin (by walk_at "len") rfl (fun cdv A outer s H E hr => ⟨_, tm__law_twin T cdv A outer s H E hr, run_twin⟩)
theorem ok_law (T : Txt K mg) : FnOk P w K mg base CX0 9 T.f_law T.fd_law ["_law_script"] (toSp K (ap_law)) := by
  have G__law_bare := ok__law_bare (P := P) (w := w) (base := base) T
  have G__law_pool := ok__law_pool (P := P) (w := w) (base := base) T
  have G__law_line_key := ok__law_line_key (P := P) (w := w) (base := base) T
  have G__law_three := ok__law_three (P := P) (w := w) (base := base) T
  have G__law_shared := ok__law_shared (P := P) (w := w) (base := base) T
  have G__law_possible := ok__law_possible (P := P) (w := w) (base := base) T
  have G__law_spans := ok__law_spans (P := P) (w := w) (base := base) T
  have G__law_meet := ok__law_meet (P := P) (w := w) (base := base) T
  have G_Measure_of := ok_Measure_of (P := P) (w := w) (base := base) T
  have G_pair_price := ok_pair_price (P := P) (w := w) (base := base) T
  have G__law_is_integer := ok__law_is_integer (P := P) (w := w) (base := base) T
  have G__law_twin := ok__law_twin (P := P) (w := w) (base := base) T
  exact fn_ab [] T.F_law sc_law (by walk_at "len") rfl (fun cdv A outer s H E hr => ⟨_, tm_law T G__law_bare G__law_pool G__law_line_key G__law_three G__law_shared G__law_possible G__law_spans G__law_meet G_Measure_of G_pair_price G__law_is_integer G__law_twin cdv A outer s H E hr, run_law⟩)
end
theorem law_pre {ns : List Int} (hl : ns.length ≤ 63) {Post : Re → List Sl → Prop} (hp : ∀ as, Post (.val (.bl true)) as) : ap_law [.val (.scr ns)] Post := ⟨ns, rfl, hp _⟩
end Lk53
namespace Lk53
open PySem L2 Ab
theorem fin_mk {l : PySem.W.OpenLaw} {w : World} {K : PySem.W.Frag} {h : Heap} {mg : Str → Option Value} {fa : Addr} (X : K.In h) (G : h.Ns mainGlobals mg) (hfa : mg "law" = some (.ref fa))
    {c_Glue : Addr} (aGlue : PySem.W.nsIn K mainGlobals "Glue" = some (some (.ref c_Glue)))
    (pgGlue : PySem.W.plainGet K c_Glue Str.empty = true) (hdGlue : PySem.W.hasDictIn K c_Glue = true) (poGlue : PySem.W.plainOver K c_Glue = true) (saGlue : PySem.W.findIn K (.ref c_Glue) "__setattr__" = some (some (.builtin "object.__setattr__"))) (mkGlue : PySem.W.makesIn K c_Glue = true) (kcGlue : PySem.W.keepIn K (.ref c_Glue) = true)
    (haGlue : PySem.W.findIn K (.ref c_Glue) "__class__" = some (some (.builtin "object.__class__"))) (hmGlue : PySem.W.mroIn K c_Glue (.type "object") = some true)
    (sfGlue : PySem.W.selfFirst K c_Glue = true)
    (naGlue_width : PySem.W.findIn K (.ref c_Glue) "width" = some none)
    (naGlue_stretch : PySem.W.findIn K (.ref c_Glue) "stretch" = some none)
    (naGlue_shrink : PySem.W.findIn K (.ref c_Glue) "shrink" = some none)
    {c_Measure : Addr} (aMeasure : PySem.W.nsIn K mainGlobals "Measure" = some (some (.ref c_Measure)))
    (pgMeasure : PySem.W.plainGet K c_Measure Str.empty = true) (hdMeasure : PySem.W.hasDictIn K c_Measure = true) (poMeasure : PySem.W.plainOver K c_Measure = true) (saMeasure : PySem.W.findIn K (.ref c_Measure) "__setattr__" = some (some (.builtin "object.__setattr__"))) (mkMeasure : PySem.W.makesIn K c_Measure = true) (kcMeasure : PySem.W.keepIn K (.ref c_Measure) = true)
    (haMeasure : PySem.W.findIn K (.ref c_Measure) "__class__" = some (some (.builtin "object.__class__"))) (hmMeasure : PySem.W.mroIn K c_Measure (.type "object") = some true)
    (rdMeasure : PySem.W.readsIn K c_Measure (.type "type") = true) (gaMeasure : PySem.W.specialIn K (.ref c_Measure) "__getattribute__" = some (some (.builtin "type.__getattribute__")))
    (naMeasure_width : PySem.W.findIn K (.ref c_Measure) "width" = some none)
    (naMeasure_indent : PySem.W.findIn K (.ref c_Measure) "indent" = some none)
    (naMeasure_align : PySem.W.findIn K (.ref c_Measure) "align" = some none)
    (naMeasure_hyphen : PySem.W.findIn K (.ref c_Measure) "hyphen" = some none)
    (naMeasure_twin : PySem.W.findIn K (.ref c_Measure) "twin" = some none)
    (naMeasure_river : PySem.W.findIn K (.ref c_Measure) "river" = some none)
    (naMeasure_loose : PySem.W.findIn K (.ref c_Measure) "loose" = some none)
    (hnO : PySem.W.specialIn K (.builtin "object.__class__") "__get__" = some (some (.builtin "getset_descriptor.__get__"))) (htO : PySem.W.takesIn K (.builtin "object.__class__") = some true)
    {f0 : Addr} {od0 an0 : Option Addr} {sl0 : Array (Option Value)} {oc0 kV0 dc0 pm0 cd0 ct0 : Value}
    (a0 : PySem.W.findIn K (.ref c_Glue) "__init__" = some (some (.ref f0))) (l0 : K.lookup f0 = some ⟨oc0, od0, .func (PySem.W.fnOf "__init__" "Glue.__init__" (defArgs s_Glue___init__) (defBody s_Glue___init__) (defScope s_Glue___init__) .none kV0 dc0 pm0 an0 cd0 ct0), sl0⟩) (c0 : PySem.W.codeIn K cd0 "Glue.__init__" = true) (k0 : PySem.W.keepIn K (.ref f0) = true)
    (i0 : PySem.W.isFn K (.ref f0) = true)
    {f1 : Addr} {od1 an1 : Option Addr} {sl1 : Array (Option Value)} {oc1 kV1 dc1 pm1 cd1 ct1 : Value}
    (a1 : PySem.W.findIn K (.ref c_Glue) "__add__" = some (some (.ref f1))) (l1 : K.lookup f1 = some ⟨oc1, od1, .func (PySem.W.fnOf "__add__" "Glue.__add__" (defArgs s_Glue___add__) (defBody s_Glue___add__) (defScope s_Glue___add__) .none kV1 dc1 pm1 an1 cd1 ct1), sl1⟩) (c1 : PySem.W.codeIn K cd1 "Glue.__add__" = true) (k1 : PySem.W.keepIn K (.ref f1) = true)
    (i1 : PySem.W.isFn K (.ref f1) = true)
    (o1 : PySem.W.findIn K (.ref c_Glue) (PySem.dunder (PySem.Operator.Add).info.2) = some (some (.ref f1)))
    {f2 : Addr} {od2 an2 : Option Addr} {sl2 : Array (Option Value)} {oc2 kV2 dc2 pm2 cd2 ct2 : Value}
    (a2 : PySem.W.nsIn K mainGlobals "ends_at_hyphen" = some (some (.ref f2))) (l2 : K.lookup f2 = some ⟨oc2, od2, .func (PySem.W.fnOf "ends_at_hyphen" "ends_at_hyphen" (defArgs s_ends_at_hyphen) (defBody s_ends_at_hyphen) (defScope s_ends_at_hyphen) .none kV2 dc2 pm2 an2 cd2 ct2), sl2⟩) (c2 : PySem.W.codeIn K cd2 "ends_at_hyphen" = true) (k2 : PySem.W.keepIn K (.ref f2) = true)
    {f3 : Addr} {od3 an3 : Option Addr} {sl3 : Array (Option Value)} {oc3 kV3 dc3 pm3 cd3 ct3 : Value}
    (a3 : PySem.W.nsIn K mainGlobals "joint_glue" = some (some (.ref f3))) (l3 : K.lookup f3 = some ⟨oc3, od3, .func (PySem.W.fnOf "joint_glue" "joint_glue" (defArgs s_joint_glue) (defBody s_joint_glue) (defScope s_joint_glue) .none kV3 dc3 pm3 an3 cd3 ct3), sl3⟩) (c3 : PySem.W.codeIn K cd3 "joint_glue" = true) (k3 : PySem.W.keepIn K (.ref f3) = true)
    {f4 : Addr} {od4 an4 : Option Addr} {sl4 : Array (Option Value)} {oc4 kV4 dc4 pm4 cd4 ct4 : Value}
    (a4 : PySem.W.nsIn K mainGlobals "extended_glue" = some (some (.ref f4))) (l4 : K.lookup f4 = some ⟨oc4, od4, .func (PySem.W.fnOf "extended_glue" "extended_glue" (defArgs s_extended_glue) (defBody s_extended_glue) (defScope s_extended_glue) .none kV4 dc4 pm4 an4 cd4 ct4), sl4⟩) (c4 : PySem.W.codeIn K cd4 "extended_glue" = true) (k4 : PySem.W.keepIn K (.ref f4) = true)
    {f5 : Addr} {od5 an5 : Option Addr} {sl5 : Array (Option Value)} {oc5 kV5 dc5 pm5 cd5 ct5 : Value}
    (a5 : PySem.W.nsIn K mainGlobals "finished_glue" = some (some (.ref f5))) (l5 : K.lookup f5 = some ⟨oc5, od5, .func (PySem.W.fnOf "finished_glue" "finished_glue" (defArgs s_finished_glue) (defBody s_finished_glue) (defScope s_finished_glue) .none kV5 dc5 pm5 an5 cd5 ct5), sl5⟩) (c5 : PySem.W.codeIn K cd5 "finished_glue" = true) (k5 : PySem.W.keepIn K (.ref f5) = true)
    {f6 : Addr} {od6 an6 : Option Addr} {sl6 : Array (Option Value)} {oc6 kV6 dc6 pm6 cd6 ct6 : Value}
    (a6 : PySem.W.nsIn K mainGlobals "line_glue" = some (some (.ref f6))) (l6 : K.lookup f6 = some ⟨oc6, od6, .func (PySem.W.fnOf "line_glue" "line_glue" (defArgs s_line_glue) (defBody s_line_glue) (defScope s_line_glue) .none kV6 dc6 pm6 an6 cd6 ct6), sl6⟩) (c6 : PySem.W.codeIn K cd6 "line_glue" = true) (k6 : PySem.W.keepIn K (.ref f6) = true)
    {f7 : Addr} {od7 an7 : Option Addr} {sl7 : Array (Option Value)} {oc7 kV7 dc7 pm7 cd7 ct7 : Value}
    (a7 : PySem.W.nsIn K mainGlobals "room_of" = some (some (.ref f7))) (l7 : K.lookup f7 = some ⟨oc7, od7, .func (PySem.W.fnOf "room_of" "room_of" (defArgs s_room_of) (defBody s_room_of) (defScope s_room_of) .none kV7 dc7 pm7 an7 cd7 ct7), sl7⟩) (c7 : PySem.W.codeIn K cd7 "room_of" = true) (k7 : PySem.W.keepIn K (.ref f7) = true)
    {f8 : Addr} {od8 an8 : Option Addr} {sl8 : Array (Option Value)} {oc8 kV8 dc8 pm8 cd8 ct8 : Value}
    (a8 : PySem.W.nsIn K mainGlobals "extra_of" = some (some (.ref f8))) (l8 : K.lookup f8 = some ⟨oc8, od8, .func (PySem.W.fnOf "extra_of" "extra_of" (defArgs s_extra_of) (defBody s_extra_of) (defScope s_extra_of) .none kV8 dc8 pm8 an8 cd8 ct8), sl8⟩) (c8 : PySem.W.codeIn K cd8 "extra_of" = true) (k8 : PySem.W.keepIn K (.ref f8) = true)
    {f9 : Addr} {od9 an9 : Option Addr} {sl9 : Array (Option Value)} {oc9 kV9 dc9 pm9 cd9 ct9 : Value}
    (a9 : PySem.W.nsIn K mainGlobals "box_places" = some (some (.ref f9))) (l9 : K.lookup f9 = some ⟨oc9, od9, .func (PySem.W.fnOf "box_places" "box_places" (defArgs s_box_places) (defBody s_box_places) (defScope s_box_places) .none kV9 dc9 pm9 an9 cd9 ct9), sl9⟩) (c9 : PySem.W.codeIn K cd9 "box_places" = true) (k9 : PySem.W.keepIn K (.ref f9) = true)
    {f10 : Addr} {od10 an10 : Option Addr} {sl10 : Array (Option Value)} {oc10 kV10 dc10 pm10 cd10 ct10 : Value}
    (a10 : PySem.W.nsIn K mainGlobals "gap_spans" = some (some (.ref f10))) (l10 : K.lookup f10 = some ⟨oc10, od10, .func (PySem.W.fnOf "gap_spans" "gap_spans" (defArgs s_gap_spans) (defBody s_gap_spans) (defScope s_gap_spans) .none kV10 dc10 pm10 an10 cd10 ct10), sl10⟩) (c10 : PySem.W.codeIn K cd10 "gap_spans" = true) (k10 : PySem.W.keepIn K (.ref f10) = true)
    {f11 : Addr} {od11 an11 : Option Addr} {sl11 : Array (Option Value)} {oc11 kV11 dc11 pm11 cd11 ct11 : Value}
    (a11 : PySem.W.nsIn K mainGlobals "count_overlapping" = some (some (.ref f11))) (l11 : K.lookup f11 = some ⟨oc11, od11, .func (PySem.W.fnOf "count_overlapping" "count_overlapping" (defArgs s_count_overlapping) (defBody s_count_overlapping) (defScope s_count_overlapping) .none kV11 dc11 pm11 an11 cd11 ct11), sl11⟩) (c11 : PySem.W.codeIn K cd11 "count_overlapping" = true) (k11 : PySem.W.keepIn K (.ref f11) = true)
    {f12 : Addr} {od12 an12 : Option Addr} {sl12 : Array (Option Value)} {oc12 kV12 dc12 pm12 cd12 ct12 : Value}
    (a12 : PySem.W.nsIn K mainGlobals "price_with_count" = some (some (.ref f12))) (l12 : K.lookup f12 = some ⟨oc12, od12, .func (PySem.W.fnOf "price_with_count" "price_with_count" (defArgs s_price_with_count) (defBody s_price_with_count) (defScope s_price_with_count) .none kV12 dc12 pm12 an12 cd12 ct12), sl12⟩) (c12 : PySem.W.codeIn K cd12 "price_with_count" = true) (k12 : PySem.W.keepIn K (.ref f12) = true)
    {f13 : Addr} {od13 an13 : Option Addr} {sl13 : Array (Option Value)} {oc13 kV13 dc13 pm13 cd13 ct13 : Value}
    (a13 : PySem.W.nsIn K mainGlobals "pair_price" = some (some (.ref f13))) (l13 : K.lookup f13 = some ⟨oc13, od13, .func (PySem.W.fnOf "pair_price" "pair_price" (defArgs s_pair_price) (defBody s_pair_price) (defScope s_pair_price) .none kV13 dc13 pm13 an13 cd13 ct13), sl13⟩) (c13 : PySem.W.codeIn K cd13 "pair_price" = true) (k13 : PySem.W.keepIn K (.ref f13) = true)
    {f14 : Addr} {od14 an14 : Option Addr} {sl14 : Array (Option Value)} {oc14  dc14 pm14 cd14 ct14 : Value}
    {D_Measure : Addr} {t_Measure_indent : Tok} {t_Measure_align : Tok} {t_Measure_hyphen : Tok} {t_Measure_twin : Tok} {t_Measure_river : Tok} {t_Measure_loose : Tok}
    (a14 : PySem.W.findIn K (.ref c_Measure) "__init__" = some (some (.ref f14))) (l14 : K.lookup f14 = some ⟨oc14, od14, .func (PySem.W.fnOf "__init__" "Measure.__init__" (defArgs s_Measure___init__) (defBody s_Measure___init__) (defScope s_Measure___init__) .none (.ref D_Measure) dc14 pm14 an14 cd14 ct14), sl14⟩) (c14 : PySem.W.codeIn K cd14 "Measure.__init__" = true) (k14 : PySem.W.keepIn K (.ref f14) = true)
    (i14 : PySem.W.isFn K (.ref f14) = true)
    (kd_Measure_indent : PySem.W.nsIn K D_Measure "indent" = some (some (.int 0 t_Measure_indent))) (kd_Measure_align : PySem.W.nsIn K D_Measure "align" = some (some (.str "both" t_Measure_align))) (kd_Measure_hyphen : PySem.W.nsIn K D_Measure "hyphen" = some (some (.int 50 t_Measure_hyphen))) (kd_Measure_twin : PySem.W.nsIn K D_Measure "twin" = some (some (.int 100 t_Measure_twin))) (kd_Measure_river : PySem.W.nsIn K D_Measure "river" = some (some (.int 0 t_Measure_river))) (kd_Measure_loose : PySem.W.nsIn K D_Measure "loose" = some (some (.int 2 t_Measure_loose)))
    {f15 : Addr} {od15 an15 : Option Addr} {sl15 : Array (Option Value)} {oc15 kV15 dc15 pm15 cd15 ct15 : Value}
    {p15 : Addr} {rest15 : List Value} (sa15 : PySem.W.findCls K (.ref c_Measure) (.type "type") "of" = some (.get (.builtin "staticmethod.__get__") (.ref p15) .none (.ref c_Measure))) (sr15 : PySem.W.recIn K p15 "staticmethod" = some (.ref f15 :: rest15))
    (l15 : K.lookup f15 = some ⟨oc15, od15, .func (PySem.W.fnOf "of" "Measure.of" (defArgs s_Measure_of) (defBody s_Measure_of) (defScope s_Measure_of) .none kV15 dc15 pm15 an15 cd15 ct15), sl15⟩) (c15 : PySem.W.codeIn K cd15 "Measure.of" = true) (k15 : PySem.W.keepIn K (.ref f15) = true)
    {f16 : Addr} {od16 an16 : Option Addr} {sl16 : Array (Option Value)} {oc16 kV16 dc16 pm16 cd16 ct16 : Value}
    (a16 : PySem.W.nsIn K mainGlobals "_law_pool" = some (some (.ref f16))) (l16 : K.lookup f16 = some ⟨oc16, od16, .func (PySem.W.fnOf "_law_pool" "_law_pool" (defArgs s__law_pool) (defBody s__law_pool) (defScope s__law_pool) .none kV16 dc16 pm16 an16 cd16 ct16), sl16⟩) (c16 : PySem.W.codeIn K cd16 "_law_pool" = true) (k16 : PySem.W.keepIn K (.ref f16) = true)
    {f17 : Addr} {od17 an17 : Option Addr} {sl17 : Array (Option Value)} {oc17 kV17 dc17 pm17 cd17 ct17 : Value}
    (a17 : PySem.W.nsIn K mainGlobals "_law_take" = some (some (.ref f17))) (l17 : K.lookup f17 = some ⟨oc17, od17, .func (PySem.W.fnOf "_law_take" "_law_take" (defArgs s__law_take) (defBody s__law_take) (defScope s__law_take) .none kV17 dc17 pm17 an17 cd17 ct17), sl17⟩) (c17 : PySem.W.codeIn K cd17 "_law_take" = true) (k17 : PySem.W.keepIn K (.ref f17) = true)
    {f18 : Addr} {od18 an18 : Option Addr} {sl18 : Array (Option Value)} {oc18 kV18 dc18 pm18 cd18 ct18 : Value}
    (a18 : PySem.W.nsIn K mainGlobals "_law_is_integer" = some (some (.ref f18))) (l18 : K.lookup f18 = some ⟨oc18, od18, .func (PySem.W.fnOf "_law_is_integer" "_law_is_integer" (defArgs s__law_is_integer) (defBody s__law_is_integer) (defScope s__law_is_integer) .none kV18 dc18 pm18 an18 cd18 ct18), sl18⟩) (c18 : PySem.W.codeIn K cd18 "_law_is_integer" = true) (k18 : PySem.W.keepIn K (.ref f18) = true)
    {f19 : Addr} {od19 an19 : Option Addr} {sl19 : Array (Option Value)} {oc19 kV19 dc19 pm19 cd19 ct19 : Value}
    (a19 : PySem.W.nsIn K mainGlobals "_law_joint" = some (some (.ref f19))) (l19 : K.lookup f19 = some ⟨oc19, od19, .func (PySem.W.fnOf "_law_joint" "_law_joint" (defArgs s__law_joint) (defBody s__law_joint) (defScope s__law_joint) .none kV19 dc19 pm19 an19 cd19 ct19), sl19⟩) (c19 : PySem.W.codeIn K cd19 "_law_joint" = true) (k19 : PySem.W.keepIn K (.ref f19) = true)
    {f20 : Addr} {od20 an20 : Option Addr} {sl20 : Array (Option Value)} {oc20 kV20 dc20 pm20 cd20 ct20 : Value}
    (a20 : PySem.W.nsIn K mainGlobals "_law_bare" = some (some (.ref f20))) (l20 : K.lookup f20 = some ⟨oc20, od20, .func (PySem.W.fnOf "_law_bare" "_law_bare" (defArgs s__law_bare) (defBody s__law_bare) (defScope s__law_bare) .none kV20 dc20 pm20 an20 cd20 ct20), sl20⟩) (c20 : PySem.W.codeIn K cd20 "_law_bare" = true) (k20 : PySem.W.keepIn K (.ref f20) = true)
    {f21 : Addr} {od21 an21 : Option Addr} {sl21 : Array (Option Value)} {oc21 kV21 dc21 pm21 cd21 ct21 : Value}
    (a21 : PySem.W.nsIn K mainGlobals "_law_glue" = some (some (.ref f21))) (l21 : K.lookup f21 = some ⟨oc21, od21, .func (PySem.W.fnOf "_law_glue" "_law_glue" (defArgs s__law_glue) (defBody s__law_glue) (defScope s__law_glue) .none kV21 dc21 pm21 an21 cd21 ct21), sl21⟩) (c21 : PySem.W.codeIn K cd21 "_law_glue" = true) (k21 : PySem.W.keepIn K (.ref f21) = true)
    {f22 : Addr} {od22 an22 : Option Addr} {sl22 : Array (Option Value)} {oc22 kV22 dc22 pm22 cd22 ct22 : Value}
    (a22 : PySem.W.nsIn K mainGlobals "_law_line_key" = some (some (.ref f22))) (l22 : K.lookup f22 = some ⟨oc22, od22, .func (PySem.W.fnOf "_law_line_key" "_law_line_key" (defArgs s__law_line_key) (defBody s__law_line_key) (defScope s__law_line_key) .none kV22 dc22 pm22 an22 cd22 ct22), sl22⟩) (c22 : PySem.W.codeIn K cd22 "_law_line_key" = true) (k22 : PySem.W.keepIn K (.ref f22) = true)
    {f23 : Addr} {od23 an23 : Option Addr} {sl23 : Array (Option Value)} {oc23 kV23 dc23 pm23 cd23 ct23 : Value}
    (a23 : PySem.W.nsIn K mainGlobals "_law_possible" = some (some (.ref f23))) (l23 : K.lookup f23 = some ⟨oc23, od23, .func (PySem.W.fnOf "_law_possible" "_law_possible" (defArgs s__law_possible) (defBody s__law_possible) (defScope s__law_possible) .none kV23 dc23 pm23 an23 cd23 ct23), sl23⟩) (c23 : PySem.W.codeIn K cd23 "_law_possible" = true) (k23 : PySem.W.keepIn K (.ref f23) = true)
    {f24 : Addr} {od24 an24 : Option Addr} {sl24 : Array (Option Value)} {oc24 kV24 dc24 pm24 cd24 ct24 : Value}
    (a24 : PySem.W.nsIn K mainGlobals "_law_spans" = some (some (.ref f24))) (l24 : K.lookup f24 = some ⟨oc24, od24, .func (PySem.W.fnOf "_law_spans" "_law_spans" (defArgs s__law_spans) (defBody s__law_spans) (defScope s__law_spans) .none kV24 dc24 pm24 an24 cd24 ct24), sl24⟩) (c24 : PySem.W.codeIn K cd24 "_law_spans" = true) (k24 : PySem.W.keepIn K (.ref f24) = true)
    {f25 : Addr} {od25 an25 : Option Addr} {sl25 : Array (Option Value)} {oc25 kV25 dc25 pm25 cd25 ct25 : Value}
    (a25 : PySem.W.nsIn K mainGlobals "_law_overlap" = some (some (.ref f25))) (l25 : K.lookup f25 = some ⟨oc25, od25, .func (PySem.W.fnOf "_law_overlap" "_law_overlap" (defArgs s__law_overlap) (defBody s__law_overlap) (defScope s__law_overlap) .none kV25 dc25 pm25 an25 cd25 ct25), sl25⟩) (c25 : PySem.W.codeIn K cd25 "_law_overlap" = true) (k25 : PySem.W.keepIn K (.ref f25) = true)
    {f26 : Addr} {od26 an26 : Option Addr} {sl26 : Array (Option Value)} {oc26 kV26 dc26 pm26 cd26 ct26 : Value}
    (a26 : PySem.W.nsIn K mainGlobals "_law_meet" = some (some (.ref f26))) (l26 : K.lookup f26 = some ⟨oc26, od26, .func (PySem.W.fnOf "_law_meet" "_law_meet" (defArgs s__law_meet) (defBody s__law_meet) (defScope s__law_meet) .none kV26 dc26 pm26 an26 cd26 ct26), sl26⟩) (c26 : PySem.W.codeIn K cd26 "_law_meet" = true) (k26 : PySem.W.keepIn K (.ref f26) = true)
    {f27 : Addr} {od27 an27 : Option Addr} {sl27 : Array (Option Value)} {oc27 kV27 dc27 pm27 cd27 ct27 : Value}
    (a27 : PySem.W.nsIn K mainGlobals "_law_three" = some (some (.ref f27))) (l27 : K.lookup f27 = some ⟨oc27, od27, .func (PySem.W.fnOf "_law_three" "_law_three" (defArgs s__law_three) (defBody s__law_three) (defScope s__law_three) .none kV27 dc27 pm27 an27 cd27 ct27), sl27⟩) (c27 : PySem.W.codeIn K cd27 "_law_three" = true) (k27 : PySem.W.keepIn K (.ref f27) = true)
    {f28 : Addr} {od28 an28 : Option Addr} {sl28 : Array (Option Value)} {oc28 kV28 dc28 pm28 cd28 ct28 : Value}
    (a28 : PySem.W.nsIn K mainGlobals "_law_shared" = some (some (.ref f28))) (l28 : K.lookup f28 = some ⟨oc28, od28, .func (PySem.W.fnOf "_law_shared" "_law_shared" (defArgs s__law_shared) (defBody s__law_shared) (defScope s__law_shared) .none kV28 dc28 pm28 an28 cd28 ct28), sl28⟩) (c28 : PySem.W.codeIn K cd28 "_law_shared" = true) (k28 : PySem.W.keepIn K (.ref f28) = true)
    {f29 : Addr} {od29 an29 : Option Addr} {sl29 : Array (Option Value)} {oc29 kV29 dc29 pm29 cd29 ct29 : Value}
    (a29 : PySem.W.nsIn K mainGlobals "_law_twin" = some (some (.ref f29))) (l29 : K.lookup f29 = some ⟨oc29, od29, .func (PySem.W.fnOf "_law_twin" "_law_twin" (defArgs s__law_twin) (defBody s__law_twin) (defScope s__law_twin) .none kV29 dc29 pm29 an29 cd29 ct29), sl29⟩) (c29 : PySem.W.codeIn K cd29 "_law_twin" = true) (k29 : PySem.W.keepIn K (.ref f29) = true)
    {f30 : Addr} {od30 an30 : Option Addr} {sl30 : Array (Option Value)} {oc30 kV30 dc30 pm30 cd30 ct30 : Value}
    (a30 : PySem.W.nsIn K mainGlobals "law" = some (some (.ref f30))) (l30 : K.lookup f30 = some ⟨oc30, od30, .func (PySem.W.fnOf "law" "law" (defArgs s_law) (defBody s_law) (defScope s_law) .none kV30 dc30 pm30 an30 cd30 ct30), sl30⟩) (c30 : PySem.W.codeIn K cd30 "law" = true) (k30 : PySem.W.keepIn K (.ref f30) = true)
    (z_abs : PySem.W.nsIn K mainGlobals "abs" = some none)
    (z_bool : PySem.W.nsIn K mainGlobals "bool" = some none)
    (z_int : PySem.W.nsIn K mainGlobals "int" = some none)
    (z_isinstance : PySem.W.nsIn K mainGlobals "isinstance" = some none)
    (z_len : PySem.W.nsIn K mainGlobals "len" = some none)
    (z_max : PySem.W.nsIn K mainGlobals "max" = some none)
    (z_min : PySem.W.nsIn K mainGlobals "min" = some none)
    (z_range : PySem.W.nsIn K mainGlobals "range" = some none)
    (z_sum : PySem.W.nsIn K mainGlobals "sum" = some none)
    (z_tuple : PySem.W.nsIn K mainGlobals "tuple" = some none)
    : ∃ fd : FuncData, (∀ (s : Shared) (v : Value), BindsTo s fd ⟨[v], []⟩ [("_law_script", v)]) ∧ ∀ base : Heap, K.In base → base.Ns mainGlobals mg → FnOk l.prog w K mg base CX0 9 fa fd ["_law_script"] (toSp K ap_law) := by
  obtain ⟨T, e, hb⟩ := txt_mk X G aGlue pgGlue hdGlue poGlue saGlue mkGlue kcGlue haGlue hmGlue sfGlue naGlue_width naGlue_stretch naGlue_shrink aMeasure pgMeasure hdMeasure poMeasure saMeasure mkMeasure kcMeasure haMeasure hmMeasure rdMeasure gaMeasure naMeasure_width naMeasure_indent naMeasure_align naMeasure_hyphen naMeasure_twin naMeasure_river naMeasure_loose hnO htO a0 l0 c0 k0 i0 a1 l1 c1 k1 i1 o1 a2 l2 c2 k2 a3 l3 c3 k3 a4 l4 c4 k4 a5 l5 c5 k5 a6 l6 c6 k6 a7 l7 c7 k7 a8 l8 c8 k8 a9 l9 c9 k9 a10 l10 c10 k10 a11 l11 c11 k11 a12 l12 c12 k12 a13 l13 c13 k13 a14 l14 c14 k14 i14 kd_Measure_indent kd_Measure_align kd_Measure_hyphen kd_Measure_twin kd_Measure_river kd_Measure_loose sa15 sr15 l15 c15 k15 a16 l16 c16 k16 a17 l17 c17 k17 a18 l18 c18 k18 a19 l19 c19 k19 a20 l20 c20 k20 a21 l21 c21 k21 a22 l22 c22 k22 a23 l23 c23 k23 a24 l24 c24 k24 a25 l25 c25 k25 a26 l26 c26 k26 a27 l27 c27 k27 a28 l28 c28 k28 a29 l29 c29 k29 a30 l30 c30 k30 z_abs z_bool z_int z_isinstance z_len z_max z_min z_range z_sum z_tuple
  have e2 : T.f_law = fa := by
    have := T.g_law
    rw [hfa] at this
    cases this
    rfl
  exact ⟨T.fd_law, hb, fun base _ _ => by rw [← e2]; exact ok_law T⟩
end Lk53
open PySem PySem.W PyProof.Rows
set_option maxRecDepth 100000 in
set_option maxHeartbeats 0 in
theorem PySem.Challenge.cw_stylepages_k53_rivers_and_twins_holds : PySem.Challenge.rw_stylepages_k53_rivers_and_twins.Holds := by
  w_on; o_law; k_head; (case hw => w_witness2)
  k_fill
  refine L2.walk_of (l := PySem.Challenge.rw_stylepages_k53_rivers_and_twins) (n := 63) (k := 9) (x := "_law_script") (CX := fun _ => L2.CX0) (sp := fun w => Ab.toSp _ Lk53.ap_law) rfl (by decide) rfl ⟨rfl, by decide, by decide⟩ (fun w h Y => PySem.W.kIn_of Y) ?F (fun _ _ a ns hl _ hS => Ab.law_sp hS (fun Post hp => Lk53.law_pre hl hp)) (fun _ _ _ _ _ h => h)
  case F =>
    intro w mg fa h KX G hmg
    refine' Lk53.fin_mk KX G hmg ?aGlue ?pgGlue ?hdGlue ?poGlue ?saGlue ?mkGlue ?kcGlue ?haGlue ?hmGlue ?sfGlue ?naGlue_width ?naGlue_stretch ?naGlue_shrink ?aMeasure ?pgMeasure ?hdMeasure ?poMeasure ?saMeasure ?mkMeasure ?kcMeasure ?haMeasure ?hmMeasure ?rdMeasure ?gaMeasure ?naMeasure_width ?naMeasure_indent ?naMeasure_align ?naMeasure_hyphen ?naMeasure_twin ?naMeasure_river ?naMeasure_loose ?hnO ?htO ?a0 ?l0 ?c0 ?k0 ?i0 ?a1 ?l1 ?c1 ?k1 ?i1 ?o1 ?a2 ?l2 ?c2 ?k2 ?a3 ?l3 ?c3 ?k3 ?a4 ?l4 ?c4 ?k4 ?a5 ?l5 ?c5 ?k5 ?a6 ?l6 ?c6 ?k6 ?a7 ?l7 ?c7 ?k7 ?a8 ?l8 ?c8 ?k8 ?a9 ?l9 ?c9 ?k9 ?a10 ?l10 ?c10 ?k10 ?a11 ?l11 ?c11 ?k11 ?a12 ?l12 ?c12 ?k12 ?a13 ?l13 ?c13 ?k13 ?a14 ?l14 ?c14 ?k14 ?i14 ?kd_Measure_indent ?kd_Measure_align ?kd_Measure_hyphen ?kd_Measure_twin ?kd_Measure_river ?kd_Measure_loose ?sa15 ?sr15 ?l15 ?c15 ?k15 ?a16 ?l16 ?c16 ?k16 ?a17 ?l17 ?c17 ?k17 ?a18 ?l18 ?c18 ?k18 ?a19 ?l19 ?c19 ?k19 ?a20 ?l20 ?c20 ?k20 ?a21 ?l21 ?c21 ?k21 ?a22 ?l22 ?c22 ?k22 ?a23 ?l23 ?c23 ?k23 ?a24 ?l24 ?c24 ?k24 ?a25 ?l25 ?c25 ?k25 ?a26 ?l26 ?c26 ?k26 ?a27 ?l27 ?c27 ?k27 ?a28 ?l28 ?c28 ?k28 ?a29 ?l29 ?c29 ?k29 ?a30 ?l30 ?c30 ?k30 ?z_abs ?z_bool ?z_int ?z_isinstance ?z_len ?z_max ?z_min ?z_range ?z_sum ?z_tuple
    (case aGlue => k_is); (case pgGlue => k_is); (case hdGlue => k_is); (case poGlue => k_is); (case saGlue => k_is); (case mkGlue => k_is); (case kcGlue => k_is); (case haGlue => k_is); (case hmGlue => k_is); (case sfGlue => k_is); (case naGlue_width => k_is); (case naGlue_stretch => k_is); (case naGlue_shrink => k_is); (case aMeasure => k_is); (case pgMeasure => k_is); (case hdMeasure => k_is); (case poMeasure => k_is); (case saMeasure => k_is); (case mkMeasure => k_is); (case kcMeasure => k_is); (case haMeasure => k_is); (case hmMeasure => k_is); (case rdMeasure => k_is); (case gaMeasure => k_is); (case naMeasure_width => k_is); (case naMeasure_indent => k_is); (case naMeasure_align => k_is); (case naMeasure_hyphen => k_is); (case naMeasure_twin => k_is); (case naMeasure_river => k_is); (case naMeasure_loose => k_is); (case hnO => k_is); (case htO => k_is); (case a0 => k_is); (case l0 => k_is); (case c0 => k_is); (case k0 => k_is); (case i0 => k_is); (case a1 => k_is); (case l1 => k_is); (case c1 => k_is); (case k1 => k_is); (case i1 => k_is); (case o1 => k_is); (case a2 => k_is); (case l2 => k_is); (case c2 => k_is); (case k2 => k_is); (case a3 => k_is); (case l3 => k_is); (case c3 => k_is); (case k3 => k_is); (case a4 => k_is); (case l4 => k_is); (case c4 => k_is); (case k4 => k_is); (case a5 => k_is); (case l5 => k_is); (case c5 => k_is); (case k5 => k_is); (case a6 => k_is); (case l6 => k_is); (case c6 => k_is); (case k6 => k_is); (case a7 => k_is); (case l7 => k_is); (case c7 => k_is); (case k7 => k_is); (case a8 => k_is); (case l8 => k_is); (case c8 => k_is); (case k8 => k_is); (case a9 => k_is); (case l9 => k_is); (case c9 => k_is); (case k9 => k_is); (case a10 => k_is); (case l10 => k_is); (case c10 => k_is); (case k10 => k_is); (case a11 => k_is); (case l11 => k_is); (case c11 => k_is); (case k11 => k_is); (case a12 => k_is); (case l12 => k_is); (case c12 => k_is); (case k12 => k_is); (case a13 => k_is); (case l13 => k_is); (case c13 => k_is); (case k13 => k_is); (case a14 => k_is); (case l14 => k_is); (case c14 => k_is); (case k14 => k_is); (case i14 => k_is); (case kd_Measure_indent => k_is); (case kd_Measure_align => k_is); (case kd_Measure_hyphen => k_is); (case kd_Measure_twin => k_is); (case kd_Measure_river => k_is); (case kd_Measure_loose => k_is); (case sa15 => k_is); (case sr15 => k_is); (case l15 => k_is); (case c15 => k_is); (case k15 => k_is); (case a16 => k_is); (case l16 => k_is); (case c16 => k_is); (case k16 => k_is); (case a17 => k_is); (case l17 => k_is); (case c17 => k_is); (case k17 => k_is); (case a18 => k_is); (case l18 => k_is); (case c18 => k_is); (case k18 => k_is); (case a19 => k_is); (case l19 => k_is); (case c19 => k_is); (case k19 => k_is); (case a20 => k_is); (case l20 => k_is); (case c20 => k_is); (case k20 => k_is); (case a21 => k_is); (case l21 => k_is); (case c21 => k_is); (case k21 => k_is); (case a22 => k_is); (case l22 => k_is); (case c22 => k_is); (case k22 => k_is); (case a23 => k_is); (case l23 => k_is); (case c23 => k_is); (case k23 => k_is); (case a24 => k_is); (case l24 => k_is); (case c24 => k_is); (case k24 => k_is); (case a25 => k_is); (case l25 => k_is); (case c25 => k_is); (case k25 => k_is); (case a26 => k_is); (case l26 => k_is); (case c26 => k_is); (case k26 => k_is); (case a27 => k_is); (case l27 => k_is); (case c27 => k_is); (case k27 => k_is); (case a28 => k_is); (case l28 => k_is); (case c28 => k_is); (case k28 => k_is); (case a29 => k_is); (case l29 => k_is); (case c29 => k_is); (case k29 => k_is); (case a30 => k_is); (case l30 => k_is); (case c30 => k_is); (case k30 => k_is); (case z_abs => k_is); (case z_bool => k_is); (case z_int => k_is); (case z_isinstance => k_is); (case z_len => k_is); (case z_max => k_is); (case z_min => k_is); (case z_range => k_is); (case z_sum => k_is); (case z_tuple => k_is)
