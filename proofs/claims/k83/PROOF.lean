import PyProof.Rows.All
import Wide.All
import OpenK.AllK
import Wide.FinOn
import HandS.ForMost
import HandS.IsInst
import HandS.TupAny
import HandS.Wide
import HandS.Flow
import HandS.Exc
import HandS.ExcOwn
import HandS.TryOnly
import HandS.TryMany
import HandS.ExcIs
import HandS.ExcField
import HandS.WordsExc
import KE.KTupSum
import HandS.MakeKwOnly
import HandS.ClsMeth
import HandS.TupMul
import KE.GoesEnum
import HandS.RaiseMore
import HandS.ReCall
import HandS.More
import HandS.Rev
import HandS.Conv
import HandS.Text
import KE.KDictLaws
import KE.KTops
import HandS.DictComp
import PySem.Challenge.RW_stylepages_k83_changed_pages
set_option Elab.async false
set_option linter.all false
set_option maxRecDepth 100000
set_option maxHeartbeats 4000000
/-! An own layer over HandS: environments of pure data, owned lists, symbolic runs. -/
namespace Ab
open PySem L2

/-! ### data -/
inductive Dt where
  | raw (v : V)
  | tup (ds : List Dt)
  | lst (ds : List Dt)
  | obj (C : Addr) (fs : List (Str × Dt))
  | scr (ns : List Int)
  | dK (kvs : List (Key × Dt))
  | dT (kvs : List (List Key × Dt))
  | exn (a : Addr) (d : Option Addr) (fs : List (Str × Dt))
abbrev Dt.int (i : Int) : Dt := .raw (.int i)
abbrev Dt.bl (b : Bool) : Dt := .raw (.bl b)
abbrev Dt.str (s : Str) : Dt := .raw (.str s)
abbrev Dt.non : Dt := .raw .non

inductive Is (K : PySem.W.Frag) (B : Hp) : V → Dt → Prop where
  | raw (v : V) : Is K B v (.raw v)
  | tup {a : Addr} {xs : List V} {ds : List Dt} (h : SqT K B a xs) (hl : xs.length = ds.length) (hi : ∀ (i : Nat) v d, xs[i]? = some v → ds[i]? = some d → Is K B v d) : Is K B (.ref a) (.tup ds)
  | lst {a : Addr} {xs : List V} {ds : List Dt} (h : B a = some (.lst xs)) (hl : xs.length = ds.length) (hi : ∀ (i : Nat) v d, xs[i]? = some v → ds[i]? = some d → Is K B v d) : Is K B (.ref a) (.lst ds)
  | obj {a dx C : Addr} {fs : List (Str × V)} {gs : List (Str × Dt)} (h : B a = some (.ins C dx fs)) (hk : ∀ f : Str, (fs.lookup f).isSome = (gs.lookup f).isSome) (hi : ∀ (f : Str) v d, fs.lookup f = some v → gs.lookup f = some d → Is K B v d) : Is K B (.ref a) (.obj C gs)
  | scr {a : Addr} {ns : List Int} (h : SqL K B a (ns.map V.int)) : Is K B (.ref a) (.scr ns)
  | dK {a : Addr} {xs : List (Key × V)} {kvs : List (Key × Dt)} (h : B a = some (.dK xs)) (hk : xs.map (·.1) = kvs.map (·.1)) (hi : ∀ (i : Nat) v d, (xs.map (·.2))[i]? = some v → (kvs.map (·.2))[i]? = some d → Is K B v d) : Is K B (.ref a) (.dK kvs)
  | dT {a : Addr} {xs : List (List Key × V)} {kvs : List (List Key × Dt)} (h : B a = some (.dT xs)) (hk : xs.map (·.1) = kvs.map (·.1)) (hi : ∀ (i : Nat) v d, (xs.map (·.2))[i]? = some v → (kvs.map (·.2))[i]? = some d → Is K B v d) : Is K B (.ref a) (.dT kvs)
  | exn0 {a : Addr} : Is K B (.ref a) (.exn a none [])
  | exnD {a dd : Addr} {fs : List (Str × V)} {gs : List (Str × Dt)} (h : B dd = some (.xd fs)) (hk : ∀ f : Str, (fs.lookup f).isSome = (gs.lookup f).isSome) (hi : ∀ (f : Str) v d, fs.lookup f = some v → gs.lookup f = some d → Is K B v d) : Is K B (.ref a) (.exn a (some dd) gs)
/-- items -/
structure IsA (K : PySem.W.Frag) (B : Hp) (vs : List V) (ds : List Dt) : Prop where
  len : vs.length = ds.length
  at_ : ∀ (i : Nat) v d, vs[i]? = some v → ds[i]? = some d → Is K B v d

section
variable {K : PySem.W.Frag} {B B' H H' : Hp} {v : V} {d : Dt} {vs : List V} {ds : List Dt}
theorem sqT_mono {a : Addr} {xs : List V} (e : Same B B') (h : SqT K B a xs) : SqT K B' a xs := by
  rcases h with (h | ⟨o, h⟩) | h
  · exact .inl (.inl (e _ _ h))
  · exact .inl (.inr ⟨o, e _ _ h⟩)
  · exact .inr h
theorem Is.mono (e : Same B B') (h : Is K B v d) : Is K B' v d := by
  induction h with
  | raw v => exact .raw v
  | tup h hl hi ih => exact .tup (sqT_mono e h) hl ih
  | lst h hl hi ih => exact .lst (e _ _ h) hl ih
  | obj h hk hi ih => exact .obj (e _ _ h) hk ih
  | scr h => exact .scr (e.seq h)
  | dK h hk hi ih => exact .dK (e _ _ h) hk ih
  | dT h hk hi ih => exact .dT (e _ _ h) hk ih
  | exn0 => exact .exn0
  | exnD h hk hi ih => exact .exnD (e _ _ h) hk ih
theorem IsA.mono (e : Same B B') (h : IsA K B vs ds) : IsA K B' vs ds := ⟨h.len, fun i v d a b => (h.at_ i v d a b).mono e⟩
theorem Is.rawI (h : Is K B v (.raw u)) : v = u := by cases h; rfl
theorem IsA.nil : IsA K B [] [] := ⟨rfl, fun i v d a => by simp at a⟩
theorem IsA.snoc (h : IsA K B vs ds) (hv : Is K B v d) : IsA K B (vs ++ [v]) (ds ++ [d]) := by
  refine ⟨by simp [h.len], fun i w e a b => ?_⟩
  by_cases hi : i < vs.length
  · rw [List.getElem?_append_left hi] at a
    rw [List.getElem?_append_left (by rw [← h.len]; exact hi)] at b
    exact h.at_ i w e a b
  · rw [List.getElem?_append_right (by omega)] at a
    rw [List.getElem?_append_right (by rw [← h.len]; omega)] at b
    rw [← h.len] at b
    generalize i - vs.length = j at a b
    cases j with
    | zero => simp at a b; subst a b; exact hv
    | succ j => simp at a
theorem IsA.cons (hv : Is K B v d) (h : IsA K B vs ds) : IsA K B (v :: vs) (d :: ds) := by
  refine ⟨by simp [h.len], fun i w e a b => ?_⟩
  cases i with
  | zero => simp at a b; subst a b; exact hv
  | succ j => simp at a b; exact h.at_ j w e a b
theorem IsA.append {us : List V} {es : List Dt} (h : IsA K B vs ds) (h' : IsA K B us es) : IsA K B (vs ++ us) (ds ++ es) := by
  refine ⟨by simp [h.len, h'.len], fun i w e a b => ?_⟩
  by_cases hi : i < vs.length
  · rw [List.getElem?_append_left hi] at a
    rw [List.getElem?_append_left (by rw [← h.len]; exact hi)] at b
    exact h.at_ i w e a b
  · rw [List.getElem?_append_right (by omega)] at a
    rw [List.getElem?_append_right (by rw [← h.len]; omega)] at b
    rw [← h.len] at b
    exact h'.at_ _ w e a b
theorem IsA.get {i : Nat} (h : IsA K B vs ds) (e : ds[i]? = some d) : ∃ v, vs[i]? = some v ∧ Is K B v d := by
  have hi : i < ds.length := (List.getElem?_eq_some_iff.mp e).1
  have hv : i < vs.length := by rw [h.len]; exact hi
  exact ⟨vs[i], List.getElem?_eq_getElem hv, h.at_ i _ d (List.getElem?_eq_getElem hv) e⟩
theorem IsA.set {j : Nat} (h : IsA K B vs ds) (hv : Is K B v d) : IsA K B (vs.set j v) (ds.set j d) := by
  refine ⟨by simp [h.len], fun i w e a b => ?_⟩
  by_cases hij : j = i
  · subst hij
    have h1 : j < (vs.set j v).length := (List.getElem?_eq_some_iff.mp a).1
    rw [List.length_set] at h1
    rw [List.getElem?_set_self h1] at a
    rw [List.getElem?_set_self (by rw [← h.len]; exact h1)] at b
    cases a; cases b; exact hv
  · rw [List.getElem?_set_ne hij] at a b
    exact h.at_ i w e a b
theorem IsA.drop (n : Nat) (h : IsA K B vs ds) : IsA K B (vs.drop n) (ds.drop n) := by
  refine ⟨by simp [h.len], fun i w e a b => ?_⟩
  rw [List.getElem?_drop] at a b
  exact h.at_ _ w e a b
theorem IsA.take (n : Nat) (h : IsA K B vs ds) : IsA K B (vs.take n) (ds.take n) := by
  refine ⟨by simp [h.len], fun i w e a b => ?_⟩
  rw [List.getElem?_take] at a b
  split at a
  · rename_i hi
    rw [if_pos hi] at b
    exact h.at_ _ w e a b
  · cases a
theorem IsA.reverse (h : IsA K B vs ds) : IsA K B vs.reverse ds.reverse := by
  refine ⟨by simp [h.len], fun i w e a b => ?_⟩
  have hi : i < vs.length := by
    have := (List.getElem?_eq_some_iff.mp a).1
    simpa using this
  rw [List.getElem?_reverse hi] at a
  rw [List.getElem?_reverse (by rw [← h.len]; exact hi)] at b
  rw [← h.len] at b
  exact h.at_ _ w e a b
theorem IsA.eraseIdx (j : Nat) (h : IsA K B vs ds) : IsA K B (vs.eraseIdx j) (ds.eraseIdx j) := by
  refine ⟨by simp [List.length_eraseIdx, h.len], fun i w e a b => ?_⟩
  rw [List.getElem?_eraseIdx] at a b
  split at a
  · rename_i hi; rw [if_pos hi] at b; exact h.at_ _ w e a b
  · rename_i hi; rw [if_neg hi] at b; exact h.at_ _ w e a b
theorem IsA.tupI {a : Addr} (h : Is K B (.ref a) (.tup ds)) : ∃ xs, SqT K B a xs ∧ IsA K B xs ds := by
  cases h with
  | tup h hl hi => exact ⟨_, h, hl, hi⟩
theorem IsA.lstI {a : Addr} (h : Is K B (.ref a) (.lst ds)) : ∃ xs, B a = some (.lst xs) ∧ IsA K B xs ds := by
  cases h with
  | lst h hl hi => exact ⟨_, h, hl, hi⟩
theorem Is.tupR (h : Is K B v (.tup ds)) : ∃ a xs, v = .ref a ∧ SqT K B a xs ∧ IsA K B xs ds := by
  cases h with
  | tup h hl hi => exact ⟨_, _, rfl, h, hl, hi⟩
theorem Is.lstR (h : Is K B v (.lst ds)) : ∃ a xs, v = .ref a ∧ B a = some (.lst xs) ∧ IsA K B xs ds := by
  cases h with
  | lst h hl hi => exact ⟨_, _, rfl, h, hl, hi⟩
theorem IsA.atI {i : Int} {d : Dt} (h : IsA K B vs ds) (e : L2.atI ds i = some d) : ∃ v, L2.atI vs i = some v ∧ Is K B v d := by
  unfold L2.atI at e ⊢
  rw [h.len]
  cases q : ixN ds.length i with
  | none => rw [q] at e; cases e
  | some j =>
    rw [q] at e
    exact h.get e
theorem IsA.raws : ∀ {xs : List V}, IsA K B xs (xs.map Dt.raw)
  | [] => .nil
  | x :: r => .cons (.raw x) IsA.raws
theorem IsA.rawsI : ∀ {us xs : List V}, IsA K B us (xs.map Dt.raw) → us = xs
  | [], [], _ => rfl
  | [], _ :: _, h => by have := h.len; simp at this
  | _ :: _, [], h => by have := h.len; simp at this
  | u :: us, x :: xs, h => by
    have h0 := h.at_ 0 u (.raw x) rfl rfl
    have ht : IsA K B us (xs.map Dt.raw) := ⟨by have := h.len; simpa using this, fun i v d a b => h.at_ (i + 1) v d (by simpa using a) (by simpa using b)⟩
    rw [h0.rawI, ht.rawsI]
end

/-! ### environments -/
/-- what an owned thing holds -/
inductive Cn where
  | lst (ds : List Dt)
  | dK (kvs : List (Key × Dt))
  | dT (kvs : List (List Key × Dt))
def Cn.dt : Cn → Dt
  | .lst ds => .lst ds
  | .dK kvs => .dK kvs
  | .dT kvs => .dT kvs
/-- keys and values -/
structure IsKv {κ : Type} (K : PySem.W.Frag) (B : Hp) (xs : List (κ × V)) (kvs : List (κ × Dt)) : Prop where
  ks : xs.map (·.1) = kvs.map (·.1)
  vs : IsA K B (xs.map (·.2)) (kvs.map (·.2))
def CnIs (K : PySem.W.Frag) (B : Hp) (o : HO) : Cn → Prop
  | .lst ds => ∃ vs, o = .lst vs ∧ IsA K B vs ds
  | .dK kvs => ∃ xs, o = .dK xs ∧ IsKv K B xs kvs
  | .dT kvs => ∃ xs, o = .dT xs ∧ IsKv K B xs kvs
theorem CnIs.mono {K : PySem.W.Frag} {B B' : Hp} {o : HO} {c : Cn} (e : Same B B') (h : CnIs K B o c) : CnIs K B' o c := by
  cases c with
  | lst ds => obtain ⟨vs, e1, e2⟩ := h; exact ⟨vs, e1, e2.mono e⟩
  | dK kvs => obtain ⟨vs, e1, e2, e3⟩ := h; exact ⟨vs, e1, e2, e3.mono e⟩
  | dT kvs => obtain ⟨vs, e1, e2, e3⟩ := h; exact ⟨vs, e1, e2, e3.mono e⟩
theorem CnIs.is {K : PySem.W.Frag} {B : Hp} {o : HO} {c : Cn} {a : Addr} (hb : B a = some o) (h : CnIs K B o c) : Is K B (.ref a) c.dt := by
  cases c with
  | lst ds => obtain ⟨vs, rfl, e2⟩ := h; exact .lst hb e2.len e2.at_
  | dK kvs => obtain ⟨vs, rfl, e2, e3⟩ := h; exact .dK hb e2 e3.at_
  | dT kvs => obtain ⟨vs, rfl, e2, e3⟩ := h; exact .dT hb e2 e3.at_
inductive Sl where
  | un
  | val (d : Dt)
  | cel (c : Cn)
abbrev Sl.acc (ds : List Dt) : Sl := .cel (.lst ds)
def Own (σ : L2.St) (Γ : List Sl) (a : Addr) : Prop := ∃ (i : Nat) (c : Cn), Γ[i]? = some (.cel c) ∧ σ[i]? = some (some (.ref a))
structure Env (K : PySem.W.Frag) (B H : Hp) (σ : L2.St) (Γ : List Sl) : Prop where
  len : σ.length = Γ.length
  bh : Same B H
  val : ∀ (i : Nat) d, Γ[i]? = some (.val d) → ∃ v, σ[i]? = some (some v) ∧ Is K B v d
  cel : ∀ (i : Nat) c, Γ[i]? = some (.cel c) → ∃ l o, σ[i]? = some (some (.ref l)) ∧ H l = some o ∧ B l = none ∧ CnIs K B o c
  sep : ∀ (i j : Nat) c d l, Γ[i]? = some (.cel c) → Γ[j]? = some (.cel d) → σ[i]? = some (some (.ref l)) → σ[j]? = some (some (.ref l)) → i = j
theorem Env.acc {K : PySem.W.Frag} {B H : Hp} {σ : L2.St} {Γ : List Sl} (E : Env K B H σ Γ) (i : Nat) (ds : List Dt) (h : Γ[i]? = some (.acc ds)) : ∃ l vs, σ[i]? = some (some (.ref l)) ∧ H l = some (.lst vs) ∧ B l = none ∧ IsA K B vs ds := by
  obtain ⟨l, o, e1, e2, e3, vs, rfl, e4⟩ := E.cel i _ h
  exact ⟨l, vs, e1, e2, e3, e4⟩
/-- from (B, H) to (B', H'): what is not owned (m) stays -/
structure Mv (m : Addr → Prop) (B H B' H' : Hp) : Prop where
  kp : ∀ a o, ¬ m a → H a = some o → H' a = some o
  bb : Same B B'
  off : ∀ a, ¬ m a → H a ≠ none → B a = none → B' a = none
theorem Mv.refl (m : Addr → Prop) (B H : Hp) : Mv m B H B H := ⟨fun _ _ _ h => h, Same.refl B, fun _ _ _ h => h⟩
theorem Mv.trans {m m1 : Addr → Prop} {B H B1 H1 B2 H2 : Hp} (x : Mv m B H B1 H1) (hm : ∀ a, m1 a → m a ∨ H a = none) (y : Mv m1 B1 H1 B2 H2) : Mv m B H B2 H2 := by
  have nm : ∀ a, ¬ m a → H a ≠ none → ¬ m1 a := fun a na ha z => (hm a z).elim na ha
  refine ⟨fun a o na e => ?_, x.bb.trans y.bb, fun a na ha hb => ?_⟩
  · exact y.kp a o (nm a na (by rw [e]; exact fun z => nomatch z)) (x.kp a o na e)
  · refine y.off a (nm a na ha) ?_ (x.off a na ha hb)
    cases q : H a with
    | none => exact absurd q ha
    | some o => rw [x.kp a o na q]; exact fun z => nomatch z
theorem Mv.back {m : Addr → Prop} {B H B1 H1 : Hp} (x : Mv m B H B1 H1) {a : Addr} (h : H1 a = none) : m a ∨ H a = none := by
  by_cases hm : m a
  · exact .inl hm
  · refine .inr ?_
    cases q : H a with
    | none => rfl
    | some o => rw [x.kp a o hm q] at h; cases h
/-- results: data, a new list, or the owned list of a slot (borrowed) -/
inductive Re where
  | val (d : Dt)
  | nw (c : Cn)
  | own (i : Nat)
abbrev Re.new (ds : List Dt) : Re := .nw (.lst ds)
def Re.dt? : Re → Option Dt
  | .val d => some d
  | .nw c => some c.dt
  | .own _ => none
def ReOk (K : PySem.W.Frag) (σ : L2.St) (m m' : Addr → Prop) (B' H H' : Hp) (v : V) : Re → Prop
  | .val d => Is K B' v d
  | .nw c => ∃ l o, v = .ref l ∧ (m l ∨ H l = none) ∧ ¬ m' l ∧ H' l = some o ∧ B' l = none ∧ CnIs K B' o c
  | .own i => ∃ l, v = .ref l ∧ σ[i]? = some (some (.ref l))
/-- an expression went from (B, H, Γ) to (B', H', Γ') -/
structure Go (K : PySem.W.Frag) (σ : L2.St) (B H : Hp) (Γ : List Sl) (B' H' : Hp) (Γ' : List Sl) : Prop where
  mv : Mv (Own σ Γ) B H B' H'
  ac : ∀ (i : Nat) c, Γ'[i]? = some (.cel c) → ∃ d, Γ[i]? = some (.cel d)
  env : Env K B' H' σ Γ'
theorem Go.sub {K : PySem.W.Frag} {σ : L2.St} {B H B' H' : Hp} {Γ Γ' : List Sl} (g : Go K σ B H Γ B' H' Γ') : ∀ a, Own σ Γ' a → Own σ Γ a := fun a ⟨i, ds, h1, h2⟩ => by
  obtain ⟨es, h⟩ := g.ac i ds h1
  exact ⟨i, es, h, h2⟩
section
variable {K : PySem.W.Frag} {σ : L2.St} {B H B1 H1 B2 H2 : Hp} {Γ Γ1 Γ2 : List Sl} {v : V} {r : Re}
theorem Go.refl (E : Env K B H σ Γ) : Go K σ B H Γ B H Γ := ⟨Mv.refl _ _ _, fun _ ds h => ⟨ds, h⟩, E⟩
theorem Go.trans (x : Go K σ B H Γ B1 H1 Γ1) (y : Go K σ B1 H1 Γ1 B2 H2 Γ2) : Go K σ B H Γ B2 H2 Γ2 :=
  ⟨x.mv.trans (fun a h => .inl (x.sub a h)) y.mv, fun i ds h => by
    obtain ⟨es, h1⟩ := y.ac i ds h
    exact x.ac i es h1, y.env⟩
theorem Env.tracked (E : Env K B H σ Γ) {a : Addr} (h : Own σ Γ a) : ∃ o, H a = some o ∧ B a = none := by
  obtain ⟨i, ds, h1, h2⟩ := h
  obtain ⟨l, vs, e1, e2, e3, _⟩ := E.cel i ds h1
  rw [h2] at e1
  cases e1
  exact ⟨vs, e2, e3⟩
theorem ReOk.raw {m m' : Addr → Prop} (v : V) : ReOk K σ m m' B1 H H1 v (.val (.raw v)) := Is.raw v
/-- a result stays while later parts run -/
theorem ReOk.step {m m1 m2 : Addr → Prop} (h : ReOk K σ m m1 B1 H H1 v r) (y : Mv m1 B1 H1 B2 H2) (hs : ∀ a, m2 a → m1 a) : ReOk K σ m m2 B2 H H2 v r := by
  cases r with
  | val d => exact Is.mono y.bb h
  | nw ds =>
    obtain ⟨l, vs, e, h1, h2, h3, h4, h5⟩ := h
    exact ⟨l, vs, e, h1, fun z => h2 (hs l z), y.kp l _ h2 h3, y.off l h2 (by rw [h3]; exact fun z => nomatch z) h4, h5.mono y.bb⟩
  | own i => exact h
/-- seen from an earlier start -/
theorem ReOk.earlier {m m1 m2 : Addr → Prop} (h : ReOk K σ m1 m2 B2 H1 H2 v r) (x : Mv m B H B1 H1) (hm : ∀ a, m1 a → m a ∨ H a = none) : ReOk K σ m m2 B2 H H2 v r := by
  cases r with
  | val d => exact h
  | nw ds =>
    obtain ⟨l, vs, e, h1, h2, h3⟩ := h
    refine ⟨l, vs, e, ?_, h2, h3⟩
    rcases h1 with h1 | h1
    · exact hm l h1
    · exact x.back h1
  | own i => exact h
/-- new data are laid on the base -/
theorem Env.laid (E : Env K B H σ Γ) {p : Addr} {o : HO} (hp : H p = none) : Env K (upd B p o) (upd H p o) σ Γ := by
  have hb : B p = none := by
    cases q : B p with
    | none => rfl
    | some u => rw [E.bh p u q] at hp; cases hp
  have sB : Same B (upd B p o) := fun a u e => by rw [upd_ne (ne_of_none e hb)]; exact e
  refine ⟨E.len, fun a u e => ?_, fun i d h => ?_, fun i ds h => ?_, E.sep⟩
  · by_cases ha : a = p
    · subst ha; rw [upd_same] at e ⊢; exact e
    · rw [upd_ne ha] at e ⊢; exact E.bh a u e
  · obtain ⟨v, e, q⟩ := E.val i d h
    exact ⟨v, e, q.mono sB⟩
  · obtain ⟨l, vs, e, e1, e2, q⟩ := E.cel i ds h
    have hl : l ≠ p := ne_of_none e1 hp
    exact ⟨l, vs, e, by rw [upd_ne hl]; exact e1, by rw [upd_ne hl]; exact e2, q.mono sB⟩
theorem Go.laid (E : Env K B H σ Γ) {p : Addr} {o : HO} (hp : H p = none) : Go K σ B H Γ (upd B p o) (upd H p o) Γ := by
  have hb : B p = none := by
    cases q : B p with
    | none => rfl
    | some u => rw [E.bh p u q] at hp; cases hp
  refine ⟨⟨fun a u _ e => by rw [upd_ne (ne_of_none e hp)]; exact e, fun a u e => by rw [upd_ne (ne_of_none e hb)]; exact e, fun a _ ha hb' => ?_⟩, fun _ ds h => ⟨ds, h⟩, E.laid hp⟩
  have : a ≠ p := fun z => by subst z; exact ha hp
  rw [upd_ne this]; exact hb'
/-- a new object beside the base -/
theorem Env.beside (E : Env K B H σ Γ) {p : Addr} {o : HO} (hp : H p = none) : Env K B (upd H p o) σ Γ := by
  refine ⟨E.len, fun a u e => ?_, E.val, fun i ds h => ?_, E.sep⟩
  · have h := E.bh a u e
    rw [upd_ne (ne_of_none h hp)]; exact h
  · obtain ⟨l, vs, e, e1, e2, q⟩ := E.cel i ds h
    exact ⟨l, vs, e, by rw [upd_ne (ne_of_none e1 hp)]; exact e1, e2, q⟩
theorem Go.beside (E : Env K B H σ Γ) {p : Addr} {o : HO} (hp : H p = none) : Go K σ B H Γ B (upd H p o) Γ :=
  ⟨⟨fun a u _ e => by rw [upd_ne (ne_of_none e hp)]; exact e, Same.refl B, fun _ _ _ h => h⟩, fun _ ds h => ⟨ds, h⟩, E.beside hp⟩
theorem Env.base_none (E : Env K B H σ Γ) {p : Addr} (hp : H p = none) : B p = none := by
  cases q : B p with
  | none => rfl
  | some u => rw [E.bh p u q] at hp; cases hp
theorem Env.not_own (E : Env K B H σ Γ) {p : Addr} (hp : H p = none) : ¬ Own σ Γ p := fun z => by
  obtain ⟨vs, h, _⟩ := E.tracked z
  rw [hp] at h; cases h
end

/-! ### expressions, tests, arguments -/
def WE (K : PySem.W.Frag) (te : TE) (Γ : List Sl) (Post : Re → List Sl → Prop) : Prop := ∀ σ B H, Env K B H σ Γ → ∀ Q : VK,
  (∀ v B' H' r Γ', Go K σ B H Γ B' H' Γ' → ReOk K σ (Own σ Γ) (Own σ Γ') B' H H' v r → Post r Γ' → Q v H') → te σ H Q
def WT (K : PySem.W.Frag) (tt : TT) (Γ : List Sl) (Post : Bool → List Sl → Prop) : Prop := ∀ σ B H, Env K B H σ Γ → ∀ Q : Bool → Hp → Prop,
  (∀ b B' H' Γ', Go K σ B H Γ B' H' Γ' → Post b Γ' → Q b H') → tt σ H Q
/-- a list of data (what is new is laid on the base) -/
def WD (K : PySem.W.Frag) (ta : TA) (Γ : List Sl) (Post : List Dt → List Sl → Prop) : Prop := ∀ σ B H, Env K B H σ Γ → ∀ Q : List V → Hp → Prop,
  (∀ vs B' H' ds Γ', Go K σ B H Γ B' H' Γ' → IsA K B' vs ds → Post ds Γ' → Q vs H') → ta σ H Q
section
variable {K : PySem.W.Frag} {Γ : List Sl} {Post : Re → List Sl → Prop} {ta tb tc te : TE} {t u : TT}
theorem we_mono {Post' : Re → List Sl → Prop} (h : WE K te Γ Post) (hp : ∀ r Γ', Post r Γ' → Post' r Γ') : WE K te Γ Post' := fun σ B H E Q q => h σ B H E Q fun v B' H' r Γ' g k p => q v B' H' r Γ' g k (hp r Γ' p)
theorem we_var {i : Nat} {d : Dt} (h : Γ[i]? = some (.val d)) (p : Post (.val d) Γ) : WE K (tVar i) Γ Post := fun σ B H E Q q => by
  obtain ⟨v, e, k⟩ := E.val i d h
  exact ⟨v, e, q v B H (.val d) Γ (.refl E) k p⟩
theorem we_c {v : V} (p : Post (.val (.raw v)) Γ) : WE K (tC v) Γ Post := fun σ B H E Q q => q v B H (.val (.raw v)) Γ (.refl E) (.raw v) p
/-- an owned list is read -/
theorem we_own {i : Nat} {ds : Cn} (h : Γ[i]? = some (.cel ds)) (p : Post (.own i) Γ) : WE K (tVar i) Γ Post := fun σ B H E Q q => by
  obtain ⟨l, vs, e, e1, e2, k⟩ := E.cel i ds h
  exact ⟨.ref l, e, q (.ref l) B H (.own i) Γ (.refl E) ⟨l, rfl, e⟩ p⟩
/-- an owned list becomes data from now on -/
theorem go_frz {σ : L2.St} {B H : Hp} {i : Nat} {ds : Cn} (h : Γ[i]? = some (.cel ds)) (E : Env K B H σ Γ) : ∃ B', Go K σ B H Γ B' H (Γ.set i (.val ds.dt)) := by
  obtain ⟨l, vs, e, e1, e2, k⟩ := E.cel i ds h
  have hl : i < Γ.length := (List.getElem?_eq_some_iff.mp h).1
  have sB : Same B (upd B l vs) := fun a u e => by rw [upd_ne (ne_of_none e e2)]; exact e
  have sub : ∀ {j : Nat} {s : Sl}, (Γ.set i (.val ds.dt))[j]? = some s → j ≠ i → Γ[j]? = some s := fun {j s} hj hn => by
    rw [List.getElem?_set_ne (fun z => hn z.symm)] at hj
    exact hj
  have acc : ∀ {j : Nat} {es : Cn}, (Γ.set i (.val ds.dt))[j]? = some (.cel es) → j ≠ i := fun {j es} hj z => by
    subst z
    rw [List.getElem?_set_self hl] at hj
    cases hj
  refine ⟨upd B l vs, ⟨fun a o _ q => q, sB, fun a na ha hb => ?_⟩, fun j es h1 => ⟨es, sub h1 (acc h1)⟩, by rw [List.length_set]; exact E.len, fun a u q => ?_, fun j d hj => ?_, fun j es hj => ?_, fun j k ds es l h1 h2 => E.sep j k ds es l (sub h1 (acc h1)) (sub h2 (acc h2))⟩
  · have : a ≠ l := fun z => by
      subst z
      exact na ⟨i, ds, h, e⟩
    rw [upd_ne this]; exact hb
  · by_cases ha : a = l
    · subst ha; rw [upd_same] at q; cases q; exact e1
    · rw [upd_ne ha] at q; exact E.bh a u q
  · by_cases hji : j = i
    · subst hji
      rw [List.getElem?_set_self hl] at hj
      cases hj
      exact ⟨.ref l, e, (k.mono sB).is upd_same⟩
    · obtain ⟨w, q1, q2⟩ := E.val j d (sub hj hji)
      exact ⟨w, q1, q2.mono sB⟩
  · obtain ⟨c, us, q1, q2, q3, q4⟩ := E.cel j es (sub hj (acc hj))
    have hc : c ≠ l := fun z => by
      subst z
      exact acc hj (E.sep j i es ds c (sub hj (acc hj)) h q1 e)
    exact ⟨c, us, q1, q2, by rw [upd_ne hc]; exact q3, q4.mono sB⟩
theorem we_frz {i : Nat} {ds : Cn} (h : Γ[i]? = some (.cel ds)) (k : WE K te (Γ.set i (.val ds.dt)) Post) : WE K te Γ Post := fun σ B H E Q q => by
  obtain ⟨B', g⟩ := go_frz h E
  exact k σ B' H g.env Q fun v B2 H2 r Γ2 g2 k2 p => q v B2 H2 r Γ2 (g.trans g2) (ReOk.earlier k2 g.mv fun a h => .inl (g.sub a h)) p
/-- an owned list is handed on: its slot is empty from now on -/
theorem we_move {i : Nat} {ds : Cn} (h : Γ[i]? = some (.cel ds)) (p : Post (.nw ds) (Γ.set i .un)) : WE K (tVar i) Γ Post := fun σ B H E Q q => by
  obtain ⟨l, vs, e, e1, e2, k⟩ := E.cel i ds h
  have hl : i < Γ.length := (List.getElem?_eq_some_iff.mp h).1
  have ne : ∀ {j : Nat} {s : Sl}, (Γ.set i .un)[j]? = some s → s ≠ .un → j ≠ i := fun {j s} hj hs z => by
    subst z
    rw [List.getElem?_set_self hl] at hj
    cases hj; exact hs rfl
  have sub : ∀ {j : Nat} {s : Sl}, (Γ.set i .un)[j]? = some s → s ≠ .un → Γ[j]? = some s := fun {j s} hj hs => by
    have := ne hj hs
    rw [List.getElem?_set_ne (fun z => this z.symm)] at hj
    exact hj
  have E' : Env K B H σ (Γ.set i .un) := ⟨by rw [List.length_set]; exact E.len, E.bh, fun j d hj => E.val j d (sub hj (fun z => nomatch z)), fun j es hj => E.cel j es (sub hj (fun z => nomatch z)),
    fun j k ds es l h1 h2 => E.sep j k ds es l (sub h1 (fun z => nomatch z)) (sub h2 (fun z => nomatch z))⟩
  have sb : ∀ (j : Nat) es, (Γ.set i .un)[j]? = some (.cel es) → ∃ es', Γ[j]? = some (.cel es') := fun j es h1 => ⟨es, sub h1 (fun z => nomatch z)⟩
  refine ⟨.ref l, e, q (.ref l) B H (.nw ds) _ ⟨Mv.refl _ _ _, sb, E'⟩ ⟨l, vs, rfl, .inl ⟨i, ds, h, e⟩, ?_, e1, e2, k⟩ p⟩
  rintro ⟨j, es, h1, h2⟩
  exact ne h1 (fun z => nomatch z) (E.sep j i es ds l (sub h1 (fun z => nomatch z)) h h2 e)
/-- a new list becomes data -/
theorem we_freeze (h : WE K te Γ fun r Γ1 => ∃ d, r.dt? = some d ∧ Post (.val d) Γ1) : WE K te Γ Post := fun σ B H E Q q => by
  refine h σ B H E Q fun v B1 H1 r Γ1 g k p => ?_
  obtain ⟨d, hd, p⟩ := p
  cases r with
  | own i => cases hd
  | val d =>
    cases hd
    exact q v B1 H1 (.val d) Γ1 g k p
  | nw ds =>
    cases hd
    obtain ⟨l, vs, rfl, h1, h2, h3, h4, h5⟩ := k
    have sB : Same B1 (upd B1 l vs) := fun a u e => by rw [upd_ne (ne_of_none e h4)]; exact e
    refine q (.ref l) (upd B1 l vs) H1 (.val ds.dt) Γ1 ⟨⟨g.mv.kp, g.mv.bb.trans sB, fun a na ha hb => ?_⟩, g.ac, ?_⟩ ?_ p
    · have hal : a ≠ l := fun z => by
        subst z
        exact h1.elim na ha
      rw [upd_ne hal]; exact g.mv.off a na ha hb
    · refine ⟨g.env.len, fun a u e => ?_, fun i d hi => ?_, fun i es hi => ?_, g.env.sep⟩
      · by_cases ha : a = l
        · subst ha; rw [upd_same] at e; cases e; exact h3
        · rw [upd_ne ha] at e; exact g.env.bh a u e
      · obtain ⟨w, e, k⟩ := g.env.val i d hi
        exact ⟨w, e, k.mono sB⟩
      · obtain ⟨c, us, e, e1, e2, k⟩ := g.env.cel i es hi
        have hc : c ≠ l := fun z => by
          subst z
          exact h2 ⟨i, es, hi, e⟩
        exact ⟨c, us, e, e1, by rw [upd_ne hc]; exact e2, k.mono sB⟩
    · exact (h5.mono sB).is upd_same
/-! operations on ints -/
theorem we_opI {C : Int → Int → Prop} {g : Int → Int → V} (h : WE K ta Γ fun ra Γ1 => ∃ i, ra = .val (.int i) ∧ WE K tb Γ1 fun rb Γ2 => ∃ j, rb = .val (.int j) ∧ C i j ∧ Post (.val (.raw (g i j))) Γ2) : WE K (tOp (rI C g) ta tb) Γ Post := fun σ B H E Q q => by
  refine h σ B H E _ fun x B1 H1 ra Γ1 g1 k1 p1 => ?_
  obtain ⟨i, rfl, p1⟩ := p1
  refine p1 σ B1 H1 g1.env _ fun y B2 H2 rb Γ2 g2 k2 p2 => ?_
  obtain ⟨j, rfl, hc, p⟩ := p2
  cases Is.rawI k1
  cases Is.rawI k2
  exact ⟨i, j, rfl, rfl, hc, q _ B2 H2 _ Γ2 (g1.trans g2) (.raw _) p⟩
theorem we_opI0 {g : Int → Int → V} (h : WE K ta Γ fun ra Γ1 => ∃ i, ra = .val (.int i) ∧ WE K tb Γ1 fun rb Γ2 => ∃ j, rb = .val (.int j) ∧ Post (.val (.raw (g i j))) Γ2) : WE K (tOp (rI0 g) ta tb) Γ Post := fun σ B H E Q q => by
  refine h σ B H E _ fun x B1 H1 ra Γ1 g1 k1 p1 => ?_
  obtain ⟨i, rfl, p1⟩ := p1
  refine p1 σ B1 H1 g1.env _ fun y B2 H2 rb Γ2 g2 k2 p2 => ?_
  obtain ⟨j, rfl, p⟩ := p2
  cases Is.rawI k1
  cases Is.rawI k2
  exact ⟨i, j, rfl, rfl, q _ B2 H2 _ Γ2 (g1.trans g2) (.raw _) p⟩
theorem we_neg (h : WE K ta Γ fun ra Γ1 => ∃ i, ra = .val (.int i) ∧ Post (.val (.int (-i))) Γ1) : WE K (tUn (rU fun i => .int (-i)) ta) Γ Post := fun σ B H E Q q => by
  refine h σ B H E _ fun x B1 H1 ra Γ1 g1 k1 p1 => ?_
  obtain ⟨i, rfl, p⟩ := p1
  cases Is.rawI k1
  exact ⟨i, rfl, q _ B1 H1 _ Γ1 g1 (.raw _) p⟩
/-- two values in order; both are data then -/
theorem we_two {r : R2} (h : WE K ta Γ fun ra Γ1 => WE K tb Γ1 fun rb Γ2 => ∃ d e : Dt, ra = .val d ∧ rb = .val e ∧
      ∀ σ B H x y, Env K B H σ Γ2 → Is K B x d → Is K B y e → ∀ Q : VK, (∀ v B' H' z Γ', Go K σ B H Γ2 B' H' Γ' → ReOk K σ (Own σ Γ2) (Own σ Γ') B' H H' v z → Post z Γ' → Q v H') → r x y H Q) : WE K (tOp r ta tb) Γ Post := fun σ B H E Q q => by
  refine h σ B H E _ fun x B1 H1 ra Γ1 g1 k1 p1 => ?_
  refine p1 σ B1 H1 g1.env _ fun y B2 H2 rb Γ2 g2 k2 p2 => ?_
  obtain ⟨d, e, rfl, rfl, p⟩ := p2
  exact p σ B2 H2 x y g2.env (Is.mono g2.mv.bb k1) k2 Q fun v B' H' z Γ' g3 k3 p3 => q v B' H' z Γ' ((g1.trans g2).trans g3) (ReOk.earlier k3 (g1.trans g2).mv fun a h => .inl ((g1.trans g2).sub a h)) p3
/-- == of scalars -/
theorem we_eqS (h : WE K ta Γ fun ra Γ1 => WE K tb Γ1 fun rb Γ2 => ∃ x y : V, ra = .val (.raw x) ∧ rb = .val (.raw y) ∧ scal x y = true ∧ Post (.val (.bl (decide (x = y)))) Γ2) : WE K (tOp rEq ta tb) Γ Post :=
  we_two (we_mono h fun ra Γ1 h1 => we_mono h1 fun rb Γ2 ⟨x, y, e1, e2, hs, p⟩ => ⟨_, _, e1, e2, fun σ B H u w E ku kw Q q => by
    cases ku.rawI; cases kw.rawI
    exact ⟨hs, q _ B H _ Γ2 (.refl E) (.raw _) p⟩⟩)
theorem we_neS (h : WE K ta Γ fun ra Γ1 => WE K tb Γ1 fun rb Γ2 => ∃ x y : V, ra = .val (.raw x) ∧ rb = .val (.raw y) ∧ scal x y = true ∧ Post (.val (.bl (!decide (x = y)))) Γ2) : WE K (tOp rNe ta tb) Γ Post :=
  we_two (we_mono h fun ra Γ1 h1 => we_mono h1 fun rb Γ2 ⟨x, y, e1, e2, hs, p⟩ => ⟨_, _, e1, e2, fun σ B H u w E ku kw Q q => by
    cases ku.rawI; cases kw.rawI
    exact ⟨hs, q _ B H _ Γ2 (.refl E) (.raw _) p⟩⟩)
/-! tests -/
theorem wt_mono {P P' : Bool → List Sl → Prop} (h : WT K t Γ P) (hp : ∀ b Γ', P b Γ' → P' b Γ') : WT K t Γ P' := fun σ B H E Q q => h σ B H E Q fun b B' H' Γ' g p => q b B' H' Γ' g (hp b Γ' p)
theorem wt_test {P : Bool → List Sl → Prop} (h : WE K te Γ fun r Γ1 => ∃ b, r = .val (.bl b) ∧ P b Γ1) : WT K (tTest te) Γ P := fun σ B H E Q q => by
  refine h σ B H E _ fun x B1 H1 r Γ1 g k p => ?_
  obtain ⟨b, rfl, p⟩ := p
  cases Is.rawI k
  exact ⟨b, rfl, q b B1 H1 Γ1 g p⟩
theorem wt_B {P : Bool → List Sl → Prop} (h : WE K te Γ fun r Γ1 => ∃ b, r = .val (.bl b) ∧ P b Γ1) : WT K (tB te) Γ P := wt_test h
theorem wt_and {P : Bool → List Sl → Prop} (h : WT K t Γ fun b Γ1 => (b = true → WT K u Γ1 P) ∧ (b = false → P false Γ1)) : WT K (tAnd t u) Γ P := fun σ B H E Q q => by
  refine h σ B H E _ fun b B1 H1 Γ1 g p => ?_
  cases b with
  | true =>
    show u σ H1 Q
    exact p.1 rfl σ B1 H1 g.env Q fun b B' H' Γ' g' p' => q b B' H' Γ' (g.trans g') p'
  | false =>
    show Q false H1
    exact q false B1 H1 Γ1 g (p.2 rfl)
theorem wt_or {P : Bool → List Sl → Prop} (h : WT K t Γ fun b Γ1 => (b = false → WT K u Γ1 P) ∧ (b = true → P true Γ1)) : WT K (tOr t u) Γ P := fun σ B H E Q q => by
  refine h σ B H E _ fun b B1 H1 Γ1 g p => ?_
  cases b with
  | false =>
    show u σ H1 Q
    exact p.1 rfl σ B1 H1 g.env Q fun b B' H' Γ' g' p' => q b B' H' Γ' (g.trans g') p'
  | true =>
    show Q true H1
    exact q true B1 H1 Γ1 g (p.2 rfl)
theorem wt_not {P : Bool → List Sl → Prop} (h : WT K t Γ fun b Γ1 => P (!b) Γ1) : WT K (tNot t) Γ P := fun σ B H E Q q => h σ B H E _ fun b B1 H1 Γ1 g p => q (!b) B1 H1 Γ1 g p
theorem we_andV (h : WE K ta Γ fun ra Γ1 => ∃ b, ra = .val (.bl b) ∧ (b = true → WE K tb Γ1 Post) ∧ (b = false → Post (.val (.bl false)) Γ1)) : WE K (tAndV ta tb) Γ Post := fun σ B H E Q q => by
  refine h σ B H E _ fun x B1 H1 ra Γ1 g k p => ?_
  obtain ⟨b, rfl, p1, p2⟩ := p
  cases Is.rawI k
  refine ⟨b, rfl, ?_⟩
  cases b with
  | true =>
    show tb σ H1 Q
    exact p1 rfl σ B1 H1 g.env Q fun v B' H' r Γ' g' k' p' => q v B' H' r Γ' (g.trans g') (ReOk.earlier k' g.mv fun a h => .inl (g.sub a h)) p'
  | false =>
    show Q (.bl false) H1
    exact q _ B1 H1 _ Γ1 g (.raw _) (p2 rfl)
theorem we_orV (h : WE K ta Γ fun ra Γ1 => ∃ b, ra = .val (.bl b) ∧ (b = false → WE K tb Γ1 Post) ∧ (b = true → Post (.val (.bl true)) Γ1)) : WE K (tOrV ta tb) Γ Post := fun σ B H E Q q => by
  refine h σ B H E _ fun x B1 H1 ra Γ1 g k p => ?_
  obtain ⟨b, rfl, p1, p2⟩ := p
  cases Is.rawI k
  refine ⟨b, rfl, ?_⟩
  cases b with
  | false =>
    show tb σ H1 Q
    exact p1 rfl σ B1 H1 g.env Q fun v B' H' r Γ' g' k' p' => q v B' H' r Γ' (g.trans g') (ReOk.earlier k' g.mv fun a h => .inl (g.sub a h)) p'
  | true =>
    show Q (.bl true) H1
    exact q _ B1 H1 _ Γ1 g (.raw _) (p2 rfl)
theorem we_notV (h : WE K ta Γ fun ra Γ1 => ∃ b, ra = .val (.bl b) ∧ Post (.val (.bl (!b))) Γ1) : WE K (tNotV ta) Γ Post := fun σ B H E Q q => by
  refine h σ B H E _ fun x B1 H1 ra Γ1 g k p => ?_
  obtain ⟨b, rfl, p⟩ := p
  cases Is.rawI k
  exact ⟨b, rfl, q _ B1 H1 _ Γ1 g (.raw _) p⟩
theorem we_if (h : WT K t Γ fun b Γ1 => (b = true → WE K ta Γ1 Post) ∧ (b = false → WE K tb Γ1 Post)) : WE K (tIf t ta tb) Γ Post := fun σ B H E Q q => by
  refine h σ B H E _ fun b B1 H1 Γ1 g p => ?_
  cases b with
  | true =>
    show ta σ H1 Q
    exact p.1 rfl σ B1 H1 g.env Q fun v B' H' r Γ' g' k' p' => q v B' H' r Γ' (g.trans g') (ReOk.earlier k' g.mv fun a h => .inl (g.sub a h)) p'
  | false =>
    show tb σ H1 Q
    exact p.2 rfl σ B1 H1 g.env Q fun v B' H' r Γ' g' k' p' => q v B' H' r Γ' (g.trans g') (ReOk.earlier k' g.mv fun a h => .inl (g.sub a h)) p'
/-! lists of data -/
theorem wd_nil {P : List Dt → List Sl → Prop} (p : P [] Γ) : WD K tNil Γ P := fun σ B H E Q q => q [] B H [] Γ (.refl E) .nil p
theorem wd_cons {P : List Dt → List Sl → Prop} {tr : TA} (h : WE K te Γ fun r Γ1 => ∃ d, r.dt? = some d ∧ WD K tr Γ1 fun ds Γ2 => P (d :: ds) Γ2) : WD K (tCons te tr) Γ P := fun σ B H E Q q => by
  have h' : WE K te Γ fun r Γ1 => ∃ d, r = .val d ∧ WD K tr Γ1 fun ds Γ2 => P (d :: ds) Γ2 := we_freeze (we_mono h fun r Γ1 ⟨d, hd, k⟩ => ⟨d, hd, d, rfl, k⟩)
  refine h' σ B H E _ fun x B1 H1 ra Γ1 g1 k1 p1 => ?_
  obtain ⟨d, rfl, p1⟩ := p1
  refine p1 σ B1 H1 g1.env _ fun vs B2 H2 ds Γ2 g2 k2 p2 => ?_
  exact q (x :: vs) B2 H2 (d :: ds) Γ2 (g1.trans g2) (.cons (Is.mono g2.mv.bb k1) k2) p2
theorem we_tup {t : TA} (h : WD K t Γ fun ds Γ1 => ds.length ≤ 1000000 ∧ Post (.val (.tup ds)) Γ1) : WE K (tTup t) Γ Post := fun σ B H E Q q => by
  refine h σ B H E _ fun vs B1 H1 ds Γ1 g k p => ?_
  refine ⟨Nat.le_trans (by rw [k.len]; exact p.1) (by decide), fun a ha => ?_⟩
  have g2 := Go.laid (o := .tup vs) g.env ha
  have k2 := k.mono g2.mv.bb
  exact q (.ref a) _ _ (.val (.tup ds)) Γ1 (g.trans g2) (.tup (.inl (.inl upd_same)) k2.len k2.at_) p.2
theorem we_lst {t : TA} (h : WD K t Γ fun ds Γ1 => ds.length ≤ 1000000 ∧ Post (.new ds) Γ1) : WE K (tLst t) Γ Post := fun σ B H E Q q => by
  refine h σ B H E _ fun vs B1 H1 ds Γ1 g k p => ?_
  refine ⟨Nat.le_trans (by rw [k.len]; exact p.1) (by decide), fun a ha => ?_⟩
  have g2 := Go.beside (o := .lst vs) g.env ha
  refine q (.ref a) _ _ (.new ds) Γ1 (g.trans g2) ⟨a, _, rfl, g.mv.back ha, g.env.not_own ha, upd_same, g.env.base_none ha, vs, rfl, k⟩ p.2
/-- a call of a builtin on data -/
theorem we_cb {r : List V → Hp → VK → Prop} {t : TA} (h : WD K t Γ fun ds Γ1 => ∀ σ B H vs, Env K B H σ Γ1 → IsA K B vs ds → ∀ Q : VK, (∀ v B' H' z Γ', Go K σ B H Γ1 B' H' Γ' → ReOk K σ (Own σ Γ1) (Own σ Γ') B' H H' v z → Post z Γ' → Q v H') → r vs H Q) : WE K (tCB r t) Γ Post := fun σ B H E Q q => by
  refine h σ B H E _ fun vs B1 H1 ds Γ1 g k p => ?_
  exact p σ B1 H1 vs g.env k Q fun v B' H' z Γ' g' k' p' => q v B' H' z Γ' (g.trans g') (ReOk.earlier k' g.mv fun a h => .inl (g.sub a h)) p'
end
end Ab
namespace Ab
open PySem L2
/-! ### values at hand -/
def RvOk (K : PySem.W.Frag) (σ : L2.St) (B H : Hp) (Γ : List Sl) (v : V) : Re → Prop
  | .val d => Is K B v d
  | .nw c => ∃ l o, v = .ref l ∧ ¬ Own σ Γ l ∧ H l = some o ∧ B l = none ∧ CnIs K B o c
  | .own i => ∃ l, v = .ref l ∧ σ[i]? = some (some (.ref l))
/-- the items of a result -/
def seqOf (Γ : List Sl) : Re → Option (List Dt)
  | .val (.tup ds) => some ds
  | .val (.lst ds) => some ds
  | .val (.scr ns) => some (ns.map Dt.int)
  | .val _ => none
  | .nw (.lst ds) => some ds
  | .nw _ => none
  | .own i => match Γ[i]? with
    | some (Sl.cel (.lst ds)) => some ds
    | _ => none
/-- the items of a list -/
def lstOf (Γ : List Sl) : Re → Option (List Dt)
  | .val (.lst ds) => some ds
  | .val (.scr ns) => some (ns.map Dt.int)
  | .val _ => none
  | .nw (.lst ds) => some ds
  | .nw _ => none
  | .own i => match Γ[i]? with
    | some (Sl.cel (.lst ds)) => some ds
    | _ => none
def tyOf : Re → Option String
  | .val (.raw .non) => some "NoneType"
  | .val (.raw (.bl _)) => some "bool"
  | .val (.raw (.int _)) => some "int"
  | .val (.raw (.str _)) => some "str"
  | .val (.tup _) => some "tuple"
  | .val (.lst _) => some "list"
  | .val (.dK _) => some "dict"
  | .val (.dT _) => some "dict"
  | .nw (.lst _) => some "list"
  | .nw (.dK _) => some "dict"
  | .nw (.dT _) => some "dict"
  | .own _ => some "list"
  | _ => none
section
variable {K : PySem.W.Frag} {σ : L2.St} {B H B1 H1 B2 H2 : Hp} {Γ Γ1 Γ2 : List Sl} {v : V} {r : Re} {ds : List Dt} {m m' : Addr → Prop}
theorem ReOk.rv (h : ReOk K σ m (Own σ Γ) B H1 H v r) : RvOk K σ B H Γ v r := by
  cases r with
  | val d => exact h
  | nw ds => obtain ⟨l, vs, e, _, h2, h3⟩ := h; exact ⟨l, vs, e, h2, h3⟩
  | own i => exact h
theorem rv_lst (E : Env K B H σ Γ) (h : RvOk K σ B H Γ v r) (e : lstOf Γ r = some ds) : ∃ a vs, v = .ref a ∧ SqL K H a vs ∧ IsA K B vs ds := by
  cases r with
  | val d =>
    cases d with
    | lst es => cases e; obtain ⟨a, xs, rfl, h1, h2⟩ := Is.lstR h; exact ⟨a, xs, rfl, .inl (.inl (E.bh _ _ h1)), h2⟩
    | scr ns =>
      cases e
      cases h with
      | scr h => exact ⟨_, _, rfl, E.bh.seq h, by
          have := IsA.raws (K := K) (B := B) (xs := ns.map V.int)
          rwa [List.map_map] at this⟩
    | raw u => cases e
    | tup es => cases e
    | obj C fs => cases e
    | dK es => cases e
    | dT es => cases e
    | exn a d fs => cases e
  | nw c =>
    cases c with
    | lst es => cases e; obtain ⟨l, o, rfl, _, h1, _, vs, rfl, h2⟩ := h; exact ⟨l, vs, rfl, .inl (.inl h1), h2⟩
    | dK es => cases e
    | dT es => cases e
  | own i =>
    obtain ⟨l, rfl, hl⟩ := h
    have e' : (match Γ[i]? with
      | some (Sl.cel (.lst ds)) => some ds
      | _ => none) = some ds := e
    split at e'
    · rename_i es hi
      cases e'
      obtain ⟨c, us, q1, q2, q3, q4⟩ := E.acc i _ hi
      rw [hl] at q1; cases q1
      exact ⟨l, us, rfl, .inl (.inl q2), q4⟩
    · cases e'
theorem rv_seq (E : Env K B H σ Γ) (h : RvOk K σ B H Γ v r) (e : seqOf Γ r = some ds) : ∃ a vs, v = .ref a ∧ (SqL K H a vs ∨ SqT K H a vs) ∧ IsA K B vs ds := by
  cases r with
  | val d =>
    cases d with
    | tup es => cases e; obtain ⟨a, xs, rfl, h1, h2⟩ := Is.tupR h; exact ⟨a, xs, rfl, .inr (sqT_mono E.bh h1), h2⟩
    | lst es => obtain ⟨a, xs, rfl, h1, h2⟩ := rv_lst E h e; exact ⟨a, xs, rfl, .inl h1, h2⟩
    | scr es => obtain ⟨a, xs, rfl, h1, h2⟩ := rv_lst E h e; exact ⟨a, xs, rfl, .inl h1, h2⟩
    | raw u => cases e
    | obj C fs => cases e
    | dK es => cases e
    | dT es => cases e
    | exn a d fs => cases e
  | nw c =>
    cases c with
    | lst es => obtain ⟨a, xs, rfl, h1, h2⟩ := rv_lst E h e; exact ⟨a, xs, rfl, .inl h1, h2⟩
    | dK es => cases e
    | dT es => cases e
  | own i => obtain ⟨a, xs, rfl, h1, h2⟩ := rv_lst E h e; exact ⟨a, xs, rfl, .inl h1, h2⟩
theorem ty_sqL {a : Addr} {xs : List V} (h : SqL K H a xs) : TyX K H (.ref a) (.type "list") := by
  rcases h with (h | ⟨o, h⟩) | ⟨o, its, n, h1, h2, _⟩
  · exact .base (.lst h)
  · exact .base (.frz h)
  · exact .kList h1 h2
theorem ty_sqT {a : Addr} {xs : List V} (h : SqT K H a xs) : TyX K H (.ref a) (.type "tuple") := by
  rcases h with (h | ⟨o, h⟩) | ⟨o, its, n, h1, h2, _⟩
  · exact .base (.tup h)
  · exact .fTuple h
  · exact .kTuple h1 h2
theorem rv_ty {T : String} (E : Env K B H σ Γ) (hi : ∀ i, r = .own i → ∃ ds, Γ[i]? = some (.acc ds)) (h : RvOk K σ B H Γ v r) (e : tyOf r = some T) : TyX K H v (.type T) := by
  cases r with
  | val d =>
    cases d with
    | raw u =>
      have hv : v = u := Is.rawI h
      subst hv
      cases v <;> first | (cases e; first | exact .base .non | exact .base (.bl _) | exact .base (.int _) | exact .base (.str _)) | cases e
    | tup es => cases e; obtain ⟨a, xs, rfl, h1, h2⟩ := Is.tupR h; exact ty_sqT (sqT_mono E.bh h1)
    | lst es => cases e; obtain ⟨a, xs, rfl, h1, h2⟩ := Is.lstR h; exact .base (.lst (E.bh _ _ h1))
    | scr es => cases e
    | obj C fs => cases e
    | dK es => cases e; cases h with | dK h1 _ _ => exact .base (.dK (E.bh _ _ h1))
    | dT es => cases e; cases h with | dT h1 _ _ => exact .base (.dT (E.bh _ _ h1))
    | exn a d fs => cases e
  | nw c =>
    cases c with
    | lst es => cases e; obtain ⟨l, o, rfl, _, h1, _, vs, rfl, h2⟩ := h; exact .base (.lst h1)
    | dK es => cases e; obtain ⟨l, o, rfl, _, h1, _, vs, rfl, h2⟩ := h; exact .base (.dK h1)
    | dT es => cases e; obtain ⟨l, o, rfl, _, h1, _, vs, rfl, h2⟩ := h; exact .base (.dT h1)
  | own i =>
    cases e
    obtain ⟨l, rfl, hl⟩ := h
    obtain ⟨ds, hd⟩ := hi i rfl
    obtain ⟨c, us, q1, q2, _⟩ := E.acc i _ hd
    rw [hl] at q1; cases q1
    exact .base (.lst q2)
end
section
variable {K : PySem.W.Frag} {Γ : List Sl} {Post : Re → List Sl → Prop} {ta tb tc te : TE} {t u : TT}
/-- two parts, then an operation on the values at hand -/
theorem we_two' {r : R2} (h : WE K ta Γ fun ra Γ1 => WE K tb Γ1 fun rb Γ2 =>
      ∀ σ B H x y, Env K B H σ Γ2 → RvOk K σ B H Γ2 x ra → RvOk K σ B H Γ2 y rb → ∀ Q : VK, (∀ v B' H' z Γ', Go K σ B H Γ2 B' H' Γ' → ReOk K σ (Own σ Γ2) (Own σ Γ') B' H H' v z → Post z Γ' → Q v H') → r x y H Q) : WE K (tOp r ta tb) Γ Post := fun σ B H E Q q => by
  refine h σ B H E _ fun x B1 H1 ra Γ1 g1 k1 p1 => ?_
  refine p1 σ B1 H1 g1.env _ fun y B2 H2 rb Γ2 g2 k2 p2 => ?_
  exact p2 σ B2 H2 x y g2.env (ReOk.rv (ReOk.step k1 g2.mv g2.sub)) k2.rv Q fun v B' H' z Γ' g3 k3 p3 => q v B' H' z Γ' ((g1.trans g2).trans g3) (ReOk.earlier k3 (g1.trans g2).mv fun a h => .inl ((g1.trans g2).sub a h)) p3
/-- one part, then an operation on the value at hand -/
theorem we_one' {r : V → Hp → VK → Prop} (h : WE K ta Γ fun ra Γ1 => ∀ σ B H x, Env K B H σ Γ1 → RvOk K σ B H Γ1 x ra → ∀ Q : VK, (∀ v B' H' z Γ', Go K σ B H Γ1 B' H' Γ' → ReOk K σ (Own σ Γ1) (Own σ Γ') B' H H' v z → Post z Γ' → Q v H') → r x H Q) :
    ∀ σ B H, Env K B H σ Γ → ∀ Q : VK, (∀ v B' H' r Γ', Go K σ B H Γ B' H' Γ' → ReOk K σ (Own σ Γ) (Own σ Γ') B' H H' v r → Post r Γ' → Q v H') → ta σ H (fun x H1 => r x H1 Q) := fun σ B H E Q q => by
  refine h σ B H E _ fun x B1 H1 ra Γ1 g1 k1 p1 => ?_
  exact p1 σ B1 H1 x g1.env k1.rv Q fun v B' H' z Γ' g3 k3 p3 => q v B' H' z Γ' (g1.trans g3) (ReOk.earlier k3 g1.mv fun a h => .inl (g1.sub a h)) p3
/-- x[i] of a list, a tuple -/
theorem we_ix (h : WE K ta Γ fun ra Γ1 => WE K tb Γ1 fun rb Γ2 => ∃ ds k d, seqOf Γ2 ra = some ds ∧ rb = .val (.int k) ∧ atI ds k = some d ∧ Post (.val d) Γ2) : WE K (tOp (rIx K) ta tb) Γ Post :=
  we_two' (we_mono h fun ra Γ1 h1 => we_mono h1 fun rb Γ2 ⟨ds, k, d, hs, e, hd, p⟩ => fun σ B H x y E kx ky Q q => by
    subst e
    cases Is.rawI ky
    obtain ⟨a, vs, rfl, hq, ha⟩ := rv_seq E kx hs
    obtain ⟨v, hv, hi⟩ := ha.atI hd
    have fin := q v B H (.val d) Γ2 (.refl E) hi p
    rcases hq with hq | hq
    · exact .inl ⟨a, vs, k, v, rfl, rfl, hq, hv, fin⟩
    · exact .inr (.inl ⟨a, vs, k, v, rfl, rfl, hq, hv, fin⟩))
/-- s[i] of a text -/
theorem we_ixS (h : WE K ta Γ fun ra Γ1 => WE K tb Γ1 fun rb Γ2 => ∃ z k c, ra = .val (.str z) ∧ rb = .val (.int k) ∧ z.length ≤ 1000000 ∧ atI z.cps.toList k = some c ∧ Post (.val (.str ⟨#[c]⟩)) Γ2) : WE K (tOp (rIx K) ta tb) Γ Post :=
  we_two' (we_mono h fun ra Γ1 h1 => we_mono h1 fun rb Γ2 ⟨z, k, c, e1, e, hz, hd, p⟩ => fun σ B H x y E kx ky Q q => by
    subst e e1
    cases Is.rawI ky
    cases Is.rawI kx
    exact .inr (.inr ⟨z, k, c, rfl, rfl, Nat.le_trans hz (by decide), hd, q _ B H _ Γ2 (.refl E) (.raw _) p⟩))
/-! calls of built-ins with one argument -/
theorem we_cb1 {r : List V → Hp → VK → Prop} (h : WE K te Γ fun ra Γ1 => ∀ σ B H x, Env K B H σ Γ1 → RvOk K σ B H Γ1 x ra → ∀ Q : VK, (∀ v B' H' z Γ', Go K σ B H Γ1 B' H' Γ' → ReOk K σ (Own σ Γ1) (Own σ Γ') B' H H' v z → Post z Γ' → Q v H') → r [x] H Q) : WE K (tCB r (tCons te tNil)) Γ Post :=
  we_one' (r := fun x H Q => r [x] H Q) h
def rLenV (K : PySem.W.Frag) : List V → Hp → VK → Prop := fun xs H Q => ∃ x n, xs = [x] ∧ LenV K x H n ∧ Q (.int n) H
theorem we_len (h : WE K te Γ fun r Γ1 => ∃ ds, seqOf Γ1 r = some ds ∧ Post (.val (.int ds.length)) Γ1) : WE K (tCB (rLenV K) (tCons te tNil)) Γ Post :=
  we_cb1 (we_mono h fun r Γ1 ⟨ds, hs, p⟩ => fun σ B H x E kx Q q => by
    obtain ⟨a, vs, rfl, hq, ha⟩ := rv_seq E kx hs
    have e : (ds.length : Int) = (vs.length : Int) := by rw [ha.len]
    rw [e] at p
    refine ⟨_, vs.length, rfl, ?_, q _ B H _ Γ1 (.refl E) (.raw _) p⟩
    rcases hq with hq | hq
    · exact .inl ⟨vs, hq, rfl⟩
    · exact .inr ⟨vs, hq, rfl⟩)
theorem we_lenS (h : WE K te Γ fun r Γ1 => ∃ z, r = .val (.str z) ∧ z.length ≤ 1000000 ∧ Post (.val (.int z.length)) Γ1) : WE K (tCB (rLenV K) (tCons te tNil)) Γ Post :=
  we_cb1 (we_mono h fun r Γ1 ⟨z, e, hz, p⟩ => fun σ B H x E kx Q q => by
    subst e
    cases Is.rawI kx
    exact ⟨_, z.length, rfl, ⟨Nat.le_trans hz (by decide), rfl⟩, q _ B H _ Γ1 (.refl E) (.raw _) p⟩)
def rAbs : List V → Hp → VK → Prop := fun xs H Q => ∃ i, xs = [.int i] ∧ Q (.int (if i < 0 then -i else i)) H
theorem we_abs (h : WE K te Γ fun r Γ1 => ∃ i, r = .val (.int i) ∧ Post (.val (.int (if i < 0 then -i else i))) Γ1) : WE K (tCB rAbs (tCons te tNil)) Γ Post :=
  we_cb1 (we_mono h fun r Γ1 ⟨i, e, p⟩ => fun σ B H x E kx Q q => by
    subst e
    cases Is.rawI kx
    exact ⟨i, rfl, q _ B H _ Γ1 (.refl E) (.raw _) p⟩)
def rInt1 : List V → Hp → VK → Prop := fun xs H Q => (∃ i, xs = [.int i] ∧ Q (.int i) H) ∨ ∃ k, xs = [.bl k] ∧ Q (.int (if k then 1 else 0)) H
theorem we_int (h : WE K te Γ fun r Γ1 => ∃ i, r = .val (.int i) ∧ Post (.val (.int i)) Γ1) : WE K (tCB rInt1 (tCons te tNil)) Γ Post :=
  we_cb1 (we_mono h fun r Γ1 ⟨i, e, p⟩ => fun σ B H x E kx Q q => by
    subst e
    cases Is.rawI kx
    exact .inl ⟨i, rfl, q _ B H _ Γ1 (.refl E) (.raw _) p⟩)
theorem we_intB (h : WE K te Γ fun r Γ1 => ∃ k, r = .val (.bl k) ∧ Post (.val (.int (if k then 1 else 0))) Γ1) : WE K (tCB rInt1 (tCons te tNil)) Γ Post :=
  we_cb1 (we_mono h fun r Γ1 ⟨i, e, p⟩ => fun σ B H x E kx Q q => by
    subst e
    cases Is.rawI kx
    exact .inr ⟨i, rfl, q _ B H _ Γ1 (.refl E) (.raw _) p⟩)
def rTupleOf (K : PySem.W.Frag) : List V → Hp → VK → Prop := fun xs H Q => ∃ p ys, xs = [.ref p] ∧ ((SqL K H p ys ∧ ∀ l, H l = none → Q (.ref l) (upd H l (.tup ys))) ∨ (SqT K H p ys ∧ Q (.ref p) H))
def rListOf (K : PySem.W.Frag) : List V → Hp → VK → Prop := fun xs H Q => ∃ p ys, xs = [.ref p] ∧ (SqL K H p ys ∨ SqT K H p ys) ∧ ∀ l, H l = none → Q (.ref l) (upd H l (.lst ys))
theorem re_laidT {σ : L2.St} {B H : Hp} {vs : List V} {ds : List Dt} {a : Addr} (E : Env K B H σ Γ) (k : IsA K B vs ds) (ha : H a = none) : ReOk K σ (Own σ Γ) (Own σ Γ) (upd B a (.tup vs)) H (upd H a (.tup vs)) (.ref a) (.val (.tup ds)) := by
  have k2 := k.mono (Go.laid (o := .tup vs) E ha).mv.bb
  exact Is.tup (.inl (.inl upd_same)) k2.len k2.at_
theorem re_newL {σ : L2.St} {B H : Hp} {vs : List V} {ds : List Dt} {a : Addr} (E : Env K B H σ Γ) (k : IsA K B vs ds) (ha : H a = none) : ReOk K σ (Own σ Γ) (Own σ Γ) B H (upd H a (.lst vs)) (.ref a) (.new ds) :=
  ⟨a, _, rfl, .inr ha, E.not_own ha, upd_same, E.base_none ha, vs, rfl, k⟩
theorem we_tuple (h : WE K te Γ fun r Γ1 => ∃ ds, seqOf Γ1 r = some ds ∧ Post (.val (.tup ds)) Γ1) : WE K (tCB (rTupleOf K) (tCons te tNil)) Γ Post :=
  we_cb1 (we_mono h fun r Γ1 ⟨ds, hs, p⟩ => fun σ B H x E kx Q q => by
    obtain ⟨a, vs, rfl, hq, ha⟩ := rv_seq E kx hs
    rcases hq with hq | hq
    · exact ⟨a, vs, rfl, .inl ⟨hq, fun l hl => q _ _ _ _ Γ1 (Go.laid E hl) (re_laidT E ha hl) p⟩⟩
    · cases r with
      | val d =>
        cases d with
        | tup es =>
          cases hs
          exact ⟨a, vs, rfl, .inr ⟨hq, q _ B H (.val (.tup ds)) Γ1 (.refl E) kx p⟩⟩
        | lst es =>
          obtain ⟨c, us, e, h1, h2⟩ := rv_lst (ds := ds) E kx hs
          cases e
          exact ⟨a, us, rfl, .inl ⟨h1, fun l hl => q _ _ _ _ Γ1 (Go.laid E hl) (re_laidT E h2 hl) p⟩⟩
        | raw u => cases hs
        | scr es =>
          obtain ⟨c, us, e, h1, h2⟩ := rv_lst (ds := ds) E kx hs
          cases e
          exact ⟨a, us, rfl, .inl ⟨h1, fun l hl => q _ _ _ _ Γ1 (Go.laid E hl) (re_laidT E h2 hl) p⟩⟩
        | obj C fs => cases hs
        | dK es => cases hs
        | dT es => cases hs
        | exn a d fs => cases hs
      | nw c =>
        cases c with
        | lst es =>
          obtain ⟨c, us, e, h1, h2⟩ := rv_lst (ds := ds) E kx hs
          cases e
          exact ⟨a, us, rfl, .inl ⟨h1, fun l hl => q _ _ _ _ Γ1 (Go.laid E hl) (re_laidT E h2 hl) p⟩⟩
        | dK es => cases hs
        | dT es => cases hs
      | own i =>
        obtain ⟨c, us, e, h1, h2⟩ := rv_lst (ds := ds) E kx hs
        cases e
        exact ⟨a, us, rfl, .inl ⟨h1, fun l hl => q _ _ _ _ Γ1 (Go.laid E hl) (re_laidT E h2 hl) p⟩⟩)
theorem we_list (h : WE K te Γ fun r Γ1 => ∃ ds, seqOf Γ1 r = some ds ∧ Post (.new ds) Γ1) : WE K (tCB (rListOf K) (tCons te tNil)) Γ Post :=
  we_cb1 (we_mono h fun r Γ1 ⟨ds, hs, p⟩ => fun σ B H x E kx Q q => by
    obtain ⟨a, vs, rfl, hq, ha⟩ := rv_seq E kx hs
    exact ⟨a, vs, rfl, hq, fun l hl => q _ _ _ _ Γ1 (Go.beside E hl) (re_newL E ha hl) p⟩)
/-- isinstance(x, T), T a built-in type -/
theorem we_isi {c : String} (h : WE K te Γ fun r Γ1 => (∀ i, r = .own i → ∃ ds, Γ1[i]? = some (.acc ds)) ∧ ∃ T b, tyOf r = some T ∧ kitB T c = some b ∧ Post (.val (.bl b)) Γ1) : WE K (tCB (rIsi K) (tCons te (tCons (tC (.ty c)) tNil))) Γ Post :=
  we_one' (r := fun x H Q => rIsi K [x, .ty c] H Q) (we_mono h fun r Γ1 ⟨ho, T, b, ht, hk, p⟩ => fun σ B H x E kx Q q =>
    ⟨x, .ty c, .type T, .type c, b, rfl, .ty c, rv_ty E ho kx ht, kit_ty hk, q _ B H _ Γ1 (.refl E) (.raw _) p⟩)
/-- min, max of two ints -/
def rMx2 : List V → Hp → VK → Prop := fun xs H Q => ∃ i j, xs = [.int i, .int j] ∧ Q (.int (if j > i then j else i)) H
def rMn2 : List V → Hp → VK → Prop := fun xs H Q => ∃ i j, xs = [.int i, .int j] ∧ Q (.int (if j < i then j else i)) H
theorem we_max2 (h : WE K ta Γ fun ra Γ1 => ∃ i, ra = .val (.int i) ∧ WE K tb Γ1 fun rb Γ2 => ∃ j, rb = .val (.int j) ∧ Post (.val (.int (if j > i then j else i))) Γ2) : WE K (tCB rMx2 (tCons ta (tCons tb tNil))) Γ Post :=
  we_two' (r := fun x y H Q => rMx2 [x, y] H Q) (we_mono h fun ra Γ1 ⟨i, ei, h1⟩ => we_mono h1 fun rb Γ2 ⟨j, ej, p⟩ => fun σ B H x y E kx ky Q q => by
    subst ei ej
    cases Is.rawI kx; cases Is.rawI ky
    exact ⟨i, j, rfl, q _ B H _ Γ2 (.refl E) (.raw _) p⟩)
theorem we_min2 (h : WE K ta Γ fun ra Γ1 => ∃ i, ra = .val (.int i) ∧ WE K tb Γ1 fun rb Γ2 => ∃ j, rb = .val (.int j) ∧ Post (.val (.int (if j < i then j else i))) Γ2) : WE K (tCB rMn2 (tCons ta (tCons tb tNil))) Γ Post :=
  we_two' (r := fun x y H Q => rMn2 [x, y] H Q) (we_mono h fun ra Γ1 ⟨i, ei, h1⟩ => we_mono h1 fun rb Γ2 ⟨j, ej, p⟩ => fun σ B H x y E kx ky Q q => by
    subst ei ej
    cases Is.rawI kx; cases Is.rawI ky
    exact ⟨i, j, rfl, q _ B H _ Γ2 (.refl E) (.raw _) p⟩)
/-- a op b op' c over ints -/
theorem we_chainI {g g' : Int → Int → Bool} (h : WE K ta Γ fun ra Γ1 => ∃ i, ra = .val (.int i) ∧ WE K tb Γ1 fun rb Γ2 => ∃ j, rb = .val (.int j) ∧
      (g i j = true → WE K tc Γ2 fun rc Γ3 => ∃ k, rc = .val (.int k) ∧ Post (.val (.bl (g' j k))) Γ3) ∧ (g i j = false → Post (.val (.bl false)) Γ2)) :
    WE K (tChain (rI0 fun i j => .bl (g i j)) (rI0 fun i j => .bl (g' i j)) ta tb tc) Γ Post := fun σ B H E Q q => by
  refine h σ B H E _ fun x B1 H1 ra Γ1 g1 k1 p1 => ?_
  obtain ⟨i, rfl, p1⟩ := p1
  refine p1 σ B1 H1 g1.env _ fun y B2 H2 rb Γ2 g2 k2 p2 => ?_
  obtain ⟨j, rfl, p2, p3⟩ := p2
  cases Is.rawI k1; cases Is.rawI k2
  refine ⟨i, j, rfl, rfl, g i j, rfl, ?_⟩
  cases hg : g i j with
  | true =>
    show tc σ H2 fun w' H4 => rI0 (fun i j => .bl (g' i j)) (.int j) w' H4 Q
    refine p2 hg σ B2 H2 g2.env _ fun z B3 H3 rc Γ3 g3 k3 p3 => ?_
    obtain ⟨k, rfl, p⟩ := p3
    cases Is.rawI k3
    exact ⟨j, k, rfl, rfl, q _ B3 H3 _ Γ3 ((g1.trans g2).trans g3) (.raw _) p⟩
  | false =>
    show Q (.bl false) H2
    exact q _ B2 H2 _ Γ2 (g1.trans g2) (.raw _) (p3 hg)
/-- x in xs, x not in xs: flat things -/
def rawV : Dt → Option V
  | .raw v => some v
  | _ => none
theorem raws_of {B : Hp} : ∀ {vs : List V} {ds : List Dt} {us : List V}, IsA K B vs ds → ds = us.map Dt.raw → vs = us := fun h e => by subst e; exact h.rawsI
theorem we_in {neg : Bool} (h : WE K ta Γ fun ra Γ1 => WE K tb Γ1 fun rb Γ2 => ∃ (x : V) (us : List V), ra = .val (.raw x) ∧ seqOf Γ2 rb = some (us.map Dt.raw) ∧ flatV x = true ∧ us.all flatV = true ∧ Post (.val (.bl (if neg then !inV x us else inV x us))) Γ2) : WE K (tOp (rIn K neg) ta tb) Γ Post :=
  we_two' (we_mono h fun ra Γ1 h1 => we_mono h1 fun rb Γ2 ⟨x, us, e, hs, hx, hu, p⟩ => fun σ B H y z E ky kz Q q => by
    subst e
    cases Is.rawI ky
    obtain ⟨a, vs, rfl, hq, ha⟩ := rv_seq E kz hs
    cases ha.rawsI
    exact ⟨a, _, rfl, hq, hx, hu, q _ B H _ Γ2 (.refl E) (.raw _) p⟩)
end
end Ab
namespace Ab
open PySem L2
/-! ### statements -/
structure GoS (K : PySem.W.Frag) (pin : List Nat) (σ : L2.St) (B H : Hp) (Γ : List Sl) (σ' : L2.St) (B' H' : Hp) (Γ' : List Sl) : Prop where
  mv : Mv (Own σ Γ) B H B' H'
  new : ∀ a, Own σ' Γ' a → Own σ Γ a ∨ H a = none
  env : Env K B' H' σ' Γ'
  pin : ∀ i, i ∈ pin → σ'[i]? = σ[i]?
/-- what is let out: the wish that the readings name, and what is promised of it -/
structure Ex where
  W : WX
  q : Value → List (Str × Dt) → List Sl → Prop
def Ex.no : Ex := ⟨fun _ _ _ _ => True, fun _ _ _ => False⟩
/-- an exception's own dict -/
inductive ExB (K : PySem.W.Frag) (B : Hp) : Option Addr → List (Str × Dt) → Prop where
  | none : ExB K B none []
  | some {dd : Addr} {fs : List (Str × V)} {gs : List (Str × Dt)} (h : B dd = some (.xd fs)) (hk : ∀ f : Str, (fs.lookup f).isSome = (gs.lookup f).isSome) (hi : ∀ (f : Str) v d, fs.lookup f = some v → gs.lookup f = some d → Is K B v d) (hne : gs ≠ []) : ExB K B (some dd) gs
structure Ps where
  nx : List Sl → Prop
  rt : Re → List Sl → Prop
  bk : List Sl → Prop := fun _ => False
  ct : List Sl → Prop := fun _ => False
  ex : Ex := Ex.no
def Re.free : Re → Bool
  | .own _ => false
  | _ => true
def WS (K : PySem.W.Frag) (pin : List Nat) (ts : TS) (Γ : List Sl) (P : Ps) : Prop := ∀ σ B H (D : Ends), Env K B H σ Γ →
  (∀ σ' B' H' Γ', GoS K pin σ B H Γ σ' B' H' Γ' → P.nx Γ' → D.nx σ' H') →
  (∀ v σ' B' H' r Γ', GoS K pin σ B H Γ σ' B' H' Γ' → ReOk K [] (Own σ Γ) (Own σ' Γ') B' H H' v r → P.rt r Γ' → D.rt v H') →
  (∀ σ' B' H' Γ', GoS K pin σ B H Γ σ' B' H' Γ' → P.bk Γ' → D.bk σ' H') →
  (∀ σ' B' H' Γ', GoS K pin σ B H Γ σ' B' H' Γ' → P.ct Γ' → D.ct σ' H') →
  (∀ cls d fs σ' B' H' Γ', GoS K pin σ B H Γ σ' B' H' Γ' → ExB K B' d fs → P.ex.q cls fs Γ' → P.ex.W cls d σ' H') → ts D σ H
/-- a target -/
def WG (K : PySem.W.Frag) (pin : List Nat) (g : TG) (d : Dt) (Γ : List Sl) (P : List Sl → Prop) : Prop := ∀ σ B H x, Env K B H σ Γ → Is K B x d → ∀ Q : L2.St → Hp → Prop,
  (∀ σ' Γ', GoS K pin σ B H Γ σ' B H Γ' → P Γ' → Q σ' H) → g x σ H Q
section
variable {K : PySem.W.Frag} {pin : List Nat} {σ σ1 σ2 : L2.St} {B H B1 H1 B2 H2 : Hp} {Γ Γ1 Γ2 : List Sl} {v : V} {r : Re} {P : Ps}
theorem GoS.refl (E : Env K B H σ Γ) : GoS K pin σ B H Γ σ B H Γ := ⟨Mv.refl _ _ _, fun _ h => .inl h, E, fun _ _ => rfl⟩
theorem GoS.trans (x : GoS K pin σ B H Γ σ1 B1 H1 Γ1) (y : GoS K pin σ1 B1 H1 Γ1 σ2 B2 H2 Γ2) : GoS K pin σ B H Γ σ2 B2 H2 Γ2 :=
  ⟨x.mv.trans x.new y.mv, fun a h => (y.new a h).elim (fun z => x.new a z) fun z => x.mv.back z, y.env, fun i hi => (y.pin i hi).trans (x.pin i hi)⟩
theorem Go.s (x : Go K σ B H Γ B1 H1 Γ1) : GoS K pin σ B H Γ σ B1 H1 Γ1 := ⟨x.mv, fun a h => .inl (x.sub a h), x.env, fun _ _ => rfl⟩
theorem ReOk.off {m m' : Addr → Prop} (h : ReOk K σ m m' B1 H H1 v r) (hf : r.free = true) : ReOk K [] m m' B1 H H1 v r := by
  cases r with
  | val d => exact h
  | nw ds => exact h
  | own i => cases hf
theorem Own.set_ne {i : Nat} {x : Option V} {s : Sl} {a : Addr} (h : Own (σ.set i x) (Γ.set i s) a) (hs : ∀ ds, s = .cel ds → x ≠ some (.ref a)) : Own σ Γ a := by
  obtain ⟨j, ds, h1, h2⟩ := h
  by_cases hij : i = j
  · subst hij
    have hi : i < Γ.length := by
      have := (List.getElem?_eq_some_iff.mp h1).1
      simpa using this
    have hi2 : i < σ.length := by
      have := (List.getElem?_eq_some_iff.mp h2).1
      simpa using this
    rw [List.getElem?_set_self hi] at h1
    rw [List.getElem?_set_self hi2] at h2
    exact absurd (Option.some.inj h2) (hs ds (Option.some.inj h1))
  · rw [List.getElem?_set_ne hij] at h1 h2
    exact ⟨j, ds, h1, h2⟩
/-- a slot gets a result -/
def slOf : Re → Sl
  | .val d => .val d
  | .nw c => .cel c
  | .own _ => .un
theorem Env.setV (E : Env K B H σ Γ) {i : Nat} {d : Dt} (hi : i < Γ.length) (hv : Is K B v d) : Env K B H (σ.set i (some v)) (Γ.set i (.val d)) := by
  have hi2 : i < σ.length := by rw [E.len]; exact hi
  have nac : ∀ {j : Nat} {es : Cn}, (Γ.set i (.val d))[j]? = some (.cel es) → i ≠ j := fun {j es} h z => by
    subst z
    rw [List.getElem?_set_self hi] at h; cases h
  refine ⟨by simp [E.len], E.bh, fun j e h => ?_, fun j es h => ?_, fun j k ds es l h1 h2 h3 h4 => ?_⟩
  · by_cases hij : i = j
    · subst hij
      rw [List.getElem?_set_self hi] at h
      cases h
      exact ⟨v, List.getElem?_set_self hi2, hv⟩
    · rw [List.getElem?_set_ne hij] at h ⊢
      exact E.val j e h
  · have hij := nac h
    rw [List.getElem?_set_ne hij] at h ⊢
    exact E.cel j es h
  · have a1 := nac h1
    have a2 := nac h2
    rw [List.getElem?_set_ne a1] at h1 h3
    rw [List.getElem?_set_ne a2] at h2 h4
    exact E.sep j k ds es l h1 h2 h3 h4
theorem Env.setU (E : Env K B H σ Γ) {i : Nat} (x : Option V) (hi : i < Γ.length) : Env K B H (σ.set i x) (Γ.set i .un) := by
  have nac : ∀ {j : Nat} {s : Sl}, (Γ.set i .un)[j]? = some s → s ≠ .un → i ≠ j := fun {j s} h hs z => by
    subst z
    rw [List.getElem?_set_self hi] at h; cases h; exact hs rfl
  refine ⟨by simp [E.len], E.bh, fun j e h => ?_, fun j es h => ?_, fun j k ds es l h1 h2 h3 h4 => ?_⟩
  · have hij := nac h (fun z => nomatch z)
    rw [List.getElem?_set_ne hij] at h ⊢
    exact E.val j e h
  · have hij := nac h (fun z => nomatch z)
    rw [List.getElem?_set_ne hij] at h ⊢
    exact E.cel j es h
  · have a1 := nac h1 (fun z => nomatch z)
    have a2 := nac h2 (fun z => nomatch z)
    rw [List.getElem?_set_ne a1] at h1 h3
    rw [List.getElem?_set_ne a2] at h2 h4
    exact E.sep j k ds es l h1 h2 h3 h4
theorem Env.setA (E : Env K B H σ Γ) {i : Nat} {l : Addr} {vs : HO} {ds : Cn} (hi : i < Γ.length) (hn : ¬ Own σ Γ l) (hl : H l = some vs) (hb : B l = none) (ha : CnIs K B vs ds) : Env K B H (σ.set i (some (.ref l))) (Γ.set i (.cel ds)) := by
  have hi2 : i < σ.length := by rw [E.len]; exact hi
  refine ⟨by simp [E.len], E.bh, fun j e h => ?_, fun j es h => ?_, fun j k ds' es l' h1 h2 h3 h4 => ?_⟩
  · by_cases hij : i = j
    · subst hij
      rw [List.getElem?_set_self hi] at h
      cases h
    · rw [List.getElem?_set_ne hij] at h ⊢
      exact E.val j e h
  · by_cases hij : i = j
    · subst hij
      rw [List.getElem?_set_self hi] at h
      cases h
      exact ⟨l, vs, List.getElem?_set_self hi2, hl, hb, ha⟩
    · rw [List.getElem?_set_ne hij] at h ⊢
      exact E.cel j es h
  · by_cases h1i : i = j
    · by_cases h2i : i = k
      · exact h1i.symm.trans h2i
      · subst h1i
        rw [List.getElem?_set_self hi2] at h3
        rw [List.getElem?_set_ne h2i] at h2 h4
        cases h3
        exact absurd ⟨k, es, h2, h4⟩ hn
    · by_cases h2i : i = k
      · subst h2i
        rw [List.getElem?_set_self hi2] at h4
        rw [List.getElem?_set_ne h1i] at h1 h3
        cases h4
        exact absurd ⟨j, ds', h1, h3⟩ hn
      · rw [List.getElem?_set_ne h1i] at h1 h3
        rw [List.getElem?_set_ne h2i] at h2 h4
        exact E.sep j k ds' es l' h1 h2 h3 h4
theorem pin_set {i : Nat} {x : Option V} (hp : pin.contains i = false) : ∀ j, j ∈ pin → (σ.set i x)[j]? = σ[j]? := fun j hj => by
  have : i ≠ j := fun z => by
    subst z
    have := List.contains_iff_mem.mpr hj
    rw [hp] at this; cases this
  exact List.getElem?_set_ne this
/-- a result goes to slot i -/
theorem goS_set (g : Go K σ B H Γ B1 H1 Γ1) (k : ReOk K σ (Own σ Γ) (Own σ Γ1) B1 H H1 v r) {i : Nat} (hp : pin.contains i = false) (hi : i < Γ1.length) : GoS K pin σ B H Γ (σ.set i (some v)) B1 H1 (Γ1.set i (slOf r)) := by
  cases r with
  | val d => exact ⟨g.mv, fun a h => .inl (g.sub a (h.set_ne fun ds z => nomatch z)), g.env.setV hi k, pin_set hp⟩
  | own j => exact ⟨g.mv, fun a h => .inl (g.sub a (h.set_ne fun ds z => nomatch z)), g.env.setU _ hi, pin_set hp⟩
  | nw ds =>
    obtain ⟨l, vs, rfl, h1, h2, h3, h4, h5⟩ := k
    refine ⟨g.mv, fun a h => ?_, g.env.setA hi h2 h3 h4 h5, pin_set hp⟩
    by_cases ha : a = l
    · subst ha; exact h1
    · exact .inl (g.sub a (h.set_ne fun ds _ z => ha (by cases z; rfl)))
end
section
variable {K : PySem.W.Frag} {pin : List Nat} {Γ : List Sl} {P : Ps} {te ta tb : TE} {tt : TT} {t u tb' : TS} {g : TG}
theorem ws_mono {P' : Ps} (h : WS K pin t Γ P) (h1 : ∀ G, P.nx G → P'.nx G) (h2 : ∀ r G, P.rt r G → P'.rt r G) (h3 : ∀ G, P.bk G → P'.bk G) (h4 : ∀ G, P.ct G → P'.ct G) (h5 : P'.ex = P.ex := by rfl) : WS K pin t Γ P' := fun σ B H D E n r b c xx =>
  h σ B H D E (fun σ' B' H' Γ' g p => n σ' B' H' Γ' g (h1 _ p)) (fun v σ' B' H' z Γ' g k p => r v σ' B' H' z Γ' g k (h2 _ _ p)) (fun σ' B' H' Γ' g p => b σ' B' H' Γ' g (h3 _ p)) (fun σ' B' H' Γ' g p => c σ' B' H' Γ' g (h4 _ p)) (h5 ▸ xx)
/-- from a later state -/
theorem ws_from {σ σ1 : L2.St} {B H B1 H1 : Hp} {Γ1 : List Sl} {D : Ends} (h : WS K pin t Γ1 P) (g : GoS K pin σ B H Γ σ1 B1 H1 Γ1)
    (n : ∀ σ' B' H' Γ', GoS K pin σ B H Γ σ' B' H' Γ' → P.nx Γ' → D.nx σ' H')
    (r : ∀ v σ' B' H' r Γ', GoS K pin σ B H Γ σ' B' H' Γ' → ReOk K [] (Own σ Γ) (Own σ' Γ') B' H H' v r → P.rt r Γ' → D.rt v H')
    (b : ∀ σ' B' H' Γ', GoS K pin σ B H Γ σ' B' H' Γ' → P.bk Γ' → D.bk σ' H')
    (c : ∀ σ' B' H' Γ', GoS K pin σ B H Γ σ' B' H' Γ' → P.ct Γ' → D.ct σ' H')
    (xx : ∀ cls d fs σ' B' H' Γ', GoS K pin σ B H Γ σ' B' H' Γ' → ExB K B' d fs → P.ex.q cls fs Γ' → P.ex.W cls d σ' H') : t D σ1 H1 :=
  h σ1 B1 H1 D g.env (fun σ' B' H' Γ' g' p => n σ' B' H' Γ' (g.trans g') p) (fun v σ' B' H' z Γ' g' k p => r v σ' B' H' z Γ' (g.trans g') (ReOk.earlier k g.mv g.new) p)
    (fun σ' B' H' Γ' g' p => b σ' B' H' Γ' (g.trans g') p) (fun σ' B' H' Γ' g' p => c σ' B' H' Γ' (g.trans g') p) (fun cls d fs σ' B' H' Γ' g' hx p => xx cls d fs σ' B' H' Γ' (g.trans g') hx p)
theorem ws_seq (h : WS K pin t Γ { P with nx := fun Γ1 => WS K pin u Γ1 P }) : WS K pin (tSeq t u) Γ P := fun σ B H D E n r b c xx =>
  h σ B H { D with nx := u D } E (fun σ' B' H' Γ' g p => ws_from (t := u) (D := D) p g n r b c xx) r b c xx
theorem ws_nil (p : P.nx Γ) : WS K pin tNext Γ P := fun σ B H D E n r b c xx => n σ B H Γ (.refl E) p
theorem ws_brk (p : P.bk Γ) : WS K pin tBreak Γ P := fun σ B H D E n r b c xx => b σ B H Γ (.refl E) p
theorem ws_cont (p : P.ct Γ) : WS K pin tCont Γ P := fun σ B H D E n r b c xx => c σ B H Γ (.refl E) p
theorem ws_expr (h : WE K te Γ fun _ Γ1 => P.nx Γ1) : WS K pin (tDrop te) Γ P := fun σ B H D E n r b c xx =>
  h σ B H E _ fun v B1 H1 z Γ1 g k p => n σ B1 H1 Γ1 g.s p
theorem ws_ret (h : WE K te Γ fun z Γ1 => z.free = true ∧ P.rt z Γ1) : WS K pin (tRet te) Γ P := fun σ B H D E n r b c xx =>
  h σ B H E _ fun v B1 H1 z Γ1 g k ⟨hf, p⟩ => r v σ B1 H1 z Γ1 g.s (k.off hf) p
theorem ws_retN (p : P.rt (.val .non) Γ) : WS K pin tRetN Γ P := fun σ B H D E n r b c xx => r .non σ B H (.val .non) Γ (.refl E) (Is.raw _) p
/-- return of an owned list -/
theorem ws_retA {i : Nat} {ds : List Dt} (h : Γ[i]? = some (.acc ds)) (p : P.rt (.new ds) (Γ.set i .un)) : WS K pin (tRet (tVar i)) Γ P := ws_ret (we_move h ⟨rfl, p⟩)
theorem ws_if (h : WT K tt Γ fun b Γ1 => (b = true → WS K pin t Γ1 P) ∧ (b = false → WS K pin u Γ1 P)) : WS K pin (tIfS tt t u) Γ P := fun σ B H D E n r b c xx =>
  h σ B H E _ fun z B1 H1 Γ1 g p => by
    cases z with
    | true =>
      show t D σ H1
      exact ws_from (p.1 rfl) g.s n r b c xx
    | false =>
      show u D σ H1
      exact ws_from (p.2 rfl) g.s n r b c xx
theorem ws_asg {i : Nat} (hp : pin.contains i = false) (hi : decide (i < Γ.length) = true) (h : WE K te Γ fun z Γ1 => P.nx (Γ1.set i (slOf z))) : WS K pin (tAsg te (gName i)) Γ P := fun σ B H D E n r b c xx =>
  h σ B H E _ fun v B1 H1 z Γ1 g k p => n _ B1 H1 _ (goS_set g k hp (by rw [← g.env.len, E.len]; exact of_decide_eq_true hi)) p
/-- the whole of a frozen list, a tuple .. to a target -/
theorem ws_asgG (h : WE K te Γ fun z Γ1 => ∃ d, z = .val d ∧ WG K pin g d Γ1 P.nx) : WS K pin (tAsg te g) Γ P := fun σ B H D E n r b c xx =>
  h σ B H E _ fun v B1 H1 z Γ1 g1 k p => by
    obtain ⟨d, rfl, p⟩ := p
    exact p σ B1 H1 v g1.env k _ fun σ' Γ' g2 p2 => n σ' B1 H1 Γ' (g1.s.trans g2) p2
theorem wg_name {i : Nat} {d : Dt} {Q : List Sl → Prop} (hp : pin.contains i = false) (hi : decide (i < Γ.length) = true) (p : Q (Γ.set i (.val d))) : WG K pin (gName i) d Γ Q := fun σ B H x E k R q =>
  q _ _ (goS_set (r := .val d) (.refl E) k hp (of_decide_eq_true hi)) p
def WGs (K : PySem.W.Frag) (pin : List Nat) (g : TGs) (ds : List Dt) (Γ : List Sl) (P : List Sl → Prop) : Prop := ∀ σ B H xs, Env K B H σ Γ → IsA K B xs ds → ∀ Q : L2.St → Hp → Prop,
  (∀ σ' Γ', GoS K pin σ B H Γ σ' B H Γ' → P Γ' → Q σ' H) → g xs σ H Q
theorem wgs_nil {Q : List Sl → Prop} (p : Q Γ) : WGs K pin gNil [] Γ Q := fun σ B H xs E k R q => by
  have : xs = [] := List.eq_nil_of_length_eq_zero (by rw [k.len]; rfl)
  exact ⟨this, q σ Γ (.refl E) p⟩
theorem wgs_cons {g1 : TG} {g2 : TGs} {d : Dt} {ds : List Dt} {Q : List Sl → Prop} (h : WG K pin g1 d Γ fun Γ1 => WGs K pin g2 ds Γ1 Q) : WGs K pin (gCons g1 g2) (d :: ds) Γ Q := fun σ B H xs E k R q => by
  cases xs with
  | nil => have := k.len; simp at this
  | cons x r =>
    refine ⟨x, r, rfl, h σ B H x E (k.at_ 0 x d rfl rfl) _ fun σ1 Γ1 e1 p1 => ?_⟩
    exact p1 σ1 B H r e1.env ⟨by have := k.len; simpa using this, fun i v d a b => k.at_ (i + 1) v d (by simpa using a) (by simpa using b)⟩ R fun σ2 Γ2 e2 p2 => q σ2 Γ2 (e1.trans e2) p2
theorem wg_tup {n : Nat} {g2 : TGs} {ds : List Dt} {Q : List Sl → Prop} (hn : ds.length = n) (h : WGs K pin g2 ds Γ Q) : WG K pin (gTup K n g2) (.tup ds) Γ Q := fun σ B H x E k R q => by
  obtain ⟨a, xs, rfl, h1, h2⟩ := Is.tupR k
  exact ⟨a, xs, rfl, sqT_mono E.bh h1, by rw [h2.len]; exact hn, h σ B H xs E h2 R q⟩
/-- x op= e on ints -/
theorem ws_aug {i : Nat} {f : Int → Int → Int} {a : Int} (hx : Γ[i]? = some (.val (.int a))) (hp : pin.contains i = false) (h : WE K te Γ fun z Γ1 => ∃ b, z = .val (.int b) ∧ P.nx (Γ1.set i (.val (.int (f a b))))) : WS K pin (tAug i te (ipI f)) Γ P := fun σ B H D E n r b c xx => by
  obtain ⟨v, hv, hk⟩ := E.val i _ hx
  cases hk.rawI
  refine ⟨_, hv, h σ B H E _ fun y B1 H1 z Γ1 g k p => ?_⟩
  obtain ⟨b, rfl, p⟩ := p
  cases Is.rawI k
  exact ⟨a, b, rfl, rfl, n _ B1 H1 _ (goS_set (r := .val (.int (f a b))) g (Is.raw _) hp (by rw [← g.env.len, E.len]; exact (List.getElem?_eq_some_iff.mp hx).1)) p⟩
/-- an owned list is changed -/
theorem Env.put {σ : L2.St} {B H : Hp} {i : Nat} {ds es : Cn} {l : Addr} {ys : HO} (E : Env K B H σ Γ) (h : Γ[i]? = some (.cel ds)) (hl : σ[i]? = some (some (.ref l))) (ha : CnIs K B ys es) : Env K B (upd H l ys) σ (Γ.set i (.cel es)) := by
  have hi : i < Γ.length := (List.getElem?_eq_some_iff.mp h).1
  obtain ⟨l', vs, q1, q2, q3, q4⟩ := E.cel i ds h
  rw [hl] at q1; cases q1
  have up : ∀ {j : Nat} {es' : Cn}, (Γ.set i (.cel es))[j]? = some (.cel es') → ∃ ds', Γ[j]? = some (.cel ds') := fun {j es'} hj => by
    by_cases hij : i = j
    · subst hij; exact ⟨ds, h⟩
    · rw [List.getElem?_set_ne hij] at hj; exact ⟨es', hj⟩
  refine ⟨by simp [E.len], fun a u e => ?_, fun j e hj => ?_, fun j es' hj => ?_, fun j k ds' es' l' h1 h2 h3 h4 => ?_⟩
  · rw [upd_ne (ne_of_none e q3)]; exact E.bh a u e
  · by_cases hij : i = j
    · subst hij; rw [List.getElem?_set_self hi] at hj; cases hj
    · rw [List.getElem?_set_ne hij] at hj; exact E.val j e hj
  · by_cases hij : i = j
    · subst hij; rw [List.getElem?_set_self hi] at hj; cases hj
      exact ⟨l, ys, hl, upd_same, q3, ha⟩
    · rw [List.getElem?_set_ne hij] at hj
      obtain ⟨c, us, e1, e2, e3, e4⟩ := E.cel j es' hj
      have hc : c ≠ l := fun z => by
        subst z
        exact hij (E.sep i j ds es' c h hj hl e1)
      exact ⟨c, us, e1, by rw [upd_ne hc]; exact e2, e3, e4⟩
  · obtain ⟨d1, g1⟩ := up h1
    obtain ⟨d2, g2⟩ := up h2
    exact E.sep j k d1 d2 l' g1 g2 h3 h4
theorem Own.put {σ : L2.St} {i : Nat} {ds es : Cn} {a : Addr} (h : Γ[i]? = some (.cel ds)) (o : Own σ (Γ.set i (.cel es)) a) : Own σ Γ a := by
  obtain ⟨j, es', h1, h2⟩ := o
  by_cases hij : i = j
  · subst hij; exact ⟨i, ds, h, h2⟩
  · rw [List.getElem?_set_ne hij] at h1; exact ⟨j, es', h1, h2⟩
theorem Go.putC {σ : L2.St} {B H : Hp} {i : Nat} {ds es : Cn} {l : Addr} {ys : HO} (E : Env K B H σ Γ) (h : Γ[i]? = some (.cel ds)) (hl : σ[i]? = some (some (.ref l))) (ha : CnIs K B ys es) : Go K σ B H Γ B (upd H l ys) (Γ.set i (.cel es)) :=
  ⟨⟨fun a o na e => by rw [upd_ne (fun z => na (by subst z; exact ⟨i, ds, h, hl⟩))]; exact e, Same.refl B, fun _ _ _ e => e⟩, fun j es' hj => by
    by_cases hij : i = j
    · subst hij; exact ⟨ds, h⟩
    · rw [List.getElem?_set_ne hij] at hj; exact ⟨es', hj⟩, E.put h hl ha⟩
theorem Go.put {σ : L2.St} {B H : Hp} {i : Nat} {ds es : List Dt} {l : Addr} {ys : List V} (E : Env K B H σ Γ) (h : Γ[i]? = some (.acc ds)) (hl : σ[i]? = some (some (.ref l))) (ha : IsA K B ys es) : Go K σ B H Γ B (upd H l (.lst ys)) (Γ.set i (.acc es)) :=
  Go.putC E h hl ⟨ys, rfl, ha⟩
/-- xs.append(e) -/
theorem we_append {i : Nat} {ds0 : List Dt} {Post : Re → List Sl → Prop} (h0 : Γ[i]? = some (.acc ds0)) (h : WE K te Γ fun z Γ1 => ∃ d ds, z.dt? = some d ∧ Γ1[i]? = some (.acc ds) ∧ ds.length < 1000000 ∧ Post (.val .non) (Γ1.set i (.acc (ds ++ [d])))) :
    WE K (tBM K "list" rAppend (tVar i) (tCons te tNil)) Γ Post := fun σ B H E Q q => by
  obtain ⟨l, vs, e0, e1, e2, k0⟩ := E.acc i ds0 h0
  refine ⟨.ref l, e0, .inl ⟨rfl, vs, .inl (.inl e1)⟩, ?_⟩
  have h' : WE K te Γ fun z Γ1 => ∃ d ds, z = .val d ∧ Γ1[i]? = some (.acc ds) ∧ ds.length < 1000000 ∧ Post (.val .non) (Γ1.set i (.acc (ds ++ [d]))) := we_freeze (we_mono h fun z Γ1 ⟨d, ds, hd, r⟩ => ⟨d, hd, d, ds, rfl, r⟩)
  refine h' σ B H E _ fun y B1 H1 z Γ1 g k p => ?_
  obtain ⟨d, ds, rfl, hi, hz, p⟩ := p
  obtain ⟨l', us, f0, f1, f2, k1⟩ := g.env.acc i ds hi
  rw [e0] at f0; cases f0
  refine ⟨l, us, y, rfl, rfl, f1, Nat.lt_trans (by rw [k1.len]; exact hz) (by decide), ?_⟩
  have g2 := Go.put g.env hi e0 (k1.snoc k)
  exact q .non B1 _ (.val .non) _ (g.trans g2) (Is.raw _) p
/-- xs[j] = e -/
theorem ws_setA {i : Nat} {tj : TE} (h : WE K te Γ fun z Γ1 => ∃ d, z = .val d ∧ (∃ ds1, Γ1[i]? = some (.acc ds1)) ∧ WE K tj Γ1 fun y Γ2 => ∃ ds k j, y = .val (.int k) ∧ Γ2[i]? = some (.acc ds) ∧ ixN ds.length k = some j ∧ P.nx (Γ2.set i (.acc (ds.set j d)))) :
    WS K pin (tAsg te (gSub (tVar i) tj rSetL)) Γ P := fun σ B H D E n r b c xx => by
  refine h σ B H E _ fun v B1 H1 z Γ1 g1 k1 p1 => ?_
  obtain ⟨d, rfl, ⟨ds1, h1⟩, p1⟩ := p1
  obtain ⟨l, vs, e0, e1, e2, k0⟩ := g1.env.acc i ds1 h1
  refine ⟨.ref l, e0, p1 σ B1 H1 g1.env _ fun y B2 H2 w Γ2 g2 k2 p2 => ?_⟩
  obtain ⟨ds, k, j, rfl, hi, hj, p⟩ := p2
  cases Is.rawI k2
  obtain ⟨l', us, f0, f1, f2, k3⟩ := g2.env.acc i ds hi
  rw [e0] at f0; cases f0
  refine ⟨l, us, k, j, rfl, rfl, f1, by rw [k3.len]; exact hj, ?_⟩
  exact n _ B2 _ _ ((g1.trans g2).trans (Go.put g2.env hi e0 (k3.set (Is.mono g2.mv.bb k1)))).s p
theorem we_reverse {i : Nat} {ds : List Dt} {Post : Re → List Sl → Prop} (h0 : Γ[i]? = some (.acc ds)) (p : Post (.val .non) (Γ.set i (.acc ds.reverse))) : WE K (tBM0 K "list" rReverse (tVar i)) Γ Post := fun σ B H E Q q => by
  obtain ⟨l, vs, e0, e1, e2, k0⟩ := E.acc i ds h0
  exact ⟨.ref l, e0, .inl ⟨rfl, vs, .inl (.inl e1)⟩, l, vs, rfl, rfl, e1, q .non B _ (.val .non) _ (Go.put E h0 e0 k0.reverse) (Is.raw _) p⟩
/-- xs.pop(k) -/
theorem we_popAt {i : Nat} {ds0 : List Dt} {Post : Re → List Sl → Prop} (h0 : Γ[i]? = some (.acc ds0)) (h : WE K te Γ fun z Γ1 => ∃ ds k j d, z = .val (.int k) ∧ Γ1[i]? = some (.acc ds) ∧ -(2 ^ 63) ≤ k ∧ k < 2 ^ 63 ∧ seqIndex? k ds.length = some j ∧ ds[j]? = some d ∧ Post (.val d) (Γ1.set i (.acc (ds.eraseIdx j)))) :
    WE K (tBM K "list" rPopAt (tVar i) (tCons te tNil)) Γ Post := fun σ B H E Q q => by
  obtain ⟨l, vs, e0, e1, e2, k0⟩ := E.acc i ds0 h0
  refine ⟨.ref l, e0, .inl ⟨rfl, vs, .inl (.inl e1)⟩, ?_⟩
  refine h σ B H E _ fun y B1 H1 z Γ1 g k p => ?_
  obtain ⟨ds, m, j, d, rfl, hi, hz, hz2, hj, hd, p⟩ := p
  cases Is.rawI k
  obtain ⟨l', us, f0, f1, f2, k1⟩ := g.env.acc i ds hi
  rw [e0] at f0; cases f0
  obtain ⟨w, hw, kw⟩ := k1.get hd
  refine ⟨l, us, m, j, w, rfl, rfl, f1, hz, hz2, by rw [k1.len]; exact hj, hw, ?_⟩
  have g2 := Go.put g.env hi e0 (k1.eraseIdx j)
  exact q w B1 _ (.val d) _ (g.trans g2) kw p
/-! ### loops -/
theorem ws_for1 {t1 : TA} (h : WD K t1 Γ fun ds Γ1 => ∃ n : Int, ds = [.int n] ∧ -(2 ^ 62) ≤ n ∧ n < 2 ^ 62 ∧ ∃ Inv : Nat → List Sl → Prop, Inv 0 Γ1 ∧
      (∀ (i : Nat) Γ', (i : Int) < n → Inv i Γ' → WG K pin g (.int i) Γ' fun Γ2 => WS K pin tb' Γ2 ⟨Inv (i + 1), P.rt, P.nx, Inv (i + 1), P.ex⟩) ∧ ∀ Γ', Inv n.toNat Γ' → P.nx Γ') : WS K pin (tFor (iRng1 t1) g tb') Γ P := fun σ B H D E n r b c xx => by
  refine h σ B H E _ fun vs B1 H1 ds Γ1 g1 k p => ?_
  obtain ⟨m, rfl, hlo, hhi, Inv, i0, turn, done⟩ := p
  have ev : vs = [.int m] := IsA.rawsI (xs := [.int m]) k
  refine ⟨m, ev, hlo, hhi, ?_⟩
  refine for_range (lo := 0) (n := m.toNat) (fun i σ' H' => ∃ B' Γ', GoS K pin σ B H Γ σ' B' H' Γ' ∧ Inv i Γ') ⟨B1, Γ1, g1.s, i0⟩ ?_ ?_
  · rintro i σ' H' hi ⟨B', Γ', g2, inv⟩
    have e0 : (0 : Int) + (i : Int) = (i : Int) := Int.zero_add _
    rw [e0]
    refine turn i Γ' (by omega) inv σ' B' H' _ g2.env (.raw _) _ fun σ2 Γ2 g3 w => ?_
    exact ws_from w (g2.trans g3) (fun σ3 B3 H3 Γ3 g4 p => ⟨B3, Γ3, g4, p⟩) r (fun σ3 B3 H3 Γ3 g4 p => n σ3 B3 H3 Γ3 g4 p) (fun σ3 B3 H3 Γ3 g4 p => ⟨B3, Γ3, g4, p⟩) xx
  · rintro σ' H' ⟨B', Γ', g2, inv⟩
    exact n σ' B' H' Γ' g2 (done Γ' inv)
theorem ws_for2 {t1 : TA} (h : WD K t1 Γ fun ds Γ1 => ∃ lo m : Int, ds = [.int lo, .int m] ∧ (-(2 ^ 62) ≤ lo ∧ lo < 2 ^ 62 ∧ -(2 ^ 62) ≤ m ∧ m < 2 ^ 62) ∧ ∃ Inv : Nat → List Sl → Prop, Inv 0 Γ1 ∧
      (∀ (i : Nat) Γ', lo + (i : Int) < m → Inv i Γ' → WG K pin g (.int (lo + i)) Γ' fun Γ2 => WS K pin tb' Γ2 ⟨Inv (i + 1), P.rt, P.nx, Inv (i + 1), P.ex⟩) ∧ ∀ Γ', Inv (m - lo).toNat Γ' → P.nx Γ') : WS K pin (tFor (iRng2 t1) g tb') Γ P := fun σ B H D E n r b c xx => by
  refine h σ B H E _ fun vs B1 H1 ds Γ1 g1 k p => ?_
  obtain ⟨lo, m, rfl, hb, Inv, i0, turn, done⟩ := p
  have ev : vs = [.int lo, .int m] := IsA.rawsI (xs := [.int lo, .int m]) k
  refine ⟨lo, m, ev, hb, ?_⟩
  refine for_range (lo := lo) (n := (m - lo).toNat) (fun i σ' H' => ∃ B' Γ', GoS K pin σ B H Γ σ' B' H' Γ' ∧ Inv i Γ') ⟨B1, Γ1, g1.s, i0⟩ ?_ ?_
  · rintro i σ' H' hi ⟨B', Γ', g2, inv⟩
    refine turn i Γ' (by omega) inv σ' B' H' _ g2.env (.raw _) _ fun σ2 Γ2 g3 w => ?_
    exact ws_from w (g2.trans g3) (fun σ3 B3 H3 Γ3 g4 p => ⟨B3, Γ3, g4, p⟩) r (fun σ3 B3 H3 Γ3 g4 p => n σ3 B3 H3 Γ3 g4 p) (fun σ3 B3 H3 Γ3 g4 p => ⟨B3, Γ3, g4, p⟩) xx
  · rintro σ' H' ⟨B', Γ', g2, inv⟩
    exact n σ' B' H' Γ' g2 (done Γ' inv)
/-- over a tuple -/
theorem ws_forT (h : WE K te Γ fun z Γ1 => ∃ ds, z = .val (.tup ds) ∧ ∃ Inv : Nat → List Sl → Prop, Inv 0 Γ1 ∧
      (∀ (i : Nat) d Γ', ds[i]? = some d → Inv i Γ' → WG K pin g d Γ' fun Γ2 => WS K pin tb' Γ2 ⟨Inv (i + 1), P.rt, P.nx, Inv (i + 1), P.ex⟩) ∧ ∀ Γ', Inv ds.length Γ' → P.nx Γ') : WS K pin (tFor (iTup K te) g tb') Γ P := fun σ B H D E n r b c xx => by
  refine h σ B H E _ fun v B1 H1 z Γ1 g1 k p => ?_
  obtain ⟨ds, rfl, Inv, i0, turn, done⟩ := p
  obtain ⟨a, xs, rfl, ha, hx⟩ := Is.tupR k
  refine ⟨a, rfl, ⟨xs, sqT_mono g1.env.bh ha⟩, for_tup (xs := xs) (fun i σ' H' => ∃ B' Γ', Same B1 B' ∧ GoS K pin σ B H Γ σ' B' H' Γ' ∧ Inv i Γ') ⟨B1, Γ1, Same.refl _, g1.s, i0⟩ ?_ ?_ ?_⟩
  · rintro i σ' H' _ ⟨B', Γ', sb, g2, _⟩
    exact sqT_mono (sb.trans g2.env.bh) ha
  · rintro i x σ' H' hi ⟨B', Γ', sb, g2, inv⟩
    have hlt : i < ds.length := by rw [← hx.len]; exact (List.getElem?_eq_some_iff.mp hi).1
    refine turn i ds[i] Γ' (List.getElem?_eq_getElem hlt) inv σ' B' H' x g2.env ((hx.at_ i x _ hi (List.getElem?_eq_getElem hlt)).mono sb) _ fun σ2 Γ2 g3 w => ?_
    have g23 := g2.trans g3
    refine w σ2 B' H' _ g23.env (fun σ3 B3 H3 Γ3 g4 p => ⟨B3, Γ3, sb.trans g4.mv.bb, g23.trans g4, p⟩) (fun v σ3 B3 H3 z Γ3 g4 k4 p => r v σ3 B3 H3 z Γ3 (g23.trans g4) (ReOk.earlier k4 g23.mv g23.new) p)
      (fun σ3 B3 H3 Γ3 g4 p => n σ3 B3 H3 Γ3 (g23.trans g4) p) (fun σ3 B3 H3 Γ3 g4 p => ⟨B3, Γ3, sb.trans g4.mv.bb, g23.trans g4, p⟩) (fun cls d fs σ3 B3 H3 Γ3 g4 hx p => xx cls d fs σ3 B3 H3 Γ3 (g23.trans g4) hx p)
  · rintro σ' H' ⟨B', Γ', sb, g2, inv⟩
    rw [hx.len] at inv
    exact n σ' B' H' Γ' g2 (done Γ' inv)
/-- over a list that is data, or new -/
theorem ws_forL (h : WE K te Γ fun z Γ1 => ∃ d ds, z.dt? = some d ∧ d = .lst ds ∧ ∃ Inv : Nat → List Sl → Prop, Inv 0 Γ1 ∧
      (∀ (i : Nat) d Γ', ds[i]? = some d → Inv i Γ' → WG K pin g d Γ' fun Γ2 => WS K pin tb' Γ2 ⟨Inv (i + 1), P.rt, P.nx, Inv (i + 1), P.ex⟩) ∧ ∀ Γ', Inv ds.length Γ' → P.nx Γ') : WS K pin (tFor (iList K te) g tb') Γ P := fun σ B H D E n r b c xx => by
  have h' : WE K te Γ fun z Γ1 => ∃ ds, z = .val (.lst ds) ∧ ∃ Inv : Nat → List Sl → Prop, Inv 0 Γ1 ∧
      (∀ (i : Nat) d Γ', ds[i]? = some d → Inv i Γ' → WG K pin g d Γ' fun Γ2 => WS K pin tb' Γ2 ⟨Inv (i + 1), P.rt, P.nx, Inv (i + 1), P.ex⟩) ∧ ∀ Γ', Inv ds.length Γ' → P.nx Γ' :=
    we_freeze (we_mono h fun z Γ1 ⟨d, ds, hd, e, r⟩ => ⟨d, hd, ds, by rw [e], r⟩)
  refine h' σ B H E _ fun v B1 H1 z Γ1 g1 k p => ?_
  obtain ⟨ds, rfl, Inv, i0, turn, done⟩ := p
  obtain ⟨a, xs, rfl, ha, hx⟩ := Is.lstR k
  refine ⟨a, rfl, ⟨xs, .inl (.inl (g1.env.bh _ _ ha))⟩, for_list (xs := xs) (fun i σ' H' => ∃ B' Γ', Same B1 B' ∧ GoS K pin σ B H Γ σ' B' H' Γ' ∧ Inv i Γ') ⟨B1, Γ1, Same.refl _, g1.s, i0⟩ ?_ ?_ ?_⟩
  · rintro i σ' H' _ ⟨B', Γ', sb, g2, _⟩
    exact .inl (.inl ((sb.trans g2.env.bh) _ _ ha))
  · rintro i x σ' H' hi ⟨B', Γ', sb, g2, inv⟩
    have hlt : i < ds.length := by rw [← hx.len]; exact (List.getElem?_eq_some_iff.mp hi).1
    refine turn i ds[i] Γ' (List.getElem?_eq_getElem hlt) inv σ' B' H' x g2.env ((hx.at_ i x _ hi (List.getElem?_eq_getElem hlt)).mono sb) _ fun σ2 Γ2 g3 w => ?_
    have g23 := g2.trans g3
    refine w σ2 B' H' _ g23.env (fun σ3 B3 H3 Γ3 g4 p => ⟨B3, Γ3, sb.trans g4.mv.bb, g23.trans g4, p⟩) (fun v σ3 B3 H3 z Γ3 g4 k4 p => r v σ3 B3 H3 z Γ3 (g23.trans g4) (ReOk.earlier k4 g23.mv g23.new) p)
      (fun σ3 B3 H3 Γ3 g4 p => n σ3 B3 H3 Γ3 (g23.trans g4) p) (fun σ3 B3 H3 Γ3 g4 p => ⟨B3, Γ3, sb.trans g4.mv.bb, g23.trans g4, p⟩) (fun cls d fs σ3 B3 H3 Γ3 g4 hx p => xx cls d fs σ3 B3 H3 Γ3 (g23.trans g4) hx p)
  · rintro σ' H' ⟨B', Γ', sb, g2, inv⟩
    rw [hx.len] at inv
    exact n σ' B' H' Γ' g2 (done Γ' inv)
/-- over an owned list that the body leaves as it is -/
theorem ws_forA {k : Nat} {ds : List Dt} (h0 : Γ[k]? = some (.acc ds)) (Inv : Nat → List Sl → Prop) (i0 : Inv 0 Γ) (hk : ∀ i Γ', Inv i Γ' → Γ'[k]? = some (.acc ds))
      (turn : ∀ (i : Nat) d Γ', ds[i]? = some d → Inv i Γ' → WG K (k :: pin) g d Γ' fun Γ2 => WS K (k :: pin) tb' Γ2 ⟨Inv (i + 1), P.rt, P.nx, Inv (i + 1), P.ex⟩) (done : ∀ Γ', Inv ds.length Γ' → P.nx Γ') : WS K pin (tFor (iList K (tVar k)) g tb') Γ P := fun σ B H D E n r b c xx => by
  obtain ⟨l, xs, e0, e1, e2, hx⟩ := E.acc k ds h0
  have off : ∀ {σ' B' H' Γ'}, GoS K (k :: pin) σ B H Γ σ' B' H' Γ' → GoS K pin σ B H Γ σ' B' H' Γ' := fun g => ⟨g.mv, g.new, g.env, fun i hi => g.pin i (List.mem_cons_of_mem _ hi)⟩
  have items : ∀ {i σ' B' H' Γ'}, GoS K (k :: pin) σ B H Γ σ' B' H' Γ' → Inv i Γ' → ∃ ys, H' l = some (.lst ys) ∧ IsA K B' ys ds := fun {i σ' B' H' Γ'} g inv => by
    obtain ⟨c, ys, q1, q2, q3, q4⟩ := g.env.acc k ds (hk i Γ' inv)
    rw [g.pin k (List.mem_cons_self), e0] at q1
    cases q1
    exact ⟨ys, q2, q4⟩
  refine ⟨.ref l, e0, l, rfl, ⟨xs, .inl (.inl e1)⟩, fun i m σ' H' => m = ds.length - i ∧ i ≤ ds.length ∧ ∃ B' Γ', GoS K (k :: pin) σ B H Γ σ' B' H' Γ' ∧ Inv i Γ', ⟨ds.length, by simp, Nat.zero_le _, B, Γ, .refl E, i0⟩, ?_⟩
  rintro i m σ' H' ⟨rfl, hi, B', Γ', g2, inv⟩
  obtain ⟨ys, hy, hya⟩ := items g2 inv
  by_cases hlt : i < ds.length
  · obtain ⟨x, hx1, hx2⟩ := hya.get (List.getElem?_eq_getElem hlt)
    refine .inr ⟨⟨ys, x, .inl (.inl hy), hx1⟩, fun σ2 H2 => ∃ B' Γ', GoS K (k :: pin) σ B H Γ σ2 B' H2 Γ' ∧ Inv (i + 1) Γ', fun σ2 H2 ⟨B2, Γ2, q⟩ => ⟨ds.length - (i + 1), by omega, rfl, hlt, B2, Γ2, q⟩, fun x' H2 hyl => ?_⟩
    obtain ⟨e, hyl⟩ := hyl
    subst e
    have ex : x' = x := by
      have := hyl ys (.inl (.inl hy))
      rw [hx1] at this; cases this; rfl
    subst ex
    refine turn i ds[i] Γ' (List.getElem?_eq_getElem hlt) inv σ' B' _ x' g2.env hx2 _ fun σ2 Γ2 g3 w => ?_
    have g23 := g2.trans g3
    exact w σ2 B' _ _ g23.env (fun σ3 B3 H3 Γ3 g4 p => ⟨B3, Γ3, g23.trans g4, p⟩) (fun v σ3 B3 H3 z Γ3 g4 k4 p => r v σ3 B3 H3 z Γ3 (off (g23.trans g4)) (ReOk.earlier k4 g23.mv g23.new) p)
      (fun σ3 B3 H3 Γ3 g4 p => n σ3 B3 H3 Γ3 (off (g23.trans g4)) p) (fun σ3 B3 H3 Γ3 g4 p => ⟨B3, Γ3, g23.trans g4, p⟩) (fun cls d fs σ3 B3 H3 Γ3 g4 hx p => xx cls d fs σ3 B3 H3 Γ3 (off (g23.trans g4)) hx p)
  · have e : i = ds.length := by omega
    subst e
    exact .inl ⟨⟨ys, .inl (.inl hy), by rw [hya.len]; exact Nat.le_refl _⟩, n σ' B' H' Γ' (off g2) (done Γ' inv)⟩
/-- while, by an invariant with a measure -/
theorem ws_while (Inv : Nat → List Sl → Prop) (m0 : Nat) (i0 : Inv m0 Γ)
      (turn : ∀ m Γ', Inv m Γ' → WT K tt Γ' fun z Γ1 => (z = true → WS K pin tb' Γ1 ⟨fun G => ∃ m', m' < m ∧ Inv m' G, P.rt, P.nx, fun G => ∃ m', m' < m ∧ Inv m' G, P.ex⟩) ∧ (z = false → P.nx Γ1)) : WS K pin (tWhile tt tb') Γ P := fun σ B H D E n r b c xx => by
  refine ⟨fun m σ' H' => ∃ B' Γ', GoS K pin σ B H Γ σ' B' H' Γ' ∧ Inv m Γ', ⟨m0, B, Γ, .refl E, i0⟩, ?_⟩
  rintro m σ' H' ⟨B', Γ', g, inv⟩
  refine turn m Γ' inv σ' B' H' g.env _ fun z B1 H1 Γ1 g1 p => ?_
  have gg := g.trans g1.s
  cases z with
  | true =>
    refine (show ∃ N : L2.St → Hp → Prop, _ from ⟨fun σ2 H2 => ∃ B2 Γ2, GoS K pin σ B H Γ σ2 B2 H2 Γ2 ∧ ∃ m', m' < m ∧ Inv m' Γ2, fun σ2 H2 ⟨B2, Γ2, g2, m', hm, inv'⟩ => ⟨m', hm, B2, Γ2, g2, inv'⟩, ?_⟩)
    exact ws_from (p.1 rfl) gg (fun σ3 B3 H3 Γ3 g4 p => ⟨B3, Γ3, g4, p⟩) r (fun σ3 B3 H3 Γ3 g4 p => n σ3 B3 H3 Γ3 g4 p) (fun σ3 B3 H3 Γ3 g4 p => ⟨B3, Γ3, g4, p⟩) xx
  | false => exact n σ' B1 H1 Γ1 gg (p.2 rfl)
end
end Ab
namespace Ab
open PySem L2
/-! ### promises over data -/
abbrev AP := List Sl → (Re → List Sl → Prop) → Prop
def toSp (K : PySem.W.Frag) (ap : AP) : Sp := fun vs H Q _ => ∃ B as Post, Env K B H (vs.map some) as ∧ ap as Post ∧
  ∀ v B' H' r as', Go K (vs.map some) B H as B' H' as' → ReOk K [] (Own (vs.map some) as) (Own (vs.map some) as') B' H H' v r → Post r as' → Q v H'
/-- the arguments as they stand at the end -/
def exitSl (pin : List Nat) (Γ : List Sl) (i : Nat) : Sl → Sl
  | .val d => .val d
  | .un => .un
  | .cel _ => if pin.contains i then (Γ[i]?).getD .un else .un
def exitFrom (pin : List Nat) (Γ : List Sl) : Nat → List Sl → List Sl
  | _, [] => []
  | k, s :: r => exitSl pin Γ k s :: exitFrom pin Γ (k + 1) r
def exitArgs (pin : List Nat) (Γ as : List Sl) : List Sl := exitFrom pin Γ 0 as
theorem exitFrom_get (pin : List Nat) (Γ : List Sl) : ∀ (as : List Sl) (k i : Nat), (exitFrom pin Γ k as)[i]? = (as[i]?).map (exitSl pin Γ (k + i))
  | [], k, i => by simp [exitFrom]
  | s :: r, k, 0 => by simp [exitFrom]
  | s :: r, k, i + 1 => by
    rw [exitFrom]
    simp only [List.getElem?_cons_succ]
    rw [exitFrom_get pin Γ r (k + 1) i]
    rw [show k + 1 + i = k + (i + 1) by omega]
theorem exitArgs_get {pin : List Nat} {Γ as : List Sl} {i : Nat} {s : Sl} (h : (exitArgs pin Γ as)[i]? = some s) : ∃ s0, as[i]? = some s0 ∧ s = exitSl pin Γ i s0 := by
  unfold exitArgs at h
  rw [exitFrom_get] at h
  cases q : as[i]? with
  | none => rw [q] at h; cases h
  | some s0 =>
    rw [q] at h
    simp at h
    exact ⟨s0, rfl, h.symm⟩
theorem exitFrom_len (pin : List Nat) (Γ : List Sl) : ∀ (as : List Sl) (k : Nat), (exitFrom pin Γ k as).length = as.length
  | [], _ => rfl
  | s :: r, k => by rw [exitFrom, List.length_cons, List.length_cons, exitFrom_len pin Γ r (k + 1)]
section
variable {K : PySem.W.Frag}
theorem start_get {N : List Str} {vs : List V} {i : Nat} (h : i < vs.length) : (L2.start N vs)[i]? = (vs.map some)[i]? := by
  unfold L2.start
  rw [List.getElem?_append_left (by rw [List.length_map]; exact h)]
theorem env_start {B H : Hp} {N : List Str} {vs : List V} {as : List Sl} (E : Env K B H (vs.map some) as) (hn : as.length ≤ N.length) : Env K B H (L2.start N vs) (as ++ List.replicate (N.length - as.length) .un) := by
  have hl : vs.length = as.length := by have := E.len; simpa using this
  have lt : ∀ {i : Nat} {s : Sl}, (as ++ List.replicate (N.length - as.length) Sl.un)[i]? = some s → s ≠ .un → i < as.length ∧ as[i]? = some s := fun {i s} h hs => by
    by_cases hi : i < as.length
    · rw [List.getElem?_append_left hi] at h; exact ⟨hi, h⟩
    · rw [List.getElem?_append_right (by omega)] at h
      have := List.mem_of_getElem? h
      rw [List.mem_replicate] at this
      exact absurd this.2 hs
  refine ⟨?_, E.bh, fun i d h => ?_, fun i ds h => ?_, fun i j ds es l h1 h2 h3 h4 => ?_⟩
  · unfold L2.start
    rw [List.length_append, List.length_map, List.length_replicate, List.length_append, List.length_replicate, hl]
  · obtain ⟨hi, h⟩ := lt h (fun z => nomatch z)
    rw [start_get (by omega)]
    exact E.val i d h
  · obtain ⟨hi, h⟩ := lt h (fun z => nomatch z)
    rw [start_get (by omega)]
    exact E.cel i ds h
  · obtain ⟨hi, h1⟩ := lt h1 (fun z => nomatch z)
    obtain ⟨hj, h2⟩ := lt h2 (fun z => nomatch z)
    rw [start_get (by omega)] at h3 h4
    exact E.sep i j ds es l h1 h2 h3 h4
theorem own_start {N : List Str} {vs : List V} {as : List Sl} (hl : vs.length = as.length) {a : Addr} : Own (L2.start N vs) (as ++ List.replicate (N.length - as.length) .un) a ↔ Own (vs.map some) as a := by
  constructor
  · rintro ⟨i, ds, h1, h2⟩
    by_cases hi : i < as.length
    · rw [List.getElem?_append_left hi] at h1
      rw [start_get (by omega)] at h2
      exact ⟨i, ds, h1, h2⟩
    · rw [List.getElem?_append_right (by omega)] at h1
      have := List.mem_of_getElem? h1
      rw [List.mem_replicate] at this
      cases this.2
  · rintro ⟨i, ds, h1, h2⟩
    have hi : i < as.length := (List.getElem?_eq_some_iff.mp h1).1
    refine ⟨i, ds, ?_, ?_⟩
    · rw [List.getElem?_append_left hi]; exact h1
    · rw [start_get (by omega)]; exact h2
variable {P : Program} {w : World} {mg : Str → Option Value} {base : Heap}
/-- the way out of a def -/
theorem exit_go {N : List Str} {vs : List V} {as : List Sl} {B H B' H' : Hp} {pin : List Nat} {σ' : L2.St} {Γ' : List Sl} (E1 : Env K B H (vs.map some) as) (hl : vs.length = as.length)
    (g : GoS K pin (L2.start N vs) B H (as ++ List.replicate (N.length - as.length) .un) σ' B' H' Γ') : Go K (vs.map some) B H as B' H' (exitArgs pin Γ' as) ∧
      ∀ v r, ReOk K [] (Own (L2.start N vs) (as ++ List.replicate (N.length - as.length) .un)) (Own σ' Γ') B' H H' v r → ReOk K [] (Own (vs.map some) as) (Own (vs.map some) (exitArgs pin Γ' as)) B' H H' v r := by
  have hpinv : ∀ i, i < vs.length → i ∈ pin → σ'[i]? = (vs.map some)[i]? := fun i hi hp => by rw [g.pin i hp, start_get hi]
  have acc : ∀ {i : Nat} {ds : Cn}, (exitArgs pin Γ' as)[i]? = some (.cel ds) → i ∈ pin ∧ Γ'[i]? = some (.cel ds) ∧ ∃ ds0, as[i]? = some (.cel ds0) := fun {i ds} h => by
    obtain ⟨s0, h0, e⟩ := exitArgs_get h
    cases s0 with
    | un => cases e
    | val d => cases e
    | cel es =>
      unfold exitSl at e
      simp only at e
      split at e
      · rename_i hc
        refine ⟨List.contains_iff_mem.mp hc, ?_, es, h0⟩
        cases q : Γ'[i]? with
        | none => rw [q] at e; cases e
        | some s => rw [q] at e; simp at e; rw [← e]
      · cases e
  have own' : ∀ {a}, Own (vs.map some) (exitArgs pin Γ' as) a → Own σ' Γ' a := fun {a} ⟨i, ds, h1, h2⟩ => by
    obtain ⟨hp, h3, _, _⟩ := acc h1
    have hi : i < vs.length := by
      have := (List.getElem?_eq_some_iff.mp h2).1
      simpa using this
    exact ⟨i, ds, h3, by rw [hpinv i hi hp]; exact h2⟩
  have E' : Env K B' H' (vs.map some) (exitArgs pin Γ' as) := by
    refine ⟨by unfold exitArgs; rw [exitFrom_len, List.length_map, hl], g.env.bh, fun i d h => ?_, fun i ds h => ?_, fun i j ds es l h1 h2 h3 h4 => ?_⟩
    · obtain ⟨s0, h0, e⟩ := exitArgs_get h
      cases s0 with
      | un => cases e
      | val d' =>
        cases e
        obtain ⟨v, e1, e2⟩ := E1.val i d h0
        exact ⟨v, e1, e2.mono g.mv.bb⟩
      | cel es =>
        unfold exitSl at e
        simp only at e
        split at e
        · rename_i hc
          have hp := List.contains_iff_mem.mp hc
          have hi : i < vs.length := by rw [hl]; exact (List.getElem?_eq_some_iff.mp h0).1
          cases q : Γ'[i]? with
          | none => rw [q] at e; cases e
          | some s =>
            rw [q] at e
            simp at e
            subst e
            rw [← hpinv i hi hp]
            exact g.env.val i d q
        · cases e
    · obtain ⟨hp, h3, _, h4⟩ := acc h
      have hi : i < vs.length := by rw [hl]; exact (List.getElem?_eq_some_iff.mp h4).1
      rw [← hpinv i hi hp]
      exact g.env.cel i ds h3
    · obtain ⟨hp, g1, _, _⟩ := acc h1
      obtain ⟨hp2, g2, _, _⟩ := acc h2
      have hi : i < vs.length := by have := (List.getElem?_eq_some_iff.mp h3).1; simpa using this
      have hj : j < vs.length := by have := (List.getElem?_eq_some_iff.mp h4).1; simpa using this
      exact g.env.sep i j ds es l g1 g2 (by rw [hpinv i hi hp]; exact h3) (by rw [hpinv j hj hp2]; exact h4)
  have hm : ∀ a, Own (L2.start N vs) (as ++ List.replicate (N.length - as.length) .un) a ↔ Own (vs.map some) as a := fun a => own_start hl
  refine ⟨⟨⟨fun a o na e => g.mv.kp a o (fun z => na ((hm a).mp z)) e, g.mv.bb, fun a na ha hb => g.mv.off a (fun z => na ((hm a).mp z)) ha hb⟩, fun i ds h1 => ?_, E'⟩, fun v r kk => ?_⟩
  · obtain ⟨_, _, ds0, h3⟩ := acc h1
    exact ⟨ds0, h3⟩
  · cases r with
    | val d => exact kk
    | own i => exact kk
    | nw ds =>
      obtain ⟨l, us, e, h1, h2, h3⟩ := kk
      exact ⟨l, us, e, h1.imp (fun z => (hm l).mp z) id, fun z => h2 (own' z), h3⟩
/-- a def by its body's run over data -/
theorem fn_ab {x qual : Str} {st : Stmt} {f : Addr} {fd : FuncData} {N ps : List Str} {k : Nat} {ap : AP} (pin : List Nat) (F : Fun K x qual st f fd) (S : FnScope N ps (defScope st))
    (hlen : ∀ as Post, ap as Post → as.length = ps.length) (hN : decide (ps.length ≤ N.length) = true)
    (body : ∀ (cdv : Value) (A : Around) (outer : List PySem.Env) (s : Shared) (H : Hp) (E : XK), Room k (A.deeper (PyProof.Rows.envOfC qual (defScope st) s.heap.objs.size f cdv)) →
      ∃ t, PSs (cxOf CX0 P w K mg base N qual (defScope st) f cdv A outer s H E).nox (defBody st) t ∧
        ∀ as Post, ap as Post → WS K pin t (as ++ List.replicate (N.length - as.length) .un) ⟨fun G => Post (.val .non) (exitArgs pin G as), fun r G => Post r (exitArgs pin G as), fun _ => False, fun _ => False, .no⟩) :
    FnOk P w K mg base CX0 (k + 1) f fd ps (toSp K ap) := by
  refine F.ok S (fun vs H Q E h => ?_) (fun cdv A outer s H vs Q E hr h => ?_)
  · obtain ⟨B, as, Post, E1, ha, _⟩ := h
    have := E1.len
    rw [List.length_map] at this
    rw [this]; exact hlen as Post ha
  · obtain ⟨B, as, Post, E1, ha, q⟩ := h
    obtain ⟨t, ht, hw⟩ := body cdv A outer s H E hr
    refine ⟨t, ht, ?_⟩
    have hl : vs.length = as.length := by have := E1.len; simpa using this
    have hps : as.length ≤ N.length := by rw [hlen as Post ha]; exact of_decide_eq_true hN
    have E0 := env_start E1 hps
    have fin : ∀ v σ' B' H' r Γ', GoS K pin (L2.start N vs) B H (as ++ List.replicate (N.length - as.length) .un) σ' B' H' Γ' → ReOk K [] (Own (L2.start N vs) (as ++ List.replicate (N.length - as.length) .un)) (Own σ' Γ') B' H H' v r → Post r (exitArgs pin Γ' as) → Q v H' := by
      intro v σ' B' H' r Γ' g kk p
      obtain ⟨g', kr⟩ := exit_go E1 hl g
      exact q v B' H' r _ g' (kr v r kk) p
    exact hw as Post ha (L2.start N vs) B H _ E0 (fun σ' B' H' Γ' g p => fin .non σ' B' H' (.val .non) Γ' g (Is.raw _) p) (fun v σ' B' H' r Γ' g kk p => fin v σ' B' H' r Γ' g kk p) (fun _ _ _ _ _ p => p.elim) (fun _ _ _ _ _ p => p.elim) (fun _ _ _ _ _ _ _ _ _ p => (show False from p).elim)
end
/-! ### arguments of own defs -/
structure AsOk (K : PySem.W.Frag) (σ : L2.St) (m m' : Addr → Prop) (B' H H' : Hp) (vs : List V) (rs : List Re) : Prop where
  len : vs.length = rs.length
  at_ : ∀ (i : Nat) v r, vs[i]? = some v → rs[i]? = some r → ReOk K σ m m' B' H H' v r
  sep : ∀ (i j : Nat) ds es l, rs[i]? = some (.nw ds) → rs[j]? = some (.nw es) → vs[i]? = some (.ref l) → vs[j]? = some (.ref l) → i = j
def WA (K : PySem.W.Frag) (ta : TA) (Γ : List Sl) (Post : List Re → List Sl → Prop) : Prop := ∀ σ B H, Env K B H σ Γ → ∀ Q : List V → Hp → Prop,
  (∀ vs B' H' rs Γ', Go K σ B H Γ B' H' Γ' → AsOk K σ (Own σ Γ) (Own σ Γ') B' H H' vs rs → Post rs Γ' → Q vs H') → ta σ H Q
section
variable {K : PySem.W.Frag} {Γ : List Sl} {te : TE} {tr : TA}
theorem wa_nil {P : List Re → List Sl → Prop} (p : P [] Γ) : WA K tNil Γ P := fun σ B H E Q q => q [] B H [] Γ (.refl E) ⟨rfl, fun i v r a => by simp at a, fun i j ds es l a => by simp at a⟩ p
theorem wa_cons {P : List Re → List Sl → Prop} (h : WE K te Γ fun r Γ1 => WA K tr Γ1 fun rs Γ2 => P (r :: rs) Γ2) : WA K (tCons te tr) Γ P := fun σ B H E Q q => by
  refine h σ B H E _ fun x B1 H1 r Γ1 g1 k1 p1 => ?_
  refine p1 σ B1 H1 g1.env _ fun vs B2 H2 rs Γ2 g2 k2 p2 => ?_
  have k1' := ReOk.step k1 g2.mv g2.sub
  refine q (x :: vs) B2 H2 (r :: rs) Γ2 (g1.trans g2) ⟨by simp [k2.len], fun i v z a b => ?_, fun i j ds es l a b c d => ?_⟩ p2
  · cases i with
    | zero => simp at a b; subst a b; exact k1'
    | succ i => simp at a b; exact ReOk.earlier (k2.at_ i v z a b) g1.mv fun a h => .inl (g1.sub a h)
  · -- two new lists are apart
    have apart : ∀ (j : Nat) es, r = .nw ds → rs[j]? = some (.nw es) → x = .ref l → vs[j]? = some (.ref l) → False := fun j es hr hj hx hv => by
      subst hr
      obtain ⟨l1, us, e, _, n1, t1, _⟩ := k1
      rw [hx] at e; cases e
      obtain ⟨l2, us2, e2, f2, _⟩ := k2.at_ j _ _ hv hj
      cases e2
      rcases f2 with f2 | f2
      · exact n1 f2
      · rw [t1] at f2; cases f2
    cases i with
    | zero =>
      cases j with
      | zero => rfl
      | succ j => simp at a b c d; exact (apart j es a b c d).elim
    | succ i =>
      cases j with
      | zero =>
        simp at a b c d
        have : ∀ es', r = .nw es' → False := fun es' hr => by
          subst hr
          obtain ⟨l1, us, e, _, n1, t1, _⟩ := k1
          rw [d] at e; cases e
          obtain ⟨l2, us2, e2, f2, _⟩ := k2.at_ i _ _ c a
          cases e2
          rcases f2 with f2 | f2
          · exact n1 f2
          · rw [t1] at f2; cases f2
        exact (this es b).elim
      | succ j =>
        simp at a b c d
        rw [k2.sep i j ds es l a b c d]
end
/-- what the callee gets -/
def argSl (Γ : List Sl) : Re → Sl
  | .val d => .val d
  | .nw ds => .cel ds
  | .own i => match Γ[i]? with
    | some (.cel ds) => .cel ds
    | _ => .un
/-- what is put back -/
def putBack : List Re → List Sl → List Sl → List Sl
  | .own i :: rs, s :: as, Γ => putBack rs as (Γ.set i s)
  | _ :: rs, _ :: as, Γ => putBack rs as Γ
  | _, _, Γ => Γ
def ownsOf : List Re → List Nat
  | .own i :: rs => i :: ownsOf rs
  | _ :: rs => ownsOf rs
  | [] => []
def nodupB : List Nat → Bool
  | [] => true
  | x :: r => !r.contains x && nodupB r
theorem ownsOf_mem {i : Nat} : ∀ {rs : List Re}, i ∈ ownsOf rs ↔ ∃ j : Nat, rs[j]? = some (.own i)
  | [] => by simp [ownsOf]
  | r :: rs => by
    have ih := ownsOf_mem (i := i) (rs := rs)
    have split : (∃ j : Nat, (r :: rs)[j]? = some (.own i)) ↔ r = .own i ∨ ∃ j : Nat, rs[j]? = some (.own i) := by
      constructor
      · rintro ⟨j, h⟩
        cases j with
        | zero => simp at h; exact .inl h
        | succ j => simp at h; exact .inr ⟨j, h⟩
      · rintro (h | ⟨j, h⟩)
        · exact ⟨0, by simp [h]⟩
        · exact ⟨j + 1, by simp [h]⟩
    rw [split]
    cases r with
    | own k => simp only [ownsOf, List.mem_cons, ih, Re.own.injEq]; constructor <;> rintro (h | h) <;> first | exact .inl h.symm | exact .inr h
    | val d => simp [ownsOf, ih]
    | nw ds => simp [ownsOf, ih]
theorem putBack_len : ∀ (rs : List Re) (as Γ : List Sl), (putBack rs as Γ).length = Γ.length
  | [], _, _ => by simp [putBack]
  | .own i :: rs, [], Γ => by simp [putBack]
  | .own i :: rs, s :: as, Γ => by rw [putBack, putBack_len]; simp
  | .val d :: rs, [], Γ => by simp [putBack]
  | .val d :: rs, s :: as, Γ => by rw [putBack, putBack_len]; simp
  | .nw d :: rs, [], Γ => by simp [putBack]
  | .nw d :: rs, s :: as, Γ => by rw [putBack, putBack_len]; simp
theorem putBack_other {i : Nat} : ∀ (rs : List Re) (as Γ : List Sl), i ∉ ownsOf rs → (putBack rs as Γ)[i]? = Γ[i]?
  | [], _, _, _ => by simp [putBack]
  | .own k :: rs, [], Γ, _ => by simp [putBack]
  | .own k :: rs, s :: as, Γ, h => by
    rw [ownsOf, List.mem_cons, not_or] at h
    rw [putBack, putBack_other rs as _ h.2, List.getElem?_set_ne (fun z => h.1 z.symm)]
  | .val d :: rs, [], Γ, _ => by simp [putBack]
  | .val d :: rs, s :: as, Γ, h => by rw [putBack]; exact putBack_other rs as _ h; all_goals simp
  | .nw d :: rs, [], Γ, _ => by simp [putBack]
  | .nw d :: rs, s :: as, Γ, h => by rw [putBack]; exact putBack_other rs as _ h; all_goals simp
theorem putBack_own {i : Nat} : ∀ (rs : List Re) (as Γ : List Sl) (j : Nat), nodupB (ownsOf rs) = true → rs[j]? = some (.own i) → j < as.length → i < Γ.length → (putBack rs as Γ)[i]? = as[j]?
  | [], _, _, _, _, h, _, _ => by simp at h
  | r :: rs, [], Γ, j, _, _, hj, _ => by simp at hj
  | .own k :: rs, s :: as, Γ, 0, nd, h, _, hi => by
    simp at h
    subst h
    rw [ownsOf, nodupB, Bool.and_eq_true] at nd
    have : k ∉ ownsOf rs := fun z => by
      have := List.contains_iff_mem.mpr z
      rw [this] at nd; exact absurd nd.1 (by decide)
    rw [putBack, putBack_other rs as _ this, List.getElem?_set_self hi]; rfl
  | .own k :: rs, s :: as, Γ, j + 1, nd, h, hj, hi => by
    simp at h hj
    rw [ownsOf, nodupB, Bool.and_eq_true] at nd
    rw [putBack, putBack_own rs as _ j nd.2 h hj (by simpa using hi)]; simp
  | .val d :: rs, s :: as, Γ, 0, nd, h, _, hi => by simp at h
  | .val d :: rs, s :: as, Γ, j + 1, nd, h, hj, hi => by
    simp at h hj
    rw [putBack, putBack_own rs as _ j nd h hj hi]; simp
    all_goals simp
  | .nw d :: rs, s :: as, Γ, 0, nd, h, _, hi => by simp at h
  | .nw d :: rs, s :: as, Γ, j + 1, nd, h, hj, hi => by
    simp at h hj
    rw [putBack, putBack_own rs as _ j nd h hj hi]; simp
    all_goals simp
theorem nodupB_ix {rs : List Re} {i : Nat} : ∀ {j k : Nat}, nodupB (ownsOf rs) = true → rs[j]? = some (.own i) → rs[k]? = some (.own i) → j = k := by
  induction rs with
  | nil => intro j k _ h; simp at h
  | cons r rs ih =>
    intro j k nd h1 h2
    have tail : nodupB (ownsOf rs) = true := by
      cases r with
      | own i => rw [ownsOf, nodupB, Bool.and_eq_true] at nd; exact nd.2
      | val d => exact nd
      | nw d => exact nd
    have head : r = .own i → ∀ n : Nat, rs[n]? = some (.own i) → False := fun e n hn => by
      subst e
      rw [ownsOf, nodupB, Bool.and_eq_true] at nd
      have : i ∈ ownsOf rs := ownsOf_mem.mpr ⟨n, hn⟩
      rw [List.contains_iff_mem.mpr this] at nd
      exact absurd nd.1 (by decide)
    cases j with
    | zero =>
      cases k with
      | zero => rfl
      | succ k => simp at h1 h2; exact (head h1 k h2).elim
    | succ j =>
      cases k with
      | zero => simp at h1 h2; exact (head h2 j h1).elim
      | succ k => simp at h1 h2; rw [ih tail h1 h2]
theorem call_go {K : PySem.W.Frag} {σ : L2.St} {B H B1 H1 : Hp} {Γ Γ1 : List Sl} {vs : List V} {rs : List Re} (E : Env K B H σ Γ) (g1 : Go K σ B H Γ B1 H1 Γ1) (k1 : AsOk K σ (Own σ Γ) (Own σ Γ1) B1 H H1 vs rs)
    (nd : nodupB (ownsOf rs) = true) : Env K B1 H1 (vs.map some) (rs.map (argSl Γ1)) ∧ ∀ B2 H2 as', Go K (vs.map some) B1 H1 (rs.map (argSl Γ1)) B2 H2 as' → Go K σ B H Γ B2 H2 (putBack rs as' Γ1) ∧
      ∀ v r, ReOk K [] (Own (vs.map some) (rs.map (argSl Γ1))) (Own (vs.map some) as') B2 H1 H2 v r → ReOk K σ (Own σ Γ) (Own σ (putBack rs as' Γ1)) B2 H H2 v r := by
  have hl := k1.len
  have aget : ∀ {i : Nat} {s : Sl}, (rs.map (argSl Γ1))[i]? = some s → ∃ r, rs[i]? = some r ∧ s = argSl Γ1 r := fun {i s} h => by
    rw [List.getElem?_map] at h
    cases q : rs[i]? with
    | none => rw [q] at h; cases h
    | some r => rw [q] at h; simp at h; exact ⟨r, rfl, h.symm⟩
  have vget : ∀ {i : Nat} {r : Re}, rs[i]? = some r → ∃ v, vs[i]? = some v ∧ (vs.map some)[i]? = some (some v) ∧ ReOk K σ (Own σ Γ) (Own σ Γ1) B1 H H1 v r := fun {i r} h => by
    have hi : i < vs.length := by rw [hl]; exact (List.getElem?_eq_some_iff.mp h).1
    refine ⟨vs[i], List.getElem?_eq_getElem hi, by rw [List.getElem?_map, List.getElem?_eq_getElem hi]; rfl, k1.at_ i _ _ (List.getElem?_eq_getElem hi) h⟩
  -- an owned argument: new or a slot's
  have accArg : ∀ {i : Nat} {ds : Cn}, (rs.map (argSl Γ1))[i]? = some (.cel ds) → (rs[i]? = some (.nw ds)) ∨ ∃ k, rs[i]? = some (.own k) ∧ Γ1[k]? = some (.cel ds) := fun {i ds} h => by
    obtain ⟨r, h1, h2⟩ := aget h
    cases r with
    | val d => cases h2
    | nw es => cases h2; exact .inl h1
    | own k =>
      have h2' : Sl.cel ds = (match Γ1[k]? with
        | some (.cel ds) => .cel ds
        | _ => .un) := h2
      split at h2'
      · rename_i es he
        cases h2'
        exact .inr ⟨k, h1, he⟩
      · cases h2'
  -- who is owned on the callee's side
  have ownArg : ∀ {a}, Own (vs.map some) (rs.map (argSl Γ1)) a → ((∃ (i : Nat) (ds : Cn), rs[i]? = some (Re.nw ds) ∧ vs[i]? = some (V.ref a)) ∨ ∃ (i k : Nat) (ds : Cn), rs[i]? = some (Re.own k) ∧ Γ1[k]? = some (.cel ds) ∧ vs[i]? = some (.ref a) ∧ σ[k]? = some (some (.ref a))) := fun {a} ⟨i, ds, h1, h2⟩ => by
    rw [List.getElem?_map] at h2
    cases hv : vs[i]? with
    | none => rw [hv] at h2; cases h2
    | some v =>
      rw [hv] at h2
      simp at h2
      subst h2
      rcases accArg h1 with h | ⟨k, h, hk⟩
      · exact .inl ⟨i, ds, h, hv⟩
      · obtain ⟨v', e1, _, l, e2, e3⟩ := vget h
        rw [hv] at e1; cases e1; cases e2
        exact .inr ⟨i, k, ds, h, hk, hv, e3⟩
  have newOff : ∀ {i : Nat} {ds a}, rs[i]? = some (.nw ds) → vs[i]? = some (.ref a) → (Own σ Γ a ∨ H a = none) ∧ ¬ Own σ Γ1 a := fun {i ds a} h1 h2 => by
    obtain ⟨v', e1, _, l, us, e2, e3, e4, _⟩ := vget h1
    rw [h2] at e1; cases e1; cases e2
    exact ⟨e3, e4⟩
  have ownBack : ∀ {a}, Own (vs.map some) (rs.map (argSl Γ1)) a → Own σ Γ a ∨ H a = none := fun {a} o => by
    rcases ownArg o with ⟨i, ds, h1, h2⟩ | ⟨i, k, ds, h1, h2, h3, h4⟩
    · exact (newOff h1 h2).1
    · exact .inl (g1.sub a ⟨k, ds, h2, h4⟩)
  have E2 : Env K B1 H1 (vs.map some) (rs.map (argSl Γ1)) := by
    refine ⟨by simp [hl], g1.env.bh, fun i d h => ?_, fun i ds h => ?_, fun i j ds es l h1 h2 h3 h4 => ?_⟩
    · obtain ⟨r, h1, h2⟩ := aget h
      cases r with
      | val d' => cases h2; obtain ⟨v, _, e1, e2⟩ := vget h1; exact ⟨v, e1, e2⟩
      | nw es => cases h2
      | own k =>
        have h2' : Sl.val d = (match Γ1[k]? with
          | some (.cel ds) => .cel ds
          | _ => .un) := h2
        split at h2' <;> cases h2'
    · rcases accArg h with h1 | ⟨k, h1, hk⟩
      · obtain ⟨v, _, e1, l, us, e2, _, _, e3, e4, e5⟩ := vget h1
        subst e2
        exact ⟨l, us, e1, e3, e4, e5⟩
      · obtain ⟨v, _, e1, l, e2, e3⟩ := vget h1
        subst e2
        obtain ⟨c, us, f1, f2, f3, f4⟩ := g1.env.cel k ds hk
        rw [e3] at f1; cases f1
        exact ⟨l, us, e1, f2, f3, f4⟩
    · have v3 : vs[i]? = some (.ref l) := by
        rw [List.getElem?_map] at h3
        cases q : vs[i]? with
        | none => rw [q] at h3; cases h3
        | some v => rw [q] at h3; simp at h3; rw [h3]
      have v4 : vs[j]? = some (.ref l) := by
        rw [List.getElem?_map] at h4
        cases q : vs[j]? with
        | none => rw [q] at h4; cases h4
        | some v => rw [q] at h4; simp at h4; rw [h4]
      rcases accArg h1 with a1 | ⟨k, a1, b1⟩
      · rcases accArg h2 with a2 | ⟨k2, a2, b2⟩
        · exact k1.sep i j ds es l a1 a2 v3 v4
        · obtain ⟨v', e1, _, l2, e2, e3⟩ := vget a2
          rw [v4] at e1; cases e1; cases e2
          exact absurd ⟨k2, es, b2, e3⟩ (newOff a1 v3).2
      · obtain ⟨v', e1, _, l2, e2, e3⟩ := vget a1
        rw [v3] at e1; cases e1; cases e2
        rcases accArg h2 with a2 | ⟨k2, a2, b2⟩
        · exact absurd ⟨k, ds, b1, e3⟩ (newOff a2 v4).2
        · obtain ⟨v', f1, _, l2, f2, f3⟩ := vget a2
          rw [v4] at f1; cases f1; cases f2
          have := g1.env.sep k k2 ds es l b1 b2 e3 f3
          subst this
          exact nodupB_ix nd a1 a2
  refine ⟨E2, fun B2 H2 as' g2 => ?_⟩
  have hal : as'.length = rs.length := by
    have := g2.env.len
    rw [List.length_map] at this
    omega
  -- slot i of the caller afterwards
  have slot : ∀ {i : Nat} {s : Sl}, (putBack rs as' Γ1)[i]? = some s → (∃ j : Nat, rs[j]? = some (.own i) ∧ as'[j]? = some s ∧ ∃ v, (vs.map some)[j]? = some (some v) ∧ σ[i]? = some (some v)) ∨ (i ∉ ownsOf rs ∧ Γ1[i]? = some s) := fun {i s} h => by
    by_cases hi : i ∈ ownsOf rs
    · obtain ⟨j, hj⟩ := ownsOf_mem.mp hi
      have hil : i < Γ1.length := by
        have := (List.getElem?_eq_some_iff.mp h).1
        rw [putBack_len] at this; exact this
      rw [putBack_own rs as' Γ1 j nd hj (by rw [hal]; exact (List.getElem?_eq_some_iff.mp hj).1) hil] at h
      obtain ⟨v, _, e1, l, e2, e3⟩ := vget hj
      exact .inl ⟨j, hj, h, v, e1, by rw [e2]; exact e3⟩
    · rw [putBack_other rs as' Γ1 hi] at h
      exact .inr ⟨hi, h⟩
  -- a slot's list that was not handed over
  have kept : ∀ {i : Nat} {ds : Cn} {l : Addr}, i ∉ ownsOf rs → Γ1[i]? = some (.cel ds) → σ[i]? = some (some (.ref l)) → ¬ Own (vs.map some) (rs.map (argSl Γ1)) l := fun {i ds l} hi h1 h2 o => by
    rcases ownArg o with ⟨j, es, a1, a2⟩ | ⟨j, k, es, a1, a2, a3, a4⟩
    · exact (newOff a1 a2).2 ⟨i, ds, h1, h2⟩
    · have := g1.env.sep i k ds es l h1 a2 h2 a4
      subst this
      exact hi (ownsOf_mem.mpr ⟨j, a1⟩)
  have ac2 : ∀ (i : Nat) ds, (putBack rs as' Γ1)[i]? = some (.cel ds) → ∃ es, Γ1[i]? = some (.cel es) := fun i ds h1 => by
    rcases slot h1 with ⟨j, hj, ha, v, e1, e2⟩ | ⟨_, h⟩
    · obtain ⟨es, h⟩ := g2.ac j ds ha
      rcases accArg h with h | ⟨k, h, hk⟩
      · rw [hj] at h; cases h
      · rw [hj] at h; cases h; exact ⟨es, hk⟩
    · exact ⟨ds, h⟩
  have kOff : ∀ {a}, ¬ Own σ Γ a → H a ≠ none → ¬ Own (vs.map some) (rs.map (argSl Γ1)) a := fun {a} na ha o => (ownBack o).elim na ha
  have E3 : Env K B2 H2 σ (putBack rs as' Γ1) := by
    refine ⟨by rw [putBack_len]; exact g1.env.len, g2.env.bh, fun i d h => ?_, fun i ds h => ?_, fun i j ds es l h1 h2 h3 h4 => ?_⟩
    · rcases slot h with ⟨j, hj, ha, v, e1, e2⟩ | ⟨hi, h⟩
      · obtain ⟨v', f1, f2⟩ := g2.env.val j d ha
        rw [e1] at f1; cases f1
        exact ⟨v, e2, f2⟩
      · obtain ⟨v, f1, f2⟩ := g1.env.val i d h
        exact ⟨v, f1, f2.mono g2.mv.bb⟩
    · rcases slot h with ⟨j, hj, ha, v, e1, e2⟩ | ⟨hi, h⟩
      · obtain ⟨l, us, f1, f2⟩ := g2.env.cel j ds ha
        rw [e1] at f1; cases f1
        exact ⟨l, us, e2, f2⟩
      · obtain ⟨l, us, f1, f2, f3, f4⟩ := g1.env.cel i ds h
        have nk := kept hi h f1
        exact ⟨l, us, f1, g2.mv.kp l _ nk f2, g2.mv.off l nk (by rw [f2]; exact fun z => nomatch z) f3, f4.mono g2.mv.bb⟩
    · obtain ⟨d1, b1⟩ := ac2 i ds h1
      obtain ⟨d2, b2⟩ := ac2 j es h2
      exact g1.env.sep i j d1 d2 l b1 b2 h3 h4
  refine ⟨⟨⟨fun a o na e => ?_, g1.mv.bb.trans g2.mv.bb, fun a na ha hb => ?_⟩, fun i ds h => ?_, E3⟩, fun v r k2 => ?_⟩
  · exact g2.mv.kp a o (kOff na (by rw [e]; exact fun z => nomatch z)) (g1.mv.kp a o na e)
  · refine g2.mv.off a (kOff na ha) ?_ (g1.mv.off a na ha hb)
    cases q : H a with
    | none => exact absurd q ha
    | some o => rw [g1.mv.kp a o na q]; exact fun z => nomatch z
  · obtain ⟨es, h1⟩ := ac2 i ds h
    exact g1.ac i es h1
  · cases r with
    | val d => exact k2
    | own i => obtain ⟨l, _, e⟩ := k2; simp at e
    | nw ds =>
      obtain ⟨l, us, e, f1, f2, f3, f4, f5⟩ := k2
      refine ⟨l, us, e, ?_, ?_, f3, f4, f5⟩
      · rcases f1 with f1 | f1
        · exact ownBack f1
        · exact g1.mv.back f1
      · rintro ⟨i, es, h1, h2⟩
        rcases slot h1 with ⟨j, hj, ha, w, e1, e2⟩ | ⟨hi, h⟩
        · rw [h2] at e2; cases e2
          exact f2 ⟨j, es, ha, e1⟩
        · have nk := kept hi h h2
          rcases f1 with f1 | f1
          · exact nk f1
          · obtain ⟨us', t1, _⟩ := g1.env.tracked ⟨i, es, h, h2⟩
            rw [t1] at f1; cases f1
theorem call_core {K : PySem.W.Frag} {σ : L2.St} {B H B1 H1 : Hp} {Γ Γ1 : List Sl} {vs : List V} {rs : List Re} {Post : Re → List Sl → Prop} {ap : AP} {E0 : XK} {Q : VK} (E : Env K B H σ Γ) (g1 : Go K σ B H Γ B1 H1 Γ1) (k1 : AsOk K σ (Own σ Γ) (Own σ Γ1) B1 H H1 vs rs)
    (nd : nodupB (ownsOf rs) = true) (hap : ap (rs.map (argSl Γ1)) fun r as' => Post r (putBack rs as' Γ1)) (q : ∀ v B' H' r Γ', Go K σ B H Γ B' H' Γ' → ReOk K σ (Own σ Γ) (Own σ Γ') B' H H' v r → Post r Γ' → Q v H') : toSp K ap vs H1 Q E0 := by
  obtain ⟨E2, kk⟩ := call_go E g1 k1 nd
  refine ⟨B1, rs.map (argSl Γ1), _, E2, hap, fun v B2 H2 r as' g2 k2 p => ?_⟩
  obtain ⟨g, kr⟩ := kk B2 H2 as' g2
  exact q v B2 H2 r _ g (kr v r k2) p
theorem we_call {K : PySem.W.Frag} {Γ : List Sl} {Post : Re → List Sl → Prop} {ap : AP} {E0 : XK} {ta : TA} (h : WA K ta Γ fun rs Γ1 => nodupB (ownsOf rs) = true ∧ ap (rs.map (argSl Γ1)) fun r as' => Post r (putBack rs as' Γ1)) : WE K (tCall (toSp K ap) [] E0 ta) Γ Post := fun σ B H E Q q => by
  refine h σ B H E _ fun vs B1 H1 rs Γ1 g1 k1 p1 => ?_
  rw [List.append_nil]
  exact call_core E g1 k1 p1.1 p1.2 q
end Ab
namespace Ab
open PySem L2
/-! ### list comprehensions -/
def keepV : Option Sl → Sl
  | some (.val d) => .val d
  | _ => .un
section
variable {K : PySem.W.Frag} {σ : L2.St} {B H : Hp} {Γ : List Sl}
theorem keepV_acc {o : Option Sl} {ds : Cn} (h : keepV o = .cel ds) : False := by
  unfold keepV at h
  split at h <;> cases h
/-- a list beside base and owner may change -/
theorem Env.updOff {D : Addr} {o : HO} (E : Env K B H σ Γ) (hb : B D = none) (hn : ¬ Own σ Γ D) : Env K B (upd H D o) σ Γ := by
  refine ⟨E.len, fun a u e => ?_, E.val, fun i ds h => ?_, E.sep⟩
  · rw [upd_ne (ne_of_none e hb)]; exact E.bh a u e
  · obtain ⟨l, vs, e, e1, e2, q⟩ := E.cel i ds h
    have : l ≠ D := fun z => by subst z; exact hn ⟨i, ds, h, e⟩
    exact ⟨l, vs, e, by rw [upd_ne this]; exact e1, e2, q⟩
theorem env_back {j : Nat} {x : Option V} {Γ0 : List Sl} {B0 H0 : Hp} (E0 : Env K B0 H0 σ Γ0) (bb : Same B0 B) (E : Env K B H (σ.set j x) Γ) (hj : j < Γ.length) : Env K B H σ (Γ.set j (keepV Γ0[j]?)) := by
  have ne : ∀ {k : Nat} {ds : Cn}, (Γ.set j (keepV Γ0[j]?))[k]? = some (.cel ds) → j ≠ k := fun {k ds} h z => by
    subst z
    rw [List.getElem?_set_self hj] at h
    exact keepV_acc (Option.some.inj h)
  refine ⟨?_, E.bh, fun k d h => ?_, fun k ds h => ?_, fun i k ds es l h1 h2 h3 h4 => ?_⟩
  · have := E.len
    rw [List.length_set] at this ⊢
    exact this
  · by_cases hk : j = k
    · subst hk
      rw [List.getElem?_set_self hj] at h
      cases q : Γ0[j]? with
      | none => rw [q] at h; cases h
      | some s =>
        rw [q] at h
        cases s with
        | un => cases h
        | cel ds => cases h
        | val d' =>
          cases h
          obtain ⟨v, e1, e2⟩ := E0.val j d q
          exact ⟨v, e1, e2.mono bb⟩
    · rw [List.getElem?_set_ne hk] at h
      obtain ⟨v, e1, e2⟩ := E.val k d h
      rw [List.getElem?_set_ne hk] at e1
      exact ⟨v, e1, e2⟩
  · have hk := ne h
    rw [List.getElem?_set_ne hk] at h
    obtain ⟨l, vs, e1, e2⟩ := E.cel k ds h
    rw [List.getElem?_set_ne hk] at e1
    exact ⟨l, vs, e1, e2⟩
  · have a1 := ne h1
    have a2 := ne h2
    rw [List.getElem?_set_ne a1] at h1
    rw [List.getElem?_set_ne a2] at h2
    exact E.sep i k ds es l h1 h2 (by rw [List.getElem?_set_ne a1]; exact h3) (by rw [List.getElem?_set_ne a2]; exact h4)
theorem own_back {j : Nat} {x : Option V} {s : Sl} {a : Addr} (hs : ∀ ds, s ≠ .cel ds) (h : Own σ (Γ.set j s) a) : Own (σ.set j x) Γ a := by
  obtain ⟨k, ds, h1, h2⟩ := h
  by_cases hk : j = k
  · subst hk
    have hj : j < Γ.length := by
      have := (List.getElem?_eq_some_iff.mp h1).1
      simpa using this
    rw [List.getElem?_set_self hj] at h1
    exact absurd (Option.some.inj h1) (hs ds)
  · rw [List.getElem?_set_ne hk] at h1
    exact ⟨k, ds, h1, by rw [List.getElem?_set_ne hk]; exact h2⟩
theorem Mv.iff {m m1 : Addr → Prop} {B' H' : Hp} (h : ∀ a, m1 a → m a) (x : Mv m1 B H B' H') : Mv m B H B' H' := ⟨fun a o na e => x.kp a o (fun z => na (h a z)) e, x.bb, fun a na ha hb => x.off a (fun z => na (h a z)) ha hb⟩
structure LcSt (K : PySem.W.Frag) (σ : L2.St) (B H : Hp) (Γ : List Sl) (j : Nat) (D : Addr) (Inv : Nat → List Dt → List Sl → Prop) (i : Nat) (H' : Hp) (B' : Hp) (Γ' : List Sl) (vs : List V) (es : List Dt) : Prop where
  mv : Mv (Own σ Γ) B H B' H'
  ac : ∀ (k : Nat) ds, Γ'[k]? = some (.cel ds) → ∃ es, Γ[k]? = some (.cel es)
  env : Env K B' H' σ Γ'
  hD : H' D = some (.lst vs)
  bD : B' D = none
  oD : ¬ Own σ Γ' D
  its : IsA K B' vs es
  len : es.length ≤ i
  inv : Inv i es Γ'
theorem lc_run {j n : Nat} {J : It} {dt : Nat → Dt} {tt : TT} {te : TE} {Post : Re → List Sl → Prop} {Q : VK} (E : Env K B H σ Γ) (hj : j < Γ.length) (hja : ∀ ds, Γ[j]? ≠ some (.cel ds)) (hn : n ≤ 1000000)
    (Inv : Nat → List Dt → List Sl → Prop)
    (go : ∀ i B' H' es Γ', i < n → Same B B' → Env K B' H' σ Γ' → Inv i es Γ' → J.go i H') (yl : ∀ i H' x H'' B' es Γ', i < n → Same B B' → Env K B' H' σ Γ' → Inv i es Γ' → J.yld i H' x H'' → H'' = H' ∧ Is K B' x (dt i)) (stop : ∀ B' H' es Γ', Same B B' → Env K B' H' σ Γ' → Inv n es Γ' → J.stop n H')
    (i0 : Inv 0 [] Γ)
    (turn : ∀ i es Γ', i < n → Inv i es Γ' → WT K tt (Γ'.set j (.val (dt i))) fun b Γ2 => (b = true → WE K te Γ2 fun r Γ3 => ∃ d, r.dt? = some d ∧ Inv (i + 1) (es ++ [d]) (Γ3.set j (keepV Γ[j]?))) ∧ (b = false → Inv (i + 1) es (Γ2.set j (keepV Γ[j]?))))
    (done : ∀ es Γ', Inv n es Γ' → Post (.new es) Γ') (q : ∀ v B' H' r Γ', Go K σ B H Γ B' H' Γ' → ReOk K σ (Own σ Γ) (Own σ Γ') B' H H' v r → Post r Γ' → Q v H') :
    ∀ D, H D = none → ∃ W : Nat → Nat → Hp → Prop, (∃ m, W 0 m (upd H D (.lst []))) ∧ ∀ i m H, W i m H →
      (J.stop i H ∧ Q (.ref D) H) ∨ (J.go i H ∧ ∃ Nx : Hp → Prop, (∀ H', Nx H' → ∃ m', m' < m ∧ W (i + 1) m' H') ∧ ∀ x H', J.yld i H x H' → gName j x (wipe σ [j]) H' fun σ2 H2 => wipe σ2 [j] = wipe σ [j] ∧ tt σ2 H2 fun b H3 =>
        if b = true then te σ2 H3 fun y H4 => ∃ acc, H4 D = some (.lst acc) ∧ acc.length < sizeLine ∧ Nx (upd H4 D (.lst (acc ++ [y]))) else Nx H3) := by
  intro D hD
  have hjs : j < σ.length := by rw [E.len]; exact hj
  refine ⟨fun i m H' => m = n - i ∧ i ≤ n ∧ ∃ B' Γ' vs es, LcSt K σ B H Γ j D Inv i H' B' Γ' vs es, ⟨n, by simp, Nat.zero_le _, B, Γ, [], [], ⟨(Go.beside E hD).mv, fun k ds h => ⟨ds, h⟩, E.beside hD, upd_same, E.base_none hD, E.not_own hD, .nil, Nat.le_refl _, i0⟩⟩, ?_⟩
  rintro i m H' ⟨rfl, hi, B', Γ', vs, es, S⟩
  by_cases hlt : i < n
  · refine .inr ⟨go i B' H' es Γ' hlt S.mv.bb S.env S.inv, fun H2 => ∃ B' Γ' vs es, LcSt K σ B H Γ j D Inv (i + 1) H2 B' Γ' vs es, fun H2 ⟨B2, Γ2, vs2, es2, S2⟩ => ⟨n - (i + 1), by omega, rfl, hlt, B2, Γ2, vs2, es2, S2⟩, fun x H2 hy => ?_⟩
    obtain ⟨e, hx⟩ := yl i H' x H2 B' es Γ' hlt S.mv.bb S.env S.inv hy
    subst e
    have hj' : j < Γ'.length := by rw [← S.env.len]; exact hjs
    have es2 : (wipe σ [j]).set j (some x) = σ.set j (some x) := by
      show (σ.set j none).set j (some x) = _
      rw [List.set_set]
    show wipe ((wipe σ [j]).set j (some x)) [j] = wipe σ [j] ∧ _
    rw [es2]
    refine ⟨by show (σ.set j (some x)).set j none = σ.set j none; rw [List.set_set], ?_⟩
    have E2 := S.env.setV hj' hx
    -- owners within and without
    have ow1 : ∀ a, Own (σ.set j (some x)) (Γ'.set j (.val (dt i))) a → Own σ Γ' a := fun a h => h.set_ne fun ds z => nomatch z
    have nA : ¬ Own (σ.set j (some x)) (Γ'.set j (.val (dt i))) D := fun z => S.oD (ow1 D z)
    have tD : H2 D ≠ none := by rw [S.hD]; exact fun z => nomatch z
    -- what a turn comes to
    have fin : ∀ {B3 H3 : Hp} {Γ3 : List Sl}, Go K (σ.set j (some x)) B' H2 (Γ'.set j (.val (dt i))) B3 H3 Γ3 →
        Mv (Own σ Γ) B H B3 H3 ∧ (∀ (k : Nat) ds, (Γ3.set j (keepV Γ[j]?))[k]? = some (.cel ds) → ∃ es, Γ[k]? = some (.cel es)) ∧ Env K B3 H3 σ (Γ3.set j (keepV Γ[j]?)) ∧ H3 D = some (.lst vs) ∧ B3 D = none ∧ ¬ Own σ (Γ3.set j (keepV Γ[j]?)) D ∧ IsA K B3 vs es := by
      intro B3 H3 Γ3 g
      have hj3 : j < Γ3.length := by
        have h1 := g.env.len
        rw [List.length_set] at h1
        omega
      have subO : ∀ a, Own σ (Γ3.set j (keepV Γ[j]?)) a → Own (σ.set j (some x)) Γ3 a := fun a h => own_back (fun ds z => keepV_acc z) h
      refine ⟨S.mv.trans (m1 := Own σ Γ') (fun a ⟨k, ds, h1, h2⟩ => .inl (by obtain ⟨es, h⟩ := S.ac k ds h1; exact ⟨k, es, h, h2⟩)) (g.mv.iff ow1), fun k ds h => ?_, env_back E (S.mv.bb.trans g.mv.bb) g.env hj3, g.mv.kp D _ nA S.hD, g.mv.off D nA tD S.bD, fun z => nA (g.sub D (subO D z)), S.its.mono g.mv.bb⟩
      by_cases hk : j = k
      · subst hk
        rw [List.getElem?_set_self hj3] at h
        exact (keepV_acc (Option.some.inj h)).elim
      · rw [List.getElem?_set_ne hk] at h
        obtain ⟨es', h1⟩ := g.ac k ds h
        rw [List.getElem?_set_ne hk] at h1
        exact S.ac k es' h1
    refine turn i es Γ' hlt S.inv (σ.set j (some x)) B' H2 E2 _ fun b B3 H3 Γ3 g3 p => ?_
    cases b with
    | true =>
      show te (σ.set j (some x)) H3 _
      have p1 : WE K te Γ3 fun r Γ4 => ∃ d, r = .val d ∧ Inv (i + 1) (es ++ [d]) (Γ4.set j (keepV Γ[j]?)) := we_freeze (we_mono (p.1 rfl) fun r Γ4 ⟨d, hd, k⟩ => ⟨d, hd, d, rfl, k⟩)
      refine p1 (σ.set j (some x)) B3 H3 g3.env _ fun y B4 H4 r Γ4 g4 k4 p4 => ?_
      obtain ⟨d, rfl, inv⟩ := p4
      obtain ⟨f1, f2, f3, f4, f5, f6, f7⟩ := fin (g3.trans g4)
      refine ⟨vs, f4, ?_, B4, Γ4.set j (keepV Γ[j]?), vs ++ [y], es ++ [d], ?_⟩
      · rw [S.its.len]
        have := S.len
        exact Nat.lt_of_le_of_lt this (Nat.lt_of_lt_of_le hlt (Nat.le_trans hn (by decide)))
      · refine ⟨⟨fun a o na e => ?_, f1.bb, f1.off⟩, f2, f3.updOff f5 f6, upd_same, f5, f6, f7.snoc k4, by rw [List.length_append]; have := S.len; simp; omega, inv⟩
        rw [upd_ne (ne_of_none e hD)]
        exact f1.kp a o na e
    | false =>
      show ∃ B' Γ' vs es, _
      obtain ⟨f1, f2, f3, f4, f5, f6, f7⟩ := fin g3
      exact ⟨B3, Γ3.set j (keepV Γ[j]?), vs, es, ⟨f1, f2, f3, f4, f5, f6, f7, Nat.le_trans S.len (Nat.le_succ i), p.2 rfl⟩⟩
  · have e : i = n := by omega
    subst e
    exact .inl ⟨stop B' H' es Γ' S.mv.bb S.env S.inv, q (.ref D) B' H' (.new es) Γ' ⟨S.mv, S.ac, S.env⟩ ⟨D, _, rfl, .inr hD, S.oD, S.hD, S.bD, vs, rfl, S.its⟩ (done es Γ' S.inv)⟩
end
section
variable {K : PySem.W.Frag} {Γ : List Sl} {Post : Re → List Sl → Prop} {te tl : TE} {tt : TT} {j : Nat}
def notAcc : Option Sl → Bool
  | some (.cel _) => false
  | _ => true
theorem notAcc_ne {o : Option Sl} (h : notAcc o = true) (ds : Cn) : o ≠ some (.cel ds) := fun z => by subst z; cases h
theorem we_lc1 {t1 : TA} (h : WD K t1 Γ fun ds Γ1 => ∃ n : Nat, ds = [.int n] ∧ n ≤ 1000000 ∧ decide (j < Γ1.length) = true ∧ notAcc Γ1[j]? = true ∧ ∃ Inv : Nat → List Dt → List Sl → Prop, Inv 0 [] Γ1 ∧
      (∀ i es Γ', i < n → Inv i es Γ' → WT K tt (Γ'.set j (.val (.int i))) fun b Γ2 => (b = true → WE K te Γ2 fun r Γ3 => ∃ d, r.dt? = some d ∧ Inv (i + 1) (es ++ [d]) (Γ3.set j (keepV Γ1[j]?))) ∧ (b = false → Inv (i + 1) es (Γ2.set j (keepV Γ1[j]?)))) ∧
      ∀ es Γ', Inv n es Γ' → Post (.new es) Γ') : WE K (tLc (iRng1 t1) (gName j) tt te [j]) Γ Post := fun σ B H E Q q => by
  refine h σ B H E _ fun vs B1 H1 ds Γ1 g1 k p => ?_
  obtain ⟨n, rfl, hn, hj, hja, Inv, i0, turn, done⟩ := p
  have ev : vs = [.int n] := IsA.rawsI (xs := [.int n]) k
  refine ⟨n, ev, by omega, by omega, ?_⟩
  have e0 : ((n : Int)).toNat = n := by omega
  rw [e0]
  refine lc_run (n := n) (dt := fun i => .int i) (J := Itr 0 n) g1.env (of_decide_eq_true hj) (notAcc_ne hja) hn Inv (fun i B' H' _ _ hi _ _ _ => hi) (fun i H' x H'' B' _ _ hi _ _ _ hy => ?_) (fun B' H' _ _ _ _ _ => Nat.le_refl _) i0 turn done fun v B2 H2 r Γ2 g2 k2 p2 => q v B2 H2 r Γ2 (g1.trans g2) (ReOk.earlier k2 g1.mv fun a h => .inl (g1.sub a h)) p2
  obtain ⟨e1, e2⟩ := hy
  subst e1 e2
  rw [Int.zero_add]
  exact ⟨rfl, .raw _⟩
theorem we_lc2 {t1 : TA} (h : WD K t1 Γ fun ds Γ1 => ∃ lo hi : Int, ds = [.int lo, .int hi] ∧ (-(2 ^ 62) ≤ lo ∧ lo < 2 ^ 62 ∧ -(2 ^ 62) ≤ hi ∧ hi < 2 ^ 62) ∧ (hi - lo).toNat ≤ 1000000 ∧ decide (j < Γ1.length) = true ∧ notAcc Γ1[j]? = true ∧ ∃ Inv : Nat → List Dt → List Sl → Prop, Inv 0 [] Γ1 ∧
      (∀ (i : Nat) es Γ', lo + i < hi → Inv i es Γ' → WT K tt (Γ'.set j (.val (.int (lo + i)))) fun b Γ2 => (b = true → WE K te Γ2 fun r Γ3 => ∃ d, r.dt? = some d ∧ Inv (i + 1) (es ++ [d]) (Γ3.set j (keepV Γ1[j]?))) ∧ (b = false → Inv (i + 1) es (Γ2.set j (keepV Γ1[j]?)))) ∧
      ∀ es Γ', Inv (hi - lo).toNat es Γ' → Post (.new es) Γ') : WE K (tLc (iRng2 t1) (gName j) tt te [j]) Γ Post := fun σ B H E Q q => by
  refine h σ B H E _ fun vs B1 H1 ds Γ1 g1 k p => ?_
  obtain ⟨lo, hi, rfl, hb, hn, hj, hja, Inv, i0, turn, done⟩ := p
  have ev : vs = [.int lo, .int hi] := IsA.rawsI (xs := [.int lo, .int hi]) k
  refine ⟨lo, hi, ev, hb, ?_⟩
  refine lc_run (n := (hi - lo).toNat) (dt := fun i => .int (lo + i)) (J := Itr lo (hi - lo).toNat) g1.env (of_decide_eq_true hj) (notAcc_ne hja) hn Inv (fun i B' H' _ _ hi _ _ _ => hi) (fun i H' x H'' B' _ _ hi _ _ _ hy => ?_) (fun B' H' _ _ _ _ _ => Nat.le_refl _) i0 (fun i es Γ' hi' => turn i es Γ' (by omega)) done fun v B2 H2 r Γ2 g2 k2 p2 => q v B2 H2 r Γ2 (g1.trans g2) (ReOk.earlier k2 g1.mv fun a h => .inl (g1.sub a h)) p2
  obtain ⟨e1, e2⟩ := hy
  subst e1 e2
  exact ⟨rfl, .raw _⟩
/-- over a tuple -/
theorem we_lcT (h : WE K tl Γ fun z Γ1 => ∃ ds, z = .val (.tup ds) ∧ ds.length ≤ 1000000 ∧ decide (j < Γ1.length) = true ∧ notAcc Γ1[j]? = true ∧ ∃ Inv : Nat → List Dt → List Sl → Prop, Inv 0 [] Γ1 ∧
      (∀ (i : Nat) d es Γ', ds[i]? = some d → Inv i es Γ' → WT K tt (Γ'.set j (.val d)) fun b Γ2 => (b = true → WE K te Γ2 fun r Γ3 => ∃ d, r.dt? = some d ∧ Inv (i + 1) (es ++ [d]) (Γ3.set j (keepV Γ1[j]?))) ∧ (b = false → Inv (i + 1) es (Γ2.set j (keepV Γ1[j]?)))) ∧
      ∀ es Γ', Inv ds.length es Γ' → Post (.new es) Γ') : WE K (tLc (iTup K tl) (gName j) tt te [j]) Γ Post := fun σ B H E Q q => by
  refine h σ B H E _ fun v B1 H1 z Γ1 g1 k p => ?_
  obtain ⟨ds, rfl, hn, hj, hja, Inv, i0, turn, done⟩ := p
  obtain ⟨a, xs, rfl, ha, hx⟩ := Is.tupR k
  refine ⟨a, rfl, ⟨xs, sqT_mono g1.env.bh ha⟩, ?_⟩
  have at_ : ∀ i, i < ds.length → ds[i]? = some (ds.getD i .non) := fun i hi => by rw [List.getD_eq_getElem?_getD, List.getElem?_eq_getElem hi]; rfl
  refine lc_run (n := ds.length) (dt := fun i => ds.getD i .non) (J := Itt K a) g1.env (of_decide_eq_true hj) (notAcc_ne hja) hn Inv (fun i B' H' _ _ hi b1 b2 _ => ?_) (fun i H' x H'' B' _ _ hi b1 b2 _ hy => ?_) (fun B' H' _ _ b1 b2 _ => ?_) i0 (fun i es Γ' hi' => turn i _ es Γ' (at_ i hi')) done fun v B2 H2 r Γ2 g2 k2 p2 => q v B2 H2 r Γ2 (g1.trans g2) (ReOk.earlier k2 g1.mv fun a h => .inl (g1.sub a h)) p2
  · obtain ⟨x, h1, _⟩ := hx.get (at_ i hi)
    exact ⟨xs, x, sqT_mono (b1.trans b2.bh) ha, h1⟩
  · obtain ⟨e1, e2⟩ := hy
    subst e1
    exact ⟨rfl, (hx.at_ i x _ (e2 xs (sqT_mono (b1.trans b2.bh) ha)) (at_ i hi)).mono b1⟩
  · exact ⟨xs, sqT_mono (b1.trans b2.bh) ha, by rw [hx.len]; exact Nat.le_refl _⟩
/-- over a list that is data or new -/
theorem we_lcL (h : WE K tl Γ fun z Γ1 => ∃ d ds, z.dt? = some d ∧ d = .lst ds ∧ ds.length ≤ 1000000 ∧ decide (j < Γ1.length) = true ∧ notAcc Γ1[j]? = true ∧ ∃ Inv : Nat → List Dt → List Sl → Prop, Inv 0 [] Γ1 ∧
      (∀ (i : Nat) d es Γ', ds[i]? = some d → Inv i es Γ' → WT K tt (Γ'.set j (.val d)) fun b Γ2 => (b = true → WE K te Γ2 fun r Γ3 => ∃ d, r.dt? = some d ∧ Inv (i + 1) (es ++ [d]) (Γ3.set j (keepV Γ1[j]?))) ∧ (b = false → Inv (i + 1) es (Γ2.set j (keepV Γ1[j]?)))) ∧
      ∀ es Γ', Inv ds.length es Γ' → Post (.new es) Γ') : WE K (tLc (iList K tl) (gName j) tt te [j]) Γ Post := fun σ B H E Q q => by
  have h' := we_freeze (Post := fun z Γ1 => ∃ ds, z = .val (.lst ds) ∧ ds.length ≤ 1000000 ∧ decide (j < Γ1.length) = true ∧ notAcc Γ1[j]? = true ∧ ∃ Inv : Nat → List Dt → List Sl → Prop, Inv 0 [] Γ1 ∧
      (∀ (i : Nat) d es Γ', ds[i]? = some d → Inv i es Γ' → WT K tt (Γ'.set j (.val d)) fun b Γ2 => (b = true → WE K te Γ2 fun r Γ3 => ∃ d, r.dt? = some d ∧ Inv (i + 1) (es ++ [d]) (Γ3.set j (keepV Γ1[j]?))) ∧ (b = false → Inv (i + 1) es (Γ2.set j (keepV Γ1[j]?)))) ∧
      ∀ es Γ', Inv ds.length es Γ' → Post (.new es) Γ') (we_mono h fun z Γ1 ⟨d, ds, hd, e, r⟩ => ⟨d, hd, ds, by rw [e], r⟩)
  refine h' σ B H E _ fun v B1 H1 z Γ1 g1 k p => ?_
  obtain ⟨ds, rfl, hn, hj, hja, Inv, i0, turn, done⟩ := p
  obtain ⟨a, xs, rfl, ha, hx⟩ := Is.lstR k
  refine ⟨a, rfl, ⟨xs, .inl (.inl (g1.env.bh _ _ ha))⟩, ?_⟩
  have at_ : ∀ i, i < ds.length → ds[i]? = some (ds.getD i .non) := fun i hi => by rw [List.getD_eq_getElem?_getD, List.getElem?_eq_getElem hi]; rfl
  refine lc_run (n := ds.length) (dt := fun i => ds.getD i .non) (J := Itl K a) g1.env (of_decide_eq_true hj) (notAcc_ne hja) hn Inv (fun i B' H' _ _ hi b1 b2 _ => ?_) (fun i H' x H'' B' _ _ hi b1 b2 _ hy => ?_) (fun B' H' _ _ b1 b2 _ => ?_) i0 (fun i es Γ' hi' => turn i _ es Γ' (at_ i hi')) done fun v B2 H2 r Γ2 g2 k2 p2 => q v B2 H2 r Γ2 (g1.trans g2) (ReOk.earlier k2 g1.mv fun a h => .inl (g1.sub a h)) p2
  · obtain ⟨x, h1, _⟩ := hx.get (at_ i hi)
    exact ⟨xs, x, .inl (.inl ((b1.trans b2.bh) _ _ ha)), h1⟩
  · obtain ⟨e1, e2⟩ := hy
    subst e1
    exact ⟨rfl, (hx.at_ i x _ (e2 xs (.inl (.inl ((b1.trans b2.bh) _ _ ha)))) (at_ i hi)).mono b1⟩
  · exact ⟨xs, .inl (.inl ((b1.trans b2.bh) _ _ ha)), by rw [hx.len]; exact Nat.le_refl _⟩
end
/-- over an owned list that the comprehension leaves as it is -/
theorem we_lcA {K : PySem.W.Frag} {Γ : List Sl} {Post : Re → List Sl → Prop} {te : TE} {tt : TT} {j k : Nat} {ds : List Dt} (h0 : Γ[k]? = some (.acc ds)) (hn : ds.length ≤ 1000000) (hj : decide (j < Γ.length) = true) (hja : notAcc Γ[j]? = true) (Inv : Nat → List Dt → List Sl → Prop) (i0 : Inv 0 [] Γ)
      (hk : ∀ i es Γ', Inv i es Γ' → Γ'[k]? = some (.acc ds))
      (turn : ∀ (i : Nat) d es Γ', ds[i]? = some d → Inv i es Γ' → WT K tt (Γ'.set j (.val d)) fun b Γ2 => (b = true → WE K te Γ2 fun r Γ3 => ∃ d, r.dt? = some d ∧ Inv (i + 1) (es ++ [d]) (Γ3.set j (keepV Γ[j]?))) ∧ (b = false → Inv (i + 1) es (Γ2.set j (keepV Γ[j]?))))
      (done : ∀ es Γ', Inv ds.length es Γ' → Post (.new es) Γ') : WE K (tLc (iList K (tVar k)) (gName j) tt te [j]) Γ Post := fun σ B H E Q q => by
  obtain ⟨l, xs, e0, e1, e2, hx⟩ := E.acc k ds h0
  have at_ : ∀ i, i < ds.length → ds[i]? = some (ds.getD i .non) := fun i hi => by rw [List.getD_eq_getElem?_getD, List.getElem?_eq_getElem hi]; rfl
  have items : ∀ {i es B' H' Γ'}, Env K B' H' σ Γ' → Inv i es Γ' → ∃ ys, H' l = some (.lst ys) ∧ IsA K B' ys ds := fun {i es B' H' Γ'} E' inv => by
    obtain ⟨c, ys, q1, q2, q3, q4⟩ := E'.acc k ds (hk i es Γ' inv)
    rw [e0] at q1
    cases q1
    exact ⟨ys, q2, q4⟩
  refine ⟨.ref l, e0, l, rfl, ⟨xs, .inl (.inl e1)⟩, ?_⟩
  refine lc_run (n := ds.length) (dt := fun i => ds.getD i .non) (J := Itl K l) E (of_decide_eq_true hj) (notAcc_ne hja) hn Inv (fun i B' H' es Γ' hi b1 b2 inv => ?_) (fun i H' x H'' B' es Γ' hi b1 b2 inv hy => ?_) (fun B' H' es Γ' b1 b2 inv => ?_) i0 (fun i es Γ' hi' => turn i _ es Γ' (at_ i hi')) done q
  · obtain ⟨ys, h1, h2⟩ := items b2 inv
    obtain ⟨x, h3, _⟩ := h2.get (at_ i hi)
    exact ⟨ys, x, .inl (.inl h1), h3⟩
  · obtain ⟨ys, h1, h2⟩ := items b2 inv
    obtain ⟨e1, e2⟩ := hy
    subst e1
    exact ⟨rfl, h2.at_ i x _ (e2 ys (.inl (.inl h1))) (at_ i hi)⟩
  · obtain ⟨ys, h1, h2⟩ := items b2 inv
    exact ⟨ys, .inl (.inl h1), by rw [h2.len]; exact Nat.le_refl _⟩
/-! ### == of data at any depth -/
mutual
def Dt.py : Dt → Option PyData
  | .raw .non => some .none
  | .raw (.bl b) => some (.bool b)
  | .raw (.int i) => some (.int i)
  | .raw (.str s) => some (.str s)
  | .raw _ => none
  | .tup ds => (pyAll ds).map .tuple
  | .lst ds => (pyAll ds).map .list
  | .obj _ _ => none
  | .scr ns => none
  | .dK _ => none
  | .dT _ => none
  | .exn _ _ _ => none
def pyAll : List Dt → Option (List PyData)
  | [] => some []
  | d :: ds => match Dt.py d, pyAll ds with
    | some p, some ps => some (p :: ps)
    | _, _ => none
end
section
variable {K : PySem.W.Frag} {B H : Hp}
theorem pyAll_dp : ∀ {ds : List Dt} {ps : List PyData} {vs : List V}, (∀ d p v, d ∈ ds → Dt.py d = some p → Is K B v d → Dp K B v p) → pyAll ds = some ps → IsA K B vs ds → DpAll K B vs ps
  | [], ps, vs, _, e, h => by
    rw [pyAll] at e
    cases e
    have : vs = [] := List.eq_nil_of_length_eq_zero (by rw [h.len]; rfl)
    subst this; exact .nil
  | d :: ds, ps, vs, f, e, h => by
    rw [pyAll] at e
    split at e
    · rename_i p qs h1 h2
      cases e
      cases vs with
      | nil => have := h.len; simp at this
      | cons v vs =>
        refine .cons (f d p v (List.mem_cons_self) h1 (h.at_ 0 v d rfl rfl)) (pyAll_dp (fun d p v hd => f d p v (List.mem_cons_of_mem _ hd)) h2 ⟨by have := h.len; simpa using this, fun i v d a b => h.at_ (i + 1) v d (by simpa using a) (by simpa using b)⟩)
    · cases e
theorem is_dp {v : V} {d : Dt} (h : Is K B v d) : ∀ {p : PyData}, d.py = some p → Dp K B v p := by
  induction h with
  | raw v =>
    intro p e
    cases v <;> (simp only [Dt.py] at e; cases e) <;> constructor
  | @tup a xs ds h hl hi ih =>
    intro p e
    rw [Dt.py] at e
    cases q : pyAll ds with
    | none => rw [q] at e; cases e
    | some ps =>
      rw [q] at e
      cases e
      refine .tup h ?_
      clear h
      induction ds generalizing xs ps with
      | nil =>
        rw [pyAll] at q; cases q
        have : xs = [] := List.eq_nil_of_length_eq_zero (by rw [hl]; rfl)
        subst this; exact .nil
      | cons d ds ihd =>
        rw [pyAll] at q
        split at q
        · rename_i p1 qs h1 h2
          cases q
          cases xs with
          | nil => simp at hl
          | cons x xs =>
            exact .cons (ih 0 x d rfl rfl h1) (ihd (by simpa using hl) (fun i v d a b => hi (i + 1) v d (by simpa using a) (by simpa using b)) (fun i v d a b => ih (i + 1) v d (by simpa using a) (by simpa using b)) qs h2)
        · cases q
  | @lst a xs ds h hl hi ih =>
    intro p e
    rw [Dt.py] at e
    cases q : pyAll ds with
    | none => rw [q] at e; cases e
    | some ps =>
      rw [q] at e
      cases e
      refine .lst (.inl (.inl h)) ?_
      clear h
      induction ds generalizing xs ps with
      | nil =>
        rw [pyAll] at q; cases q
        have : xs = [] := List.eq_nil_of_length_eq_zero (by rw [hl]; rfl)
        subst this; exact .nil
      | cons d ds ihd =>
        rw [pyAll] at q
        split at q
        · rename_i p1 qs h1 h2
          cases q
          cases xs with
          | nil => simp at hl
          | cons x xs =>
            exact .cons (ih 0 x d rfl rfl h1) (ihd (by simpa using hl) (fun i v d a b => hi (i + 1) v d (by simpa using a) (by simpa using b)) (fun i v d a b => ih (i + 1) v d (by simpa using a) (by simpa using b)) qs h2)
        · cases q
  | obj h hk hi ih => intro p e; rw [Dt.py] at e; cases e
  | dK h hk hi ih => intro p e; rw [Dt.py] at e; cases e
  | dT h hk hi ih => intro p e; rw [Dt.py] at e; cases e
  | exn0 => intro p e; rw [Dt.py] at e; cases e
  | exnD h hk hi ih => intro p e; rw [Dt.py] at e; cases e
  | scr h => intro p e; rw [Dt.py] at e; cases e
mutual
theorem dp_mono {B' : Hp} (s : Same B B') {v : V} : ∀ {p : PyData}, Dp K B v p → Dp K B' v p
  | _, .non => .non
  | _, .bl b => .bl b
  | _, .int i => .int i
  | _, .str x => .str x
  | _, .lst h hs => .lst (s.seq h) (dpAll_mono s hs)
  | _, .tup h hs => .tup (sqT_mono s h) (dpAll_mono s hs)
theorem dpAll_mono {B' : Hp} (s : Same B B') : ∀ {vs : List V} {ps : List PyData}, DpAll K B vs ps → DpAll K B' vs ps
  | _, _, .nil => .nil
  | _, _, .cons h hs => .cons (dp_mono s h) (dpAll_mono s hs)
end
end
/-- a result as data to be compared -/
def Re.py (Γ : List Sl) : Re → Option PyData
  | .val d => d.py
  | .nw (.lst ds) => (pyAll ds).map .list
  | .nw _ => none
  | .own i => match Γ[i]? with
    | some (Sl.cel (.lst ds)) => (pyAll ds).map .list
    | _ => none
section
variable {K : PySem.W.Frag} {Γ : List Sl} {Post : Re → List Sl → Prop} {ta tb : TE}
theorem rv_dp {σ : L2.St} {B H : Hp} {v : V} {r : Re} {p : PyData} (E : Env K B H σ Γ) (h : RvOk K σ B H Γ v r) (e : r.py Γ = some p) : Dp K H v p := by
  have lst : ∀ {ds : List Dt}, lstOf Γ r = some ds → (pyAll ds).map PyData.list = some p → Dp K H v p := fun {ds} h1 h2 => by
    obtain ⟨a, vs, rfl, hq, ha⟩ := rv_lst E h h1
    cases q : pyAll ds with
    | none => rw [q] at h2; cases h2
    | some ps =>
      rw [q] at h2
      cases h2
      exact .lst hq (dpAll_mono E.bh (pyAll_dp (fun d p v _ e k => is_dp k e) q ha))
  cases r with
  | val d => exact dp_mono E.bh (is_dp h e)
  | nw c =>
    cases c with
    | lst ds => exact lst rfl e
    | dK es => cases e
    | dT es => cases e
  | own i =>
    have e' : (match Γ[i]? with
      | some (Sl.cel (.lst ds)) => (pyAll ds).map PyData.list
      | _ => none) = some p := e
    split at e'
    · rename_i ds hi
      exact lst (by show (match Γ[i]? with | some (Sl.cel (.lst ds)) => some ds | _ => none) = some ds; rw [hi]) e'
    · cases e'
theorem we_eqD (h : WE K ta Γ fun ra Γ1 => WE K tb Γ1 fun rb Γ2 => ∃ p q : PyData, ra.py Γ2 = some p ∧ rb.py Γ2 = some q ∧ SeqAt.shaped p = true ∧ SeqAt.shaped q = true ∧ Post (.val (.bl (PyData.eqv p q))) Γ2) : WE K (tOp (rEqD K) ta tb) Γ Post :=
  we_two' (we_mono h fun ra Γ1 h1 => we_mono h1 fun rb Γ2 ⟨p, q, e1, e2, s1, s2, pp⟩ => fun σ B H x y E kx ky Q k =>
    ⟨p, q, rv_dp E kx e1, rv_dp E ky e2, s1, s2, k _ B H _ Γ2 (.refl E) (.raw _) pp⟩)
theorem we_neD (h : WE K ta Γ fun ra Γ1 => WE K tb Γ1 fun rb Γ2 => ∃ p q : PyData, ra.py Γ2 = some p ∧ rb.py Γ2 = some q ∧ SeqAt.shaped p = true ∧ SeqAt.shaped q = true ∧ Post (.val (.bl (!PyData.eqv p q))) Γ2) : WE K (tOp (rNeD K) ta tb) Γ Post :=
  we_two' (we_mono h fun ra Γ1 h1 => we_mono h1 fun rb Γ2 ⟨p, q, e1, e2, s1, s2, pp⟩ => fun σ B H x y E kx ky Q k =>
    ⟨p, q, rv_dp E kx e1, rv_dp E ky e2, s1, s2, k _ B H _ Γ2 (.refl E) (.raw _) pp⟩)
end
end Ab
namespace Ab
open PySem L2
/-! ### operators of several kinds, one rule a node -/
abbrev rSubI : R2 := rI0 fun i j => .int (i - j)
/-- // by a positive divisor below 2 ** 64 -/
def CDiv64 (i j : Int) : Prop := 0 < j ∧ j < 18446744073709551616
abbrev rDivI : R2 := rI CDiv64 fun i j => .int (i / j)
theorem op_fdivW {X : Cx} : OpR X (binaryOp .FloorDiv) rDivI := opI fun i j _ _ _ _ _ hc q => by
  have h1 : (0 : Int) < j := hc.1
  have h2 : j < 18446744073709551616 := hc.2
  refine PyProof.Rows.floordiv_int (by omega) (by rw [Int.fdiv_eq_ediv_of_nonneg i (by omega)]; exact q) (.inl (PyProof.noPylong_of_log2 ?_))
  have h3 : j.natAbs < 2 ^ 64 := by omega
  have h4 : j.natAbs.log2 < 64 := (Nat.log2_lt (by omega)).mpr h3
  omega
abbrev rModI : R2 := rI (fun _ j => 0 < j) fun i j => .int (i % j)
abbrev rPowI : R2 := rI CPow fun i j => .int (i ^ j.toNat)
abbrev rLtI : R2 := rI0 fun i j => .bl (decide (i < j))
abbrev rLeI : R2 := rI0 fun i j => .bl (decide (i ≤ j))
abbrev rGtI : R2 := rI0 fun i j => .bl (decide (j < i))
abbrev rGeI : R2 := rI0 fun i j => .bl (decide (j ≤ i))
abbrev rNegI : V → Hp → VK → Prop := rU fun i => .int (-i)
def rAddG (K : PySem.W.Frag) : R2 := fun x y H Q => rI0 (fun i j => .int (i + j)) x y H Q ∨ (∃ i j, x = .str i ∧ y = .str j ∧ i.length + j.length ≤ sizeLine ∧ Q (.str (i ++ j)) H) ∨ rCatA K x y H Q ∨ rCat x y H Q
def rMulG (K : PySem.W.Frag) : R2 := fun x y H Q => rI CMul (fun i j => .int (i * j)) x y H Q ∨ rI CMulW (fun i j => .int (i * j)) x y H Q
def rEqG (K : PySem.W.Frag) : R2 := fun x y H Q => rEq x y H Q ∨ rEqD K x y H Q
def rNeG (K : PySem.W.Frag) : R2 := fun x y H Q => rNe x y H Q ∨ rNeD K x y H Q
def rLtG (K : PySem.W.Frag) : R2 := fun x y H Q => rI0 (fun i j => .bl (decide (i < j))) x y H Q ∨ (∃ i j, x = .str i ∧ y = .str j ∧ Q (.bl (decide (i.cps.toList < j.cps.toList))) H) ∨ rLtT K x y H Q
def rInG (K : PySem.W.Frag) : R2 := fun x y H Q => rIn K false x y H Q ∨ ∃ (c : Nat) (z : Str), x = .str ⟨#[c]⟩ ∧ y = .str z ∧ Q (.bl (decide (c ∈ z.cps.toList))) H
def rSlG (K : PySem.W.Frag) : V → Option Int → Option Int → Hp → VK → Prop := fun x lo hi H Q => rSlL K x lo hi H Q ∨ rSlA K x lo hi H Q ∨ rSlS x lo hi H Q
section
variable {X : Cx}
theorem op_addG : OpR X (binaryOp .Add) (rAddG X.K) := op_add.or (op_add_str.or (op_catA.or op_cat))
theorem op_mulG : OpR X (binaryOp .Mult) (rMulG X.K) := op_mul.or op_mulW
theorem op_eqG (hu : X.A.units + 64 < cLine) : OpR X (compareOp .Eq) (rEqG X.K) := op_eq.or (op_eqD hu)
theorem op_neG (hu : X.A.units + 64 < cLine) : OpR X (compareOp .NotEq) (rNeG X.K) := op_ne.or (op_neD hu)
theorem op_ltG (hu : X.A.units < cLine) : OpR X (compareOp .Lt) (rLtG X.K) := op_lt.or (op_lt_str.or (op_ltT hu))
theorem op_inG : OpR X (compareOp .In) (rInG X.K) := op_in_seq.or op_in_sign
theorem sl_G : SlR X (rSlG X.K) := sl_list.or (sl_tupA.or sl_str)
end
def Re.isScr : Re → Bool
  | .val (.scr _) => true
  | _ => false
def AddP (ra rb : Re) (Γ : List Sl) (Post : Re → List Sl → Prop) : Prop :=
  (∃ i j, ra = .val (.int i) ∧ rb = .val (.int j) ∧ Post (.val (.int (i + j))) Γ) ∨ (∃ s t : Str, ra = .val (.str s) ∧ rb = .val (.str t) ∧ s.length + t.length ≤ 1000000 ∧ Post (.val (.str (s ++ t))) Γ) ∨
  (∃ ds es, ra = .val (.tup ds) ∧ rb = .val (.tup es) ∧ ds.length + es.length ≤ 1000000 ∧ Post (.val (.tup (ds ++ es))) Γ) ∨ (∃ ds es, lstOf Γ ra = some ds ∧ lstOf Γ rb = some es ∧ ra.isScr = false ∧ rb.isScr = false ∧ ds.length + es.length ≤ 1000000 ∧ Post (.new (ds ++ es)) Γ)
def EqP (neg : Bool) (ra rb : Re) (Γ : List Sl) (Post : Re → List Sl → Prop) : Prop :=
  (∃ x y : V, ra = .val (.raw x) ∧ rb = .val (.raw y) ∧ scal x y = true ∧ Post (.val (.bl (neg ^^ decide (x = y)))) Γ) ∨
  (∃ p q : PyData, ra.py Γ = some p ∧ rb.py Γ = some q ∧ SeqAt.shaped p = true ∧ SeqAt.shaped q = true ∧ Post (.val (.bl (neg ^^ PyData.eqv p q))) Γ)
def MulP (ra rb : Re) (Γ : List Sl) (Post : Re → List Sl → Prop) : Prop := ∃ i j, ra = .val (.int i) ∧ rb = .val (.int j) ∧ (CMul i j ∨ CMulW i j) ∧ Post (.val (.int (i * j))) Γ
def IxP (ra rb : Re) (Γ : List Sl) (Post : Re → List Sl → Prop) : Prop :=
  (∃ ds k d, seqOf Γ ra = some ds ∧ rb = .val (.int k) ∧ atI ds k = some d ∧ Post (.val d) Γ) ∨ (∃ z k c, ra = .val (.str z) ∧ rb = .val (.int k) ∧ z.length ≤ 1000000 ∧ atI z.cps.toList k = some c ∧ Post (.val (.str ⟨#[c]⟩)) Γ)
def LenP (r : Re) (Γ : List Sl) (Post : Re → List Sl → Prop) : Prop := (∃ ds, seqOf Γ r = some ds ∧ Post (.val (.int ds.length)) Γ) ∨ (∃ z : Str, r = .val (.str z) ∧ z.length ≤ 1000000 ∧ Post (.val (.int z.length)) Γ)
def IntP (r : Re) (Γ : List Sl) (Post : Re → List Sl → Prop) : Prop := (∃ i, r = .val (.int i) ∧ Post (.val (.int i)) Γ) ∨ (∃ b, r = .val (.bl b) ∧ Post (.val (.int (if b then 1 else 0))) Γ)
section
variable {K : PySem.W.Frag} {Γ : List Sl} {Post : Re → List Sl → Prop} {ta tb tc te : TE}
theorem rv_lstH {σ : L2.St} {B H : Hp} {v : V} {r : Re} {ds : List Dt} (E : Env K B H σ Γ) (h : RvOk K σ B H Γ v r) (e : lstOf Γ r = some ds) (hs : r.isScr = false) : ∃ a vs, v = .ref a ∧ H a = some (.lst vs) ∧ IsA K B vs ds := by
  cases r with
  | val d =>
    cases d with
    | lst es => cases e; obtain ⟨a, xs, rfl, h1, h2⟩ := Is.lstR h; exact ⟨a, xs, rfl, E.bh _ _ h1, h2⟩
    | raw u => cases e
    | tup es => cases e
    | obj C fs => cases e
    | dK es => cases e
    | dT es => cases e
    | exn a d fs => cases e
    | scr ns => cases hs
  | nw c =>
    cases c with
    | lst es => cases e; obtain ⟨l, o, rfl, _, h1, _, vs, rfl, h2⟩ := h; exact ⟨l, vs, rfl, h1, h2⟩
    | dK es => cases e
    | dT es => cases e
  | own i =>
    obtain ⟨l, rfl, hl⟩ := h
    have e' : (match Γ[i]? with
      | some (Sl.cel (.lst ds)) => some ds
      | _ => none) = some ds := e
    split at e'
    · rename_i es hi
      cases e'
      obtain ⟨c, us, q1, q2, q3, q4⟩ := E.acc i _ hi
      rw [hl] at q1; cases q1
      exact ⟨l, us, rfl, q2, q4⟩
    · cases e'
theorem we_addG (h : WE K ta Γ fun ra Γ1 => WE K tb Γ1 fun rb Γ2 => AddP ra rb Γ2 Post) : WE K (tOp (rAddG K) ta tb) Γ Post :=
  we_two' (we_mono h fun ra Γ1 h1 => we_mono h1 fun rb Γ2 hp => fun σ B H x y E kx ky Q q => by
    rcases hp with ⟨i, j, rfl, rfl, p⟩ | ⟨s, t, rfl, rfl, hz, p⟩ | ⟨ds, es, rfl, rfl, hz, p⟩ | ⟨ds, es, h1, h2, s1, s2, hz, p⟩
    · cases Is.rawI kx; cases Is.rawI ky
      exact .inl ⟨i, j, rfl, rfl, q _ B H _ Γ2 (.refl E) (.raw _) p⟩
    · cases Is.rawI kx; cases Is.rawI ky
      exact .inr (.inl ⟨s, t, rfl, rfl, Nat.le_trans hz (by decide), q _ B H _ Γ2 (.refl E) (.raw _) p⟩)
    · obtain ⟨a, xs, rfl, h1, h2⟩ := Is.tupR kx
      obtain ⟨b, ys, rfl, g1, g2⟩ := Is.tupR ky
      refine .inr (.inr (.inl ⟨a, b, xs, ys, rfl, rfl, sqT_mono E.bh h1, sqT_mono E.bh g1, Nat.le_trans (by rw [h2.len, g2.len]; exact hz) (by decide), fun e => ?_, fun e1 e => ?_, fun _ _ l hl => ?_⟩))
      · have : ds = [] := List.eq_nil_of_length_eq_zero (by rw [← h2.len, e]; rfl)
        subst this
        exact q _ B H (.val _) Γ2 (.refl E) (show Is K B _ _ from ky) p
      · have : es = [] := List.eq_nil_of_length_eq_zero (by rw [← g2.len, e]; rfl)
        subst this
        rw [List.append_nil] at p
        exact q _ B H (.val _) Γ2 (.refl E) (show Is K B _ _ from kx) p
      · exact q _ _ _ _ Γ2 (Go.laid E hl) (re_laidT E (h2.append g2) hl) p
    · obtain ⟨a, xs, rfl, a1, a2⟩ := rv_lstH E kx h1 s1
      obtain ⟨b, ys, rfl, b1, b2⟩ := rv_lstH E ky h2 s2
      exact .inr (.inr (.inr ⟨a, b, xs, ys, rfl, rfl, a1, b1, Nat.le_trans (by rw [a2.len, b2.len]; exact hz) (by decide), fun l hl => q _ _ _ _ Γ2 (Go.beside E hl) (re_newL E (a2.append b2) hl) p⟩)))
theorem we_mulG (h : WE K ta Γ fun ra Γ1 => WE K tb Γ1 fun rb Γ2 => MulP ra rb Γ2 Post) : WE K (tOp (rMulG K) ta tb) Γ Post :=
  we_two' (we_mono h fun ra Γ1 h1 => we_mono h1 fun rb Γ2 hp => fun σ B H x y E kx ky Q q => by
    obtain ⟨i, j, rfl, rfl, hc, p⟩ := hp
    cases Is.rawI kx; cases Is.rawI ky
    have fin := q _ B H _ Γ2 (.refl E) (.raw _) p
    rcases hc with hc | hc
    · exact .inl ⟨i, j, rfl, rfl, hc, fin⟩
    · exact .inr ⟨i, j, rfl, rfl, hc, fin⟩)
theorem we_eqG (h : WE K ta Γ fun ra Γ1 => WE K tb Γ1 fun rb Γ2 => EqP false ra rb Γ2 Post) : WE K (tOp (rEqG K) ta tb) Γ Post :=
  we_two' (we_mono h fun ra Γ1 h1 => we_mono h1 fun rb Γ2 hp => fun σ B H x y E kx ky Q q => by
    rcases hp with ⟨u, w, rfl, rfl, hs, p⟩ | ⟨a, b, e1, e2, s1, s2, p⟩
    · cases Is.rawI kx; cases Is.rawI ky
      rw [Bool.false_xor] at p
      exact .inl ⟨hs, q _ B H _ Γ2 (.refl E) (.raw _) p⟩
    · rw [Bool.false_xor] at p
      exact .inr ⟨a, b, rv_dp E kx e1, rv_dp E ky e2, s1, s2, q _ B H _ Γ2 (.refl E) (.raw _) p⟩)
theorem we_neG (h : WE K ta Γ fun ra Γ1 => WE K tb Γ1 fun rb Γ2 => EqP true ra rb Γ2 Post) : WE K (tOp (rNeG K) ta tb) Γ Post :=
  we_two' (we_mono h fun ra Γ1 h1 => we_mono h1 fun rb Γ2 hp => fun σ B H x y E kx ky Q q => by
    rcases hp with ⟨u, w, rfl, rfl, hs, p⟩ | ⟨a, b, e1, e2, s1, s2, p⟩
    · cases Is.rawI kx; cases Is.rawI ky
      rw [Bool.true_xor] at p
      exact .inl ⟨hs, q _ B H _ Γ2 (.refl E) (.raw _) p⟩
    · rw [Bool.true_xor] at p
      exact .inr ⟨a, b, rv_dp E kx e1, rv_dp E ky e2, s1, s2, q _ B H _ Γ2 (.refl E) (.raw _) p⟩)
theorem we_ixG (h : WE K ta Γ fun ra Γ1 => WE K tb Γ1 fun rb Γ2 => IxP ra rb Γ2 Post) : WE K (tOp (rIx K) ta tb) Γ Post :=
  we_two' (we_mono h fun ra Γ1 h1 => we_mono h1 fun rb Γ2 hp => fun σ B H x y E kx ky Q q => by
    rcases hp with ⟨ds, k, d, hs, rfl, hd, p⟩ | ⟨z, k, c, rfl, rfl, hz, hd, p⟩
    · cases Is.rawI ky
      obtain ⟨a, vs, rfl, hq, ha⟩ := rv_seq E kx hs
      obtain ⟨v, hv, hi⟩ := ha.atI hd
      have fin := q v B H (.val d) Γ2 (.refl E) hi p
      rcases hq with hq | hq
      · exact .inl ⟨a, vs, k, v, rfl, rfl, hq, hv, fin⟩
      · exact .inr (.inl ⟨a, vs, k, v, rfl, rfl, hq, hv, fin⟩)
    · cases Is.rawI ky
      cases Is.rawI kx
      exact .inr (.inr ⟨z, k, c, rfl, rfl, Nat.le_trans hz (by decide), hd, q _ B H _ Γ2 (.refl E) (.raw _) p⟩))
theorem we_lenG (h : WE K te Γ fun r Γ1 => LenP r Γ1 Post) : WE K (tCB (rLenV K) (tCons te tNil)) Γ Post :=
  we_cb1 (we_mono h fun r Γ1 hp => fun σ B H x E kx Q q => by
    rcases hp with ⟨ds, hs, p⟩ | ⟨z, rfl, hz, p⟩
    · obtain ⟨a, vs, rfl, hq, ha⟩ := rv_seq E kx hs
      have e : (ds.length : Int) = (vs.length : Int) := by rw [ha.len]
      rw [e] at p
      refine ⟨_, vs.length, rfl, ?_, q _ B H _ Γ1 (.refl E) (.raw _) p⟩
      rcases hq with hq | hq
      · exact .inl ⟨vs, hq, rfl⟩
      · exact .inr ⟨vs, hq, rfl⟩
    · cases Is.rawI kx
      exact ⟨_, z.length, rfl, ⟨Nat.le_trans hz (by decide), rfl⟩, q _ B H _ Γ1 (.refl E) (.raw _) p⟩)
theorem we_intG (h : WE K te Γ fun r Γ1 => IntP r Γ1 Post) : WE K (tCB rInt1 (tCons te tNil)) Γ Post :=
  we_cb1 (we_mono h fun r Γ1 hp => fun σ B H x E kx Q q => by
    rcases hp with ⟨i, rfl, p⟩ | ⟨b, rfl, p⟩
    · cases Is.rawI kx; exact .inl ⟨i, rfl, q _ B H _ Γ1 (.refl E) (.raw _) p⟩
    · cases Is.rawI kx; exact .inr ⟨b, rfl, q _ B H _ Γ1 (.refl E) (.raw _) p⟩)
/-! slices -/
def WO (K : PySem.W.Frag) (to : TO) (Γ : List Sl) (Post : Option Int → List Sl → Prop) : Prop := ∀ σ B H, Env K B H σ Γ → ∀ Q : Option Int → Hp → Prop, (∀ o B' H' Γ', Go K σ B H Γ B' H' Γ' → Post o Γ' → Q o H') → to σ H Q
theorem wo_none {P : Option Int → List Sl → Prop} (p : P none Γ) : WO K tNoPart Γ P := fun σ B H E Q q => q none B H Γ (.refl E) p
theorem wo_some {P : Option Int → List Sl → Prop} (h : WE K te Γ fun r Γ1 => ∃ i, r = .val (.int i) ∧ P (some i) Γ1) : WO K (tPart te) Γ P := fun σ B H E Q q => by
  refine h σ B H E _ fun v B1 H1 r Γ1 g k ⟨i, e, p⟩ => ?_
  subst e
  cases Is.rawI k
  exact ⟨i, rfl, q _ B1 H1 Γ1 g p⟩
/-- the items of a slice -/
def cutD (xs : List Dt) (lo hi : Option Int) : List Dt := (xs.drop (HT.sIx xs.length 0 lo)).take (HT.sIx xs.length xs.length hi - HT.sIx xs.length 0 lo)
def SlP (ra : Re) (lo hi : Option Int) (Γ : List Sl) (Post : Re → List Sl → Prop) : Prop :=
  (∃ ds, lstOf Γ ra = some ds ∧ Post (.new (cutD ds lo hi)) Γ) ∨ (∃ ds, ra = .val (.tup ds) ∧ Post (.val (.tup (cutD ds lo hi))) Γ) ∨ (∃ z : Str, ra = .val (.str z) ∧ z.length ≤ 1000000 ∧ Post (.val (.str (cutS z lo hi))) Γ)
theorem cut_is {B : Hp} {vs : List V} {ds : List Dt} (lo hi : Option Int) (h : IsA K B vs ds) : IsA K B (cutV vs lo hi) (cutD ds lo hi) := by
  unfold cutV cutD
  rw [h.len]
  exact (h.drop _).take _
theorem cut_whole {ds : List Dt} {lo hi : Option Int} (h : HT.sIx ds.length 0 lo = 0 ∧ HT.sIx ds.length ds.length hi = ds.length) : cutD ds lo hi = ds := by
  unfold cutD
  rw [h.1, h.2, List.drop_zero, Nat.sub_zero, List.take_length]
theorem we_slG {tl th : TO} (h : WE K ta Γ fun ra Γ1 => WO K tl Γ1 fun lo Γ2 => WO K th Γ2 fun hi Γ3 => SlP ra lo hi Γ3 Post) : WE K (tSl (rSlG K) ta tl th) Γ Post := fun σ B H E Q q => by
  refine h σ B H E _ fun x B1 H1 ra Γ1 g1 k1 p1 => ?_
  refine p1 σ B1 H1 g1.env _ fun lo B2 H2 Γ2 g2 p2 => ?_
  refine p2 σ B2 H2 g2.env _ fun hi B3 H3 Γ3 g3 p3 => ?_
  have g23 := g2.trans g3
  have kx := ReOk.rv (ReOk.step k1 g23.mv g23.sub)
  have g := g1.trans g23
  have fin : ∀ v B' H' z Γ', Go K σ B3 H3 Γ3 B' H' Γ' → ReOk K σ (Own σ Γ3) (Own σ Γ') B' H3 H' v z → Post z Γ' → Q v H' := fun v B' H' z Γ' g4 k4 p4 => q v B' H' z Γ' (g.trans g4) (ReOk.earlier k4 g.mv fun a h => .inl (g.sub a h)) p4
  rcases p3 with ⟨ds, hs, p⟩ | ⟨ds, rfl, p⟩ | ⟨z, rfl, hz, p⟩
  · obtain ⟨a, vs, rfl, hq, ha⟩ := rv_lst g3.env kx hs
    exact .inl ⟨a, vs, rfl, hq, fun l hl => fin _ _ _ _ Γ3 (Go.beside g3.env hl) (re_newL g3.env (cut_is lo hi ha) hl) p⟩
  · obtain ⟨a, vs, rfl, hq, ha⟩ := Is.tupR kx
    refine .inr (.inl ⟨a, vs, rfl, sqT_mono g3.env.bh hq, fun hw => ?_, fun _ l hl => fin _ _ _ _ Γ3 (Go.laid g3.env hl) (re_laidT g3.env (cut_is lo hi ha) hl) p⟩)
    rw [ha.len] at hw
    rw [cut_whole hw] at p
    exact fin _ B3 H3 (.val _) Γ3 (.refl g3.env) (show Is K B3 _ _ from kx) p
  · cases Is.rawI kx
    exact .inr (.inr ⟨z, rfl, Nat.le_trans hz (by decide), fin _ B3 H3 _ Γ3 (.refl g3.env) (.raw _) p⟩)
def InP (neg : Bool) (ra rb : Re) (Γ : List Sl) (Post : Re → List Sl → Prop) : Prop :=
  (∃ (x : V) (us : List V), ra = .val (.raw x) ∧ seqOf Γ rb = some (us.map Dt.raw) ∧ flatV x = true ∧ us.all flatV = true ∧ Post (.val (.bl (if neg then !inV x us else inV x us))) Γ)
theorem we_inG (h : WE K ta Γ fun ra Γ1 => WE K tb Γ1 fun rb Γ2 => InP false ra rb Γ2 Post ∨ ∃ (c : Nat) (z : Str), ra = .val (.str ⟨#[c]⟩) ∧ rb = .val (.str z) ∧ Post (.val (.bl (decide (c ∈ z.cps.toList)))) Γ2) : WE K (tOp (rInG K) ta tb) Γ Post :=
  we_two' (we_mono h fun ra Γ1 h1 => we_mono h1 fun rb Γ2 hp => fun σ B H y z E ky kz Q q => by
    rcases hp with ⟨x, us, rfl, hs, hx, hu, p⟩ | ⟨c, s, rfl, rfl, p⟩
    · cases Is.rawI ky
      obtain ⟨a, vs, rfl, hq, ha⟩ := rv_seq E kz hs
      cases ha.rawsI
      exact .inl ⟨a, _, rfl, hq, hx, hu, q _ B H _ Γ2 (.refl E) (.raw _) p⟩
    · cases Is.rawI ky; cases Is.rawI kz
      exact .inr ⟨c, s, rfl, rfl, q _ B H _ Γ2 (.refl E) (.raw _) p⟩)
theorem we_notInG (h : WE K ta Γ fun ra Γ1 => WE K tb Γ1 fun rb Γ2 => InP true ra rb Γ2 Post) : WE K (tOp (rIn K true) ta tb) Γ Post := we_in h
end
/-- < of ints, of texts, of tuples of ints -/
def LtP (ra rb : Re) (Γ : List Sl) (Post : Re → List Sl → Prop) : Prop :=
  (∃ i j, ra = .val (.int i) ∧ rb = .val (.int j) ∧ Post (.val (.bl (decide (i < j)))) Γ) ∨ (∃ s t : Str, ra = .val (.str s) ∧ rb = .val (.str t) ∧ Post (.val (.bl (decide (s.cps.toList < t.cps.toList)))) Γ) ∨
  (∃ ns ms : List Int, ra = .val (.tup (ns.map Dt.int)) ∧ rb = .val (.tup (ms.map Dt.int)) ∧ Post (.val (.bl (HT.lexLt ns ms))) Γ)
theorem we_ltG {K : PySem.W.Frag} {Γ : List Sl} {Post : Re → List Sl → Prop} {ta tb : TE} (h : WE K ta Γ fun ra Γ1 => WE K tb Γ1 fun rb Γ2 => LtP ra rb Γ2 Post) : WE K (tOp (rLtG K) ta tb) Γ Post :=
  we_two' (we_mono h fun ra Γ1 h1 => we_mono h1 fun rb Γ2 hp => fun σ B H x y E kx ky Q q => by
    rcases hp with ⟨i, j, rfl, rfl, p⟩ | ⟨s, t, rfl, rfl, p⟩ | ⟨ns, ms, rfl, rfl, p⟩
    · cases Is.rawI kx; cases Is.rawI ky
      exact .inl ⟨i, j, rfl, rfl, q _ B H _ Γ2 (.refl E) (.raw _) p⟩
    · cases Is.rawI kx; cases Is.rawI ky
      exact .inr (.inl ⟨s, t, rfl, rfl, q _ B H _ Γ2 (.refl E) (.raw _) p⟩)
    · obtain ⟨a, xs, rfl, h1, h2⟩ := Is.tupR kx
      obtain ⟨b, ys, rfl, g1, g2⟩ := Is.tupR ky
      have e1 : xs = ns.map V.int := IsA.rawsI (xs := ns.map V.int) (by rw [List.map_map]; exact h2)
      have e2 : ys = ms.map V.int := IsA.rawsI (xs := ms.map V.int) (by rw [List.map_map]; exact g2)
      subst e1 e2
      exact .inr (.inr ⟨a, b, ns, ms, rfl, rfl, sqT_mono E.bh h1, sqT_mono E.bh g1, q _ B H _ Γ2 (.refl E) (.raw _) p⟩))
/-- a def that is never called -/
theorem fn_never {P : Program} {w : World} {K : PySem.W.Frag} {mg : Str → Option Value} {base : Heap} {x qual : Str} {st : Stmt} {f : Addr} {fd : FuncData} {N ps : List Str} {k : Nat} (F : Fun K x qual st f fd) (S : FnScope N ps (defScope st)) :
    FnOk P w K mg base CX0 (k + 1) f fd ps (toSp K fun _ _ => False) := by
  refine F.ok S (fun vs H Q E h => ?_) (fun cdv A outer s H vs Q E hr h => ?_)
  · obtain ⟨_, _, _, _, z, _⟩ := h; exact z.elim
  · obtain ⟨_, _, _, _, z, _⟩ := h; exact z.elim
/-- the law's own start: the script -/
theorem law_sp {K : PySem.W.Frag} {ap : AP} {H : Hp} {a : Addr} {ns : List Int} {E : XK} (hS : SqL K H a (ns.map V.int)) (h : ∀ Post : Re → List Sl → Prop, (∀ as, Post (.val (.bl true)) as) → ap [.val (.scr ns)] Post) : toSp K ap [.ref a] H (fun v _ => v = .bl true) E := by
  refine ⟨H, [.val (.scr ns)], fun r _ => r = .val (.bl true), ⟨rfl, Same.refl H, fun i d hi => ?_, fun i ds hi => ?_, fun i j ds es l hi => ?_⟩, h _ (fun _ => rfl), fun v B' H' r as' g k p => ?_⟩
  · cases i with
    | zero => simp at hi; subst hi; exact ⟨.ref a, rfl, .scr hS⟩
    | succ i => simp at hi
  · cases i with
    | zero => simp at hi
    | succ i => simp at hi
  · cases i with
    | zero => simp at hi
    | succ i => simp at hi
  · subst p; exact Is.rawI k
/-! ### builtins' names -/
theorem bi_int : bootBuiltins "int" = some (.type "int") := by decide +kernel
theorem bi_bool : bootBuiltins "bool" = some (.type "bool") := by decide +kernel
theorem bi_str : bootBuiltins "str" = some (.type "str") := by decide +kernel
theorem bi_list : bootBuiltins "list" = some (.type "list") := by decide +kernel
theorem bi_tuple : bootBuiltins "tuple" = some (.type "tuple") := by decide +kernel
theorem bi_dict : bootBuiltins "dict" = some (.type "dict") := by decide +kernel
theorem bi_range : bootBuiltins "range" = some (.type "range") := by decide +kernel
theorem bi_len : bootBuiltins "len" = some (.builtin "len") := by decide +kernel
theorem bi_abs : bootBuiltins "abs" = some (.builtin "abs") := by decide +kernel
theorem bi_min : bootBuiltins "min" = some (.builtin "min") := by decide +kernel
theorem bi_max : bootBuiltins "max" = some (.builtin "max") := by decide +kernel
theorem bi_sum : bootBuiltins "sum" = some (.builtin "sum") := by decide +kernel
theorem bi_isinstance : bootBuiltins "isinstance" = some (.builtin "isinstance") := by decide +kernel
end Ab
namespace Ab
open PySem L2
section
variable {Γ : List Sl} {Post : Re → List Sl → Prop}
theorem addp_i {i j : Int} (p : Post (.val (.int (i + j))) Γ) : AddP (.val (.int i)) (.val (.int j)) Γ Post := .inl ⟨i, j, rfl, rfl, p⟩
theorem addp_s {s t : Str} (hz : s.length + t.length ≤ 1000000) (p : Post (.val (.str (s ++ t))) Γ) : AddP (.val (.str s)) (.val (.str t)) Γ Post := .inr (.inl ⟨s, t, rfl, rfl, hz, p⟩)
theorem addp_t {ds es : List Dt} (hz : ds.length + es.length ≤ 1000000) (p : Post (.val (.tup (ds ++ es))) Γ) : AddP (.val (.tup ds)) (.val (.tup es)) Γ Post := .inr (.inr (.inl ⟨ds, es, rfl, rfl, hz, p⟩))
theorem addp_l {ra rb : Re} {ds es : List Dt} (h1 : lstOf Γ ra = some ds) (h2 : lstOf Γ rb = some es) (s1 : ra.isScr = false) (s2 : rb.isScr = false) (hz : ds.length + es.length ≤ 1000000) (p : Post (.new (ds ++ es)) Γ) : AddP ra rb Γ Post := .inr (.inr (.inr ⟨ds, es, h1, h2, s1, s2, hz, p⟩))
theorem mulp_l {i j : Int} (hc : -(2 ^ 64) < i ∧ i < 2 ^ 64) (p : Post (.val (.int (i * j))) Γ) : MulP (.val (.int i)) (.val (.int j)) Γ Post := ⟨i, j, rfl, rfl, .inl (.inl hc), p⟩
theorem mulp_r {i j : Int} (hc : -(2 ^ 64) < j ∧ j < 2 ^ 64) (p : Post (.val (.int (i * j))) Γ) : MulP (.val (.int i)) (.val (.int j)) Γ Post := ⟨i, j, rfl, rfl, .inl (.inr hc), p⟩
theorem eqp_s {neg : Bool} {x y : V} (hs : scal x y = true) (p : Post (.val (.bl (neg ^^ decide (x = y)))) Γ) : EqP neg (.val (.raw x)) (.val (.raw y)) Γ Post := .inl ⟨x, y, rfl, rfl, hs, p⟩
theorem dec_i {i j : Int} : decide (V.int i = V.int j) = decide (i = j) := by
  by_cases h : i = j
  · subst h; simp
  · have : ¬ V.int i = V.int j := fun z => h (V.int.inj z)
    rw [decide_eq_false this, decide_eq_false h]
/-- == of ints -/
theorem eqp_i {i j : Int} (p : Post (.val (.bl (decide (i = j)))) Γ) : EqP false (.val (.int i)) (.val (.int j)) Γ Post := eqp_s rfl (by rw [dec_i, Bool.false_xor]; exact p)
theorem nep_i {i j : Int} (p : Post (.val (.bl (!decide (i = j)))) Γ) : EqP true (.val (.int i)) (.val (.int j)) Γ Post := eqp_s rfl (by rw [dec_i, Bool.true_xor]; exact p)
theorem eqp_d {neg : Bool} {ra rb : Re} {p q : PyData} (h1 : ra.py Γ = some p) (h2 : rb.py Γ = some q) (s1 : SeqAt.shaped p = true) (s2 : SeqAt.shaped q = true) (k : Post (.val (.bl (neg ^^ PyData.eqv p q))) Γ) : EqP neg ra rb Γ Post := .inr ⟨p, q, h1, h2, s1, s2, k⟩
theorem intp_i {i : Int} (p : Post (.val (.int i)) Γ) : IntP (.val (.int i)) Γ Post := .inl ⟨i, rfl, p⟩
theorem intp_b {b : Bool} (p : Post (.val (.int (if b then 1 else 0))) Γ) : IntP (.val (.bl b)) Γ Post := .inr ⟨b, rfl, p⟩
theorem ltp_i {i j : Int} (p : Post (.val (.bl (decide (i < j)))) Γ) : LtP (.val (.int i)) (.val (.int j)) Γ Post := .inl ⟨i, j, rfl, rfl, p⟩
theorem ixp {ra : Re} {ds : List Dt} {k : Int} {d : Dt} (h1 : seqOf Γ ra = some ds) (h2 : atI ds k = some d) (p : Post (.val d) Γ) : IxP ra (.val (.int k)) Γ Post := .inl ⟨ds, k, d, h1, rfl, h2, p⟩
theorem ixp_s {z : Str} {k : Int} {c : Nat} (hz : z.length ≤ 1000000) (h2 : atI z.cps.toList k = some c) (p : Post (.val (.str ⟨#[c]⟩)) Γ) : IxP (.val (.str z)) (.val (.int k)) Γ Post := .inr ⟨z, k, c, rfl, rfl, hz, h2, p⟩
theorem lenp {r : Re} {ds : List Dt} (h : seqOf Γ r = some ds) (p : Post (.val (.int ds.length)) Γ) : LenP r Γ Post := .inl ⟨ds, h, p⟩
theorem lenp_s {z : Str} (hz : z.length ≤ 1000000) (p : Post (.val (.int z.length)) Γ) : LenP (.val (.str z)) Γ Post := .inr ⟨z, rfl, hz, p⟩
theorem slp_t {ds : List Dt} {lo hi : Option Int} (p : Post (.val (.tup (cutD ds lo hi))) Γ) : SlP (.val (.tup ds)) lo hi Γ Post := .inr (.inl ⟨ds, rfl, p⟩)
theorem slp_s {z : Str} {lo hi : Option Int} (hz : z.length ≤ 1000000) (p : Post (.val (.str (cutS z lo hi))) Γ) : SlP (.val (.str z)) lo hi Γ Post := .inr (.inr ⟨z, rfl, hz, p⟩)
theorem slp_l {ra : Re} {ds : List Dt} {lo hi : Option Int} (h : lstOf Γ ra = some ds) (p : Post (.new (cutD ds lo hi)) Γ) : SlP ra lo hi Γ Post := .inl ⟨ds, h, p⟩
theorem atI_of {α : Type} {xs : List α} {k : Int} {j : Nat} {x : α} (e : k = (j : Int)) (h : xs[j]? = some x) : atI xs k = some x := by
  subst e
  have hj : j < xs.length := (List.getElem?_eq_some_iff.mp h).1
  unfold atI ixN
  rw [if_pos (by omega), if_pos (by omega)]
  simpa using h
end
section
variable {K : PySem.W.Frag} {Γ : List Sl} {Post : Re → List Sl → Prop} {te : TE}
def IsiP (c : String) (r : Re) (Γ : List Sl) (Post : Re → List Sl → Prop) : Prop := (∀ i, r = .own i → ∃ ds, Γ[i]? = some (.acc ds)) ∧ ∃ T b, tyOf r = some T ∧ kitB T c = some b ∧ Post (.val (.bl b)) Γ
theorem we_isiG {c : String} (h : WE K te Γ fun r Γ1 => IsiP c r Γ1 Post) : WE K (tCB (rIsi K) (tCons te (tCons (tC (.ty c)) tNil))) Γ Post := we_isi h
/-- isinstance of a borrowed list -/
theorem isi_own {i : Nat} {ds : List Dt} {c : String} {b : Bool} (h : Γ[i]? = some (.acc ds)) (hk : kitB "list" c = some b) (p : Post (.val (.bl b)) Γ) : IsiP c (.own i) Γ Post :=
  ⟨fun j e => by cases e; exact ⟨ds, h⟩, "list", b, rfl, hk, p⟩
theorem isi_val {d : Dt} {T c : String} {b : Bool} (ht : tyOf (.val d) = some T) (hk : kitB T c = some b) (p : Post (.val (.bl b)) Γ) : IsiP c (.val d) Γ Post :=
  ⟨(fun j e => nomatch e), T, b, ht, hk, p⟩
theorem isi_new {ds : List Dt} {c : String} {b : Bool} (hk : kitB "list" c = some b) (p : Post (.val (.bl b)) Γ) : IsiP c (.new ds) Γ Post :=
  ⟨(fun j e => nomatch e), "list", b, rfl, hk, p⟩
theorem kb_tt : kitB "tuple" "tuple" = some true := by decide +kernel
theorem kb_ll : kitB "list" "list" = some true := by decide +kernel
theorem kb_ii : kitB "int" "int" = some true := by decide +kernel
theorem kb_ib : kitB "int" "bool" = some false := by decide +kernel
theorem kb_bb : kitB "bool" "bool" = some true := by decide +kernel
theorem kb_bi : kitB "bool" "int" = some true := by decide +kernel
theorem kb_ss : kitB "str" "str" = some true := by decide +kernel
theorem kb_sb : kitB "str" "bool" = some false := by decide +kernel
theorem kb_si : kitB "str" "int" = some false := by decide +kernel
theorem kb_tb : kitB "tuple" "bool" = some false := by decide +kernel
theorem kb_ti : kitB "tuple" "int" = some false := by decide +kernel
theorem kb_ts : kitB "tuple" "str" = some false := by decide +kernel
theorem kb_tl : kitB "tuple" "list" = some false := by decide +kernel
theorem kb_lb : kitB "list" "bool" = some false := by decide +kernel
theorem kb_li : kitB "list" "int" = some false := by decide +kernel
theorem kb_ls : kitB "list" "str" = some false := by decide +kernel
theorem kb_lt : kitB "list" "tuple" = some false := by decide +kernel
theorem kb_is : kitB "int" "str" = some false := by decide +kernel
theorem kb_it : kitB "int" "tuple" = some false := by decide +kernel
theorem kb_il : kitB "int" "list" = some false := by decide +kernel
theorem kb_st : kitB "str" "tuple" = some false := by decide +kernel
theorem kb_sl : kitB "str" "list" = some false := by decide +kernel
theorem kb_nb : kitB "NoneType" "bool" = some false := by decide +kernel
theorem kb_ni : kitB "NoneType" "int" = some false := by decide +kernel
theorem kb_ns : kitB "NoneType" "str" = some false := by decide +kernel
theorem kb_nt : kitB "NoneType" "tuple" = some false := by decide +kernel
theorem kb_nl : kitB "NoneType" "list" = some false := by decide +kernel
theorem kb_bs : kitB "bool" "str" = some false := by decide +kernel
theorem kb_bt : kitB "bool" "tuple" = some false := by decide +kernel
theorem kb_bl : kitB "bool" "list" = some false := by decide +kernel
end
/-- a goal of one's own, at which the walk stops -/
inductive Hold (p : Prop) : Prop where
  | a (h : p)
  | b (h : p) (_ : True)
theorem Hold.get {p : Prop} (h : Hold p) : p := by
  cases h with
  | a h => exact h
  | b h _ => exact h
/-- a block behind what its first part comes to -/
theorem ws_cut {K : PySem.W.Frag} {pin : List Nat} {Γ : List Sl} {P : Ps} {t u : TS} (M : List Sl → Prop) (h : WS K pin t Γ { P with nx := fun G => Hold (M G) }) (k : ∀ G, M G → WS K pin u G P) : WS K pin (tSeq t u) Γ P := ws_seq (ws_mono h (fun G hG => k G hG.get) (fun _ _ h => h) (fun _ h => h) (fun _ h => h))
section
variable {K : PySem.W.Frag} {pin : List Nat} {Γ : List Sl} {P : Ps} {te tl : TE} {tt : TT} {tb : TS} {g : TG} {j : Nat} {Post : Re → List Sl → Prop}
theorem for_range1 {t1 : TA} (n : Int) (Inv : Nat → List Sl → Prop) (h : WD K t1 Γ fun ds Γ1 => Hold (ds = [.int n] ∧ -(2 ^ 62) ≤ n ∧ n < 2 ^ 62 ∧ Inv 0 Γ1))
    (turn : ∀ (i : Nat) G, (i : Int) < n → Inv i G → WG K pin g (.int i) G fun G2 => WS K pin tb G2 ⟨fun G => Hold (Inv (i + 1) G), P.rt, P.nx, fun G => Hold (Inv (i + 1) G), P.ex⟩) (done : ∀ G, Inv n.toNat G → P.nx G) : WS K pin (tFor (iRng1 t1) g tb) Γ P :=
  ws_for1 fun σ B H E Q q => h σ B H E Q fun vs B' H' ds Γ' g k p => q vs B' H' ds Γ' g k (by
    obtain ⟨e, h1, h2, h3⟩ := p.get
    exact ⟨n, e, h1, h2, fun i G => Hold (Inv i G), .a h3, fun i G hi hG => turn i G hi hG.get, fun G hG => done G hG.get⟩)
theorem for_range2 {t1 : TA} (lo m : Int) (Inv : Nat → List Sl → Prop) (h : WD K t1 Γ fun ds Γ1 => Hold (ds = [.int lo, .int m] ∧ (-(2 ^ 62) ≤ lo ∧ lo < 2 ^ 62 ∧ -(2 ^ 62) ≤ m ∧ m < 2 ^ 62) ∧ Inv 0 Γ1))
    (turn : ∀ (i : Nat) G, lo + (i : Int) < m → Inv i G → WG K pin g (.int (lo + i)) G fun G2 => WS K pin tb G2 ⟨fun G => Hold (Inv (i + 1) G), P.rt, P.nx, fun G => Hold (Inv (i + 1) G), P.ex⟩) (done : ∀ G, Inv (m - lo).toNat G → P.nx G) : WS K pin (tFor (iRng2 t1) g tb) Γ P :=
  ws_for2 fun σ B H E Q q => h σ B H E Q fun vs B' H' ds Γ' g k p => q vs B' H' ds Γ' g k (by
    obtain ⟨e, h1, h3⟩ := p.get
    exact ⟨lo, m, e, h1, fun i G => Hold (Inv i G), .a h3, fun i G hi hG => turn i G hi hG.get, fun G hG => done G hG.get⟩)
theorem for_tuple (ds : List Dt) (Inv : Nat → List Sl → Prop) (h : WE K te Γ fun z Γ1 => Hold (z = .val (.tup ds) ∧ Inv 0 Γ1))
    (turn : ∀ (i : Nat) d G, ds[i]? = some d → Inv i G → WG K pin g d G fun G2 => WS K pin tb G2 ⟨fun G => Hold (Inv (i + 1) G), P.rt, P.nx, fun G => Hold (Inv (i + 1) G), P.ex⟩) (done : ∀ G, Inv ds.length G → P.nx G) : WS K pin (tFor (iTup K te) g tb) Γ P :=
  ws_forT (we_mono h fun z Γ1 p => by
    obtain ⟨e, h3⟩ := p.get
    exact ⟨ds, e, fun i G => Hold (Inv i G), .a h3, fun i d G hd hG => turn i d G hd hG.get, fun G hG => done G hG.get⟩)
theorem for_lst (ds : List Dt) (Inv : Nat → List Sl → Prop) (h : WE K te Γ fun z Γ1 => Hold (z.dt? = some (.lst ds) ∧ Inv 0 Γ1))
    (turn : ∀ (i : Nat) d G, ds[i]? = some d → Inv i G → WG K pin g d G fun G2 => WS K pin tb G2 ⟨fun G => Hold (Inv (i + 1) G), P.rt, P.nx, fun G => Hold (Inv (i + 1) G), P.ex⟩) (done : ∀ G, Inv ds.length G → P.nx G) : WS K pin (tFor (iList K te) g tb) Γ P :=
  ws_forL (we_mono h fun z Γ1 p => by
    obtain ⟨e, h3⟩ := p.get
    exact ⟨_, ds, e, rfl, fun i G => Hold (Inv i G), .a h3, fun i d G hd hG => turn i d G hd hG.get, fun G hG => done G hG.get⟩)
theorem for_acc {k : Nat} (ds : List Dt) (Inv : Nat → List Sl → Prop) (h0 : Γ[k]? = some (.acc ds)) (i0 : Inv 0 Γ) (hk : ∀ i G, Inv i G → G[k]? = some (.acc ds))
    (turn : ∀ (i : Nat) d G, ds[i]? = some d → Inv i G → WG K (k :: pin) g d G fun G2 => WS K (k :: pin) tb G2 ⟨fun G => Hold (Inv (i + 1) G), P.rt, P.nx, fun G => Hold (Inv (i + 1) G), P.ex⟩) (done : ∀ G, Inv ds.length G → P.nx G) : WS K pin (tFor (iList K (tVar k)) g tb) Γ P :=
  ws_forA h0 (fun i G => Hold (Inv i G)) (.a i0) (fun i G hG => hk i G hG.get) (fun i d G hd hG => turn i d G hd hG.get) fun G hG => done G hG.get
theorem while_ab (Inv : Nat → List Sl → Prop) (m0 : Nat) (i0 : Inv m0 Γ)
    (turn : ∀ m G, Inv m G → WT K tt G fun z G1 => (z = true → WS K pin tb G1 ⟨fun G => Hold (∃ m', m' < m ∧ Inv m' G), P.rt, P.nx, fun G => Hold (∃ m', m' < m ∧ Inv m' G), P.ex⟩) ∧ (z = false → P.nx G1)) : WS K pin (tWhile tt tb) Γ P :=
  ws_while Inv m0 i0 fun m G hG => wt_mono (turn m G hG) fun b G1 ⟨h1, h2⟩ => ⟨fun e => ws_mono (h1 e) (fun G h => h.get) (fun _ _ h => h) (fun _ h => h) (fun G h => h.get), h2⟩
/-- comprehensions, by what is made so far -/
theorem lc_range1 {t1 : TA} (n : Nat) (Inv : Nat → List Dt → List Sl → Prop) (h : WD K t1 Γ fun ds Γ1 => Hold (ds = [.int n] ∧ n ≤ 1000000 ∧ decide (j < Γ1.length) = true ∧ notAcc Γ1[j]? = true ∧ keepV Γ1[j]? = keepV Γ[j]? ∧ Inv 0 [] Γ1))
    (turn : ∀ i es G, i < n → Inv i es G → WT K tt (G.set j (.val (.int i))) fun b G2 => (b = true → WE K te G2 fun r G3 => ∃ d, r.dt? = some d ∧ Hold (Inv (i + 1) (es ++ [d]) (G3.set j (keepV Γ[j]?)))) ∧ (b = false → Hold (Inv (i + 1) es (G2.set j (keepV Γ[j]?)))))
    (done : ∀ es G, Inv n es G → Post (.new es) G) : WE K (tLc (iRng1 t1) (gName j) tt te [j]) Γ Post :=
  we_lc1 fun σ B H E Q q => h σ B H E Q fun vs B' H' ds Γ1 g k p => q vs B' H' ds Γ1 g k (by
    obtain ⟨e, h1, h2, h3, h4, h5⟩ := p.get
    refine ⟨n, e, h1, h2, h3, fun i es G => Hold (Inv i es G), .a h5, fun i es G hi hG => ?_, fun es G hG => done es G hG.get⟩
    rw [h4]
    exact turn i es G hi hG.get)
theorem lc_range2 {t1 : TA} (lo hi : Int) (Inv : Nat → List Dt → List Sl → Prop) (h : WD K t1 Γ fun ds Γ1 => Hold (ds = [.int lo, .int hi] ∧ (-(2 ^ 62) ≤ lo ∧ lo < 2 ^ 62 ∧ -(2 ^ 62) ≤ hi ∧ hi < 2 ^ 62) ∧ (hi - lo).toNat ≤ 1000000 ∧ decide (j < Γ1.length) = true ∧ notAcc Γ1[j]? = true ∧ keepV Γ1[j]? = keepV Γ[j]? ∧ Inv 0 [] Γ1))
    (turn : ∀ (i : Nat) es G, lo + i < hi → Inv i es G → WT K tt (G.set j (.val (.int (lo + i)))) fun b G2 => (b = true → WE K te G2 fun r G3 => ∃ d, r.dt? = some d ∧ Hold (Inv (i + 1) (es ++ [d]) (G3.set j (keepV Γ[j]?)))) ∧ (b = false → Hold (Inv (i + 1) es (G2.set j (keepV Γ[j]?)))))
    (done : ∀ es G, Inv (hi - lo).toNat es G → Post (.new es) G) : WE K (tLc (iRng2 t1) (gName j) tt te [j]) Γ Post :=
  we_lc2 fun σ B H E Q q => h σ B H E Q fun vs B' H' ds Γ1 g k p => q vs B' H' ds Γ1 g k (by
    obtain ⟨e, h0, h1, h2, h3, h4, h5⟩ := p.get
    refine ⟨lo, hi, e, h0, h1, h2, h3, fun i es G => Hold (Inv i es G), .a h5, fun i es G hi hG => ?_, fun es G hG => done es G hG.get⟩
    rw [h4]
    exact turn i es G hi hG.get)
theorem lc_tuple (ds : List Dt) (Inv : Nat → List Dt → List Sl → Prop) (h : WE K tl Γ fun z Γ1 => Hold (z = .val (.tup ds) ∧ ds.length ≤ 1000000 ∧ decide (j < Γ1.length) = true ∧ notAcc Γ1[j]? = true ∧ keepV Γ1[j]? = keepV Γ[j]? ∧ Inv 0 [] Γ1))
    (turn : ∀ (i : Nat) d es G, ds[i]? = some d → Inv i es G → WT K tt (G.set j (.val d)) fun b G2 => (b = true → WE K te G2 fun r G3 => ∃ d, r.dt? = some d ∧ Hold (Inv (i + 1) (es ++ [d]) (G3.set j (keepV Γ[j]?)))) ∧ (b = false → Hold (Inv (i + 1) es (G2.set j (keepV Γ[j]?)))))
    (done : ∀ es G, Inv ds.length es G → Post (.new es) G) : WE K (tLc (iTup K tl) (gName j) tt te [j]) Γ Post :=
  we_lcT (we_mono h fun z Γ1 p => by
    obtain ⟨e, h1, h2, h3, h4, h5⟩ := p.get
    refine ⟨ds, e, h1, h2, h3, fun i es G => Hold (Inv i es G), .a h5, fun i d es G hi hG => ?_, fun es G hG => done es G hG.get⟩
    rw [h4]
    exact turn i d es G hi hG.get)
theorem lc_lst (ds : List Dt) (Inv : Nat → List Dt → List Sl → Prop) (h : WE K tl Γ fun z Γ1 => Hold (z.dt? = some (.lst ds) ∧ ds.length ≤ 1000000 ∧ decide (j < Γ1.length) = true ∧ notAcc Γ1[j]? = true ∧ keepV Γ1[j]? = keepV Γ[j]? ∧ Inv 0 [] Γ1))
    (turn : ∀ (i : Nat) d es G, ds[i]? = some d → Inv i es G → WT K tt (G.set j (.val d)) fun b G2 => (b = true → WE K te G2 fun r G3 => ∃ d, r.dt? = some d ∧ Hold (Inv (i + 1) (es ++ [d]) (G3.set j (keepV Γ[j]?)))) ∧ (b = false → Hold (Inv (i + 1) es (G2.set j (keepV Γ[j]?)))))
    (done : ∀ es G, Inv ds.length es G → Post (.new es) G) : WE K (tLc (iList K tl) (gName j) tt te [j]) Γ Post :=
  we_lcL (we_mono h fun z Γ1 p => by
    obtain ⟨e, h1, h2, h3, h4, h5⟩ := p.get
    refine ⟨_, ds, e, rfl, h1, h2, h3, fun i es G => Hold (Inv i es G), .a h5, fun i d es G hi hG => ?_, fun es G hG => done es G hG.get⟩
    rw [h4]
    exact turn i d es G hi hG.get)
theorem lc_acc {k : Nat} (ds : List Dt) (Inv : Nat → List Dt → List Sl → Prop) (h0 : Γ[k]? = some (.acc ds)) (hn : ds.length ≤ 1000000) (hj : decide (j < Γ.length) = true) (hja : notAcc Γ[j]? = true) (i0 : Inv 0 [] Γ) (hk : ∀ i es G, Inv i es G → G[k]? = some (.acc ds))
    (turn : ∀ (i : Nat) d es G, ds[i]? = some d → Inv i es G → WT K tt (G.set j (.val d)) fun b G2 => (b = true → WE K te G2 fun r G3 => ∃ d, r.dt? = some d ∧ Hold (Inv (i + 1) (es ++ [d]) (G3.set j (keepV Γ[j]?)))) ∧ (b = false → Hold (Inv (i + 1) es (G2.set j (keepV Γ[j]?)))))
    (done : ∀ es G, Inv ds.length es G → Post (.new es) G) : WE K (tLc (iList K (tVar k)) (gName j) tt te [j]) Γ Post :=
  we_lcA h0 hn hj hja (fun i es G => Hold (Inv i es G)) (.a i0) (fun i es G hG => hk i es G hG.get) (fun i d es G hi hG => turn i d es G hi hG.get) fun es G hG => done es G hG.get
/-- .. where the source is told by its evaluation -/
theorem lc_lstH (h : WE K tl Γ fun z Γ1 => Hold (∃ ds, z.dt? = some (.lst ds) ∧ ds.length ≤ 1000000 ∧ decide (j < Γ1.length) = true ∧ notAcc Γ1[j]? = true ∧ ∃ Inv : Nat → List Dt → List Sl → Prop, Inv 0 [] Γ1 ∧
      (∀ (i : Nat) d es Γ', ds[i]? = some d → Inv i es Γ' → WT K tt (Γ'.set j (.val d)) fun b Γ2 => (b = true → WE K te Γ2 fun r Γ3 => ∃ d, r.dt? = some d ∧ Hold (Inv (i + 1) (es ++ [d]) (Γ3.set j (keepV Γ1[j]?)))) ∧ (b = false → Hold (Inv (i + 1) es (Γ2.set j (keepV Γ1[j]?))))) ∧
      ∀ es Γ', Inv ds.length es Γ' → Post (.new es) Γ')) : WE K (tLc (iList K tl) (gName j) tt te [j]) Γ Post :=
  we_lcL (we_mono h fun z Γ1 p => by
    obtain ⟨ds, e, h1, h2, h3, Inv, i0, turn, done⟩ := p.get
    exact ⟨_, ds, e, rfl, h1, h2, h3, fun i es G => Hold (Inv i es G), .a i0, fun i d es G hi hG => turn i d es G hi hG.get, fun es G hG => done es G hG.get⟩)
theorem for_lstH (h : WE K te Γ fun z Γ1 => Hold (∃ ds, z.dt? = some (.lst ds) ∧ ∃ Inv : Nat → List Sl → Prop, Inv 0 Γ1 ∧
      (∀ (i : Nat) d Γ', ds[i]? = some d → Inv i Γ' → WG K pin g d Γ' fun Γ2 => WS K pin tb Γ2 ⟨fun G => Hold (Inv (i + 1) G), P.rt, P.nx, fun G => Hold (Inv (i + 1) G), P.ex⟩) ∧ ∀ Γ', Inv ds.length Γ' → P.nx Γ')) : WS K pin (tFor (iList K te) g tb) Γ P :=
  ws_forL (we_mono h fun z Γ1 p => by
    obtain ⟨ds, e, Inv, i0, turn, done⟩ := p.get
    exact ⟨_, ds, e, rfl, fun i G => Hold (Inv i G), .a i0, fun i d G hi hG => turn i d G hi hG.get, fun G hG => done G hG.get⟩)
theorem for_range1H {t1 : TA} (h : WD K t1 Γ fun ds Γ1 => Hold (∃ n : Int, ds = [.int n] ∧ -(2 ^ 62) ≤ n ∧ n < 2 ^ 62 ∧ ∃ Inv : Nat → List Sl → Prop, Inv 0 Γ1 ∧
      (∀ (i : Nat) Γ', (i : Int) < n → Inv i Γ' → WG K pin g (.int i) Γ' fun Γ2 => WS K pin tb Γ2 ⟨fun G => Hold (Inv (i + 1) G), P.rt, P.nx, fun G => Hold (Inv (i + 1) G), P.ex⟩) ∧ ∀ Γ', Inv n.toNat Γ' → P.nx Γ')) : WS K pin (tFor (iRng1 t1) g tb) Γ P :=
  ws_for1 fun σ B H E Q q => h σ B H E Q fun vs B' H' ds Γ' g k p => q vs B' H' ds Γ' g k (by
    obtain ⟨n, e, h1, h2, Inv, i0, turn, done⟩ := p.get
    exact ⟨n, e, h1, h2, fun i G => Hold (Inv i G), .a i0, fun i G hi hG => turn i G hi hG.get, fun G hG => done G hG.get⟩)
theorem lc_range1H {t1 : TA} (h : WD K t1 Γ fun ds Γ1 => Hold (∃ n : Nat, ds = [.int n] ∧ n ≤ 1000000 ∧ decide (j < Γ1.length) = true ∧ notAcc Γ1[j]? = true ∧ ∃ Inv : Nat → List Dt → List Sl → Prop, Inv 0 [] Γ1 ∧
      (∀ i es Γ', i < n → Inv i es Γ' → WT K tt (Γ'.set j (.val (.int i))) fun b Γ2 => (b = true → WE K te Γ2 fun r Γ3 => ∃ d, r.dt? = some d ∧ Hold (Inv (i + 1) (es ++ [d]) (Γ3.set j (keepV Γ1[j]?)))) ∧ (b = false → Hold (Inv (i + 1) es (Γ2.set j (keepV Γ1[j]?))))) ∧
      ∀ es Γ', Inv n es Γ' → Post (.new es) Γ')) : WE K (tLc (iRng1 t1) (gName j) tt te [j]) Γ Post :=
  we_lc1 fun σ B H E Q q => h σ B H E Q fun vs B' H' ds Γ1 g k p => q vs B' H' ds Γ1 g k (by
    obtain ⟨n, e, h1, h2, h3, Inv, i0, turn, done⟩ := p.get
    exact ⟨n, e, h1, h2, h3, fun i es G => Hold (Inv i es G), .a i0, fun i es G hi hG => turn i es G hi hG.get, fun es G hG => done es G hG.get⟩)
theorem wt_yes {Q : Bool → List Sl → Prop} (p : Q true Γ) : WT K tYes Γ Q := fun σ B H E R q => q true B H Γ (.refl E) p
end
/-- an owned list is data from now on -/
theorem ws_frz {K : PySem.W.Frag} {pin : List Nat} {Γ : List Sl} {P : Ps} {t : TS} (i : Nat) {ds : Cn} (h : Γ[i]? = some (.cel ds)) (k : WS K pin t (Γ.set i (.val ds.dt)) P) : WS K pin t Γ P := fun σ B H D E n r b c xx => by
  obtain ⟨B', g⟩ := go_frz h E
  exact ws_from k g.s n r b c xx
/-- sum of a list of ints -/
theorem we_sum {K : PySem.W.Frag} {Γ : List Sl} {Post : Re → List Sl → Prop} {te : TE} (h : WE K te Γ fun r Γ1 => Hold (∃ ns : List Int, lstOf Γ1 r = some (ns.map Dt.int) ∧ Post (.val (.int ns.sum)) Γ1)) : WE K (tCB (rSum K) (tCons te tNil)) Γ Post :=
  we_cb1 (we_mono h fun r Γ1 hp => fun σ B H x E kx Q q => by
    obtain ⟨ns, hs, p⟩ := hp.get
    obtain ⟨a, vs, rfl, hq, ha⟩ := rv_lst E kx hs
    have e : vs = ns.map V.int := IsA.rawsI (xs := ns.map V.int) (by rw [List.map_map]; exact ha)
    subst e
    exact ⟨a, ns, rfl, hq, q _ B H _ Γ1 (.refl E) (.raw _) p⟩)
/-! environments written out -/
def NormP (Γ : List Sl) (Q : List Sl → Prop) : Prop := Q Γ
theorem norm_intro {Γ Γ' : List Sl} {Q : List Sl → Prop} (e : Γ = Γ') (h : Q Γ') : NormP Γ Q := by
  subst e
  exact h
theorem norm_cons {a a' : Sl} {Γ Γt Γt' : List Sl} (e : Γ = a :: Γt) (ea : a = a') (et : Γt = Γt') : Γ = a' :: Γt' := by
  subst ea et
  exact e
theorem norm_v {d : Dt} : slOf (.val d) = .val d := rfl
theorem norm_n {ds : List Dt} : slOf (.new ds) = .acc ds := rfl
theorem norm_o {i : Nat} : slOf (.own i) = .un := rfl
theorem ws_asgN {K : PySem.W.Frag} {pin : List Nat} {Γ : List Sl} {P : Ps} {te : TE} {i : Nat} (hp : pin.contains i = false) (hi : decide (i < Γ.length) = true) (h : WE K te Γ fun z Γ1 => NormP (Γ1.set i (slOf z)) P.nx) : WS K pin (tAsg te (gName i)) Γ P := ws_asg hp hi h
theorem wg_nameN {K : PySem.W.Frag} {pin : List Nat} {Γ : List Sl} {i : Nat} {d : Dt} {Q : List Sl → Prop} (hp : pin.contains i = false) (hi : decide (i < Γ.length) = true) (p : NormP (Γ.set i (.val d)) Q) : WG K pin (gName i) d Γ Q := wg_name hp hi p
theorem we_appendN {K : PySem.W.Frag} {Γ : List Sl} {te : TE} {i : Nat} {ds0 : List Dt} {Post : Re → List Sl → Prop} (h0 : Γ[i]? = some (.acc ds0)) (h : WE K te Γ fun z Γ1 => ∃ d ds, z.dt? = some d ∧ Γ1[i]? = some (.acc ds) ∧ ds.length < 1000000 ∧ NormP (Γ1.set i (.acc (ds ++ [d]))) (Post (.val .non))) :
    WE K (tBM K "list" rAppend (tVar i) (tCons te tNil)) Γ Post := we_append h0 h
theorem ws_setN {K : PySem.W.Frag} {pin : List Nat} {Γ : List Sl} {P : Ps} {te tj : TE} {i : Nat} (h : WE K te Γ fun z Γ1 => ∃ d, z = .val d ∧ (∃ ds1, Γ1[i]? = some (.acc ds1)) ∧ WE K tj Γ1 fun y Γ2 => ∃ ds k j, y = .val (.int k) ∧ Γ2[i]? = some (.acc ds) ∧ ixN ds.length k = some j ∧ NormP (Γ2.set i (.acc (ds.set j d))) P.nx) :
    WS K pin (tAsg te (gSub (tVar i) tj rSetL)) Γ P := ws_setA h
theorem we_reverseN {K : PySem.W.Frag} {Γ : List Sl} {i : Nat} {ds : List Dt} {Post : Re → List Sl → Prop} (h0 : Γ[i]? = some (.acc ds)) (p : NormP (Γ.set i (.acc ds.reverse)) (Post (.val .non))) : WE K (tBM0 K "list" rReverse (tVar i)) Γ Post := we_reverse h0 p
theorem ws_augN {K : PySem.W.Frag} {pin : List Nat} {Γ : List Sl} {P : Ps} {te : TE} {i : Nat} {f : Int → Int → Int} {a : Int} (hx : Γ[i]? = some (.val (.int a))) (hp : pin.contains i = false) (h : WE K te Γ fun z Γ1 => ∃ b, z = .val (.int b) ∧ NormP (Γ1.set i (.val (.int (f a b)))) P.nx) : WS K pin (tAug i te (ipI f)) Γ P := ws_aug hx hp h
theorem we_popAtN {K : PySem.W.Frag} {Γ : List Sl} {te : TE} {i : Nat} {ds0 : List Dt} {Post : Re → List Sl → Prop} (h0 : Γ[i]? = some (.acc ds0)) (h : WE K te Γ fun z Γ1 => ∃ ds k j d, z = .val (.int k) ∧ Γ1[i]? = some (.acc ds) ∧ -(2 ^ 63) ≤ k ∧ k < 2 ^ 63 ∧ seqIndex? k ds.length = some j ∧ ds[j]? = some d ∧ NormP (Γ1.set i (.acc (ds.eraseIdx j))) (Post (.val d))) :
    WE K (tBM K "list" rPopAt (tVar i) (tCons te tNil)) Γ Post := we_popAt h0 h
theorem we_callH {K : PySem.W.Frag} {Γ : List Sl} {Post : Re → List Sl → Prop} {ap : AP} {E0 : XK} {ta : TA} (h : WA K ta Γ fun rs Γ1 => nodupB (ownsOf rs) = true ∧ Hold (ap (rs.map (argSl Γ1)) fun r as' => NormP (putBack rs as' Γ1) (Post r))) : WE K (tCall (toSp K ap) [] E0 ta) Γ Post :=
  we_call fun σ B H E Q q => h σ B H E Q fun vs B' H' rs Γ1 g k p => q vs B' H' rs Γ1 g k ⟨p.1, p.2.get⟩
theorem nd_t {c : Prop} [Decidable c] (h : (!decide c) = true) : ¬ c := by
  intro hc
  rw [decide_eq_true hc] at h
  cases h
theorem nd_f {c : Prop} [Decidable c] (h : (!decide c) = false) : c := by
  by_cases hc : c
  · exact hc
  · rw [decide_eq_false hc] at h; cases h
theorem len_map {α β : Type} (f : α → β) (xs : List α) : ((xs.map f).length : Int) = (xs.length : Int) := by rw [List.length_map]
theorem at_map {α β : Type} {f : α → β} {xs : List α} {k : Int} (h0 : 0 ≤ k) (h1 : k < xs.length) (d : α) : atI (xs.map f) k = some (f (xs.getD k.toNat d)) := by
  refine atI_of (j := k.toNat) (by omega) ?_
  rw [List.getElem?_map, List.getD_eq_getElem?_getD, List.getElem?_eq_getElem (by omega)]
  rfl
/-! ### == of plain data: ints, texts, None, tuples and lists of them; no bools -/
mutual
def plain : Dt → Bool
  | .raw .non => true
  | .raw (.int _) => true
  | .raw (.str s) => PyData.canLay0 (.str s)
  | .raw _ => false
  | .tup ds => plainAll ds
  | .lst ds => plainAll ds
  | .obj _ _ => false
  | .scr _ => false
  | .dK _ => false
  | .dT _ => false
  | .exn _ _ _ => false
def plainAll : List Dt → Bool
  | [] => true
  | d :: ds => plain d && plainAll ds
end
theorem eqv_pair {a b c d : Int} : PyData.eqv (.tuple [.int a, .int b]) (.tuple [.int c, .int d]) = decide (a = c ∧ b = d) := by
  simp only [PyData.eqv, PyData.eqvAll, Bool.and_true]
  rw [Bool.eq_iff_iff]
  simp
theorem shaped_pair {a b : Int} : SeqAt.shaped (.tuple [.int a, .int b]) = true := by
  simp [SeqAt.shaped, PyData.canLay0, PyData.canLayAll0, PyData.depth, PyData.depthAll]
theorem py_pair {Γ : List Sl} {a b : Int} : Re.py Γ (.val (.tup [.int a, .int b])) = some (.tuple [.int a, .int b]) := by
  simp [Re.py, Dt.py, pyAll]
theorem eqp_pair {Γ : List Sl} {Post : Re → List Sl → Prop} {neg : Bool} {a b c d : Int} (k : Post (.val (.bl (neg ^^ decide (a = c ∧ b = d)))) Γ) : EqP neg (.val (.tup [.int a, .int b])) (.val (.tup [.int c, .int d])) Γ Post :=
  eqp_d py_pair py_pair shaped_pair shaped_pair (by rw [eqv_pair]; exact k)
end Ab
namespace Ab
open PySem L2
local macro_rules | `(tactic| walk_at "no") => `(tactic| first
  | exact fun h => Bool.noConfusion (show true = false from h)
  | exact fun h => Bool.noConfusion (show false = true from h)
  | exact fun h => absurd (of_decide_eq_true h) (by omega)
  | exact fun h => absurd (by omega) (of_decide_eq_false h)
  | exact fun h => absurd (by omega) (nd_t h)
  | exact fun h => absurd (nd_f h) (by omega)
  | fail "no")
local macro_rules | `(tactic| walk_at "kb") => `(tactic| first | exact kb_tt | exact kb_ll | exact kb_ii | exact kb_ib | exact kb_ss | exact kb_sb | exact kb_si | exact kb_tb | exact kb_ti | exact kb_ts | exact kb_tl | exact kb_lb | exact kb_li | exact kb_ls | exact kb_lt | exact kb_is | exact kb_it | exact kb_il | exact kb_st | exact kb_sl | exact kb_bb | exact kb_bi | exact kb_nb | exact kb_ni | exact kb_ns | exact kb_nt | exact kb_nl | exact kb_bs | exact kb_bt | exact kb_bl | fail "kb")
local macro_rules | `(tactic| walk_at "norm") => `(tactic| first
  | exact (rfl : _ = ([] : List Sl))
  | ((refine' norm_cons (rfl : _ = _ :: _) ?ea ?et); (case ea => first | exact norm_v | exact norm_n | exact norm_o | exact rfl | fail "norm"); (case et => walk_at "norm"))
  | fail "norm")
local macro_rules | `(tactic| walk_at "x") => `(tactic| first
  | ((with_reducible refine' norm_intro ?hn ?_); (case hn => walk_at "norm"))
  | ((with_reducible refine' we_var ?hh ?_); (case hh => exact rfl))
  | ((with_reducible refine' we_own ?hh ?_); (case hh => exact rfl))
  | with_reducible refine we_c ?_
  | with_reducible refine we_addG ?_
  | with_reducible refine addp_i ?_
  | with_reducible refine we_opI0 ?_
  | with_reducible refine we_opI ?_
  | with_reducible refine we_mulG ?_
  | ((with_reducible refine' mulp_r ?h1 ?_); (case h1 => first | decide | omega | fail "m"))
  | ((with_reducible refine' mulp_l ?h1 ?_); (case h1 => first | decide | omega | fail "m"))
  | with_reducible refine we_neg ?_
  | with_reducible refine we_ltG ?_
  | with_reducible refine ltp_i ?_
  | with_reducible refine we_eqG ?_
  | with_reducible refine we_neG ?_
  | with_reducible refine eqp_i ?_
  | with_reducible refine nep_i ?_
  | with_reducible refine we_ixG ?_
  | ((with_reducible refine' ixp ?h1 ?h2 ?_); (case h1 => exact rfl); (case h2 => exact rfl))
  | with_reducible refine we_lenG ?_
  | ((with_reducible refine' lenp ?hh ?_); (case hh => exact rfl))
  | with_reducible refine we_intG ?_
  | with_reducible refine intp_i ?_
  | with_reducible refine intp_b ?_
  | with_reducible refine we_abs ?_
  | with_reducible refine we_tup ?_
  | with_reducible refine we_lst ?_
  | with_reducible refine we_tuple ?_
  | with_reducible refine we_list ?_
  | with_reducible refine we_sum ?_
  | with_reducible refine we_max2 ?_
  | with_reducible refine we_min2 ?_
  | with_reducible refine wd_cons ?_
  | with_reducible refine wd_nil ?_
  | with_reducible refine wa_cons ?_
  | with_reducible refine wa_nil ?_
  | with_reducible refine we_callH ?_
  | with_reducible refine we_isiG ?_
  | ((with_reducible refine' isi_own ?h1 ?h2 ?_); (case h1 => exact rfl); (case h2 => walk_at "kb"))
  | ((with_reducible refine' isi_val ?h1 ?h2 ?_); (case h1 => exact rfl); (case h2 => walk_at "kb"))
  | ((with_reducible refine' isi_new ?h2 ?_); (case h2 => walk_at "kb"))
  | with_reducible refine we_chainI ?_
  | with_reducible refine we_andV ?_
  | with_reducible refine we_orV ?_
  | with_reducible refine we_notV ?_
  | with_reducible refine wt_test ?_
  | with_reducible refine wt_B ?_
  | with_reducible refine wt_yes ?_
  | with_reducible refine wt_and ?_
  | with_reducible refine wt_or ?_
  | with_reducible refine wt_not ?_
  | ((with_reducible refine' ws_retA ?hh ?_); (case hh => exact rfl))
  | with_reducible refine ws_ret ?_
  | with_reducible refine ws_if ?_
  | with_reducible refine ws_nil ?_
  | with_reducible refine ws_expr ?_
  | with_reducible refine ws_asgN rfl rfl ?_
  | with_reducible refine ws_setN ?_
  | with_reducible refine ws_asgG ?_
  | ((with_reducible refine' wg_tup ?hh ?_); (case hh => exact rfl))
  | with_reducible refine wgs_cons ?_
  | with_reducible refine wgs_nil ?_
  | with_reducible refine wg_nameN rfl rfl ?_
  | ((with_reducible refine' we_appendN ?hh ?_); (case hh => exact rfl))
  | ((with_reducible refine' we_reverseN ?hh ?_); (case hh => exact rfl))
  | ((with_reducible refine' ws_augN ?h1 ?h2 ?_); (case h1 => exact rfl); (case h2 => exact rfl))
  | (refine ⟨_, rfl, ⟨_, rfl⟩, ?_⟩)
  | (refine ⟨_, rfl, ?_⟩)
  | (refine ⟨_, _, _, rfl, rfl, rfl, ?_⟩)
  | (refine ⟨_, _, rfl, rfl, (Nat.le_of_ble_eq_true rfl : _ ≤ _), ?_⟩)
  | (refine ⟨_, _, rfl, rfl, ?_⟩)
  | (refine ⟨(Nat.le_of_ble_eq_true rfl : _ ≤ _), ?_⟩)
  | (refine ⟨(rfl : _ = true), ?_⟩)
  | ((refine' ⟨fun _ => ?_, fun hY => absurd hY ?k2⟩); (case k2 => walk_at "no"))
  | ((refine' ⟨fun hY => absurd hY ?k2, fun _ => ?_⟩); (case k2 => walk_at "no"))
  | (refine ⟨⟨(by omega), (by omega)⟩, ?_⟩)
  | (refine ⟨⟨(by decide), (by decide), (by decide)⟩, ?_⟩)
  | (refine ⟨(by first | decide | omega | fail "c"), ?_⟩)
  | fail "stop")
local macro_rules | `(tactic| walk_at "e") => `(tactic| first | with_reducible refine ws_seq ?_ | walk_at "x" | fail "stop")
local macro_rules | `(tactic| walk_at "xs") => `(tactic| repeat' walk_at "x")
local macro_rules | `(tactic| walk_at "es") => `(tactic| repeat' walk_at "e")
/-! ### the laws' pools: five numbers (PoolIs) or four (Pool4) -/
def PoolIs (c : Int) (ds : List Dt) : Prop := ∃ cell flag seed : Int, ds = [.int cell, .int c, .int flag, .int seed, .int 3] ∧ 0 ≤ cell ∧ 0 ≤ seed ∧ seed < 2147483647
def Pool4 (c : Int) (ds : List Dt) : Prop := ∃ cell flag seed : Int, ds = [.int cell, .int c, .int flag, .int seed] ∧ 0 ≤ cell ∧ 0 ≤ seed ∧ seed < 2147483647
def ap_pool : AP := fun as Post => ∃ (ns : List Int) (k : Int), as = [.val (.scr ns), .val (.int k)] ∧ 0 ≤ k ∧ k < 1000000 ∧ ∀ ds, PoolIs 0 ds → Post (.new ds) as
def ap_pool4 : AP := fun as Post => ∃ (ns : List Int) (k : Int), as = [.val (.scr ns), .val (.int k)] ∧ 0 ≤ k ∧ k < 1000000 ∧ ∀ ds, Pool4 0 ds → Post (.new ds) as
def ap_take : AP := fun as Post => ∃ ds c n, as = [.acc ds, .val (.int n)] ∧ PoolIs c ds ∧ 0 ≤ c ∧ c < 1000000000 ∧ 0 < n ∧ n < 18446744073709551616 ∧ ∀ ds' g, PoolIs (c + 1) ds' → 0 ≤ g → g < n → Post (.val (.int g)) [.acc ds', .val (.int n)]
def ap_take4 : AP := fun as Post => ∃ ds c n, as = [.acc ds, .val (.int n)] ∧ Pool4 c ds ∧ 0 ≤ c ∧ c < 1000000000 ∧ 0 < n ∧ n < 18446744073709551616 ∧ ∀ ds' g, Pool4 (c + 1) ds' → 0 ≤ g → g < n → Post (.val (.int g)) [.acc ds', .val (.int n)]
theorem len_pool (as : List Sl) (Post : Re → List Sl → Prop) (h : ap_pool as Post) : as.length = 2 := by obtain ⟨ns, k, rfl, _⟩ := h; rfl
theorem len_pool4 (as : List Sl) (Post : Re → List Sl → Prop) (h : ap_pool4 as Post) : as.length = 2 := by obtain ⟨ns, k, rfl, _⟩ := h; rfl
theorem len_take (as : List Sl) (Post : Re → List Sl → Prop) (h : ap_take as Post) : as.length = 2 := by obtain ⟨ds, c, n, rfl, _⟩ := h; rfl
theorem len_take4 (as : List Sl) (Post : Re → List Sl → Prop) (h : ap_take4 as Post) : as.length = 2 := by obtain ⟨ds, c, n, rfl, _⟩ := h; rfl
def tPool (K : PySem.W.Frag) : TS :=
    (tSeq (tAsg (tC (.int 0)) (gName 2))
    (tSeq (tIfS (tTest (tOp (rLtG K) (tVar 1) (tCB (rLenV K) (tCons (tVar 0) tNil)))) (tAsg (tCB rAbs (tCons (tCB rInt1 (tCons (tOp (rIx K) (tVar 0) (tVar 1)) tNil)) tNil)) (gName 2)) tNext)
    (tRet (tLst (tCons (tVar 2) (tCons (tC (.int 0)) (tCons (tCB rInt1 (tCons (tOp rGeI (tVar 2) (tOp rPowI (tC (.int 10)) (tC (.int 18)))) tNil)) (tCons (tOp rModI (tCB rInt1 (tCons (tOp (rAddG K) (tVar 2) (tOp (rMulG K) (tVar 1) (tC (.int 7919)))) tNil)) (tC (.int 2147483647))) (tCons (tC (.int 3)) tNil)))))))))
def tPool4 (K : PySem.W.Frag) : TS :=
    (tSeq (tAsg (tC (.int 0)) (gName 2))
    (tSeq (tIfS (tTest (tOp (rLtG K) (tVar 1) (tCB (rLenV K) (tCons (tVar 0) tNil)))) (tAsg (tCB rAbs (tCons (tCB rInt1 (tCons (tOp (rIx K) (tVar 0) (tVar 1)) tNil)) tNil)) (gName 2)) tNext)
    (tRet (tLst (tCons (tVar 2) (tCons (tC (.int 0)) (tCons (tCB rInt1 (tCons (tOp rGeI (tVar 2) (tOp rPowI (tC (.int 10)) (tC (.int 18)))) tNil)) (tCons (tOp rModI (tCB rInt1 (tCons (tOp (rAddG K) (tVar 2) (tOp (rMulG K) (tVar 1) (tC (.int 7919)))) tNil)) (tC (.int 2147483647))) tNil))))))))
def tTakeA (K : PySem.W.Frag) : TS :=
    (tSeq (tAsg (tOp (rAddG K) (tOp (rIx K) (tVar 0) (tC (.int 1))) (tC (.int 1))) (gSub (tVar 0) (tC (.int 1)) rSetL))
    (tSeq (tIfS (tTest (tOp (rEqG K) (tOp (rIx K) (tVar 0) (tC (.int 2))) (tC (.int 1)))) (tSeq (tAsg (tOp rModI (tCB rInt1 (tCons (tOp (rIx K) (tVar 0) (tC (.int 0))) tNil)) (tVar 1)) (gName 2))
    (tSeq (tAsg (tOp rDivI (tOp (rIx K) (tVar 0) (tC (.int 0))) (tVar 1)) (gSub (tVar 0) (tC (.int 0)) rSetL))
    (tRet (tVar 2)))) tNext)
    (tSeq (tAsg (tOp rModI (tCB rInt1 (tCons (tOp (rAddG K) (tOp (rAddG K) (tOp (rMulG K) (tOp (rIx K) (tVar 0) (tC (.int 3))) (tC (.int 48271))) (tOp (rMulG K) (tOp (rIx K) (tVar 0) (tC (.int 1))) (tC (.int 69621)))) (tC (.int 11))) tNil)) (tC (.int 2147483647))) (gName 3))
    (tSeq (tAsg (tOp rModI (tCB rInt1 (tCons (tOp (rAddG K) (tOp (rAddG K) (tOp (rMulG K) (tVar 3) (tC (.int 16807))) (tOp rDivI (tVar 3) (tC (.int 65536)))) (tOp (rMulG K) (tOp (rMulG K) (tOp (rIx K) (tVar 0) (tC (.int 1))) (tOp (rIx K) (tVar 0) (tC (.int 1)))) (tC (.int 40692)))) tNil)) (tC (.int 2147483399))) (gName 4))
    (tRet (tOp rModI (tCB rInt1 (tCons (tOp rDivI (tVar 4) (tOp (rAddG K) (tOp (rIx K) (tVar 0) (tC (.int 1))) (tC (.int 6)))) tNil)) (tVar 1)))))))
def tTakeB (K : PySem.W.Frag) : TS :=
    (tSeq (tAsg (tOp (rAddG K) (tOp (rIx K) (tVar 0) (tC (.int 1))) (tC (.int 1))) (gSub (tVar 0) (tC (.int 1)) rSetL))
    (tSeq (tIfS (tAnd (tTest (tOp (rEqG K) (tOp (rIx K) (tVar 0) (tC (.int 2))) (tC (.int 1)))) (tTest (tOp rGtI (tOp (rIx K) (tVar 0) (tC (.int 0))) (tC (.int 0))))) (tSeq (tAsg (tOp rModI (tCB rInt1 (tCons (tOp (rIx K) (tVar 0) (tC (.int 0))) tNil)) (tVar 1)) (gName 2))
    (tSeq (tAsg (tOp rDivI (tOp (rIx K) (tVar 0) (tC (.int 0))) (tVar 1)) (gSub (tVar 0) (tC (.int 0)) rSetL))
    (tRet (tVar 2)))) tNext)
    (tSeq (tAsg (tOp rModI (tCB rInt1 (tCons (tOp (rAddG K) (tOp (rAddG K) (tOp (rMulG K) (tOp (rIx K) (tVar 0) (tC (.int 3))) (tC (.int 48271))) (tOp (rMulG K) (tOp (rIx K) (tVar 0) (tC (.int 1))) (tC (.int 69621)))) (tC (.int 11))) tNil)) (tC (.int 2147483647))) (gName 3))
    (tSeq (tAsg (tOp rModI (tCB rInt1 (tCons (tOp (rAddG K) (tOp (rAddG K) (tOp (rMulG K) (tVar 3) (tC (.int 16807))) (tOp rDivI (tVar 3) (tC (.int 65536)))) (tOp (rMulG K) (tOp (rMulG K) (tOp (rIx K) (tVar 0) (tC (.int 1))) (tOp (rIx K) (tVar 0) (tC (.int 1)))) (tC (.int 40692)))) tNil)) (tC (.int 2147483399))) (gName 4))
    (tRet (tOp rModI (tCB rInt1 (tCons (tOp rDivI (tVar 4) (tOp (rAddG K) (tOp (rIx K) (tVar 0) (tC (.int 1))) (tC (.int 6)))) tNil)) (tVar 1)))))))
def tTakeC (K : PySem.W.Frag) : TS :=
    (tSeq (tAsg (tOp (rAddG K) (tOp (rIx K) (tVar 0) (tC (.int 1))) (tC (.int 1))) (gSub (tVar 0) (tC (.int 1)) rSetL))
    (tSeq (tIfS (tTest (tOp (rEqG K) (tOp (rIx K) (tVar 0) (tC (.int 2))) (tC (.int 1)))) (tSeq (tAsg (tOp rModI (tCB rInt1 (tCons (tOp (rIx K) (tVar 0) (tC (.int 0))) tNil)) (tVar 1)) (gName 2))
    (tSeq (tAsg (tOp rDivI (tOp (rIx K) (tVar 0) (tC (.int 0))) (tVar 1)) (gSub (tVar 0) (tC (.int 0)) rSetL))
    (tRet (tVar 2)))) tNext)
    (tSeq (tAsg (tOp rModI (tCB rInt1 (tCons (tOp (rAddG K) (tOp (rAddG K) (tOp (rMulG K) (tOp (rIx K) (tVar 0) (tC (.int 3))) (tC (.int 48271))) (tOp (rMulG K) (tOp (rIx K) (tVar 0) (tC (.int 1))) (tC (.int 69621)))) (tC (.int 11))) tNil)) (tC (.int 2147483647))) (gName 3))
    (tSeq (tAsg (tOp rModI (tCB rInt1 (tCons (tOp (rAddG K) (tOp (rAddG K) (tOp (rMulG K) (tVar 3) (tC (.int 16807))) (tOp rDivI (tVar 3) (tC (.int 65536)))) (tOp (rMulG K) (tOp (rMulG K) (tOp (rIx K) (tVar 0) (tC (.int 1))) (tOp (rIx K) (tVar 0) (tC (.int 1)))) (tC (.int 40692)))) tNil)) (tC (.int 2147483399))) (gName 4))
    (tRet (tOp rModI (tCB rInt1 (tCons (tVar 4) tNil)) (tVar 1)))))))
def tTakeD (K : PySem.W.Frag) : TS :=
    (tSeq (tAsg (tOp (rAddG K) (tOp (rIx K) (tVar 0) (tC (.int 1))) (tC (.int 1))) (gSub (tVar 0) (tC (.int 1)) rSetL))
    (tSeq (tIfS (tAnd (tTest (tOp (rEqG K) (tOp (rIx K) (tVar 0) (tC (.int 2))) (tC (.int 1)))) (tTest (tOp rGtI (tOp (rIx K) (tVar 0) (tC (.int 0))) (tC (.int 0))))) (tSeq (tAsg (tOp rModI (tCB rInt1 (tCons (tOp (rIx K) (tVar 0) (tC (.int 0))) tNil)) (tVar 1)) (gName 2))
    (tSeq (tAsg (tOp rDivI (tOp (rIx K) (tVar 0) (tC (.int 0))) (tVar 1)) (gSub (tVar 0) (tC (.int 0)) rSetL))
    (tRet (tVar 2)))) tNext)
    (tSeq (tAsg (tOp rModI (tCB rInt1 (tCons (tOp (rAddG K) (tOp (rAddG K) (tOp (rMulG K) (tOp (rIx K) (tVar 0) (tC (.int 3))) (tC (.int 48271))) (tOp (rMulG K) (tOp (rIx K) (tVar 0) (tC (.int 1))) (tC (.int 69621)))) (tC (.int 11))) tNil)) (tC (.int 2147483647))) (gName 3))
    (tSeq (tAsg (tOp rModI (tCB rInt1 (tCons (tOp (rAddG K) (tOp (rAddG K) (tOp (rMulG K) (tVar 3) (tC (.int 16807))) (tOp rDivI (tVar 3) (tC (.int 65536)))) (tOp (rMulG K) (tOp (rMulG K) (tOp (rIx K) (tVar 0) (tC (.int 1))) (tOp (rIx K) (tVar 0) (tC (.int 1)))) (tC (.int 40692)))) tNil)) (tC (.int 2147483399))) (gName 4))
    (tRet (tOp rModI (tCB rInt1 (tCons (tVar 4) tNil)) (tVar 1)))))))
theorem run_tPool {K : PySem.W.Frag} (as : List Sl) (Post : Re → List Sl → Prop) (h : ap_pool as Post) : WS K [] (tPool K) (as ++ List.replicate (3 - as.length) .un) ⟨fun G => Post (.val .non) (exitArgs [] G as), fun r G => Post r (exitArgs [] G as), fun _ => False, fun _ => False, .no⟩ := by
  obtain ⟨ns, k, rfl, h0, hk, p⟩ := h
  unfold tPool
  show WS K [] _ [.val (.scr ns), .val (.int k), .un] _
  walk_at "e"; walk_at "e"; walk_at "e"
  refine ws_cut (fun G => ∃ c : Int, 0 ≤ c ∧ G = [.val (.scr ns), .val (.int k), .val (.int c)]) ?_ ?_
  · walk_at "es"
    refine ⟨fun h1 => ?_, fun h1 => ?_⟩
    · have h1' := of_decide_eq_true h1
      rw [len_map] at h1'
      walk_at "es"
      refine ixp rfl (at_map h0 h1' 0) ?_
      walk_at "es"
      refine .a ⟨_, ?_, rfl⟩
      split <;> omega
    · walk_at "es"
      exact .a ⟨0, Int.le_refl _, rfl⟩
  · rintro G ⟨c, hc, rfl⟩
    walk_at "es"
    exact p _ ⟨_, _, _, rfl, hc, Int.emod_nonneg _ (by decide), Int.emod_lt_of_pos _ (by decide)⟩
theorem run_tPool4 {K : PySem.W.Frag} (as : List Sl) (Post : Re → List Sl → Prop) (h : ap_pool4 as Post) : WS K [] (tPool4 K) (as ++ List.replicate (3 - as.length) .un) ⟨fun G => Post (.val .non) (exitArgs [] G as), fun r G => Post r (exitArgs [] G as), fun _ => False, fun _ => False, .no⟩ := by
  obtain ⟨ns, k, rfl, h0, hk, p⟩ := h
  unfold tPool4
  show WS K [] _ [.val (.scr ns), .val (.int k), .un] _
  walk_at "e"; walk_at "e"; walk_at "e"
  refine ws_cut (fun G => ∃ c : Int, 0 ≤ c ∧ G = [.val (.scr ns), .val (.int k), .val (.int c)]) ?_ ?_
  · walk_at "es"
    refine ⟨fun h1 => ?_, fun h1 => ?_⟩
    · have h1' := of_decide_eq_true h1
      rw [len_map] at h1'
      walk_at "es"
      refine ixp rfl (at_map h0 h1' 0) ?_
      walk_at "es"
      refine .a ⟨_, ?_, rfl⟩
      split <;> omega
    · walk_at "es"
      exact .a ⟨0, Int.le_refl _, rfl⟩
  · rintro G ⟨c, hc, rfl⟩
    walk_at "es"
    exact p _ ⟨_, _, _, rfl, hc, Int.emod_nonneg _ (by decide), Int.emod_lt_of_pos _ (by decide)⟩
theorem run_tTakeA {K : PySem.W.Frag} (as : List Sl) (Post : Re → List Sl → Prop) (h : ap_take as Post) : WS K [0] (tTakeA K) (as ++ List.replicate (5 - as.length) .un) ⟨fun G => Post (.val .non) (exitArgs [0] G as), fun r G => Post r (exitArgs [0] G as), fun _ => False, fun _ => False, .no⟩ := by
  obtain ⟨ds, c, n, rfl, ⟨cell, flag, seed, rfl, hc, hs, hs2⟩, hc0, hc1, hn, hn2, p⟩ := h
  unfold tTakeA
  show WS K [0] _ [.acc _, .val (.int n), .un, .un, .un] _
  walk_at "es"
  refine ⟨fun h1 => ?_, fun h1 => ?_⟩
  · walk_at "es"
    exact p _ _ ⟨_, _, _, rfl, Int.ediv_nonneg hc (by omega), hs, hs2⟩ (Int.emod_nonneg _ (by omega)) (Int.emod_lt_of_pos _ hn)
  · walk_at "es"
    exact p _ _ ⟨_, _, _, rfl, hc, hs, hs2⟩ (Int.emod_nonneg _ (by omega)) (Int.emod_lt_of_pos _ hn)
theorem run_tTakeB {K : PySem.W.Frag} (as : List Sl) (Post : Re → List Sl → Prop) (h : ap_take as Post) : WS K [0] (tTakeB K) (as ++ List.replicate (5 - as.length) .un) ⟨fun G => Post (.val .non) (exitArgs [0] G as), fun r G => Post r (exitArgs [0] G as), fun _ => False, fun _ => False, .no⟩ := by
  obtain ⟨ds, c, n, rfl, ⟨cell, flag, seed, rfl, hc, hs, hs2⟩, hc0, hc1, hn, hn2, p⟩ := h
  unfold tTakeB
  show WS K [0] _ [.acc _, .val (.int n), .un, .un, .un] _
  walk_at "e"; walk_at "e"; walk_at "e"; walk_at "e"; walk_at "e"; walk_at "e"; walk_at "e"; walk_at "e"; walk_at "e"; walk_at "e"; walk_at "e"; walk_at "e"
  refine ws_cut (fun G => G = [.acc [.int cell, .int (c + 1), .int flag, .int seed, .int 3], .val (.int n), .un, .un, .un]) ?_ ?_
  · walk_at "es"
    refine ⟨fun h1 => ?_, fun h1 => ?_⟩
    · walk_at "es"
      refine ⟨fun h2 => ?_, fun h2 => ?_⟩
      · walk_at "es"
        exact p _ _ ⟨_, _, _, rfl, Int.ediv_nonneg hc (by omega), hs, hs2⟩ (Int.emod_nonneg _ (by omega)) (Int.emod_lt_of_pos _ hn)
      · walk_at "es"
        exact .a rfl
    · walk_at "es"
      exact .a rfl
  · rintro G rfl
    walk_at "es"
    exact p _ _ ⟨_, _, _, rfl, hc, hs, hs2⟩ (Int.emod_nonneg _ (by omega)) (Int.emod_lt_of_pos _ hn)
theorem run_tTakeC {K : PySem.W.Frag} (as : List Sl) (Post : Re → List Sl → Prop) (h : ap_take as Post) : WS K [0] (tTakeC K) (as ++ List.replicate (5 - as.length) .un) ⟨fun G => Post (.val .non) (exitArgs [0] G as), fun r G => Post r (exitArgs [0] G as), fun _ => False, fun _ => False, .no⟩ := by
  obtain ⟨ds, c, n, rfl, ⟨cell, flag, seed, rfl, hc, hs, hs2⟩, hc0, hc1, hn, hn2, p⟩ := h
  unfold tTakeC
  show WS K [0] _ [.acc _, .val (.int n), .un, .un, .un] _
  walk_at "es"
  refine ⟨fun h1 => ?_, fun h1 => ?_⟩
  · walk_at "es"
    exact p _ _ ⟨_, _, _, rfl, Int.ediv_nonneg hc (by omega), hs, hs2⟩ (Int.emod_nonneg _ (by omega)) (Int.emod_lt_of_pos _ hn)
  · walk_at "es"
    exact p _ _ ⟨_, _, _, rfl, hc, hs, hs2⟩ (Int.emod_nonneg _ (by omega)) (Int.emod_lt_of_pos _ hn)
theorem run_tTakeD4 {K : PySem.W.Frag} (as : List Sl) (Post : Re → List Sl → Prop) (h : ap_take4 as Post) : WS K [0] (tTakeD K) (as ++ List.replicate (5 - as.length) .un) ⟨fun G => Post (.val .non) (exitArgs [0] G as), fun r G => Post r (exitArgs [0] G as), fun _ => False, fun _ => False, .no⟩ := by
  obtain ⟨ds, c, n, rfl, ⟨cell, flag, seed, rfl, hc, hs, hs2⟩, hc0, hc1, hn, hn2, p⟩ := h
  unfold tTakeD
  show WS K [0] _ [.acc _, .val (.int n), .un, .un, .un] _
  walk_at "e"; walk_at "e"; walk_at "e"; walk_at "e"; walk_at "e"; walk_at "e"; walk_at "e"; walk_at "e"; walk_at "e"; walk_at "e"; walk_at "e"; walk_at "e"
  refine ws_cut (fun G => G = [.acc [.int cell, .int (c + 1), .int flag, .int seed], .val (.int n), .un, .un, .un]) ?_ ?_
  · walk_at "es"
    refine ⟨fun h1 => ?_, fun h1 => ?_⟩
    · walk_at "es"
      refine ⟨fun h2 => ?_, fun h2 => ?_⟩
      · walk_at "es"
        exact p _ _ ⟨_, _, _, rfl, Int.ediv_nonneg hc (by omega), hs, hs2⟩ (Int.emod_nonneg _ (by omega)) (Int.emod_lt_of_pos _ hn)
      · walk_at "es"
        exact .a rfl
    · walk_at "es"
      exact .a rfl
  · rintro G rfl
    walk_at "es"
    exact p _ _ ⟨_, _, _, rfl, hc, hs, hs2⟩ (Int.emod_nonneg _ (by omega)) (Int.emod_lt_of_pos _ hn)
end Ab
namespace Ab
open PySem L2
local macro_rules | `(tactic| walk_at "no") => `(tactic| first
  | exact fun h => Bool.noConfusion (show true = false from h)
  | exact fun h => Bool.noConfusion (show false = true from h)
  | exact fun h => absurd (of_decide_eq_true h) (by omega)
  | exact fun h => absurd (by omega) (of_decide_eq_false h)
  | exact fun h => absurd (by omega) (nd_t h)
  | exact fun h => absurd (nd_f h) (by omega)
  | fail "no")
local macro_rules | `(tactic| walk_at "kb") => `(tactic| first | exact kb_tt | exact kb_ll | exact kb_ii | exact kb_ib | exact kb_ss | exact kb_sb | exact kb_si | exact kb_tb | exact kb_ti | exact kb_ts | exact kb_tl | exact kb_lb | exact kb_li | exact kb_ls | exact kb_lt | exact kb_is | exact kb_it | exact kb_il | exact kb_st | exact kb_sl | exact kb_bb | exact kb_bi | exact kb_nb | exact kb_ni | exact kb_ns | exact kb_nt | exact kb_nl | exact kb_bs | exact kb_bt | exact kb_bl | fail "kb")
local macro_rules | `(tactic| walk_at "norm") => `(tactic| first
  | exact (rfl : _ = ([] : List Sl))
  | ((refine' norm_cons (rfl : _ = _ :: _) ?ea ?et); (case ea => first | exact norm_v | exact norm_n | exact norm_o | exact rfl | fail "norm"); (case et => walk_at "norm"))
  | fail "norm")
local macro_rules | `(tactic| walk_at "e") => `(tactic| first
  | ((with_reducible refine' norm_intro ?hn ?_); (case hn => walk_at "norm"))
  | ((with_reducible refine' we_var ?hh ?_); (case hh => exact rfl))
  | ((with_reducible refine' we_own ?hh ?_); (case hh => exact rfl))
  | with_reducible refine we_c ?_
  | with_reducible refine we_addG ?_
  | with_reducible refine addp_i ?_
  | with_reducible refine we_opI0 ?_
  | with_reducible refine we_opI ?_
  | with_reducible refine we_mulG ?_
  | ((with_reducible refine' mulp_r ?h1 ?_); (case h1 => first | decide | omega | fail "m"))
  | ((with_reducible refine' mulp_l ?h1 ?_); (case h1 => first | decide | omega | fail "m"))
  | with_reducible refine we_neg ?_
  | with_reducible refine we_ltG ?_
  | with_reducible refine ltp_i ?_
  | with_reducible refine we_eqG ?_
  | with_reducible refine we_neG ?_
  | with_reducible refine eqp_i ?_
  | with_reducible refine nep_i ?_
  | with_reducible refine we_ixG ?_
  | ((with_reducible refine' ixp ?h1 ?h2 ?_); (case h1 => exact rfl); (case h2 => exact rfl))
  | with_reducible refine we_lenG ?_
  | ((with_reducible refine' lenp ?hh ?_); (case hh => exact rfl))
  | with_reducible refine we_intG ?_
  | with_reducible refine intp_i ?_
  | with_reducible refine intp_b ?_
  | with_reducible refine we_abs ?_
  | with_reducible refine we_tup ?_
  | with_reducible refine we_lst ?_
  | with_reducible refine we_tuple ?_
  | with_reducible refine we_list ?_
  | with_reducible refine we_sum ?_
  | with_reducible refine we_max2 ?_
  | with_reducible refine we_min2 ?_
  | with_reducible refine wd_cons ?_
  | with_reducible refine wd_nil ?_
  | with_reducible refine wa_cons ?_
  | with_reducible refine wa_nil ?_
  | with_reducible refine we_callH ?_
  | with_reducible refine we_isiG ?_
  | ((with_reducible refine' isi_own ?h1 ?h2 ?_); (case h1 => exact rfl); (case h2 => walk_at "kb"))
  | ((with_reducible refine' isi_val ?h1 ?h2 ?_); (case h1 => exact rfl); (case h2 => walk_at "kb"))
  | ((with_reducible refine' isi_new ?h2 ?_); (case h2 => walk_at "kb"))
  | with_reducible refine we_chainI ?_
  | with_reducible refine we_andV ?_
  | with_reducible refine we_orV ?_
  | with_reducible refine we_notV ?_
  | with_reducible refine wt_test ?_
  | with_reducible refine wt_B ?_
  | with_reducible refine wt_yes ?_
  | with_reducible refine wt_and ?_
  | with_reducible refine wt_or ?_
  | with_reducible refine wt_not ?_
  | with_reducible refine ws_seq ?_
  | ((with_reducible refine' ws_retA ?hh ?_); (case hh => exact rfl))
  | with_reducible refine ws_ret ?_
  | with_reducible refine ws_if ?_
  | with_reducible refine ws_nil ?_
  | with_reducible refine ws_expr ?_
  | with_reducible refine ws_asgN rfl rfl ?_
  | with_reducible refine ws_setN ?_
  | with_reducible refine ws_asgG ?_
  | ((with_reducible refine' wg_tup ?hh ?_); (case hh => exact rfl))
  | with_reducible refine wgs_cons ?_
  | with_reducible refine wgs_nil ?_
  | with_reducible refine wg_nameN rfl rfl ?_
  | ((with_reducible refine' we_appendN ?hh ?_); (case hh => exact rfl))
  | ((with_reducible refine' we_reverseN ?hh ?_); (case hh => exact rfl))
  | ((with_reducible refine' ws_augN ?h1 ?h2 ?_); (case h1 => exact rfl); (case h2 => exact rfl))
  | (refine ⟨_, rfl, ⟨_, rfl⟩, ?_⟩)
  | (refine ⟨_, rfl, ?_⟩)
  | (refine ⟨_, _, _, rfl, rfl, rfl, ?_⟩)
  | (refine ⟨_, _, rfl, rfl, (Nat.le_of_ble_eq_true rfl : _ ≤ _), ?_⟩)
  | (refine ⟨_, _, rfl, rfl, ?_⟩)
  | (refine ⟨(Nat.le_of_ble_eq_true rfl : _ ≤ _), ?_⟩)
  | (refine ⟨(rfl : _ = true), ?_⟩)
  | ((refine' ⟨fun _ => ?_, fun hY => absurd hY ?k2⟩); (case k2 => walk_at "no"))
  | ((refine' ⟨fun hY => absurd hY ?k2, fun _ => ?_⟩); (case k2 => walk_at "no"))
  | (refine ⟨⟨(by omega), (by omega)⟩, ?_⟩)
  | (refine ⟨⟨(by decide), (by decide), (by decide)⟩, ?_⟩)
  | (refine ⟨(by first | decide | omega | fail "c"), ?_⟩)
  | fail "stop")
local macro_rules | `(tactic| walk_at "es") => `(tactic| repeat' walk_at "e")
/-! ### x is None -/
def isNonR : Re → Bool
  | .val (.raw v) => decide (v = .non)
  | _ => false
theorem we_isN {K : PySem.W.Frag} {Γ : List Sl} {Post : Re → List Sl → Prop} {ta : TE} (h : WE K ta Γ fun r Γ1 => Post (.val (.bl (isNonR r))) Γ1) : WE K (tIsN ta) Γ Post := fun σ B H E Q q => by
  refine h σ B H E _ fun x B1 H1 r Γ1 g k p => ?_
  have e : decide (x = V.non) = isNonR r := by
    cases r with
    | val d =>
      cases d with
      | raw v => cases Is.rawI k; rfl
      | tup ds => obtain ⟨a, xs, rfl, _⟩ := Is.tupR k; rfl
      | lst ds => obtain ⟨a, xs, rfl, _⟩ := Is.lstR k; rfl
      | obj C fs => cases k; rfl
      | scr ns => cases k; rfl
      | dK es => cases k; rfl
      | dT es => cases k; rfl
      | exn a d fs => cases k <;> rfl
    | nw ds => obtain ⟨l, vs, rfl, _⟩ := k; rfl
    | own i => obtain ⟨l, rfl, _⟩ := k; rfl
  rw [e]
  exact q _ B1 H1 _ Γ1 g (.raw _) p
theorem we_notN {K : PySem.W.Frag} {Γ : List Sl} {Post : Re → List Sl → Prop} {ta : TE} (h : WE K ta Γ fun r Γ1 => Post (.val (.bl (!isNonR r))) Γ1) : WE K (tNotN ta) Γ Post := fun σ B H E Q q => by
  refine h σ B H E _ fun x B1 H1 r Γ1 g k p => ?_
  have e : decide (x = V.non) = isNonR r := by
    cases r with
    | val d =>
      cases d with
      | raw v => cases Is.rawI k; rfl
      | tup ds => obtain ⟨a, xs, rfl, _⟩ := Is.tupR k; rfl
      | lst ds => obtain ⟨a, xs, rfl, _⟩ := Is.lstR k; rfl
      | obj C fs => cases k; rfl
      | scr ns => cases k; rfl
      | dK es => cases k; rfl
      | dT es => cases k; rfl
      | exn a d fs => cases k <;> rfl
    | nw ds => obtain ⟨l, vs, rfl, _⟩ := k; rfl
    | own i => obtain ⟨l, rfl, _⟩ := k; rfl
  rw [e]
  exact q _ B1 H1 _ Γ1 g (.raw _) p
local macro_rules | `(tactic| walk_at "e") => `(tactic| first | with_reducible refine we_isN ?_ | with_reducible refine we_notN ?_ | fail "is")
/-! ### _law_same: equal data are the same -/
mutual
def okD : Dt → Bool
  | .raw .non => true
  | .raw (.bl _) => true
  | .raw (.int _) => true
  | .raw (.str _) => true
  | .raw _ => false
  | .tup ds => decide (ds.length ≤ 1000000) && okAll ds
  | .lst ds => decide (ds.length ≤ 1000000) && okAll ds
  | .obj _ _ => false
  | .scr _ => false
  | .dK _ => false
  | .dT _ => false
  | .exn _ _ _ => false
def okAll : List Dt → Bool
  | [] => true
  | d :: ds => okD d && okAll ds
end
mutual
def depD : Dt → Nat
  | .raw _ => 0
  | .tup ds => depAll ds + 1
  | .lst ds => depAll ds + 1
  | .obj _ _ => 0
  | .scr _ => 0
  | .dK _ => 0
  | .dT _ => 0
  | .exn _ _ _ => 0
def depAll : List Dt → Nat
  | [] => 0
  | d :: ds => max (depD d) (depAll ds)
end
theorem okAll_at : ∀ {ds : List Dt} {i : Nat} {d : Dt}, okAll ds = true → ds[i]? = some d → okD d = true
  | [], _, _, _, h => by simp at h
  | x :: r, 0, d, h, e => by
    rw [okAll, Bool.and_eq_true] at h
    simp at e; subst e; exact h.1
  | x :: r, i + 1, d, h, e => by
    rw [okAll, Bool.and_eq_true] at h
    exact okAll_at h.2 (by simpa using e)
theorem depAll_at : ∀ {ds : List Dt} {i : Nat} {d : Dt}, ds[i]? = some d → depD d ≤ depAll ds
  | [], _, _, h => by simp at h
  | x :: r, 0, d, e => by
    simp at e; subst e; rw [depAll]; omega
  | x :: r, i + 1, d, e => by
    have := depAll_at (ds := r) (i := i) (d := d) (by simpa using e)
    rw [depAll]; omega
def slDt : Sl → Option Dt
  | .val d => some d
  | .cel (.lst ds) => some (.lst ds)
  | .cel _ => none
  | .un => none
def ap_same (n : Nat) : AP := fun as Post => ∃ s0 s1 d, as = [s0, s1] ∧ slDt s0 = some d ∧ slDt s1 = some d ∧ okD d = true ∧ depD d ≤ n ∧ Post (.val (.bl true)) [s0, s1]
theorem len_same {n : Nat} (as : List Sl) (Post : Re → List Sl → Prop) (h : ap_same n as Post) : as.length = 2 := by obtain ⟨s0, s1, d, rfl, _⟩ := h; rfl
def tSame (K : PySem.W.Frag) (ap__law_same : AP) : TS :=
    (tSeq (tIfS (tOr (tB (tCB (rIsi K) (tCons (tVar 0) (tCons (tC (.ty "bool")) tNil)))) (tB (tCB (rIsi K) (tCons (tVar 1) (tCons (tC (.ty "bool")) tNil))))) (tRet (tAndV (tCB (rIsi K) (tCons (tVar 0) (tCons (tC (.ty "bool")) tNil))) (tAndV (tCB (rIsi K) (tCons (tVar 1) (tCons (tC (.ty "bool")) tNil))) (tOp (rEqG K) (tVar 0) (tVar 1))))) tNext)
    (tSeq (tIfS (tAnd (tB (tCB (rIsi K) (tCons (tVar 0) (tCons (tC (.ty "int")) tNil)))) (tB (tCB (rIsi K) (tCons (tVar 1) (tCons (tC (.ty "int")) tNil))))) (tRet (tOp (rEqG K) (tVar 0) (tVar 1))) tNext)
    (tSeq (tIfS (tAnd (tB (tCB (rIsi K) (tCons (tVar 0) (tCons (tC (.ty "str")) tNil)))) (tB (tCB (rIsi K) (tCons (tVar 1) (tCons (tC (.ty "str")) tNil))))) (tRet (tOp (rEqG K) (tVar 0) (tVar 1))) tNext)
    (tSeq (tAsg (tAndV (tCB (rIsi K) (tCons (tVar 0) (tCons (tC (.ty "tuple")) tNil))) (tCB (rIsi K) (tCons (tVar 1) (tCons (tC (.ty "tuple")) tNil)))) (gName 2))
    (tSeq (tIfS (tOr (tB (tVar 2)) (tAnd (tB (tCB (rIsi K) (tCons (tVar 0) (tCons (tC (.ty "list")) tNil)))) (tB (tCB (rIsi K) (tCons (tVar 1) (tCons (tC (.ty "list")) tNil)))))) (tSeq (tIfS (tTest (tOp (rNeG K) (tCB (rLenV K) (tCons (tVar 0) tNil)) (tCB (rLenV K) (tCons (tVar 1) tNil)))) (tRet (tC (.bl false))) tNext)
    (tSeq (tFor (iRng1 (tCons (tCB (rLenV K) (tCons (tVar 0) tNil)) tNil)) (gName 3) (tIfS (tNot (tB (tCall (toSp K ap__law_same) [] E0 (tCons (tOp (rIx K) (tVar 0) (tVar 3)) (tCons (tOp (rIx K) (tVar 1) (tVar 3)) tNil))))) (tRet (tC (.bl false))) tNext))
    (tRet (tC (.bl true))))) tNext)
    (tRet (tAndV (tIsN (tVar 0)) (tIsN (tVar 1)))))))))
/-- what is asked of the calls within -/
def SameIn (n : Nat) (ap : AP) : Prop := ∀ d Post, okD d = true → depD d < n → Post (.val (.bl true)) [.val d, .val d] → ap [.val d, .val d] Post
theorem run_tSame {K : PySem.W.Frag} {n : Nat} {ap : AP} (hap : SameIn n ap) (as : List Sl) (Post : Re → List Sl → Prop) (h : ap_same n as Post) : WS K [0, 1] (tSame K ap) (as ++ List.replicate (4 - as.length) .un) ⟨fun G => Post (.val .non) (exitArgs [0, 1] G as), fun r G => Post r (exitArgs [0, 1] G as), fun _ => False, fun _ => False, .no⟩ := by
  obtain ⟨s0, s1, d, rfl, h0, h1, ok, dp, p⟩ := h
  unfold tSame
  show WS K [0, 1] _ [s0, s1, .un, .un] _
  have acc0 : ∀ {s : Sl} {d : Dt}, slDt s = some d → s = .val d ∨ ∃ ds, d = .lst ds ∧ s = .acc ds := fun {s d} h => by
    cases s with
    | un => cases h
    | val e => cases h; exact .inl rfl
    | cel c =>
      cases c with
      | lst es => cases h; exact .inr ⟨es, rfl, rfl⟩
      | dK es => cases h
      | dT es => cases h
  have scal : ∀ v : V, d = .raw v → s0 = .val (.raw v) ∧ s1 = .val (.raw v) := fun v e => by
    subst e
    rcases acc0 h0 with rfl | ⟨ds, e, _⟩
    · rcases acc0 h1 with rfl | ⟨ds, e, _⟩
      · exact ⟨rfl, rfl⟩
      · cases e
    · cases e
  cases d with
  | obj C fs => simp [okD] at ok
  | dK fs => simp [okD] at ok
  | dT fs => simp [okD] at ok
  | exn a d fs => simp [okD] at ok
  | scr ns => simp [okD] at ok
  | raw v =>
    obtain ⟨rfl, rfl⟩ := scal v rfl
    cases v with
    | non => walk_at "es"; exact p
    | bl b =>
      walk_at "es"
      refine eqp_s rfl ?_
      rw [decide_eq_true rfl]
      exact ⟨rfl, p⟩
    | int i =>
      walk_at "es"
      rw [decide_eq_true rfl]
      exact p
    | str x =>
      walk_at "es"
      refine eqp_s rfl ?_
      rw [decide_eq_true rfl]
      exact ⟨rfl, p⟩
    | byt b => simp [okD] at ok
    | flt b => simp [okD] at ok
    | ref a => simp [okD] at ok
    | ty t => simp [okD] at ok
  | tup ds =>
    rw [okD, Bool.and_eq_true, decide_eq_true_eq] at ok
    obtain ⟨hlen, ok⟩ := ok
    rw [depD] at dp
    have e0 : s0 = .val (.tup ds) := by
      rcases acc0 h0 with rfl | ⟨_, e, _⟩
      · rfl
      · cases e
    have e1 : s1 = .val (.tup ds) := by
      rcases acc0 h1 with rfl | ⟨_, e, _⟩
      · rfl
      · cases e
    subst e0 e1
    walk_at "es"
    refine for_range1 ds.length (fun i G => ∃ s3, G = [.val (.tup ds), .val (.tup ds), .val (.bl true), s3]) ?_ ?_ ?_
    · walk_at "es"
      exact .a ⟨rfl, by omega, by omega, _, rfl⟩
    · rintro i G hi ⟨s3, rfl⟩
      have hi' : i < ds.length := by omega
      have g := List.getElem?_eq_getElem hi'
      walk_at "es"
      refine ixp rfl (atI_of (j := i) rfl g) ?_
      walk_at "es"
      refine ixp rfl (atI_of (j := i) rfl g) ?_
      walk_at "es"
      refine .a (hap _ _ (okAll_at ok g) (by have := depAll_at g; omega) ?_)
      walk_at "es"
      exact .a ⟨_, rfl⟩
    · rintro G ⟨s3, rfl⟩
      walk_at "es"
      exact p
  | lst ds =>
    rw [okD, Bool.and_eq_true, decide_eq_true_eq] at ok
    obtain ⟨hlen, ok⟩ := ok
    rw [depD] at dp
    have e0 : s0 = .val (.lst ds) ∨ s0 = .acc ds := by
      rcases acc0 h0 with rfl | ⟨_, e, rfl⟩
      · exact .inl rfl
      · cases e; exact .inr rfl
    have e1 : s1 = .val (.lst ds) ∨ s1 = .acc ds := by
      rcases acc0 h1 with rfl | ⟨_, e, rfl⟩
      · exact .inl rfl
      · cases e; exact .inr rfl
    rcases e0 with rfl | rfl <;> rcases e1 with rfl | rfl
    · walk_at "es"
      refine for_range1 ds.length (fun i G => ∃ s3, G = [.val (.lst ds), .val (.lst ds), .val (.bl false), s3]) ?_ ?_ ?_
      · walk_at "es"
        exact .a ⟨rfl, by omega, by omega, _, rfl⟩
      · rintro i G hi ⟨s3, rfl⟩
        have hi' : i < ds.length := by omega
        have g := List.getElem?_eq_getElem hi'
        walk_at "es"
        refine ixp rfl (atI_of (j := i) rfl g) ?_
        walk_at "es"
        refine ixp rfl (atI_of (j := i) rfl g) ?_
        walk_at "es"
        refine .a (hap _ _ (okAll_at ok g) (by have := depAll_at g; omega) ?_)
        walk_at "es"
        exact .a ⟨_, rfl⟩
      · rintro G ⟨s3, rfl⟩
        walk_at "es"
        exact p
    · walk_at "es"
      refine for_range1 ds.length (fun i G => ∃ s3, G = [.val (.lst ds), .acc ds, .val (.bl false), s3]) ?_ ?_ ?_
      · walk_at "es"
        exact .a ⟨rfl, by omega, by omega, _, rfl⟩
      · rintro i G hi ⟨s3, rfl⟩
        have hi' : i < ds.length := by omega
        have g := List.getElem?_eq_getElem hi'
        walk_at "es"
        refine ixp rfl (atI_of (j := i) rfl g) ?_
        walk_at "es"
        refine ixp rfl (atI_of (j := i) rfl g) ?_
        walk_at "es"
        refine .a (hap _ _ (okAll_at ok g) (by have := depAll_at g; omega) ?_)
        walk_at "es"
        exact .a ⟨_, rfl⟩
      · rintro G ⟨s3, rfl⟩
        walk_at "es"
        exact p
    · walk_at "es"
      refine for_range1 ds.length (fun i G => ∃ s3, G = [.acc ds, .val (.lst ds), .val (.bl false), s3]) ?_ ?_ ?_
      · walk_at "es"
        exact .a ⟨rfl, by omega, by omega, _, rfl⟩
      · rintro i G hi ⟨s3, rfl⟩
        have hi' : i < ds.length := by omega
        have g := List.getElem?_eq_getElem hi'
        walk_at "es"
        refine ixp rfl (atI_of (j := i) rfl g) ?_
        walk_at "es"
        refine ixp rfl (atI_of (j := i) rfl g) ?_
        walk_at "es"
        refine .a (hap _ _ (okAll_at ok g) (by have := depAll_at g; omega) ?_)
        walk_at "es"
        exact .a ⟨_, rfl⟩
      · rintro G ⟨s3, rfl⟩
        walk_at "es"
        exact p
    · walk_at "es"
      refine for_range1 ds.length (fun i G => ∃ s3, G = [.acc ds, .acc ds, .val (.bl false), s3]) ?_ ?_ ?_
      · walk_at "es"
        exact .a ⟨rfl, by omega, by omega, _, rfl⟩
      · rintro i G hi ⟨s3, rfl⟩
        have hi' : i < ds.length := by omega
        have g := List.getElem?_eq_getElem hi'
        walk_at "es"
        refine ixp rfl (atI_of (j := i) rfl g) ?_
        walk_at "es"
        refine ixp rfl (atI_of (j := i) rfl g) ?_
        walk_at "es"
        refine .a (hap _ _ (okAll_at ok g) (by have := depAll_at g; omega) ?_)
        walk_at "es"
        exact .a ⟨_, rfl⟩
      · rintro G ⟨s3, rfl⟩
        walk_at "es"
        exact p
end Ab
set_option maxHeartbeats 2000000
namespace Ab
open PySem L2
/-! ### texts, constants of the module -/
def rJoin (K : PySem.W.Frag) : V → List V → Hp → VK → Prop := fun x xs H Q => ∃ a p, ∃ ys : List Str, x = .str a ∧ xs = [.ref p] ∧ (SqL K H p (ys.map V.str) ∨ SqT K H p (ys.map V.str)) ∧
  (ys.map (·.length)).sum + ys.length * a.length ≤ 16777216 ∧ Q (.str (Txt.join a ys)) H
theorem pe_joinR {X : Cx} {o e : Expr} {to te : TE} {apos pos : Pos} (ho : PE X o to) (he : PE X e te) (hs : starEach [e] X.env = [(false, eval e X.env)] := by rfl) (hbase : attributeBase o "join" X.env (eval o X.env) = eval o X.env := by rfl) (hline : (apos.endLine == pos.line) = true := by rfl) :
    PE X (.Call (.Attribute o "join" apos) [e] [] pos) (tM1 (rJoin X.K) to te) := pe_join ho he hs hbase hline
theorem rawsI_str {K : PySem.W.Frag} {B : Hp} {vs : List V} {ys : List Str} (h : IsA K B vs (ys.map Dt.str)) : vs = ys.map V.str := by
  have : ys.map Dt.str = (ys.map V.str).map Dt.raw := by rw [List.map_map]; rfl
  rw [this] at h
  exact h.rawsI
theorem we_join {K : PySem.W.Frag} {Γ : List Sl} {Post : Re → List Sl → Prop} {to te : TE} (h : WE K to Γ fun r Γ1 => ∃ a : Str, r = .val (.str a) ∧ WE K te Γ1 fun z Γ2 => Hold (∃ ys : List Str, lstOf Γ2 z = some (ys.map Dt.str) ∧ (ys.map (·.length)).sum + ys.length * a.length ≤ 16777216 ∧ Post (.val (.str (Txt.join a ys))) Γ2)) :
    WE K (tM1 (rJoin K) to te) Γ Post := fun σ B H E Q q => by
  refine h σ B H E _ fun x B1 H1 r Γ1 g1 k1 p1 => ?_
  obtain ⟨a, rfl, p1⟩ := p1
  cases Is.rawI k1
  refine ⟨⟨a, rfl⟩, ?_⟩
  refine p1 σ B1 H1 g1.env _ fun y B2 H2 z Γ2 g2 k2 p2 => ?_
  obtain ⟨ys, hl, hz, p⟩ := p2.get
  obtain ⟨b, vs, rfl, hq, ha⟩ := rv_lst g2.env k2.rv hl
  rw [rawsI_str ha] at hq
  exact ⟨a, b, ys, rfl, rfl, .inl hq, hz, q _ B2 H2 _ Γ2 (g1.trans g2) (.raw _) p⟩
/-- > of texts -/
def rGtS : R2 := fun x y H Q => ∃ i j : Str, x = .str i ∧ y = .str j ∧ Q (.bl (decide (j.cps.toList < i.cps.toList))) H
theorem op_gtS {X : Cx} : OpR X (compareOp .Gt) rGtS := op_gt_str
theorem we_gtS {K : PySem.W.Frag} {Γ : List Sl} {Post : Re → List Sl → Prop} {ta tb : TE} (h : WE K ta Γ fun ra Γ1 => WE K tb Γ1 fun rb Γ2 => ∃ s t : Str, ra = .val (.str s) ∧ rb = .val (.str t) ∧ Post (.val (.bl (decide (t.cps.toList < s.cps.toList)))) Γ2) : WE K (tOp rGtS ta tb) Γ Post :=
  we_two' (we_mono h fun ra Γ1 h1 => we_mono h1 fun rb Γ2 hp => fun σ B H x y E kx ky Q q => by
    obtain ⟨s, t, rfl, rfl, p⟩ := hp
    cases Is.rawI kx; cases Is.rawI ky
    exact ⟨s, t, rfl, rfl, q _ B H _ Γ2 (.refl E) (.raw _) p⟩)
/-- a tuple of the module -/
def KTup (K : PySem.W.Frag) (a : Addr) (xs : List V) : Prop := ∃ (o : Obj) (its : Array Value) (n : Nat), K.lookup a = some o ∧ o.cls = .type "tuple" ∧ o.data = .seq its n ∧ its.size ≤ sizeLine ∧ Vals xs its.toList
theorem we_ktup {K : PySem.W.Frag} {Γ : List Sl} {Post : Re → List Sl → Prop} {c : Addr} {xs : List V} (h : KTup K c xs) (p : Post (.val (.tup (xs.map Dt.raw))) Γ) : WE K (tC (.ref c)) Γ Post := fun σ B H E Q q => by
  have ha : IsA K B xs (xs.map Dt.raw) := IsA.raws
  exact q _ B H (.val _) Γ (.refl E) (Is.tup (.inr h) ha.len ha.at_) p
/-- xs.extend(e) -/
theorem we_extend {K : PySem.W.Frag} {Γ : List Sl} {te : TE} {i : Nat} {ds0 : List Dt} {Post : Re → List Sl → Prop} (h0 : Γ[i]? = some (.acc ds0)) (h : WE K te Γ fun z Γ1 => ∃ es ds, lstOf Γ1 z = some es ∧ z.isScr = false ∧ Γ1[i]? = some (.acc ds) ∧ ds.length + es.length ≤ 1000000 ∧ NormP (Γ1.set i (.acc (ds ++ es))) (Post (.val .non))) :
    WE K (tBM K "list" rExtend (tVar i) (tCons te tNil)) Γ Post := fun σ B H E Q q => by
  obtain ⟨l, vs, e0, e1, e2, k0⟩ := E.acc i ds0 h0
  refine ⟨.ref l, e0, .inl ⟨rfl, vs, .inl (.inl e1)⟩, ?_⟩
  refine h σ B H E _ fun y B1 H1 z Γ1 g k p => ?_
  obtain ⟨es, ds, hl, hs, hi, hz, p⟩ := p
  obtain ⟨l', us, f0, f1, f2, k1⟩ := g.env.acc i ds hi
  rw [e0] at f0; cases f0
  obtain ⟨b, zs, rfl, hb, kz⟩ := rv_lstH g.env k.rv hl hs
  refine ⟨l, b, us, zs, rfl, rfl, f1, hb, Nat.le_trans (by rw [k1.len, kz.len]; exact hz) (by decide), ?_⟩
  have g2 := Go.put g.env hi e0 (k1.append kz)
  exact q .non B1 _ (.val .non) _ (g.trans g2) (Is.raw _) p
theorem at_lit {α : Type} {f : α → Dt} {xs : List α} {k : Int} (h0 : 0 ≤ k) (h1 : k < xs.length) : ∃ v, v ∈ xs ∧ atI (xs.map f) k = some (f v) := by
  have hl : k.toNat < xs.length := by omega
  exact ⟨xs[k.toNat], List.getElem_mem hl, atI_of (j := k.toNat) (by omega) (by rw [List.getElem?_map, List.getElem?_eq_getElem hl]; rfl)⟩
theorem cut_take {α : Type} {f : α → Dt} {xs : List α} {m : Nat} (h : m ≤ xs.length) : cutD (xs.map f) none (some (m : Int)) = (xs.take m).map f := by
  unfold cutD
  rw [HT.sIx_none, HT.sIx_nat, List.length_map, Nat.min_eq_left h, List.drop_zero, Nat.sub_zero, List.map_take]
theorem cut_take' {α : Type} {f : α → Dt} {xs : List α} (m : Nat) : cutD (xs.map f) none (some (m : Int)) = (xs.take m).map f := by
  unfold cutD
  rw [HT.sIx_none, HT.sIx_nat, List.length_map, List.drop_zero, Nat.sub_zero, ← List.map_take, ← List.length_map (f := f), List.map_take, List.map_take]
  by_cases h : m ≤ (xs.map f).length
  · rw [Nat.min_eq_left h]
  · rw [Nat.min_eq_right (by omega), List.take_length, List.take_of_length_le (by omega)]
theorem cut_drop {α : Type} {f : α → Dt} {xs : List α} {m : Nat} (h : m ≤ xs.length) : cutD (xs.map f) (some (m : Int)) none = (xs.drop m).map f := by
  unfold cutD
  rw [HT.sIx_none, HT.sIx_nat, List.length_map, Nat.min_eq_left h, ← List.map_drop, ← List.map_take]
  congr 1
  exact List.take_of_length_le (by rw [List.length_drop]; omega)
theorem cut_last {α : Type} {f : α → Dt} {xs : List α} : cutD (xs.map f) none (some (-1)) = xs.dropLast.map f := by
  unfold cutD
  rw [HT.sIx_none, List.drop_zero, Nat.sub_zero, List.length_map]
  have : HT.sIx xs.length xs.length (some (-1)) = xs.length - 1 := by
    show (if (-1 : Int) < 0 then ((-1 : Int) + (xs.length : Int)).toNat else min (-1 : Int).toNat xs.length) = _
    rw [if_pos (by omega)]
    omega
  rw [this, ← List.map_take, List.dropLast_eq_take]
end Ab
/-! instances as data: fields, methods, own operators, __init__ -/
namespace Ab
open PySem L2
section
variable {K : PySem.W.Frag} {B H : Hp} {v : V} {C : Addr} {gs : List (Str × Dt)}
theorem Is.objR (h : Is K B v (.obj C gs)) : ∃ a dx fs, v = .ref a ∧ B a = some (.ins C dx fs) ∧ (∀ f : Str, (fs.lookup f).isSome = (gs.lookup f).isSome) ∧ ∀ (f : Str) w d, fs.lookup f = some w → gs.lookup f = some d → Is K B w d := by
  cases h with
  | obj h hk hi => exact ⟨_, _, _, rfl, h, hk, hi⟩
theorem lk_none {f : Str} {fs : List (Str × V)} (hk : (fs.lookup f).isSome = (gs.lookup f).isSome) (h : gs.lookup f = none) : fs.lookup f = none := by
  rw [h] at hk
  cases q : fs.lookup f with
  | none => rfl
  | some w => rw [q] at hk; cases hk
theorem lk_some {f : Str} {fs : List (Str × V)} {d : Dt} (hk : (fs.lookup f).isSome = (gs.lookup f).isSome) (h : gs.lookup f = some d) : ∃ w, fs.lookup f = some w := by
  rw [h] at hk
  cases q : fs.lookup f with
  | none => rw [q] at hk; cases hk
  | some w => exact ⟨w, rfl⟩
end
section
variable {K : PySem.W.Frag} {Γ : List Sl} {Post : Re → List Sl → Prop} {ta tb te : TE}
/-- o.f -/
theorem we_fld {f : Str} {C : Addr} (cl : Cls K C) (na : NoAttr K C f) (h : WE K ta Γ fun r Γ1 => ∃ gs d, r = .val (.obj C gs) ∧ gs.lookup f = some d ∧ Post (.val d) Γ1) : WE K (tFld K ta f) Γ Post := fun σ B H E Q q => by
  refine h σ B H E _ fun x B1 H1 r Γ1 g1 k1 p1 => ?_
  obtain ⟨gs, d, rfl, hl, p⟩ := p1
  obtain ⟨a, dx, fs, rfl, hb, hk, hi⟩ := Is.objR k1
  obtain ⟨w, hw⟩ := lk_some (hk f) hl
  exact ⟨a, C, dx, fs, w, rfl, g1.env.bh _ _ hb, cl, na, hw, q w B1 H1 (.val d) Γ1 g1 (hi f w d hw hl) p⟩
theorem asOk_val {σ : L2.St} {m m' : Addr → Prop} {B' H H' : Hp} {vs : List V} {ds : List Dt} (h : IsA K B' vs ds) : AsOk K σ m m' B' H H' vs (ds.map Re.val) := by
  refine ⟨by rw [h.len, List.length_map], fun i v r a b => ?_, fun i j es fs l a => ?_⟩
  · rw [List.getElem?_map] at b
    cases q : ds[i]? with
    | none => rw [q] at b; cases b
    | some d => rw [q] at b; cases b; exact h.at_ i v d a q
  · rw [List.getElem?_map] at a
    cases q : ds[i]? with
    | none => rw [q] at a; cases a
    | some d => rw [q] at a; cases a
theorem owns_vals : ∀ ds : List Dt, ownsOf (ds.map Re.val) = []
  | [] => rfl
  | d :: r => by show ownsOf (Re.val d :: r.map Re.val) = []; exact owns_vals r
theorem back_vals : ∀ (ds : List Dt) (as G : List Sl), putBack (ds.map Re.val) as G = G
  | [], as, G => by cases as <;> rfl
  | d :: r, [], G => rfl
  | d :: r, s :: t, G => back_vals r t G
theorem args_vals {Γ : List Sl} (ds : List Dt) : (ds.map Re.val).map (argSl Γ) = ds.map Sl.val := by rw [List.map_map]; rfl
/-- o.m(..), everything data -/
theorem we_meth {m : Str} {C : Addr} {ap : AP} {E0 : XK} {t : TA} (h : WE K ta Γ fun r Γ1 => ∃ gs, r = .val (.obj C gs) ∧ gs.lookup m = none ∧ WD K t Γ1 fun ds Γ2 => Hold (ap (.val (.obj C gs) :: ds.map Sl.val) fun r as' => Post r Γ2)) : WE K (tMeth C m (toSp K ap) [] E0 ta t) Γ Post := fun σ B H E Q q => by
  refine h σ B H E _ fun x B1 H1 r Γ1 g1 k1 p1 => ?_
  obtain ⟨gs, rfl, hl, p1⟩ := p1
  obtain ⟨a, dx, fs, rfl, hb, hk, hi⟩ := Is.objR k1
  refine ⟨a, dx, fs, rfl, g1.env.bh _ _ hb, lk_none (hk m) hl, ?_⟩
  refine p1 σ B1 H1 g1.env _ fun vs B2 H2 ds Γ2 g2 k2 p2 => ?_
  rw [List.append_nil]
  have k3 : IsA K B2 (V.ref a :: vs) (.obj C gs :: ds) := .cons (Is.mono g2.mv.bb k1) k2
  refine call_core E (g1.trans g2) (asOk_val k3) (by rw [owns_vals]; rfl) (Post := Post) ?_ q
  rw [args_vals]
  simp only [back_vals]
  exact p2.get
/-- two own instances: a + b .. -/
def rOwn (C : Addr) (sp : Sp) (E : XK) : R2 := fun x y H Q => ∃ a b dx dy fs gs, x = .ref a ∧ y = .ref b ∧ H a = some (.ins C dx fs) ∧ H b = some (.ins C dy gs) ∧ sp [x, y] H Q E
theorem op_own {X : Cx} {CX : CXT} {k : Nat} {f C : Addr} {fd : FuncData} {ps : List Str} {sp : Sp} {E : XK} {op : Operator} (F : FnOk X.prog X.w X.K X.mg X.base CX k f fd ps sp) (hr : Room k X.A) (hc : PySem.W.selfFirst X.K C = true)
    (hs : PySem.W.findIn X.K (.ref C) (PySem.dunder op.info.2) = some (some (.ref f))) (hf : PySem.W.isFn X.K (.ref f) = true) (hb : Binds X.K fd ps []) (hx : Passes CX X E) : OpR X (binaryOp op) (rOwn C sp E) := by
  intro pins s σ H x y v u Q I rx ry hq
  obtain ⟨a, b, dx, dy, fs, gs, rfl, rfl, ha, hb', h⟩ := hq
  cases rx
  cases ry
  obtain ⟨mA, J, _⟩ := ins_get I.hok ha
  obtain ⟨mB, J', _⟩ := ins_get I.hok hb'
  obtain ⟨od, J, _⟩ := J.look
  obtain ⟨od', J', _⟩ := J'.look
  obtain ⟨m, hF⟩ := I.fr
  refine PySem.W.binop_K hF I.ok.mod.kin J J'.type hc hs hf ?_
  refine wpAny_mono (run_fn (us := [.ref a, .ref b]) (vs := [.ref a, .ref b]) F hr hb .nil hx I (.cons rfl (.cons rfl .nil)) h) (fun w s' hw => ?_) fun _ _ z => z
  cases w with
  | notImplemented =>
    obtain ⟨z, H', I', rz, _⟩ := hw
    cases z <;> first | (obtain ⟨_, rz⟩ := rz; cases rz; done) | (cases rz; done)
  | _ => exact hw
theorem we_own2 {C : Addr} {ap : AP} {E0 : XK} (h : WE K ta Γ fun ra Γ1 => ∃ gs, ra = .val (.obj C gs) ∧ WE K tb Γ1 fun rb Γ2 => ∃ hs, rb = .val (.obj C hs) ∧ Hold (ap [.val (.obj C gs), .val (.obj C hs)] fun r as' => Post r Γ2)) : WE K (tOp (rOwn C (toSp K ap) E0) ta tb) Γ Post := fun σ B H E Q q => by
  refine h σ B H E _ fun x B1 H1 ra Γ1 g1 k1 p1 => ?_
  obtain ⟨gs, rfl, p1⟩ := p1
  refine p1 σ B1 H1 g1.env _ fun y B2 H2 rb Γ2 g2 k2 p2 => ?_
  obtain ⟨hs, rfl, p2⟩ := p2
  have k1' := Is.mono g2.mv.bb k1
  obtain ⟨a, dx, fs, rfl, hb, _, _⟩ := Is.objR k1'
  obtain ⟨b, dy, fs', rfl, hb', _, _⟩ := Is.objR k2
  refine ⟨a, b, dx, dy, fs, fs', rfl, rfl, g2.env.bh _ _ hb, g2.env.bh _ _ hb', ?_⟩
  have k3 : IsA K B2 [V.ref a, V.ref b] [.obj C gs, .obj C hs] := .cons k1' (.cons k2 .nil)
  refine call_core E (g1.trans g2) (asOk_val k3) rfl (Post := Post) ?_ q
  rw [args_vals]
  simp only [back_vals]
  exact p2.get
/-- isinstance(x, C) -/
structure ClsOk (K : PySem.W.Frag) (C : Addr) : Prop where
  cl : Cls K C
  ha : PySem.W.findIn K (.ref C) "__class__" = some (some (.builtin "object.__class__"))
  hn : PySem.W.specialIn K (.builtin "object.__class__") "__get__" = some (some (.builtin "getset_descriptor.__get__"))
  ht : PySem.W.takesIn K (.builtin "object.__class__") = some true
  hm : PySem.W.mroIn K C (.type "object") = some true
theorem we_isiO {C D : Addr} {b : Bool} (co : ClsOk K C) (hk : PySem.W.kitOne K (.ref C) (.ref D) = some b) (h : WE K te Γ fun r Γ1 => ∃ gs, r = .val (.obj C gs) ∧ Post (.val (.bl b)) Γ1) : WE K (tCB (rIsi K) (tCons te (tCons (tC (.ref D)) tNil))) Γ Post :=
  we_one' (r := fun x H Q => rIsi K [x, .ref D] H Q) (we_mono h fun r Γ1 ⟨gs, e, p⟩ => fun σ B H x E kx Q q => by
    subst e
    obtain ⟨a, dx, fs, rfl, hb, _, _⟩ := Is.objR kx
    exact ⟨.ref a, .ref D, .ref C, .ref D, b, rfl, .own D, .base (.ins (E.bh _ _ hb) co.cl co.ha co.hn co.ht co.hm), hk, q _ B H _ Γ1 (.refl E) (.raw _) p⟩)
end
/-! ### __init__ -/
def putD (f : Str) (d : Dt) : List (Str × Dt) → List (Str × Dt)
  | [] => [(f, d)]
  | (g, x) :: r => if g = f then (g, d) :: r else (g, x) :: putD f d r
theorem lookup_putD (f g : Str) (d : Dt) : ∀ gs : List (Str × Dt), (putD f d gs).lookup g = if g = f then some d else gs.lookup g
  | [] => by
    show List.lookup g [(f, d)] = _
    by_cases h : g = f
    · have hb : (g == f) = true := beq_iff_eq.mpr h
      simp only [List.lookup, hb, if_pos h]
    · have hb : (g == f) = false := beq_eq_false_iff_ne.mpr h
      simp only [List.lookup, hb, if_neg h]
  | (k, x) :: r => by
    unfold putD
    by_cases hk : k = f
    · rw [if_pos hk]
      subst hk
      by_cases h : g = k
      · have hb : (g == k) = true := beq_iff_eq.mpr h
        simp only [List.lookup, hb, if_pos h]
      · have hb : (g == k) = false := beq_eq_false_iff_ne.mpr h
        simp only [List.lookup, hb, if_neg h]
    · rw [if_neg hk]
      by_cases hgk : g = k
      · have hb : (g == k) = true := beq_iff_eq.mpr hgk
        have hgf : ¬ g = f := fun z => hk (hgk.symm.trans z)
        simp only [List.lookup, hb, if_neg hgf]
      · have hb : (g == k) = false := beq_eq_false_iff_ne.mpr hgk
        simp only [List.lookup, hb]
        exact lookup_putD f g d r
structure FsIs (K : PySem.W.Frag) (B : Hp) (fs : List (Str × V)) (gs : List (Str × Dt)) : Prop where
  len : fs.length ≤ gs.length
  hk : ∀ f : Str, (fs.lookup f).isSome = (gs.lookup f).isSome
  hi : ∀ (f : Str) v d, fs.lookup f = some v → gs.lookup f = some d → Is K B v d
theorem putF_len (f : Str) (v : V) : ∀ fs : List (Str × V), (putF f v fs).length ≤ fs.length + 1
  | [] => by simp [putF]
  | (g, x) :: r => by
    unfold putF
    split
    · simp
    · have := putF_len f v r
      simp only [List.length_cons]
      omega
theorem FsIs.mono {K : PySem.W.Frag} {B B' : Hp} {fs : List (Str × V)} {gs : List (Str × Dt)} (e : Same B B') (h : FsIs K B fs gs) : FsIs K B' fs gs := ⟨h.len, h.hk, fun f v d a b => (h.hi f v d a b).mono e⟩
/-- a field more -/
theorem FsIs.put {K : PySem.W.Frag} {B : Hp} {fs : List (Str × V)} {gs : List (Str × Dt)} {f : Str} {v : V} {d : Dt} (h : FsIs K B fs gs) (hn : gs.lookup f = none) (hv : Is K B v d) : FsIs K B (putF f v fs) (gs ++ [(f, d)]) := by
  have lk : ∀ g : Str, (gs ++ [(f, d)]).lookup g = if g = f then some d else gs.lookup g := fun g => by
    by_cases hg : g = f
    · subst hg
      rw [if_pos rfl]
      clear h
      induction gs with
      | nil => simp [List.lookup]
      | cons x r ih =>
        obtain ⟨k, y⟩ := x
        have hgk : (g == k) = false := by
          cases q : g == k with
          | false => rfl
          | true => simp only [List.lookup, q] at hn; cases hn
        simp only [List.lookup, hgk] at hn
        simp only [List.cons_append, List.lookup, hgk]
        exact ih hn
    · rw [if_neg hg]
      clear h hn
      have hb : (g == f) = false := beq_eq_false_iff_ne.mpr hg
      induction gs with
      | nil => simp [List.lookup, hb]
      | cons x r ih =>
        obtain ⟨k, y⟩ := x
        cases q : g == k with
        | false => simp only [List.cons_append, List.lookup, q]; exact ih
        | true => simp only [List.cons_append, List.lookup, q]
  refine ⟨?_, fun g => ?_, fun g w e a b => ?_⟩
  · have := putF_len f v fs
    have := h.len
    rw [List.length_append, List.length_singleton]
    omega
  · rw [lookup_putF, lk]
    split
    · rfl
    · exact h.hk g
  · rw [lookup_putF] at a
    rw [lk] at b
    split at a
    · rename_i hg
      rw [if_pos hg] at b
      cases a; cases b
      exact hv
    · rename_i hg
      rw [if_neg hg] at b
      exact h.hi g w e a b
abbrev AI := List Dt → (List (Str × Dt) → Prop) → Prop
def toSpI (K : PySem.W.Frag) (C : Addr) (ai : AI) : Sp := fun vs H Q _ => ∃ x dx ws B ds Post, vs = V.ref x :: ws ∧ H x = some (.ins C dx []) ∧ B x = none ∧ Same B H ∧ IsA K B ws ds ∧ ai ds Post ∧
  ∀ B' H' fs gs, Mv (fun a => a = x) B H B' H' → Same B' H' → H' x = some (.ins C dx fs) → B' x = none → FsIs K B' fs gs → Post gs → Q .non H'
/-- the state of an instance that is being made -/
structure Mg (K : PySem.W.Frag) (C x dx : Addr) (σ : L2.St) (B H : Hp) (Γ : List Sl) (gs : List (Str × Dt)) : Prop where
  env : Env K B H σ Γ
  sl : σ[0]? = some (some (.ref x))
  un : Γ[0]? = some .un
  no : ¬ Own σ Γ x
  hx : ∃ fs, H x = some (.ins C dx fs) ∧ FsIs K B fs gs
  bx : B x = none
structure GoI (K : PySem.W.Frag) (C x dx : Addr) (σ : L2.St) (B H : Hp) (Γ : List Sl) (σ' : L2.St) (B' H' : Hp) (Γ' : List Sl) (gs' : List (Str × Dt)) : Prop where
  mv : Mv (fun a => Own σ Γ a ∨ a = x) B H B' H'
  new : ∀ a, Own σ' Γ' a → Own σ Γ a ∨ H a = none
  mg : Mg K C x dx σ' B' H' Γ' gs'
theorem GoI.trans {K : PySem.W.Frag} {C x dx : Addr} {σ σ1 σ2 : L2.St} {B H B1 H1 B2 H2 : Hp} {Γ Γ1 Γ2 : List Sl} {gs1 gs2 : List (Str × Dt)} (a : GoI K C x dx σ B H Γ σ1 B1 H1 Γ1 gs1) (b : GoI K C x dx σ1 B1 H1 Γ1 σ2 B2 H2 Γ2 gs2) : GoI K C x dx σ B H Γ σ2 B2 H2 Γ2 gs2 :=
  ⟨a.mv.trans (fun c hc => hc.elim (fun h => (a.new c h).imp .inl id) fun h => .inl (.inr h)) b.mv, fun c h => (b.new c h).elim (fun z => a.new c z) fun z => (a.mv.back z).elim (fun q => q.elim .inl fun e => by
    subst e
    obtain ⟨fs, hf, _⟩ := a.mg.hx
    rw [hf] at z; cases z) .inr, b.mg⟩
def WI (K : PySem.W.Frag) (C : Addr) (t : TS) (Γ : List Sl) (gs : List (Str × Dt)) (P : List (Str × Dt) → List Sl → Prop) : Prop := ∀ σ B H (D : Ends) x dx, Mg K C x dx σ B H Γ gs →
  (∀ σ' B' H' Γ' gs', GoI K C x dx σ B H Γ σ' B' H' Γ' gs' → P gs' Γ' → D.nx σ' H') → t D σ H
section
variable {K : PySem.W.Frag} {C : Addr} {Γ : List Sl} {gs : List (Str × Dt)} {P : List (Str × Dt) → List Sl → Prop} {t u : TS} {te : TE}
theorem wi_seq (h : WI K C t Γ gs fun gs1 Γ1 => WI K C u Γ1 gs1 P) : WI K C (tSeq t u) Γ gs P := fun σ B H D x dx M n =>
  h σ B H { D with nx := u D } x dx M fun σ1 B1 H1 Γ1 gs1 g p => p σ1 B1 H1 D x dx g.mg fun σ2 B2 H2 Γ2 gs2 g2 p2 => n σ2 B2 H2 Γ2 gs2 (g.trans g2) p2
theorem wi_set {f : Str} (cl : Cls K C) (na : NoAttr K C f) (hl : gs.lookup f = none) (hz : gs.length < 900) (h : WE K te Γ fun r Γ1 => ∃ d, r.dt? = some d ∧ Γ1[0]? = some .un ∧ P (gs ++ [(f, d)]) Γ1) : WI K C (sFld K (tVar 0) te f) Γ gs P := fun σ B H D x dx M n => by
  have h' : WE K te Γ fun r Γ1 => ∃ d, r = .val d ∧ Γ1[0]? = some .un ∧ P (gs ++ [(f, d)]) Γ1 := we_freeze (we_mono h fun r Γ1 ⟨d, hd, r2⟩ => ⟨d, hd, d, rfl, r2⟩)
  refine h' σ B H M.env _ fun y B1 H1 r Γ1 g k p => ?_
  obtain ⟨d, rfl, h0, p⟩ := p
  obtain ⟨fs, hx, hf⟩ := M.hx
  have hx1 : H1 x = some (.ins C dx fs) := g.mv.kp x _ M.no hx
  have bx1 : B1 x = none := g.mv.off x M.no (by rw [hx]; exact fun z => nomatch z) M.bx
  have no1 : ¬ Own σ Γ1 x := fun z => M.no (g.sub x z)
  refine ⟨.ref x, M.sl, x, C, dx, fs, rfl, hx1, cl, na, Nat.lt_of_le_of_lt hf.len (by omega), ?_⟩
  have hd : Is K B1 y d := k
  have E2 : Env K B1 (upd H1 x (.ins C dx (putF f y fs))) σ Γ1 := by
    refine ⟨g.env.len, fun a o e => ?_, g.env.val, fun i es hi => ?_, g.env.sep⟩
    · have : a ≠ x := fun z => by subst z; rw [bx1] at e; cases e
      rw [upd_ne this]; exact g.env.bh a o e
    · obtain ⟨l, vs, e1, e2, e3, e4⟩ := g.env.cel i es hi
      have : l ≠ x := fun z => by subst z; rw [hx1] at e2; cases e2; cases es <;> (obtain ⟨_, z, _⟩ := e4; cases z)
      exact ⟨l, vs, e1, by rw [upd_ne this]; exact e2, e3, e4⟩
  refine n σ B1 _ Γ1 (gs ++ [(f, d)]) ⟨⟨fun a o na' e => ?_, g.mv.bb, fun a na' ha hb => ?_⟩, fun a h => .inl (g.sub a h), ⟨E2, M.sl, h0, no1, ⟨_, upd_same, (hf.mono g.mv.bb).put hl hd⟩, bx1⟩⟩ p
  · have h1 : ¬ Own σ Γ a := fun z => na' (.inl z)
    have h2 : a ≠ x := fun z => na' (.inr z)
    rw [upd_ne h2]; exact g.mv.kp a o h1 e
  · exact g.mv.off a (fun z => na' (.inl z)) ha hb
/-- a statement beside the instance -/
theorem wi_ws (h : WS K [0] t Γ ⟨fun G => G[0]? = some .un ∧ P gs G, fun _ _ => False, fun _ => False, fun _ => False, .no⟩) : WI K C t Γ gs P := fun σ B H D x dx M n => by
  obtain ⟨fs, hx, hf⟩ := M.hx
  refine h σ B H D M.env (fun σ' B' H' Γ' g p => ?_) (fun _ _ _ _ _ _ _ _ p => p.elim) (fun _ _ _ _ _ p => p.elim) (fun _ _ _ _ _ p => p.elim) (fun _ _ _ _ _ _ _ _ _ p => (show False from p).elim)
  refine n σ' B' H' Γ' gs ⟨⟨fun a o na e => g.mv.kp a o (fun z => na (.inl z)) e, g.mv.bb, fun a na ha hb => g.mv.off a (fun z => na (.inl z)) ha hb⟩, g.new, ⟨g.env, by rw [g.pin 0 List.mem_cons_self]; exact M.sl, p.1, fun z => ?_, ⟨fs, g.mv.kp x _ M.no hx, hf.mono g.mv.bb⟩, g.mv.off x M.no (by rw [hx]; exact fun z => nomatch z) M.bx⟩⟩ p.2
  rcases g.new x z with h1 | h1
  · exact M.no h1
  · rw [hx] at h1; cases h1
variable {Pg : Program} {w : World} {mg : Str → Option Value} {base : Heap}
theorem env_vals {B H : Hp} {vs : List V} {ds : List Dt} (hb : Same B H) (h : IsA K B vs ds) : Env K B H (vs.map some) (ds.map Sl.val) := by
  have na : ∀ {i : Nat} {es : Cn}, (ds.map Sl.val)[i]? = some (.cel es) → False := fun {i es} e => by
    rw [List.getElem?_map] at e
    cases q : ds[i]? with
    | none => rw [q] at e; cases e
    | some d => rw [q] at e; cases e
  refine ⟨by rw [List.length_map, List.length_map, h.len], hb, fun i d e => ?_, fun i es e => (na e).elim, fun i j es fs l e => (na e).elim⟩
  rw [List.getElem?_map] at e
  cases q : ds[i]? with
  | none => rw [q] at e; cases e
  | some d' =>
    rw [q] at e; cases e
    obtain ⟨v, hv, k⟩ := h.get q
    exact ⟨v, by rw [List.getElem?_map, hv]; rfl, k⟩
/-- __init__ by its run -/
theorem fn_init {x qual : Str} {st : Stmt} {f : Addr} {fd : FuncData} {N ps : List Str} {k : Nat} {ai : AI} (F : Fun K x qual st f fd) (S : FnScope N ps (defScope st))
    (hlen : ∀ ds Post, ai ds Post → ds.length + 1 = ps.length) (hN : decide (ps.length ≤ N.length) = true)
    (body : ∀ (cdv : Value) (A : Around) (outer : List PySem.Env) (s : Shared) (H : Hp) (E : XK), Room k (A.deeper (PyProof.Rows.envOfC qual (defScope st) s.heap.objs.size f cdv)) →
      ∃ t, PSs (cxOf CX0 Pg w K mg base N qual (defScope st) f cdv A outer s H E).nox (defBody st) t ∧
        ∀ ds Post, ai ds Post → WI K C t ((.un :: ds.map Sl.val) ++ List.replicate (N.length - (ds.length + 1)) .un) [] (fun gs _ => Post gs)) :
    FnOk Pg w K mg base CX0 (k + 1) f fd ps (toSpI K C ai) := by
  refine F.ok S (fun vs H Q E h => ?_) (fun cdv A outer s H vs Q E hr h => ?_)
  · obtain ⟨x, dx, ws, B, ds, Post, rfl, _, _, _, ha, hai, _⟩ := h
    rw [List.length_cons, ha.len]; exact hlen ds Post hai
  · obtain ⟨x, dx, ws, B, ds, Post, rfl, hx, bx, hbh, ha, hai, q⟩ := h
    obtain ⟨t, ht, hw⟩ := body cdv A outer s H E hr
    refine ⟨t, ht, ?_⟩
    have E1 : Env K B H ((V.ref x :: ws).map some) (.un :: ds.map Sl.val) := by
      have e := env_vals hbh ha
      refine ⟨by simp [ha.len], hbh, fun i d h => ?_, fun i es h => ?_, fun i j es fs l h1 h2 h3 h4 => ?_⟩
      · cases i with
        | zero => cases h
        | succ i => exact e.val i d (by simpa using h)
      · cases i with
        | zero => cases h
        | succ i => exact e.cel i es (by simpa using h)
      · cases i with
        | zero => cases h1
        | succ i =>
          cases j with
          | zero => cases h2
          | succ j => exact congrArg Nat.succ (e.sep i j es fs l (by simpa using h1) (by simpa using h2) (by simpa using h3) (by simpa using h4))
    have hps : (Sl.un :: ds.map Sl.val).length ≤ N.length := by
      rw [List.length_cons, List.length_map, hlen ds Post hai]; exact of_decide_eq_true hN
    have E0 := env_start E1 hps
    have no : ∀ a, ¬ Own (L2.start N (V.ref x :: ws)) ((Sl.un :: ds.map Sl.val) ++ List.replicate (N.length - (Sl.un :: ds.map Sl.val).length) .un) a := fun a z => by
      have := (own_start (N := N) (vs := V.ref x :: ws) (as := Sl.un :: ds.map Sl.val) (by simp [ha.len])).mp z
      obtain ⟨i, es, h1, h2⟩ := this
      cases i with
      | zero => cases h1
      | succ i =>
        have h1 : (ds.map Sl.val)[i]? = some (.cel es) := by simpa using h1
        rw [List.getElem?_map] at h1
        cases q : ds[i]? with
        | none => rw [q] at h1; cases h1
        | some d => rw [q] at h1; cases h1
    have hlN : (Sl.un :: ds.map Sl.val).length = ds.length + 1 := by rw [List.length_cons, List.length_map]
    rw [hlN] at E0 no
    refine hw ds Post hai (L2.start N (V.ref x :: ws)) B H _ x dx ⟨E0, rfl, rfl, no x, ⟨[], hx, ⟨Nat.le_refl _, fun _ => rfl, fun _ _ _ z => by cases z⟩⟩, bx⟩ fun σ' B' H' Γ' gs' g p => ?_
    obtain ⟨fs, e1, e2⟩ := g.mg.hx
    exact q B' H' fs gs' ⟨fun a o na e => g.mv.kp a o (fun z => z.elim (no a) na) e, g.mv.bb, fun a na ha hb => g.mv.off a (fun z => z.elim (no a) na) ha hb⟩ g.mg.env.bh e1 g.mg.bx e2 p
/-- C(..) -/
theorem we_make {Post : Re → List Sl → Prop} {ai : AI} {E0 : XK} {t : TA} (h : WD K t Γ fun ds Γ1 => Hold (ai ds fun gs => Post (.val (.obj C gs)) Γ1)) : WE K (tMake C (toSpI K C ai) [] E0 t) Γ Post := fun σ B H E Q q => by
  refine h σ B H E _ fun vs B1 H1 ds Γ1 g1 k1 p1 => ?_
  intro x dx hx hdx hne
  rw [List.append_nil]
  have hxx : upd (upd H1 dx (.own x)) x (.ins C dx []) x = some (.ins C dx []) := upd_same
  have b1x : B1 x = none := g1.env.base_none hx
  have s12 : ∀ a o, H1 a = some o → upd (upd H1 dx (.own x)) x (.ins C dx []) a = some o := fun a o e => by
    rw [upd_ne (ne_of_none e hx), upd_ne (ne_of_none e hdx)]; exact e
  refine ⟨x, dx, vs, B1, ds, _, rfl, hxx, b1x, fun a o e => s12 a o (g1.env.bh a o e), k1, p1.get, fun B' H' fs gs mv sb hx' bx' hf p => ⟨rfl, ?_⟩⟩
  have sBB : Same B' (upd B' x (.ins C dx fs)) := fun a o e => by rw [upd_ne (ne_of_none e bx')]; exact e
  have kept : ∀ a o, H1 a = some o → H' a = some o := fun a o e => mv.kp a o (fun z => by subst z; rw [hx] at e; cases e) (s12 a o e)
  have offB : ∀ a, H1 a ≠ none → B1 a = none → B' a = none := fun a ha hb => by
    have hne : a ≠ x := fun z => by subst z; exact ha hx
    refine mv.off a hne ?_ hb
    cases qq : H1 a with
    | none => exact absurd qq ha
    | some o => rw [s12 a o qq]; exact fun z => nomatch z
  have E2 : Env K (upd B' x (.ins C dx fs)) H' σ Γ1 := by
    refine ⟨g1.env.len, fun a o e => ?_, fun i d hi => ?_, fun i es hi => ?_, g1.env.sep⟩
    · by_cases ha : a = x
      · subst ha; rw [upd_same] at e; cases e; exact hx'
      · rw [upd_ne ha] at e; exact sb a o e
    · obtain ⟨v, e1, e2⟩ := g1.env.val i d hi
      exact ⟨v, e1, e2.mono (mv.bb.trans sBB)⟩
    · obtain ⟨l, us, e1, e2, e3, e4⟩ := g1.env.cel i es hi
      have hl : l ≠ x := fun z => by subst z; rw [hx] at e2; cases e2
      exact ⟨l, us, e1, kept l _ e2, by rw [upd_ne hl]; exact offB l (by rw [e2]; exact fun z => nomatch z) e3, e4.mono (mv.bb.trans sBB)⟩
  have g2 : Go K σ B1 H1 Γ1 (upd B' x (.ins C dx fs)) H' Γ1 := by
    refine ⟨⟨fun a o _ e => kept a o e, mv.bb.trans sBB, fun a na ha hb => ?_⟩, fun i es hi => ⟨es, hi⟩, E2⟩
    have hne : a ≠ x := fun z => by subst z; exact ha hx
    rw [upd_ne hne]; exact offB a ha hb
  have hf' := hf.mono sBB
  exact q (.ref x) _ H' (.val (.obj C gs)) Γ1 (g1.trans g2) (Is.obj upd_same hf'.hk hf'.hi) p
end
theorem lk_hit {f : Str} {d : Dt} {r : List (Str × Dt)} : List.lookup f ((f, d) :: r) = some d := by
  have hb : (f == f) = true := beq_iff_eq.mpr rfl
  simp only [List.lookup, hb]
theorem lk_miss {f g : Str} {d : Dt} {r : List (Str × Dt)} (h : ¬ f = g) : List.lookup f ((g, d) :: r) = List.lookup f r := by
  have hb : (f == g) = false := beq_eq_false_iff_ne.mpr h
  simp only [List.lookup, hb]
section
variable {K : PySem.W.Frag} {Γ : List Sl} {Post : Re → List Sl → Prop} {ta : TE}
/-- o.f, the class told by the value -/
def FldP (K : PySem.W.Frag) (f : Str) (r : Re) (Γ : List Sl) (Post : Re → List Sl → Prop) : Prop := ∃ C gs d, r = .val (.obj C gs) ∧ Cls K C ∧ NoAttr K C f ∧ gs.lookup f = some d ∧ Post (.val d) Γ
theorem we_fldG {f : Str} (h : WE K ta Γ fun r Γ1 => FldP K f r Γ1 Post) : WE K (tFld K ta f) Γ Post := fun σ B H E Q q => by
  refine h σ B H E _ fun x B1 H1 r Γ1 g1 k1 p1 => ?_
  obtain ⟨C, gs, d, rfl, cl, na, hl, p⟩ := p1
  obtain ⟨a, dx, fs, rfl, hb, hk, hi⟩ := Is.objR k1
  obtain ⟨w, hw⟩ := lk_some (hk f) hl
  exact ⟨a, C, dx, fs, w, rfl, g1.env.bh _ _ hb, cl, na, hw, q w B1 H1 (.val d) Γ1 g1 (hi f w d hw hl) p⟩
theorem fldp {f : Str} {C : Addr} {gs : List (Str × Dt)} {d : Dt} (cl : Cls K C) (na : NoAttr K C f) (hl : gs.lookup f = some d) (p : Post (.val d) Γ) : FldP K f (.val (.obj C gs)) Γ Post := ⟨C, gs, d, rfl, cl, na, hl, p⟩
def MetP (m : Str) (C : Addr) (ap : AP) (t : TA) (K : PySem.W.Frag) (r : Re) (Γ : List Sl) (Post : Re → List Sl → Prop) : Prop := ∃ gs, r = .val (.obj C gs) ∧ gs.lookup m = none ∧ WD K t Γ fun ds Γ2 => Hold (ap (.val (.obj C gs) :: ds.map Sl.val) fun r as' => Post r Γ2)
theorem we_methG {m : Str} {C : Addr} {ap : AP} {E0 : XK} {t : TA} (h : WE K ta Γ fun r Γ1 => MetP m C ap t K r Γ1 Post) : WE K (tMeth C m (toSp K ap) [] E0 ta t) Γ Post := we_meth h
theorem metp {m : Str} {C : Addr} {ap : AP} {t : TA} {gs : List (Str × Dt)} (hl : gs.lookup m = none) (h : WD K t Γ fun ds Γ2 => Hold (ap (.val (.obj C gs) :: ds.map Sl.val) fun r as' => Post r Γ2)) : MetP m C ap t K (.val (.obj C gs)) Γ Post := ⟨gs, rfl, hl, h⟩
theorem kit_self {C : Addr} : PySem.W.kitOne K (.ref C) (.ref C) = some true := by
  unfold PySem.W.kitOne
  rw [if_pos (beq_iff_eq.mpr rfl)]
def IsoP (K : PySem.W.Frag) (D : Addr) (r : Re) (Γ : List Sl) (Post : Re → List Sl → Prop) : Prop := ∃ C gs b, r = .val (.obj C gs) ∧ ClsOk K C ∧ PySem.W.kitOne K (.ref C) (.ref D) = some b ∧ Post (.val (.bl b)) Γ
theorem we_isoG {D : Addr} (h : WE K ta Γ fun r Γ1 => IsoP K D r Γ1 Post) : WE K (tCB (rIsi K) (tCons ta (tCons (tC (.ref D)) tNil))) Γ Post :=
  we_one' (r := fun x H Q => rIsi K [x, .ref D] H Q) (we_mono h fun r Γ1 ⟨C, gs, b, e, co, hk, p⟩ => fun σ B H x E kx Q q => by
    subst e
    obtain ⟨a, dx, fs, rfl, hb, _, _⟩ := Is.objR kx
    exact ⟨.ref a, .ref D, .ref C, .ref D, b, rfl, .own D, .base (.ins (E.bh _ _ hb) co.cl co.ha co.hn co.ht co.hm), hk, q _ B H _ Γ1 (.refl E) (.raw _) p⟩)
theorem isop {C : Addr} {gs : List (Str × Dt)} (co : ClsOk K C) (p : Post (.val (.bl true)) Γ) : IsoP K C (.val (.obj C gs)) Γ Post := ⟨C, gs, true, rfl, co, kit_self, p⟩
end
end Ab
/-! more constructs: sums of tuples, texts that are known -/
namespace Ab
open PySem L2
/-- a body's run keeps a promise -/
abbrev RunOk (K : PySem.W.Frag) (pin : List Nat) (t : TS) (N : Nat) (ap : AP) : Prop := ∀ (as : List Sl) (Post : Re → List Sl → Prop), ap as Post → WS K pin t (as ++ List.replicate (N - as.length) .un) ⟨fun G => Post (.val .non) (exitArgs pin G as), fun r G => Post r (exitArgs pin G as), fun _ => False, fun _ => False, .no⟩
theorem cut_mid {α : Type} {f : α → Dt} {xs : List α} {a b : Nat} (h : a ≤ b) (h2 : b ≤ xs.length) : cutD (xs.map f) (some (a : Int)) (some (b : Int)) = ((xs.drop a).take (b - a)).map f := by
  unfold cutD
  rw [HT.sIx_nat, HT.sIx_nat, List.length_map, Nat.min_eq_left h2, Nat.min_eq_left (show a ≤ xs.length by omega), ← List.map_drop, ← List.map_take]
/-- sum of a list or a tuple of ints -/
def rSumG (K : PySem.W.Frag) : List V → Hp → VK → Prop := fun vs H Q => ∃ (a : Addr) (ns : List Int), vs = [V.ref a] ∧ (SqL K H a (ns.map V.int) ∨ SqT K H a (ns.map V.int)) ∧ Q (.int ns.sum) H
theorem cr_sumG {X : Cx} (hc : X.calm = true) : CallR X (.builtin "sum") (rSumG X.K) := by
  intro pins s σ H vs us Q I r h
  obtain ⟨a, ns, rfl, hs, q⟩ := h
  rcases hs with hs | hs
  · exact cr_sum hc pins s σ H _ us Q I r ⟨a, ns, rfl, hs, q⟩
  · obtain ⟨its, rv, hl, _⟩ := I.tuple hs
    rw [Vals.ref1 r]
    obtain ⟨xs, hx⟩ := rv.ints.allInts.items
    have hn : numsOf its.toArray.toList = ns := by rw [show its.toArray.toList = its from rfl, rv.ints.numsOf]
    rw [hx] at hl hn
    rw [nums_intItems] at hn
    refine PySem.W.ktm_sumG (I.ok.hd hc) hl fun h' tk t' hk => ?_
    refine ⟨.int _, H, I.kept hk, ⟨_, rfl⟩, ?_⟩
    rw [preSum_eq, List.take_of_length_le (by simp), hn]
    exact q
theorem we_sumG {K : PySem.W.Frag} {Γ : List Sl} {Post : Re → List Sl → Prop} {te : TE} (h : WE K te Γ fun r Γ1 => Hold (∃ ns : List Int, seqOf Γ1 r = some (ns.map Dt.int) ∧ Post (.val (.int ns.sum)) Γ1)) : WE K (tCB (rSumG K) (tCons te tNil)) Γ Post :=
  we_cb1 (we_mono h fun r Γ1 hp => fun σ B H x E kx Q q => by
    obtain ⟨ns, hs, p⟩ := hp.get
    obtain ⟨a, vs, rfl, hq, ha⟩ := rv_seq E kx hs
    have e : vs = ns.map V.int := IsA.rawsI (xs := ns.map V.int) (by rw [List.map_map]; exact ha)
    subst e
    exact ⟨a, ns, rfl, hq, q _ B H _ Γ1 (.refl E) (.raw _) p⟩)
/-! tuples that are written out -/
theorem normD_cons {a : Dt} {l t t' : List Dt} (e : l = a :: t) (et : t = t') : l = a :: t' := by
  subst et
  exact e
theorem slp_tE {Γ : List Sl} {Post : Re → List Sl → Prop} {ds es : List Dt} {lo hi : Option Int} (h : cutD ds lo hi = es) (p : Post (.val (.tup es)) Γ) : SlP (.val (.tup ds)) lo hi Γ Post := slp_t (by rw [h]; exact p)
theorem addp_tE {Γ : List Sl} {Post : Re → List Sl → Prop} {ds es fs : List Dt} (hz : ds.length + es.length ≤ 1000000) (h : ds ++ es = fs) (p : Post (.val (.tup fs)) Γ) : AddP (.val (.tup ds)) (.val (.tup es)) Γ Post := addp_t hz (by rw [h]; exact p)
theorem inV_ints {i : Int} : ∀ ns : List Int, inV (.int i) (ns.map V.int) = decide (i ∈ ns)
  | [] => rfl
  | n :: r => by
    have ih := inV_ints (i := i) r
    unfold inV at ih ⊢
    rw [List.map_cons, List.any_cons, ih]
    by_cases h : n = i
    · subst h; simp [eqV]
    · have h' : ¬ i = n := fun z => h z.symm
      simp [eqV, h, h']
theorem flat_ints : ∀ ns : List Int, (ns.map V.int).all flatV = true
  | [] => rfl
  | n :: r => by rw [List.map_cons, List.all_cons, flat_ints r]; rfl
/-- i in a list or tuple of ints -/
theorem inI {Γ : List Sl} {Post : Re → List Sl → Prop} {i : Int} {rb : Re} {ns : List Int} {Z : Prop} (h : seqOf Γ rb = some (ns.map Dt.int)) (p : Post (.val (.bl (decide (i ∈ ns)))) Γ) : InP false (.val (.int i)) rb Γ Post ∨ Z :=
  .inl ⟨.int i, ns.map V.int, rfl, by rw [h, List.map_map]; rfl, rfl, flat_ints ns, by rw [if_neg Bool.false_ne_true, inV_ints]; exact p⟩
theorem notInI {Γ : List Sl} {Post : Re → List Sl → Prop} {i : Int} {rb : Re} {ns : List Int} (h : seqOf Γ rb = some (ns.map Dt.int)) (p : Post (.val (.bl (!decide (i ∈ ns)))) Γ) : InP true (.val (.int i)) rb Γ Post :=
  ⟨.int i, ns.map V.int, rfl, by rw [h, List.map_map]; rfl, rfl, flat_ints ns, by rw [if_pos rfl, inV_ints]; exact p⟩
/-- xs.clear() -/
theorem we_clearN {K : PySem.W.Frag} {Γ : List Sl} {i : Nat} {ds : List Dt} {Post : Re → List Sl → Prop} (h0 : Γ[i]? = some (.acc ds)) (p : NormP (Γ.set i (.acc [])) (Post (.val .non))) : WE K (tBM0 K "list" rClear (tVar i)) Γ Post := fun σ B H E Q q => by
  obtain ⟨l, vs, e0, e1, e2, k0⟩ := E.acc i ds h0
  exact ⟨.ref l, e0, .inl ⟨rfl, vs, .inl (.inl e1)⟩, l, vs, rfl, rfl, e1, q .non B _ (.val .non) _ (Go.put E h0 e0 .nil) (Is.raw _) p⟩
/-! pools by a bound -/
def PoolUp (b : Int) (ds : List Dt) : Prop := ∃ c, PoolIs c ds ∧ 0 ≤ c ∧ c ≤ b
theorem PoolIs.up {ds : List Dt} {c b : Int} (h : PoolIs c ds) (h0 : 0 ≤ c) (hb : c ≤ b) : PoolUp b ds := ⟨c, h, h0, hb⟩
theorem PoolUp.mono {ds : List Dt} {a b : Int} (h : PoolUp a ds) (hb : a ≤ b) : PoolUp b ds := by obtain ⟨c, h1, h2, h3⟩ := h; exact ⟨c, h1, h2, by omega⟩
theorem tk {ds : List Dt} {b n : Int} {Post : Re → List Sl → Prop} (h : PoolUp b ds) (hb : b < 900000000) (hn : 0 < n) (hn2 : n < 18446744073709551616) (k : ∀ ds' g, PoolUp (b + 1) ds' → 0 ≤ g → g < n → Post (.val (.int g)) [.acc ds', .val (.int n)]) : ap_take [.acc ds, .val (.int n)] Post := by
  obtain ⟨c, h1, h2, h3⟩ := h
  exact ⟨ds, c, n, rfl, h1, h2, by omega, hn, hn2, fun ds' g h' g0 g1 => k ds' g ⟨c + 1, h', by omega, by omega⟩ g0 g1⟩
/-! == of texts that are known -/
theorem str_ne {a b : Str} (h : ¬ a = b) : ¬ (V.str a = V.str b) := fun e => h (by cases e; rfl)
theorem eqp_st {Γ : List Sl} {Post : Re → List Sl → Prop} {a : Str} (p : Post (.val (.bl true)) Γ) : EqP false (.val (.str a)) (.val (.str a)) Γ Post := eqp_s rfl (by rw [decide_eq_true rfl]; exact p)
theorem nep_st {Γ : List Sl} {Post : Re → List Sl → Prop} {a : Str} (p : Post (.val (.bl false)) Γ) : EqP true (.val (.str a)) (.val (.str a)) Γ Post := eqp_s rfl (by rw [decide_eq_true rfl]; exact p)
theorem eqp_sf {Γ : List Sl} {Post : Re → List Sl → Prop} {a b : Str} (h : ¬ a = b) (p : Post (.val (.bl false)) Γ) : EqP false (.val (.str a)) (.val (.str b)) Γ Post := eqp_s rfl (by rw [decide_eq_false (str_ne h)]; exact p)
theorem nep_sf {Γ : List Sl} {Post : Re → List Sl → Prop} {a b : Str} (h : ¬ a = b) (p : Post (.val (.bl true)) Γ) : EqP true (.val (.str a)) (.val (.str b)) Γ Post := eqp_s rfl (by rw [decide_eq_false (str_ne h)]; exact p)
theorem dec_s {a b : Str} : decide (V.str a = V.str b) = decide (a = b) := by
  by_cases h : a = b
  · subst h; simp
  · rw [decide_eq_false (str_ne h), decide_eq_false h]
theorem eqp_str {Γ : List Sl} {Post : Re → List Sl → Prop} {a b : Str} (p : Post (.val (.bl (decide (a = b)))) Γ) : EqP false (.val (.str a)) (.val (.str b)) Γ Post := eqp_s rfl (by rw [dec_s, Bool.false_xor]; exact p)
theorem nep_str {Γ : List Sl} {Post : Re → List Sl → Prop} {a b : Str} (p : Post (.val (.bl (!decide (a = b)))) Γ) : EqP true (.val (.str a)) (.val (.str b)) Γ Post := eqp_s rfl (by rw [dec_s, Bool.true_xor]; exact p)
/-! ### keywords: picks -/
def pick {α : Type} (o : List Nat) (xs : List α) : List α := o.filterMap fun i => xs[i]?
theorem pick_nil {α : Type} (xs : List α) : pick [] xs = [] := rfl
theorem pick_cons {α : Type} {i : Nat} {o : List Nat} {xs : List α} {x : α} (h : xs[i]? = some x) : pick (i :: o) xs = x :: pick o xs := by
  unfold pick
  rw [List.filterMap_cons_some h]
theorem pick_skip {α : Type} {i : Nat} {o : List Nat} {xs : List α} (h : xs[i]? = none) : pick (i :: o) xs = pick o xs := by
  unfold pick
  rw [List.filterMap_cons_none h]
theorem pick_vals {xs : List V} {us : List Value} (r : Vals xs us) : ∀ o : List Nat, Vals (pick o xs) (pick o us)
  | [] => .nil
  | i :: o => by
    cases q : xs[i]? with
    | none => rw [pick_skip q, pick_skip (r.none_of q)]; exact pick_vals r o
    | some x =>
      obtain ⟨u, hu, ru⟩ := r.get q
      rw [pick_cons q, pick_cons hu]
      exact .cons ru (pick_vals r o)
theorem pick_isA {K : PySem.W.Frag} {B : Hp} {vs : List V} {ds : List Dt} (h : IsA K B vs ds) : ∀ o : List Nat, IsA K B (pick o vs) (pick o ds)
  | [] => .nil
  | i :: o => by
    cases q : ds[i]? with
    | none =>
      have : vs[i]? = none := by
        rw [List.getElem?_eq_none_iff] at q ⊢
        rw [h.len]; exact q
      rw [pick_skip q, pick_skip this]; exact pick_isA h o
    | some d =>
      obtain ⟨v, hv, iv⟩ := h.get q
      rw [pick_cons q, pick_cons hv]
      exact .cons iv (pick_isA h o)
/-- places one further on -/
def upO (o : List Nat) : List Nat := o.map (· + 1)
theorem pick_up {α : Type} (x : α) (xs : List α) : ∀ o : List Nat, pick (upO o) (x :: xs) = pick o xs
  | [] => rfl
  | i :: o => by
    show pick ((i + 1) :: upO o) (x :: xs) = _
    have e : (x :: xs)[i + 1]? = xs[i]? := List.getElem?_cons_succ
    cases q : xs[i]? with
    | none => rw [pick_skip (e.trans q), pick_skip q]; exact pick_up x xs o
    | some y => rw [pick_cons (e.trans q), pick_cons q, pick_up x xs o]
section
variable {K : PySem.W.Frag} {Γ : List Sl} {Post : Re → List Sl → Prop} {C : Addr}
/-- what the making of an instance comes to -/
theorem make_core {σ : L2.St} {B H B1 H1 : Hp} {Γ1 : List Sl} {vs : List V} {ds : List Dt} {ai : AI} {E0 : XK} {Q : VK} (g1 : Go K σ B H Γ B1 H1 Γ1) (k1 : IsA K B1 vs ds) (p1 : ai ds fun gs => Post (.val (.obj C gs)) Γ1)
    (q : ∀ v B' H' r Γ', Go K σ B H Γ B' H' Γ' → ReOk K σ (Own σ Γ) (Own σ Γ') B' H H' v r → Post r Γ' → Q v H') : ∀ x dx, H1 x = none → H1 dx = none → dx ≠ x → toSpI K C ai (.ref x :: vs) (upd (upd H1 dx (.own x)) x (.ins C dx [])) (fun v H3 => v = .non ∧ Q (.ref x) H3) E0 := by
  have t : WE K (tMake C (toSpI K C ai) [] E0 (fun _ H2 R => ∀ B2, Same B2 H2 → R vs H2)) Γ1 Post → True := fun _ => trivial
  intro x dx hx hdx hne
  have hxx : upd (upd H1 dx (.own x)) x (.ins C dx []) x = some (.ins C dx []) := upd_same
  have b1x : B1 x = none := g1.env.base_none hx
  have s12 : ∀ a o, H1 a = some o → upd (upd H1 dx (.own x)) x (.ins C dx []) a = some o := fun a o e => by
    rw [upd_ne (ne_of_none e hx), upd_ne (ne_of_none e hdx)]; exact e
  refine ⟨x, dx, vs, B1, ds, _, rfl, hxx, b1x, fun a o e => s12 a o (g1.env.bh a o e), k1, p1, fun B' H' fs gs mv sb hx' bx' hf p => ⟨rfl, ?_⟩⟩
  have sBB : Same B' (upd B' x (.ins C dx fs)) := fun a o e => by rw [upd_ne (ne_of_none e bx')]; exact e
  have kept : ∀ a o, H1 a = some o → H' a = some o := fun a o e => mv.kp a o (fun z => by subst z; rw [hx] at e; cases e) (s12 a o e)
  have offB : ∀ a, H1 a ≠ none → B1 a = none → B' a = none := fun a ha hb => by
    have hne : a ≠ x := fun z => by subst z; exact ha hx
    refine mv.off a hne ?_ hb
    cases qq : H1 a with
    | none => exact absurd qq ha
    | some o => rw [s12 a o qq]; exact fun z => nomatch z
  have E2 : Env K (upd B' x (.ins C dx fs)) H' σ Γ1 := by
    refine ⟨g1.env.len, fun a o e => ?_, fun i d hi => ?_, fun i es hi => ?_, g1.env.sep⟩
    · by_cases ha : a = x
      · subst ha; rw [upd_same] at e; cases e; exact hx'
      · rw [upd_ne ha] at e; exact sb a o e
    · obtain ⟨v, e1, e2⟩ := g1.env.val i d hi
      exact ⟨v, e1, e2.mono (mv.bb.trans sBB)⟩
    · obtain ⟨l, us, e1, e2, e3, e4⟩ := g1.env.cel i es hi
      have hl : l ≠ x := fun z => by subst z; rw [hx] at e2; cases e2
      exact ⟨l, us, e1, kept l _ e2, by rw [upd_ne hl]; exact offB l (by rw [e2]; exact fun z => nomatch z) e3, e4.mono (mv.bb.trans sBB)⟩
  have g2 : Go K σ B1 H1 Γ1 (upd B' x (.ins C dx fs)) H' Γ1 := by
    refine ⟨⟨fun a o _ e => kept a o e, mv.bb.trans sBB, fun a na ha hb => ?_⟩, fun i es hi => ⟨es, hi⟩, E2⟩
    have hne : a ≠ x := fun z => by subst z; exact ha hx
    rw [upd_ne hne]; exact offB a ha hb
  have hf' := hf.mono sBB
  exact q (.ref x) _ H' (.val (.obj C gs)) Γ1 (g1.trans g2) (Is.obj upd_same hf'.hk hf'.hi) p
/-- C(a, ..), the keyword-only parameters by their defaults -/
theorem we_makeD {dvs : List V} {ai : AI} {E0 : XK} {t : TA} (h : WD K t Γ fun ds Γ1 => Hold (ai (ds ++ dvs.map Dt.raw) fun gs => Post (.val (.obj C gs)) Γ1)) : WE K (tMake C (toSpI K C ai) dvs E0 t) Γ Post := fun σ B H E Q q => by
  refine h σ B H E _ fun vs B1 H1 ds Γ1 g1 k1 p1 => ?_
  exact make_core g1 (k1.append .raws) p1.get q
/-- C(a, .., k = v, ..) -/
theorem we_makeK {n m : Nat} {o : List Nat} {mz : List V} {ai : AI} {E0 : XK} {t tk : TA} (h : WD K t Γ fun ds Γ1 => WD K tk Γ1 fun es Γ2 => (ds.length == n && es.length == m) = true ∧ Hold (ai (pick o (ds ++ mz.map Dt.raw ++ es)) fun gs => Post (.val (.obj C gs)) Γ2)) :
    WE K (tMakeK C n m (toSpI K C ai) (fun vs zs => pick (0 :: upO o) (vs ++ mz ++ zs)) E0 t tk) Γ Post := fun σ B H E Q q => by
  refine h σ B H E _ fun vs B1 H1 ds Γ1 g1 k1 p1 => ?_
  refine p1 σ B1 H1 g1.env _ fun zs B2 H2 es Γ2 g2 k2 p2 => ?_
  obtain ⟨l0, p⟩ := p2
  rw [Bool.and_eq_true] at l0
  have l1 := beq_iff_eq.mp l0.1
  have l2 := beq_iff_eq.mp l0.2
  refine ⟨by rw [k1.len]; exact l1, by rw [k2.len]; exact l2, fun x dx hx hdx hne => ?_⟩
  have e : pick (0 :: upO o) ((V.ref x :: vs) ++ mz ++ zs) = .ref x :: pick o (vs ++ mz ++ zs) := by
    rw [pick_cons (x := V.ref x) rfl]
    show V.ref x :: pick (upO o) (V.ref x :: (vs ++ mz ++ zs)) = _
    rw [pick_up]
  show toSpI K C ai (pick (0 :: upO o) ((V.ref x :: vs) ++ mz ++ zs)) _ _ _
  rw [e]
  exact make_core (g1.trans g2) (pick_isA (((k1.mono g2.mv.bb).append .raws).append k2) o) p.get q x dx hx hdx hne
theorem kw_nil {D : Addr} : ∀ q ∈ ([] : List (Str × V)), ∃ u, PySem.W.nsIn K D q.1 = some (some u) ∧ RelV q.2 u := fun _ h => nomatch h
theorem kw_cons {D : Addr} {a : Str × V} {l : List (Str × V)} (h : ∃ u, PySem.W.nsIn K D a.1 = some (some u) ∧ RelV a.2 u) (r : ∀ q ∈ l, ∃ u, PySem.W.nsIn K D q.1 = some (some u) ∧ RelV q.2 u) : ∀ q ∈ a :: l, ∃ u, PySem.W.nsIn K D q.1 = some (some u) ∧ RelV q.2 u := fun q hq => (List.mem_cons.mp hq).elim (fun e => e ▸ h) (r q)
theorem sub_nil {α : Type} {l : List α} : ∀ q ∈ ([] : List α), q ∈ l := fun _ h => nomatch h
theorem sub_cons {α : Type} {a : α} {r l : List α} (h : a ∈ l) (t : ∀ q ∈ r, q ∈ l) : ∀ q ∈ a :: r, q ∈ l := fun q hq => (List.mem_cons.mp hq).elim (fun e => e ▸ h) (t q)
theorem pe_makeKm {X : Cx} {CX : CXT} {k n m : Nat} {f C : Addr} {fd : FuncData} {ps ks : List Str} {sp : Sp} {E : XK} {x : Str} {p pos : Pos} {e : Expr} {es : List Expr} {kws : List Keyword} {t tk : TA} {g : List Value → List Value → List Value} {gV : List V → List V → List V} (M : Mk X.K C f) (F : FnOk X.prog X.w X.K X.mg X.base CX k f fd ps sp) (hr : Room (k + 1) X.A) (hg : Gl X x) (hm : X.mg x = some (.ref C)) (hb : KBn X.K fd ps (n + 1) ks g gV) (hx : Passes CX X E) (ha : PA X (e :: es) t) (hkw : PK X kws tk) (hml : ks.length = m)
    (hall : (backToKw pos (keywordEach kws X.env)).all (·.1.isSome) = true := by rfl) (hks : (backToKw pos (keywordEach kws X.env)).filterMap (·.1) = ks := by rfl) (hdb : (x == ("__debug__" : Str)) = false := by decide)
    (he : starEach (e :: es) X.env = (false, eval e X.env) :: starEach es X.env := by rfl) (hpl : ((backTo pos (starEach (e :: es) X.env)).any (·.1) || (backToKw pos (keywordEach kws X.env)).any (·.1.isNone)) = false := by rfl) :
    PE X (.Call (.Name x p) (e :: es) kws pos) (tMakeK C n m sp gV E t tk) := by
  subst hml
  exact pe_makeK M F hr hg hm hb hx ha hkw hall hks hdb he hpl
/-! ### C.m(..), m a staticmethod -/
structure SMet (K : PySem.W.Frag) (C : Addr) (m : Str) (p f : Addr) : Prop where
  rd : PySem.W.readsIn K C (.type "type") = true
  ga : PySem.W.specialIn K (.ref C) "__getattribute__" = some (some (.builtin "type.__getattribute__"))
  at_ : PySem.W.findCls K (.ref C) (.type "type") m = some (.get (.builtin "staticmethod.__get__") (.ref p) .none (.ref C))
  rc : ∃ rest, PySem.W.recIn K p "staticmethod" = some (.ref f :: rest)
def tSMeth (C : Addr) (sp : Sp) (E : XK) (ta : TE) (t : TA) : TE := fun σ H Q => ta σ H fun x H1 => x = .ref C ∧ t σ H1 fun vs H2 => sp (vs ++ []) H2 Q E
theorem pe_smeth {X : Cx} {CX : CXT} {k : Nat} {p f : Addr} {fd : FuncData} {ps : List Str} {sp : Sp} {E : XK} {o e : Expr} {es : List Expr} {m : Str} {pos apos : Pos} {ta : TE} {t : TA} {pl : Sem Bool} (he : PE X o ta) (c : SMet X.K C m p f) (F : FnOk X.prog X.w X.K X.mg X.base CX k f fd ps sp) (hr : Room k X.A)
    (hk : PySem.W.keepIn X.K (.ref f) = true) (hb : Binds X.K fd ps []) (hx : Passes CX X E) (ha : PA X (e :: es) t)
    (hst : starEach (e :: es) X.env = (false, eval e X.env) :: starEach es X.env := by rfl) (hpl : (backTo pos (starEach es X.env)).any (·.1) = false := by rfl)
    (ht : eval (.Call (.Attribute o m apos) (e :: es) [] pos) X.env = (do
      let ov ← eval o X.env
      standAt apos.atName
      let (f, first) ← holding [ov] (getMethod ov m pl)
      callWith pos f first (backTo pos (starEach (e :: es) X.env)) (backToKw pos (keywordEach [] X.env))) := by rfl) :
    PE X (.Call (.Attribute o m apos) (e :: es) [] pos) (tSMeth C sp E ta t) := by
  refine ⟨fun pins s σ H Q I h => ?_⟩
  refine PySem.W.methodCall_KW (pl := pl) (thn (he.run pins s σ H _ I h) fun u s1 ⟨x, H1, I1, rx, ex, q⟩ => ?_) ht
  subst ex
  obtain rfl : u = Value.ref C := rx
  obtain ⟨rest, hp⟩ := c.rc
  refine PySem.W.method_cls I1.kIn c.ga ?_
  refine PySem.W.cls_bind I1.kIn c.rd c.at_ (wpAny_call (PySem.W.sm_get (s := { s1 with toks := s1.toks + 1 }) I1.kIn hp (PySem.W.handed_on rfl ?_)))
  have I2 : Inv X pins σ H1 { s1 with toks := s1.toks + 1 } := I1.tok _
  refine PySem.W.callWith_K (h₀ := X.base) I2.ok.mod.kin hk (thn (ha.run pos pins _ σ H1 _ I2 q) fun us s2 ⟨vs, H2, I3, r, q2⟩ => ⟨I3.kIn, ?_⟩) hst hpl
  exact run_fn F hr hb .nil hx I3 r q2
theorem we_smeth {ap : AP} {E0 : XK} {ta : TA} (h : WA K ta Γ fun rs Γ1 => nodupB (ownsOf rs) = true ∧ Hold (ap (rs.map (argSl Γ1)) fun r as' => NormP (putBack rs as' Γ1) (Post r))) : WE K (tSMeth C (toSp K ap) E0 (tC (.ref C)) ta) Γ Post := fun σ B H E Q q => by
  refine ⟨rfl, ?_⟩
  exact we_callH (E0 := E0) h σ B H E Q q
end
end Ab
namespace Ab
open PySem L2
/-! ### dicts -/
section
variable {κ : Type} [DecidableEq κ]
def valD (kvs : List (κ × Dt)) (k : κ) : Option Dt := (kvs.find? fun kv => decide (kv.1 = k)).map (·.2)
def putE (kvs : List (κ × Dt)) (k : κ) (v : Dt) : List (κ × Dt) :=
  if (kvs.any fun kv => decide (kv.1 = k)) = true then kvs.map (fun kv => if kv.1 = k then (kv.1, v) else kv) else kvs ++ [(k, v)]
variable {K : PySem.W.Frag} {B : Hp}
theorem IsKv.nil : IsKv K B ([] : List (κ × V)) [] := ⟨rfl, .nil⟩
theorem IsKv.cons {k : κ} {v : V} {d : Dt} {xs : List (κ × V)} {kvs : List (κ × Dt)} (h : Is K B v d) (r : IsKv K B xs kvs) : IsKv K B ((k, v) :: xs) ((k, d) :: kvs) :=
  ⟨by simp [r.ks], .cons h r.vs⟩
theorem IsKv.ind {M : List (κ × V) → List (κ × Dt) → Prop} (h0 : M [] []) (h1 : ∀ k v d xs kvs, Is K B v d → IsKv K B xs kvs → M xs kvs → M ((k, v) :: xs) ((k, d) :: kvs)) : ∀ {xs : List (κ × V)} {kvs : List (κ × Dt)}, IsKv K B xs kvs → M xs kvs
  | [], [], _ => h0
  | [], _ :: _, h => by have := h.ks; simp at this
  | _ :: _, [], h => by have := h.ks; simp at this
  | (k, v) :: xs, (k', d) :: kvs, h => by
    have e := h.ks
    simp only [List.map_cons, List.cons.injEq] at e
    obtain ⟨rfl, e⟩ := e
    have hv : Is K B v d := h.vs.at_ 0 v d (by simp) (by simp)
    have hr : IsKv K B xs kvs := ⟨e, by have := h.vs.drop 1; simpa using this⟩
    exact h1 k v d xs kvs hv hr (IsKv.ind h0 h1 hr)
theorem IsKv.len {xs : List (κ × V)} {kvs : List (κ × Dt)} (h : IsKv K B xs kvs) : xs.length = kvs.length := by
  have := congrArg List.length h.ks; simpa using this
theorem IsKv.val {xs : List (κ × V)} {kvs : List (κ × Dt)} (h : IsKv K B xs kvs) (k : κ) : (valV xs k = none ∧ valD kvs k = none) ∨ ∃ v d, valV xs k = some v ∧ valD kvs k = some d ∧ Is K B v d := by
  refine IsKv.ind (M := fun xs kvs => (valV xs k = none ∧ valD kvs k = none) ∨ ∃ v d, valV xs k = some v ∧ valD kvs k = some d ∧ Is K B v d) (.inl ⟨rfl, rfl⟩) (fun k' v d xs kvs hv _ ih => ?_) h
  by_cases e : k' = k
  · exact .inr ⟨v, d, by simp [valV, e], by simp [valD, e], hv⟩
  · simpa [valV, valD, e] using ih
theorem IsKv.valS {xs : List (κ × V)} {kvs : List (κ × Dt)} (h : IsKv K B xs kvs) {k : κ} {d : Dt} (e : valD kvs k = some d) : ∃ v, valV xs k = some v ∧ Is K B v d := by
  rcases h.val k with ⟨_, e2⟩ | ⟨v, d', e1, e2, hv⟩
  · rw [e] at e2; cases e2
  · rw [e] at e2; cases e2; exact ⟨v, e1, hv⟩
theorem IsKv.isS {xs : List (κ × V)} {kvs : List (κ × Dt)} (h : IsKv K B xs kvs) (k : κ) : (valV xs k).isSome = (valD kvs k).isSome := by
  rcases h.val k with ⟨e1, e2⟩ | ⟨v, d', e1, e2, hv⟩ <;> rw [e1, e2] <;> rfl
theorem IsKv.put {xs : List (κ × V)} {kvs : List (κ × Dt)} (h : IsKv K B xs kvs) (k : κ) {v : V} {d : Dt} (hv : Is K B v d) : IsKv K B (putK xs k v) (putE kvs k d) := by
  have ea : (xs.any fun kv => decide (kv.1 = k)) = (kvs.any fun kv => decide (kv.1 = k)) :=
    IsKv.ind (K := K) (B := B) (M := fun xs kvs => (xs.any fun kv => decide (kv.1 = k)) = (kvs.any fun kv => decide (kv.1 = k))) rfl (fun k' v d xs kvs _ _ ih => by simp only [List.any_cons, ih]) h
  have em : IsKv K B (xs.map (fun kv => if kv.1 = k then (kv.1, v) else kv)) (kvs.map (fun kv => if kv.1 = k then (kv.1, d) else kv)) :=
    IsKv.ind (K := K) (B := B) (M := fun xs kvs => IsKv K B (xs.map (fun kv => if kv.1 = k then (kv.1, v) else kv)) (kvs.map (fun kv => if kv.1 = k then (kv.1, d) else kv))) .nil (fun k' v' d' xs kvs hv' _ ih => by
      by_cases e : k' = k
      · simp only [List.map_cons, e, if_true]; exact .cons hv ih
      · simp only [List.map_cons, e, if_false]; exact .cons hv' ih) h
  have es : IsKv K B (xs ++ [(k, v)]) (kvs ++ [(k, d)]) := ⟨by simp [h.ks], by simpa using h.vs.snoc hv⟩
  unfold putK putE
  rw [ea]
  split
  · exact em
  · exact es
theorem putE_new {kvs : List (κ × Dt)} {k : κ} {d : Dt} (h : valD kvs k = none) : putE kvs k d = kvs ++ [(k, d)] := by
  have : (kvs.any fun kv => decide (kv.1 = k)) = false := by
    unfold valD at h
    rw [Option.map_eq_none_iff] at h
    rw [Bool.eq_false_iff]
    intro z
    obtain ⟨x, hx, e⟩ := List.any_eq_true.mp z
    exact (List.find?_eq_none.mp h x hx) e
  unfold putE
  rw [this]; rfl
end
def dkOf (Γ : List Sl) : Re → Option (List (Key × Dt))
  | .val (.dK kvs) => some kvs
  | .nw (.dK kvs) => some kvs
  | .own i => match Γ[i]? with
    | some (.cel (.dK kvs)) => some kvs
    | _ => none
  | _ => none
def dtOf (Γ : List Sl) : Re → Option (List (List Key × Dt))
  | .val (.dT kvs) => some kvs
  | .nw (.dT kvs) => some kvs
  | .own i => match Γ[i]? with
    | some (.cel (.dT kvs)) => some kvs
    | _ => none
  | _ => none
section
variable {K : PySem.W.Frag} {σ : L2.St} {B H : Hp} {Γ : List Sl} {v : V} {r : Re}
theorem rv_dK {kvs : List (Key × Dt)} (E : Env K B H σ Γ) (h : RvOk K σ B H Γ v r) (e : dkOf Γ r = some kvs) : ∃ a xs, v = .ref a ∧ H a = some (.dK xs) ∧ IsKv K B xs kvs := by
  cases r with
  | val d =>
    cases d <;> first | (cases e; done) | skip
    cases e
    cases h with
    | dK h1 hk hi => exact ⟨_, _, rfl, E.bh _ _ h1, hk, by have := congrArg List.length hk; simpa using this, hi⟩
  | nw c =>
    cases c with
    | dK es => cases e; obtain ⟨l, o, rfl, _, h1, _, xs, rfl, h2⟩ := h; exact ⟨l, xs, rfl, h1, h2⟩
    | lst es => cases e
    | dT es => cases e
  | own i =>
    obtain ⟨l, rfl, hl⟩ := h
    have e' : (match Γ[i]? with
      | some (Sl.cel (.dK ds)) => some ds
      | _ => none) = some kvs := e
    split at e'
    · rename_i es hi
      cases e'
      obtain ⟨c, o, q1, q2, q3, us, rfl, q4⟩ := E.cel i _ hi
      rw [hl] at q1; cases q1
      exact ⟨l, us, rfl, q2, q4⟩
    · cases e'
theorem rv_dT {kvs : List (List Key × Dt)} (E : Env K B H σ Γ) (h : RvOk K σ B H Γ v r) (e : dtOf Γ r = some kvs) : ∃ a xs, v = .ref a ∧ H a = some (.dT xs) ∧ IsKv K B xs kvs := by
  cases r with
  | val d =>
    cases d <;> first | (cases e; done) | skip
    cases e
    cases h with
    | dT h1 hk hi => exact ⟨_, _, rfl, E.bh _ _ h1, hk, by have := congrArg List.length hk; simpa using this, hi⟩
  | nw c =>
    cases c with
    | dT es => cases e; obtain ⟨l, o, rfl, _, h1, _, xs, rfl, h2⟩ := h; exact ⟨l, xs, rfl, h1, h2⟩
    | lst es => cases e
    | dK es => cases e
  | own i =>
    obtain ⟨l, rfl, hl⟩ := h
    have e' : (match Γ[i]? with
      | some (Sl.cel (.dT ds)) => some ds
      | _ => none) = some kvs := e
    split at e'
    · rename_i es hi
      cases e'
      obtain ⟨c, o, q1, q2, q3, us, rfl, q4⟩ := E.cel i _ hi
      rw [hl] at q1; cases q1
      exact ⟨l, us, rfl, q2, q4⟩
    · cases e'
end
section
variable {K : PySem.W.Frag} {pin : List Nat} {Γ : List Sl} {P : Ps} {Post : Re → List Sl → Prop} {td ty tv tx : TE}
theorem we_dgetK (h : WE K td Γ fun ra Γ1 => WE K ty Γ1 fun rb Γ2 => ∃ kvs k d, dkOf Γ2 ra = some kvs ∧ rb = .val (.raw (kV k)) ∧ valD kvs k = some d ∧ Post (.val d) Γ2) : WE K (tDGet td ty) Γ Post :=
  we_two' (r := fun x y H Q => ∃ a v, x = .ref a ∧ DGet H a y (some v) ∧ Q v H) (we_mono h fun ra Γ1 h1 => we_mono h1 fun rb Γ2 ⟨kvs, k, d, e1, e2, e3, p⟩ => fun σ B H x y E kx ky Q q => by
    subst e2
    cases Is.rawI ky
    obtain ⟨a, xs, rfl, ha, hk⟩ := rv_dK E kx e1
    obtain ⟨v, hv, hd⟩ := hk.valS e3
    exact ⟨a, v, rfl, by rw [← hv]; exact .k ha, q _ B H (.val d) Γ2 (.refl E) hd p⟩)
theorem we_dinK (h : WE K ty Γ fun rb Γ1 => WE K td Γ1 fun ra Γ2 => ∃ kvs k, dkOf Γ2 ra = some kvs ∧ rb = .val (.raw (kV k)) ∧ Post (.val (.bl (valD kvs k).isSome)) Γ2) : WE K (tDIn ty td) Γ Post :=
  we_two' (r := fun y x H Q => ∃ a o, x = .ref a ∧ DGet H a y o ∧ Q (.bl o.isSome) H) (we_mono h fun rb Γ1 h1 => we_mono h1 fun ra Γ2 ⟨kvs, k, e1, e2, p⟩ => fun σ B H y x E ky kx Q q => by
    subst e2
    cases Is.rawI ky
    obtain ⟨a, xs, rfl, ha, hk⟩ := rv_dK E kx e1
    refine ⟨a, _, rfl, .k ha, ?_⟩
    rw [hk.isS]
    exact q _ B H _ Γ2 (.refl E) (.raw _) p)
theorem we_dnotinK (h : WE K ty Γ fun rb Γ1 => WE K td Γ1 fun ra Γ2 => ∃ kvs k, dkOf Γ2 ra = some kvs ∧ rb = .val (.raw (kV k)) ∧ Post (.val (.bl (!(valD kvs k).isSome))) Γ2) : WE K (tDNotIn ty td) Γ Post :=
  we_two' (r := fun y x H Q => ∃ a o, x = .ref a ∧ DGet H a y o ∧ Q (.bl (!o.isSome)) H) (we_mono h fun rb Γ1 h1 => we_mono h1 fun ra Γ2 ⟨kvs, k, e1, e2, p⟩ => fun σ B H y x E ky kx Q q => by
    subst e2
    cases Is.rawI ky
    obtain ⟨a, xs, rfl, ha, hk⟩ := rv_dK E kx e1
    refine ⟨a, _, rfl, .k ha, ?_⟩
    rw [hk.isS]
    exact q _ B H _ Γ2 (.refl E) (.raw _) p)
/-- {} with keys that are ints or texts -/
theorem we_dnewK (p : Post (.nw (.dK [])) Γ) : WE K tDNewK Γ Post := fun σ B H E Q q => fun a ha =>
  q _ _ _ (.nw (.dK [])) Γ (Go.beside E ha) ⟨a, _, rfl, .inr ha, E.not_own ha, upd_same, E.base_none ha, [], rfl, .nil⟩ p
theorem we_dnewT (p : Post (.nw (.dT [])) Γ) : WE K tDNewT Γ Post := fun σ B H E Q q => fun a ha =>
  q _ _ _ (.nw (.dT [])) Γ (Go.beside E ha) ⟨a, _, rfl, .inr ha, E.not_own ha, upd_same, E.base_none ha, [], rfl, .nil⟩ p
/-- d[k] = e, d an owned dict -/
theorem ws_dputK {i : Nat} (h : WE K tv Γ fun z Γ1 => ∃ d, z.dt? = some d ∧ (∃ kvs1, Γ1[i]? = some (.cel kvs1)) ∧ WE K ty Γ1 fun y Γ2 => ∃ kvs k, y = .val (.raw (kV k)) ∧ Γ2[i]? = some (.cel (.dK kvs)) ∧ kvs.length < 1000000 ∧ P.nx (Γ2.set i (.cel (.dK (putE kvs k d))))) :
    WS K pin (sDPut (tVar i) ty tv) Γ P := fun σ B H D E n r b c xx => by
  have h' : WE K tv Γ fun z Γ1 => ∃ d, z = .val d ∧ (∃ kvs1, Γ1[i]? = some (.cel kvs1)) ∧ WE K ty Γ1 fun y Γ2 => ∃ kvs k, y = .val (.raw (kV k)) ∧ Γ2[i]? = some (.cel (.dK kvs)) ∧ kvs.length < 1000000 ∧ P.nx (Γ2.set i (.cel (.dK (putE kvs k d)))) := we_freeze (we_mono h fun z Γ1 ⟨d, hd, r⟩ => ⟨d, hd, d, rfl, r⟩)
  refine h' σ B H E _ fun v B1 H1 z Γ1 g1 k1 p1 => ?_
  obtain ⟨d, rfl, ⟨ds1, h1⟩, p1⟩ := p1
  obtain ⟨l, vs, e0, e1, e2, k0⟩ := g1.env.cel i ds1 h1
  refine ⟨.ref l, e0, p1 σ B1 H1 g1.env _ fun y B2 H2 w Γ2 g2 k2 p2 => ?_⟩
  obtain ⟨kvs, k, rfl, hi, hz, p⟩ := p2
  cases Is.rawI k2
  obtain ⟨l', o, f0, f1, f2, us, rfl, k3⟩ := g2.env.cel i _ hi
  rw [e0] at f0; cases f0
  refine ⟨l, _, rfl, .k f1 (Nat.lt_of_lt_of_le (by rw [k3.len]; exact hz) (by decide)), ?_⟩
  exact n _ B2 _ _ ((g1.trans g2).trans (Go.putC (es := .dK (putE kvs k d)) g2.env hi e0 ⟨_, rfl, k3.put k (Is.mono g2.mv.bb k1)⟩)).s p
/-- d.get(k, e) -/
theorem we_dget2K (h : WE K td Γ fun ra Γ1 => (dkOf Γ1 ra).isSome = true ∧ WE K ty Γ1 fun rb Γ2 => WE K tx Γ2 fun rc Γ3 => ∃ kvs k, dkOf Γ3 ra = some kvs ∧ rb = .val (.raw (kV k)) ∧ (∀ d, valD kvs k = some d → Post (.val d) Γ3) ∧ (valD kvs k = none → Post rc Γ3)) : WE K (tDGet2 td ty tx) Γ Post := fun σ B H E Q q => by
  refine h σ B H E _ fun x B1 H1 ra Γ1 g1 k1 p1 => ?_
  obtain ⟨hs, p1⟩ := p1
  obtain ⟨kv0, hs⟩ := Option.isSome_iff_exists.mp hs
  obtain ⟨a, xs, rfl, ha, hk⟩ := rv_dK g1.env k1.rv hs
  refine ⟨a, rfl, .inl ⟨xs, .inl ha⟩, ?_⟩
  refine p1 σ B1 H1 g1.env _ fun y B2 H2 rb Γ2 g2 k2 p2 => ?_
  refine p2 σ B2 H2 g2.env _ fun z B3 H3 rc Γ3 g3 k3 p3 => ?_
  obtain ⟨kvs, k, e1, rfl, hS, hN⟩ := p3
  have ky : y = kV k := Is.rawI k2
  subst ky
  obtain ⟨a', xs', e, ha', hk'⟩ := rv_dK g3.env (ReOk.rv (ReOk.step k1 (g2.trans g3).mv (g2.trans g3).sub)) e1
  cases e
  refine ⟨_, .k ha', ?_⟩
  rcases hk'.val k with ⟨f1, f2⟩ | ⟨v, d, f1, f2, hv⟩
  · rw [f1]
    exact q z B3 H3 rc Γ3 ((g1.trans g2).trans g3) (ReOk.earlier k3 (g1.trans g2).mv fun a h => .inl ((g1.trans g2).sub a h)) (hN f2)
  · rw [f1]
    exact q v B3 H3 (.val d) Γ3 ((g1.trans g2).trans g3) hv (hS d f2)
/-- d.get(k) -/
theorem we_dget1K (h : WE K td Γ fun ra Γ1 => (dkOf Γ1 ra).isSome = true ∧ WE K ty Γ1 fun rb Γ2 => ∃ kvs k, dkOf Γ2 ra = some kvs ∧ rb = .val (.raw (kV k)) ∧ (∀ d, valD kvs k = some d → Post (.val d) Γ2) ∧ (valD kvs k = none → Post (.val .non) Γ2)) : WE K (tDGet1 td ty) Γ Post := fun σ B H E Q q => by
  refine h σ B H E _ fun x B1 H1 ra Γ1 g1 k1 p1 => ?_
  obtain ⟨hs, p1⟩ := p1
  obtain ⟨kv0, hs⟩ := Option.isSome_iff_exists.mp hs
  obtain ⟨a, xs, rfl, ha, hk⟩ := rv_dK g1.env k1.rv hs
  refine ⟨a, rfl, .inl ⟨xs, .inl ha⟩, ?_⟩
  refine p1 σ B1 H1 g1.env _ fun y B2 H2 rb Γ2 g2 k2 p2 => ?_
  obtain ⟨kvs, k, e1, rfl, hS, hN⟩ := p2
  have ky : y = kV k := Is.rawI k2
  subst ky
  obtain ⟨a', xs', e, ha', hk'⟩ := rv_dK g2.env (ReOk.rv (ReOk.step k1 g2.mv g2.sub)) e1
  cases e
  refine ⟨_, .k ha', ?_⟩
  rcases hk'.val k with ⟨f1, f2⟩ | ⟨v, d, f1, f2, hv⟩
  · rw [f1]
    exact q .non B2 H2 (.val .non) Γ2 (g1.trans g2) (Is.raw _) (hN f2)
  · rw [f1]
    exact q v B2 H2 (.val d) Γ2 (g1.trans g2) hv (hS d f2)
end
/-- the pairs of a display -/
def WP (K : PySem.W.Frag) (trs : List (TE × TE)) (Γ : List Sl) (Post : List (Key × Dt) → List Sl → Prop) : Prop :=
  ∀ σ B H, Env K B H σ Γ → ∀ Q : List (V × V) → Hp → Prop, (∀ (xs : List (Key × V)) B' H' kds Γ', Go K σ B H Γ B' H' Γ' → IsKv K B' xs kds → Post kds Γ' → Q (xs.map fun kv => (kV kv.1, kv.2)) H') → tPairs trs σ H Q
def mergeD (kvs more : List (Key × Dt)) : List (Key × Dt) := more.foldl (fun acc kv => putE acc kv.1 kv.2) kvs
section
variable {K : PySem.W.Frag} {Γ : List Sl} {Post : Re → List Sl → Prop}
theorem IsKv.mono {κ : Type} {B B' : Hp} {xs : List (κ × V)} {kvs : List (κ × Dt)} (s : Same B B') (h : IsKv K B xs kvs) : IsKv K B' xs kvs := ⟨h.ks, h.vs.mono s⟩
theorem wp_nil {Po : List (Key × Dt) → List Sl → Prop} (p : Po [] Γ) : WP K [] Γ Po := fun σ B H E Q q => q [] B H [] Γ (.refl E) .nil p
theorem wp_cons {Po : List (Key × Dt) → List Sl → Prop} {tk tv : TE} {trs : List (TE × TE)} (h : WE K tk Γ fun rk Γ1 => ∃ k, rk = .val (.raw (kV k)) ∧ WE K tv Γ1 fun rv Γ2 => ∃ d, rv.dt? = some d ∧ WP K trs Γ2 fun kds Γ3 => Po ((k, d) :: kds) Γ3) : WP K ((tk, tv) :: trs) Γ Po := fun σ B H E Q q => by
  refine h σ B H E _ fun x B1 H1 rk Γ1 g1 k1 p1 => ?_
  obtain ⟨k, rfl, p1⟩ := p1
  have kx : x = kV k := Is.rawI k1
  subst kx
  have p1' : WE K tv Γ1 fun rv Γ2 => ∃ d, rv = .val d ∧ WP K trs Γ2 fun kds Γ3 => Po ((k, d) :: kds) Γ3 := we_freeze (we_mono p1 fun z Γ1 ⟨d, hd, r⟩ => ⟨d, hd, d, rfl, r⟩)
  refine p1' σ B1 H1 g1.env _ fun y B2 H2 rv Γ2 g2 k2 p2 => ?_
  obtain ⟨d, rfl, p2⟩ := p2
  refine p2 σ B2 H2 g2.env _ fun xs B3 H3 kds Γ3 g3 k3 p3 => ?_
  exact q ((k, y) :: xs) B3 H3 ((k, d) :: kds) Γ3 ((g1.trans g2).trans g3) (.cons (Is.mono g3.mv.bb k2) k3) p3
theorem IsKv.merge {B : Hp} {ys : List (Key × V)} {more : List (Key × Dt)} (h : IsKv K B ys more) : ∀ {xs : List (Key × V)} {kvs : List (Key × Dt)}, IsKv K B xs kvs → IsKv K B (mergeK xs ys) (mergeD kvs more) :=
  IsKv.ind (K := K) (B := B) (M := fun ys more => ∀ {xs : List (Key × V)} {kvs : List (Key × Dt)}, IsKv K B xs kvs → IsKv K B (mergeK xs ys) (mergeD kvs more)) (fun h => h) (fun k v d ys more hv _ ih xs kvs r => ih (r.put k hv)) h
/-- a dict written out, its keys ints or texts -/
theorem we_disp {trs : List (TE × TE)} (h : WP K trs Γ fun kds Γ1 => kds.length ≤ 15 ∧ Post (.nw (.dK (mergeD [] kds))) Γ1) : WE K (tDisp trs) Γ Post := fun σ B H E Q q p hp => by
  have g0 : Go K σ B H Γ B (upd H p (.dK [])) Γ := Go.beside E hp
  have no : ¬ Own σ Γ p := E.not_own hp
  refine h σ B _ g0.env _ fun xs B1 H1 kds Γ1 g1 k1 p1 => ?_
  obtain ⟨hz, p1⟩ := p1
  have h1 : H1 p = some (.dK []) := g1.mv.kp p _ no upd_same
  have b1 : B1 p = none := g1.mv.off p no (by rw [upd_same]; exact fun z => nomatch z) (E.base_none hp)
  have no1 : ¬ Own σ Γ1 p := fun z => no (g1.sub p z)
  refine ⟨h1, xs, rfl, by rw [k1.len]; exact hz, ?_⟩
  have g01 := g0.trans g1
  refine q (.ref p) B1 _ (.nw (.dK (mergeD [] kds))) Γ1 ⟨⟨fun a o na e => ?_, g01.mv.bb, g01.mv.off⟩, g01.ac, g01.env.updOff b1 no1⟩ ⟨p, _, rfl, .inr hp, no1, upd_same, b1, _, rfl, k1.merge .nil⟩ p1
  rw [upd_ne (ne_of_none e hp)]
  exact g01.mv.kp a o na e
end
end Ab
namespace Ab
open PySem L2 PyProof.Rows
section
variable {K : PySem.W.Frag} {pin : List Nat} {Γ : List Sl} {P : Ps} {Post : Re → List Sl → Prop} {te ta tb : TE}
/-- sorted of a list of texts -/
theorem we_sortedS (h : WE K te Γ fun r Γ1 => Hold (∃ xs : List Str, lstOf Γ1 r = some (xs.map Dt.str) ∧ xs.length < 64 ∧ ∀ ys : List Str, ys.Perm xs → sortedS ys = true → Post (.new (ys.map Dt.str)) Γ1)) : WE K (tCB (rSortedS K) (tCons te tNil)) Γ Post :=
  we_cb1 (we_mono h fun r Γ1 hp => fun σ B H x E kx Q q => by
    obtain ⟨xs, hs, hz, p⟩ := hp.get
    obtain ⟨a, vs, rfl, hq, ha⟩ := rv_lst E kx hs
    have e : vs = xs.map V.str := IsA.rawsI (xs := xs.map V.str) (by rw [List.map_map]; exact ha)
    subst e
    refine ⟨a, xs, rfl, hq, hz, fun ys l hy hs hl => q _ _ _ (.new (ys.map Dt.str)) Γ1 (Go.beside E hl) (re_newL E ?_ hl) (p ys hy hs)⟩
    have := IsA.raws (K := K) (B := B) (xs := ys.map V.str)
    rwa [List.map_map] at this)
/-- sorted of a list of ints -/
theorem we_sorted (h : WE K te Γ fun r Γ1 => Hold (∃ xs : List Int, lstOf Γ1 r = some (xs.map Dt.int) ∧ xs.length < 64 ∧ ∀ ys : List Int, ys.Perm xs → ys.Pairwise (· ≤ ·) → Post (.new (ys.map Dt.int)) Γ1)) : WE K (tCB (rSorted K) (tCons te tNil)) Γ Post :=
  we_cb1 (we_mono h fun r Γ1 hp => fun σ B H x E kx Q q => by
    obtain ⟨xs, hs, hz, p⟩ := hp.get
    obtain ⟨a, vs, rfl, hq, ha⟩ := rv_lst E kx hs
    have e : vs = xs.map V.int := IsA.rawsI (xs := xs.map V.int) (by rw [List.map_map]; exact ha)
    subst e
    refine ⟨a, xs, rfl, hq, hz, fun ys l hy hs hl => q _ _ _ (.new (ys.map Dt.int)) Γ1 (Go.beside E hl) (re_newL E ?_ hl) (p ys hy hs)⟩
    have := IsA.raws (K := K) (B := B) (xs := ys.map V.int)
    rwa [List.map_map] at this)
/-- all of a list of truths -/
theorem we_all (h : WE K te Γ fun r Γ1 => Hold (∃ bs : List Bool, lstOf Γ1 r = some (bs.map Dt.bl) ∧ Post (.val (.bl (bs.all id))) Γ1)) : WE K (tCB (rAll K) (tCons te tNil)) Γ Post :=
  we_cb1 (we_mono h fun r Γ1 hp => fun σ B H x E kx Q q => by
    obtain ⟨bs, hs, p⟩ := hp.get
    obtain ⟨a, vs, rfl, hq, ha⟩ := rv_lst E kx hs
    have e : vs = bs.map V.bl := IsA.rawsI (xs := bs.map V.bl) (by rw [List.map_map]; exact ha)
    subst e
    exact ⟨a, bs, rfl, hq, q _ B H _ Γ1 (.refl E) (.raw _) p⟩)
/-- xs.insert(i, y) -/
def rInsert : V → List V → Hp → VK → Prop := fun x vs H Q => ∃ (l : Addr) (xs : List V) (i : Int) (y : V), x = .ref l ∧ vs = [.int i, y] ∧ H l = some (.lst xs) ∧ xs.length < sizeLine ∧ 0 ≤ i ∧ i < 2 ^ 63 ∧ Q .non (upd H l (.lst (xs.take i.toNat ++ [y] ++ xs.drop i.toNat)))
theorem mt_ins {X : Cx} : MtR X "list.insert" rInsert := mt_insert
theorem we_insert {i : Nat} {ds0 : List Dt} (h0 : Γ[i]? = some (.acc ds0)) (h : WE K ta Γ fun ra Γ1 => ∃ k : Int, ra = .val (.int k) ∧ 0 ≤ k ∧ k < 2 ^ 63 ∧ WE K tb Γ1 fun z Γ2 => ∃ d ds, z.dt? = some d ∧ Γ2[i]? = some (.acc ds) ∧ ds.length < 1000000 ∧ NormP (Γ2.set i (.acc (ds.take k.toNat ++ [d] ++ ds.drop k.toNat))) (Post (.val .non))) :
    WE K (tBM K "list" rInsert (tVar i) (tCons ta (tCons tb tNil))) Γ Post := fun σ B H E Q q => by
  obtain ⟨l, vs, e0, e1, e2, k0⟩ := E.acc i ds0 h0
  refine ⟨.ref l, e0, .inl ⟨rfl, vs, .inl (.inl e1)⟩, ?_⟩
  refine h σ B H E _ fun x B1 H1 ra Γ1 g1 k1 p1 => ?_
  obtain ⟨k, rfl, hk0, hk1, p1⟩ := p1
  cases Is.rawI k1
  have p1' : WE K tb Γ1 fun z Γ2 => ∃ d ds, z = .val d ∧ Γ2[i]? = some (.acc ds) ∧ ds.length < 1000000 ∧ NormP (Γ2.set i (.acc (ds.take k.toNat ++ [d] ++ ds.drop k.toNat))) (Post (.val .non)) := we_freeze (we_mono p1 fun z Γ1 ⟨d, ds, hd, r⟩ => ⟨d, hd, d, ds, rfl, r⟩)
  refine p1' σ B1 H1 g1.env _ fun y B2 H2 z Γ2 g2 k2 p2 => ?_
  obtain ⟨d, ds, rfl, hi, hz, p⟩ := p2
  obtain ⟨l', us, f0, f1, f2, k3⟩ := g2.env.acc i ds hi
  rw [e0] at f0; cases f0
  refine ⟨l, us, k, y, rfl, rfl, f1, Nat.lt_trans (by rw [k3.len]; exact hz) (by decide), hk0, hk1, ?_⟩
  have g3 := Go.put g2.env hi e0 (((k3.take k.toNat).snoc k2).append (k3.drop k.toNat))
  exact q .non B2 _ (.val .non) _ ((g1.trans g2).trans g3) (Is.raw _) p
end
/-- text * int -/
def rRepS : R2 := fun x y H Q => ∃ z n, x = .str z ∧ y = .int n ∧ -1000 ≤ n ∧ n ≤ 1000 ∧ z.length ≤ 1000 ∧ Q (.str (PySem.Txt.mul z n)) H
theorem op_repS {X : Cx} : OpR X (binaryOp .Mult) rRepS := by
  intro pins s σ H x y v u Q I rx ry h
  obtain ⟨z, n, rfl, rfl, h1, h2, h3, q⟩ := h
  obtain ⟨t, rfl⟩ := rx
  obtain ⟨t', rfl⟩ := ry
  exact PySem.SB.mul (mulOk_of 1000 1000 h3 (by omega) (by omega) (by omega) (by omega)) fun t' k => ⟨.str _, H, I.tok _, ⟨_, rfl⟩, q⟩
theorem we_repS {K : PySem.W.Frag} {Γ : List Sl} {Post : Re → List Sl → Prop} {ta tb : TE} (h : WE K ta Γ fun ra Γ1 => WE K tb Γ1 fun rb Γ2 => ∃ z n, ra = .val (.str z) ∧ rb = .val (.int n) ∧ -1000 ≤ n ∧ n ≤ 1000 ∧ z.length ≤ 1000 ∧ Post (.val (.str (PySem.Txt.mul z n))) Γ2) : WE K (tOp rRepS ta tb) Γ Post :=
  we_two' (we_mono h fun ra Γ1 h1 => we_mono h1 fun rb Γ2 hp => fun σ B H x y E kx ky Q q => by
    obtain ⟨s, t, rfl, rfl, h1, h2, h3, p⟩ := hp
    cases Is.rawI kx; cases Is.rawI ky
    exact ⟨s, t, rfl, rfl, h1, h2, h3, q _ B H _ Γ2 (.refl E) (.raw _) p⟩)
end Ab
namespace Ab
open PySem PySem.Spec L2 PyProof.Rows
theorem tuple_mul0 (l : Addr) (items : Array Value) (n : Nat) (dd : Option Addr) (sl : Array (Option Value)) (x : Int) (u : Tok) (c0 : (decide (x < -(2 ^ 63)) || decide (x ≥ 2 ^ 63)) = false) (c1 : (items.isEmpty || x == 1) = false) (c2 : (decide (x ≤ 0) || items.isEmpty) = true) :
    Meets (Builtin.«tuple.__mul__» ⟨[.ref l, .int x u], []⟩) (fun _ R s => s.heap.get? l = some { cls := .type "tuple", dict := dd, data := .seq items n, slots := sl } ∧
      R (.ok (.ret (Value.ref s.heap.objs.size))) { s with heap := s.heap.push { cls := Value.type "tuple", data := Data.seq #[] }, toks := s.toks }) :=
  .of_wp fun prog w A R s h => by
    obtain ⟨hp, g, d, tk, os⟩ := s
    obtain ⟨hl, h⟩ := h
    have f1 := AutoSeq1.idx_int
    wp_walk using wpAny_loadPart' hl
    repeat (first
      | (refine wpAny_ite_false (decide_eq_false (by rw [c0]; exact Bool.false_ne_true)) ?_; wp_walk using wpAny_loadPart' hl)
      | (refine wpAny_ite_false (decide_eq_false (by rw [c1]; exact Bool.false_ne_true)) ?_; wp_walk using wpAny_loadPart' hl)
      | (refine wpAny_ite_true (decide_eq_true c2) ?_; wp_walk using wpAny_loadPart' hl))
    exact ⟨_, rfl, h⟩
theorem tuple_mul1 (l : Addr) (items : Array Value) (n : Nat) (sl : Array (Option Value)) (dd : Option Addr) (x : Int) (u : Tok) (c0 : (decide (x < -(2 ^ 63)) || decide (x ≥ 2 ^ 63)) = false) (c1 : (items.isEmpty || x == 1) = true) :
    Meets (Builtin.«tuple.__mul__» ⟨[.ref l, .int x u], []⟩) (fun _ R s => s.heap.get? l = some { cls := .type "tuple", dict := dd, data := .seq items n, slots := sl } ∧
      R (.ok (.ret (Value.ref l))) s) :=
  .of_wp fun prog w A R s h => by
    obtain ⟨hp, g, d, tk, os⟩ := s
    obtain ⟨hl, h⟩ := h
    have f1 := AutoSeq1.idx_int
    wp_walk using wpAny_loadPart' hl
    repeat (first
      | (refine wpAny_ite_false (decide_eq_false (by rw [c0]; exact Bool.false_ne_true)) ?_; wp_walk using wpAny_loadPart' hl)
      | (refine wpAny_ite_true (decide_eq_true c1) ?_; wp_walk using wpAny_loadPart' hl))
    exact ⟨_, rfl, h⟩
/-- tuple * int -/
def rRepA (K : PySem.W.Frag) : R2 := fun x y H Q => ∃ l k xs, x = .ref l ∧ y = .int k ∧ SqT K H l xs ∧ xs ≠ [] ∧ 0 ≤ k ∧ k ≤ 1000 ∧ xs.length ≤ 1000 ∧ (k = 1 → Q (.ref l) H) ∧ (k ≠ 1 → ∀ p, H p = none → Q (.ref p) (upd H p (.tup (List.replicate k.toNat xs).flatten)))
theorem op_repA {X : Cx} : OpR X (binaryOp .Mult) (rRepA X.K) := by
  intro pins s σ H x y v u Q I rx ry h
  obtain ⟨l, k, xs, rfl, rfl, hT, hne, h1, h2, hz, q1, q2⟩ := h
  by_cases hk : 2 ≤ k
  · exact op_repT pins s σ H _ _ v u Q I rx ry ⟨l, k, xs, rfl, rfl, hT, hne, hk, h2, hz, q2 (by omega)⟩
  cases rx
  obtain ⟨t, rfl⟩ := ry
  obtain ⟨its, r, ⟨⟨cls, dd, data, sl⟩, ho, hc, n, hd⟩, hs⟩ := I.tuple hT
  simp only at hc hd
  subst hc hd
  have hle : its.length = xs.length := r.length.symm
  have hn : its ≠ [] := fun e => hne (by
    rw [e] at hle
    exact List.eq_nil_of_length_eq_zero hle.symm)
  have hi : its.toArray.isEmpty = false := by
    cases its with
    | nil => exact absurd rfl hn
    | cons a b => rfl
  have c0 : (decide (k < -(2 ^ 63)) || decide (k ≥ 2 ^ 63)) = false := by
    rw [decide_eq_false (by omega), decide_eq_false (by omega)] <;> rfl
  by_cases hk1 : k = 1
  · subst hk1
    have c1 : (its.toArray.isEmpty || (1 : Int) == 1) = true := by rw [hi]; rfl
    refine wpAny_binaryOp_repeat_ref (T := "tuple") (U := "int") (by decide) ⟨_, ho, rfl⟩ (fun s' => typeIs_int s' 1 t) noFill_tuple_mul F.fills_int_mul F.slot_int_rmul repeat_tuple F.slot_int_index.lookup
      (call_meets F.slot_int_rmul (typeIs_int s 1 t) F.entry_int_rmul (F.args_int_rmul_2 _ _) (int_rmul_tuple 1 t l its.toArray n dd sl)
        ⟨ho, rfl, ⟨_, ho, rfl⟩, call_meets F.slot_tuple_mul ⟨_, ho, rfl⟩ F.entry_tuple_mul (F.args_tuple_mul_2 _ _) (tuple_mul1 l its.toArray n sl dd 1 t c0 c1) ⟨ho, ?_⟩⟩)
    exact ⟨.ref l, H, I, rfl, q1 rfl⟩
  · have hk0 : k = 0 := by omega
    subst hk0
    have c1 : (its.toArray.isEmpty || (0 : Int) == 1) = false := by rw [hi]; rfl
    have c2 : (decide ((0 : Int) ≤ 0) || its.toArray.isEmpty) = true := by rw [hi]; rfl
    refine wpAny_binaryOp_repeat_ref (T := "tuple") (U := "int") (by decide) ⟨_, ho, rfl⟩ (fun s' => typeIs_int s' 0 t) noFill_tuple_mul F.fills_int_mul F.slot_int_rmul repeat_tuple F.slot_int_index.lookup
      (call_meets F.slot_int_rmul (typeIs_int s 0 t) F.entry_int_rmul (F.args_int_rmul_2 _ _) (int_rmul_tuple 0 t l its.toArray n dd sl)
        ⟨ho, rfl, ⟨_, ho, rfl⟩, call_meets F.slot_tuple_mul ⟨_, ho, rfl⟩ F.entry_tuple_mul (F.args_tuple_mul_2 _ _) (tuple_mul0 l its.toArray n dd sl 0 t c0 c1 c2) ⟨ho, ?_⟩⟩)
    refine ⟨.ref s.heap.objs.size, _, I.laid (t' := s.toks) (o := .tup []) (fun b ob q => Heap.get?_push_of_some _ q) (Nat.le_refl _) ?_, rfl, q2 (by omega) _ (I.hok.fresh (Nat.le_refl _))⟩
    exact ⟨by decide, [], .nil, IsTup.new _ _⟩
theorem IsA.reps {K : PySem.W.Frag} {B : Hp} {vs : List V} {ds : List Dt} (h : IsA K B vs ds) : ∀ n : Nat, IsA K B (List.replicate n vs).flatten (List.replicate n ds).flatten
  | 0 => .nil
  | n + 1 => by rw [List.replicate_succ, List.replicate_succ, List.flatten_cons, List.flatten_cons]; exact h.append (IsA.reps h n)
theorem we_repA {K : PySem.W.Frag} {Γ : List Sl} {Post : Re → List Sl → Prop} {ta tb : TE} (h : WE K ta Γ fun ra Γ1 => WE K tb Γ1 fun rb Γ2 => ∃ ds n, ra = .val (.tup ds) ∧ rb = .val (.int n) ∧ ds ≠ [] ∧ 0 ≤ n ∧ n ≤ 1000 ∧ ds.length ≤ 1000 ∧ Post (.val (.tup (List.replicate n.toNat ds).flatten)) Γ2) : WE K (tOp (rRepA K) ta tb) Γ Post :=
  we_two' (we_mono h fun ra Γ1 h1 => we_mono h1 fun rb Γ2 hp => fun σ B H x y E kx ky Q q => by
    obtain ⟨ds, n, rfl, rfl, hne, h1, h2, h3, p⟩ := hp
    cases Is.rawI ky
    obtain ⟨a, xs, rfl, hs, ha⟩ := Is.tupR kx
    refine ⟨a, n, xs, rfl, rfl, sqT_mono E.bh hs, fun z => hne ?_, h1, h2, by rw [ha.len]; exact h3, fun e => ?_, fun _ l hl => q _ _ _ (.val (.tup (List.replicate n.toNat ds).flatten)) Γ2 (Go.laid E hl) (re_laidT E (ha.reps n.toNat) hl) p⟩
    · subst z; exact List.eq_nil_of_length_eq_zero ha.len.symm
    · subst e
      have e2 : (List.replicate (Int.toNat 1) ds).flatten = ds := by simp
      rw [e2] at p
      exact q _ B H (.val (.tup ds)) Γ2 (.refl E) kx p)
/-! ### x in texts -/
theorem inV_txts {s : Str} : ∀ xs : List Str, inV (.str s) (xs.map V.str) = decide (s ∈ xs)
  | [] => rfl
  | n :: r => by
    have ih := inV_txts (s := s) r
    unfold inV at ih ⊢
    rw [List.map_cons, List.any_cons, ih]
    have e : eqV (.str n) (.str s) = decide (n = s) := rfl
    rw [e]
    by_cases h : n = s
    · subst h; simp
    · have h' : ¬ s = n := fun z => h z.symm
      simp [h, h']
theorem flat_txts : ∀ xs : List Str, (xs.map V.str).all flatV = true
  | [] => rfl
  | n :: r => by rw [List.map_cons, List.all_cons, flat_txts r]; rfl
theorem inS {Γ : List Sl} {Post : Re → List Sl → Prop} {s : Str} {rb : Re} {xs : List Str} {Z : Prop} (h : seqOf Γ rb = some (xs.map Dt.str)) (p : Post (.val (.bl (decide (s ∈ xs)))) Γ) : InP false (.val (.str s)) rb Γ Post ∨ Z :=
  .inl ⟨.str s, xs.map V.str, rfl, by rw [h, List.map_map]; rfl, rfl, flat_txts xs, by rw [if_neg Bool.false_ne_true, inV_txts]; exact p⟩
theorem notInS {Γ : List Sl} {Post : Re → List Sl → Prop} {s : Str} {rb : Re} {xs : List Str} (h : seqOf Γ rb = some (xs.map Dt.str)) (p : Post (.val (.bl (!decide (s ∈ xs)))) Γ) : InP true (.val (.str s)) rb Γ Post :=
  ⟨.str s, xs.map V.str, rfl, by rw [h, List.map_map]; rfl, rfl, flat_txts xs, by rw [if_pos rfl, inV_txts]; exact p⟩
/-- a comprehension over a text -/
theorem lc_str {K : PySem.W.Frag} {Γ : List Sl} {Post : Re → List Sl → Prop} {te tl : TE} {tt : TT} {j : Nat} (s : Str) (Inv : Nat → List Dt → List Sl → Prop) (h : WE K tl Γ fun z Γ1 => Hold (z = .val (.str s) ∧ s.length ≤ 1000000 ∧ decide (j < Γ1.length) = true ∧ notAcc Γ1[j]? = true ∧ keepV Γ1[j]? = keepV Γ[j]? ∧ Inv 0 [] Γ1))
    (turn : ∀ (i : Nat) c es G, s.cps[i]? = some c → Inv i es G → WT K tt (G.set j (.val (.str ⟨#[c]⟩))) fun b G2 => (b = true → WE K te G2 fun r G3 => ∃ d, r.dt? = some d ∧ Hold (Inv (i + 1) (es ++ [d]) (G3.set j (keepV Γ[j]?)))) ∧ (b = false → Hold (Inv (i + 1) es (G2.set j (keepV Γ[j]?)))))
    (done : ∀ es G, Inv s.cps.size es G → Post (.new es) G) : WE K (tLc (iStr tl) (gName j) tt te [j]) Γ Post := fun σ B H E Q q => by
  refine h σ B H E _ fun v B1 H1 z Γ1 g1 k p => ?_
  obtain ⟨rfl, hn, hj, hja, h4, i0⟩ := p.get
  have hv : v = .str s := Is.rawI k
  subst hv
  refine ⟨s, rfl, ?_⟩
  have at_ : ∀ i, i < s.cps.size → s.cps[i]? = some (s.cps.getD i 0) := fun i hi => by simp [hi]
  refine lc_run (n := s.cps.size) (dt := fun i => .str ⟨#[s.cps.getD i 0]⟩) (J := Its s) g1.env (of_decide_eq_true hj) (notAcc_ne hja) hn (fun i es G => Hold (Inv i es G)) (fun i B' H' _ _ hi b1 b2 _ => hi) (fun i H' x H'' B' _ _ hi b1 b2 _ hy => ?_) (fun B' H' _ _ b1 b2 _ => Nat.le_refl _) (.a i0) (fun i es Γ' hi' hI => ?_) (fun es G hG => done es G hG.get) fun v B2 H2 r Γ2 g2 k2 p2 => q v B2 H2 r Γ2 (g1.trans g2) (ReOk.earlier k2 g1.mv fun a h => .inl (g1.sub a h)) p2
  · obtain ⟨e1, c, e2, e3⟩ := hy
    rw [at_ i hi] at e2
    cases e2
    subst e3
    exact ⟨e1, .raw _⟩
  · rw [h4]
    exact turn i _ es Γ' (at_ i hi') hI.get
end Ab
namespace Ab
open PySem PySem.Spec L2 PyProof.Rows
/-! ### enumerate(v) without a start -/
set_option maxHeartbeats 8000000 in
theorem meets_enumerate_new1 {v : Value} {o : Obj} {H : Heap → Prop} (B : Begins v o H) :
    Meets (Builtin.«enumerate.__new__» ⟨[.type "enumerate", v], []⟩) (fun _ R s => H s.heap ∧
      R (.ok (.ret (.ref (s.heap.push o).objs.size))) { s with heap := (s.heap.push o).push { cls := .type "enumerate", data := .fields #[.none, .bool false, .ref s.heap.objs.size, rawInt 0, .none, .none] } }) :=
  .of_wp fun prog w A R s h => by
    obtain ⟨hp, g, d, tk, os⟩ := s; obtain ⟨h1, h⟩ := h
    have hsub := sub_enumerate
    have q1 : ∀ {A' : Around} {E : Value → Shared → Prop} {Q : Value → Shared → Prop}, Q (.ref hp.objs.size) ⟨hp.push o, g, d, tk, os⟩ → wpAny (model prog w) A' (pyIter v) Q E ⟨hp, g, d, tk, os⟩ :=
      fun q => B.iter prog w _ _ ⟨hp, g, d, tk, os⟩ _ h1 q
    wp_walk using q1
    refine wpAny_stack_any fun st => wpAny_pure ?_
    split
    · rename_i c _ _ _ _ _
      cases (c == Value.type "enumerate")
      · wp_walk using q1
        exact ⟨_, rfl, h⟩
      · wp_walk using q1
        exact ⟨_, rfl, h⟩
    · wp_walk using q1
      exact ⟨_, rfl, h⟩
theorem enum_begins1 {prog : Program} {w : World} {A : Around} {E : Value → Shared → Prop} {s : Shared} {v : Value} {o : Obj} {H : Heap → Prop} {Q : Value → Shared → Prop} (B : Begins v o H) (h1 : H s.heap)
    (h : ∀ h', IsEnum h' (s.heap.objs.size + 1) s.heap.objs.size 0 .none → h'.get? s.heap.objs.size = some o → h'.objs.size = s.heap.objs.size + 2 →
      (∀ b o, s.heap.get? b = some o → h'.get? b = some o) → Q (.ref (s.heap.objs.size + 1)) { s with heap := h' }) :
    wpAny (model prog w) A (call (.type "enumerate") [v]) Q E s := by
  refine callType_new F.called_enumerate (by decide) (F.typeCall_enumerate_1 _) (F.newCall_enumerate_1 _) (fun obj => F.args_object_init_2 obj _) F.entry_enumerate_new
    (meets_enumerate_new1 B) ⟨h1, ?_⟩
  have hz : (s.heap.push o).objs.size = s.heap.objs.size + 1 := Heap.size_push ..
  show _ ∧ _
  rw [hz]
  have he : IsEnum ((s.heap.push o).push { cls := .type "enumerate", data := .fields #[.none, .bool false, .ref s.heap.objs.size, rawInt 0, .none, .none] }) (s.heap.objs.size + 1) s.heap.objs.size 0 .none := by
    have := Heap.get?_push_size (s.heap.push o) (o := { cls := .type "enumerate", data := .fields #[.none, .bool false, .ref s.heap.objs.size, rawInt 0, .none, .none] }) rfl
    rw [hz] at this; exact this
  refine ⟨⟨_, he, rfl⟩, h _ he (Heap.get?_push_of_some _ (Heap.get?_push_size _ B.free)) (by rw [Heap.size_push, hz]) fun b o x => Heap.get?_push_of_some _ (Heap.get?_push_of_some _ x)⟩
/-- enumerate over a tuple, from c -/
def IteT (K : PySem.W.Frag) (a : Addr) (c : Int) : It :=
  ⟨fun i H => ∃ (xs : List V) (x : V), SqT K H a xs ∧ xs[i]? = some x, fun i H v H' => ∃ T x, v = .ref T ∧ H T = none ∧ H' = upd H T (.tup [.int (c + (i : Nat)), x]) ∧ ∀ xs, SqT K H a xs → xs[i]? = some x, fun i H => ∃ xs : List V, SqT K H a xs ∧ xs.length = i⟩
theorem turn_enumT {P : Program} {w : World} {K : PySem.W.Frag} {elts : List Expr} {kk : Nat} {tpos : Pos} (a e it : Addr) (c : Int) (hai : a ≠ it) (hae : a ≠ e) :
    Turn P w K (.Tuple elts kk tpos) (IteT K a c) [e, it] e (fun i h => (∃ old, IsEnum h e it (c + ((i : Nat) : Int)) old) ∧ h.IsTupleIter it a i ∧ e ≠ it) where
  mem := by simp
  obj := fun i h st b hb => by
    obtain ⟨⟨old, he⟩, ⟨o, ho, hc, hd⟩, _⟩ := st
    have e' : b = e ∨ b = it := by simpa using hb
    rcases e' with z | z
    · rw [z]; exact ⟨_, he, fun v q => nomatch q⟩
    · rw [z]; exact ⟨o, ho, fun v q => by rw [hd] at q; cases q⟩
  keep := fun i h h' st k => let ⟨⟨old, he⟩, hi, hne⟩ := st; ⟨⟨old, k e (by simp) _ he⟩, hi.at fun o q => k it (by simp) o q, hne⟩
  item := by
    intro X hP hw hK hc i pins s σ H E I hf st hg
    subst hP hw hK
    obtain ⟨⟨old, he⟩, hit, hne⟩ := st
    obtain ⟨xs, x, hq, hx⟩ := hg
    obtain ⟨its, rv, p, hz⟩ := I.tuple hq
    obtain ⟨u, hu, ru⟩ := rv.get hx
    have hel : e < s.heap.objs.size := Heap.lt_size he
    have hil : it < s.heap.objs.size := by obtain ⟨_, q, _⟩ := hit; exact Heap.lt_size q
    have D : Draws X.prog X.w X.A.in1 it [it, a] its.toArray.size (fun i v => its.toArray[i]? = some v) (fun i h => h.IsTupleIter it a i ∧ h.IsTuple a its.toArray) := Draws.tuple (A := X.A.in1) (show X.A.in1.handled = none from I.ok.hd hc) it a hai its.toArray
    have hlt : i < its.toArray.size := by
      have := (List.getElem?_eq_some_iff.mp hu).1
      simpa using this
    refine wpAny_pyNext_enum_itemC D he ⟨hit, p⟩ hlt hne (by simp; exact ⟨hne, fun z => hae z.symm⟩) fun x' h' tk hP ho hit' hT hsz hk => ?_
    have hxu : x' = u := by
      have : its[i]? = some x' := by simpa using hP
      rw [hu] at this; cases this; rfl
    subst hxu
    refine ⟨_, rfl, wpAny_letOwnedTupleGo_enum (s := { s with heap := h', toks := tk + 1 }) ho fun h'' he' sb => ?_⟩
    have hT2 : h''.get? s.heap.objs.size = some { cls := .type "tuple", data := .seq #[.int (c + (i : Nat)) tk, x'] } := (sb.2 _ (Nat.ne_of_gt hel)).trans hT
    have new : ObjOk X.prog X.w (upd H s.heap.objs.size (.tup [.int (c + (i : Nat)), x])) h'' s.heap.objs.size (.tup [.int (c + (i : Nat)), x]) :=
      ⟨by show 2 ≤ sizeLine; decide, [.int (c + (i : Nat)) tk, x'], .cons ⟨_, rfl⟩ (.cons ru .nil), ⟨_, hT2, rfl, _, rfl⟩⟩
    have I1 : Inv X pins σ (upd H s.heap.objs.size (.tup [.int (c + (i : Nat)), x])) { s with heap := h'', toks := tk + 1 } :=
      I.turnedNew (ch := [e, it]) (fun b ob hb q => (sb.2 b (fun z => hb (by simp [z]))).trans (hk b ob (fun z => hb (by simp [z])) (fun z => hb (by simp [z])) q)) hf (Nat.le_refl _) new
    refine ⟨.ref s.heap.objs.size, _, I1, rfl, ⟨_, x, rfl, I.hok.fresh (Nat.le_refl _), rfl, fun ys hy => by rw [I.tuple_inj hy hq]; exact hx⟩, ⟨⟨x', ?_⟩, hit'.1.at fun o q => (sb.2 it (Ne.symm hne)).trans q, hne⟩, fun b hb => ?_⟩
    · have e1 : c + ((i + 1 : Nat) : Int) = c + (i : Int) + 1 := by omega
      rw [e1]; exact he'
    · have hb' : b < s.heap.objs.size := by
        have e' : b = e ∨ b = it := by simpa using hb
        rcases e' with z | z
        · rw [z]; exact hel
        · rw [z]; exact hil
      rw [upd_ne (Nat.ne_of_lt hb')]
      exact (hf b hb).1
  done := by
    intro X hP hw hK hc i pins s σ H E I hf st hg
    subst hP hw hK
    obtain ⟨⟨old, he⟩, hit, hne⟩ := st
    obtain ⟨xs, hq, hx⟩ := hg
    obtain ⟨its, rv, p, hz⟩ := I.tuple hq
    obtain ⟨f0, f1, f2, f3, f4, f5⟩ := hf it (by simp)
    have hl := rv.length
    have D : Draws X.prog X.w X.A.in1 it [it, a] its.toArray.size (fun i v => its.toArray[i]? = some v) (fun i h => h.IsTupleIter it a i ∧ h.IsTuple a its.toArray) := Draws.tuple (A := X.A.in1) (show X.A.in1.handled = none from I.ok.hd hc) it a hai its.toArray
    have hn : i = its.toArray.size := by simp; omega
    subst hn
    exact wpAny_pyNext_enum_endD D he ⟨hit, p⟩ fun h' eb => ⟨rfl, I.turned (t' := s.toks) (fun b o hb q => eb b o hb q) f0 f1 f3 f4 f5⟩
  self := fun A i s Q E st h => let ⟨⟨_, he⟩, _⟩ := st; wpAny_pyIter_enum he h
def iEnumT (K : PySem.W.Frag) (ta : TA) : TI := fun σ H R => ta σ H fun vs H1 => ∃ a xs, vs = [.ref a] ∧ SqT K H1 a xs ∧ R (IteT K a 0) H1
theorem pi_enumT {X : Cx} {e : Expr} {ta : TA} {p pos tpos : Pos} {elts : List Expr} {kk : Nat} (hg : Gl X "enumerate") (hm : X.mg "enumerate" = none) (ha : PA X [e] ta) (hs : starEach [e] X.env = [(false, eval e X.env)] := by rfl) :
    PI X (.Tuple elts kk tpos) (.Call (.Name "enumerate" p) [e] [] pos) (iEnumT X.K ta) := by
  refine ⟨fun pins s σ H R I h => ?_⟩
  refine Call_ (ld_blt I hg hm boot_enumerate (PyProof.Rows.callWith_type1 (thn (ha.run pos pins s σ H _ I h) fun us s1 ⟨vs, H1, I1, r1, q1⟩ => ?_) hs rfl))
  obtain ⟨a, xs, ex, hq, q⟩ := q1
  subst ex
  cases r1 with
  | cons r rr =>
    cases rr
    cases r
    obtain ⟨its, rv, p', hz⟩ := I1.tuple hq
    have hal : a < s1.heap.objs.size := by obtain ⟨_, q, _⟩ := p'; exact Heap.lt_size q
    refine enum_begins1 (begins_tuple a its.toArray) p' fun h' he hit hsz hk => wpAny_pyIter_enum he ?_
    have I2 : Inv X pins σ H1 { s1 with heap := h' } := I1.kept (t' := s1.toks) hk
    refine ⟨s1.heap.objs.size + 1, [s1.heap.objs.size + 1, s1.heap.objs.size], _, _, H1, rfl, I2, turn_enumT a (s1.heap.objs.size + 1) s1.heap.objs.size 0 (Nat.ne_of_lt hal) (Nat.ne_of_lt (Nat.lt_succ_of_lt hal)), ⟨⟨.none, he⟩, ⟨_, hit, rfl, rfl⟩, Nat.succ_ne_self _⟩, fun b hb => ?_, q⟩
    have e' : b = s1.heap.objs.size + 1 ∨ b = s1.heap.objs.size := by simpa using hb
    have hle : s1.heap.objs.size ≤ b := by
      rcases e' with z | z
      · rw [z]; exact Nat.le_add_right _ _
      · rw [z]; exact Nat.le_refl _
    exact I1.fpOk hle (I1.hok.fresh hle)
/-! ### comprehensions whose target is a pair of names -/
section
variable {K : PySem.W.Frag} {σ : L2.St} {B H : Hp} {Γ : List Sl}
abbrev g2 (K : PySem.W.Frag) (j k : Nat) : TG := gTup K 2 (gCons (gName j) (gCons (gName k) gNil))
theorem lc_run2 {j k n : Nat} {J : It} {d1 d2 : Nat → Dt} {tt : TT} {te : TE} {Post : Re → List Sl → Prop} {Q : VK} (E : Env K B H σ Γ) (hjk : j ≠ k) (hj : j < Γ.length) (hk : k < Γ.length) (hn : n ≤ 1000000)
    (Inv : Nat → List Dt → List Sl → Prop)
    (go : ∀ i B' H' es Γ', i < n → Same B B' → Env K B' H' σ Γ' → Inv i es Γ' → J.go i H') (yl : ∀ i H' x H'' B' es Γ', i < n → Same B B' → Env K B' H' σ Γ' → Inv i es Γ' → J.yld i H' x H'' → ∃ B'', Go K σ B' H' Γ' B'' H'' Γ' ∧ Is K B'' x (.tup [d1 i, d2 i])) (stop : ∀ B' H' es Γ', Same B B' → Env K B' H' σ Γ' → Inv n es Γ' → J.stop n H')
    (i0 : Inv 0 [] Γ)
    (turn : ∀ i es Γ', i < n → Inv i es Γ' → WT K tt ((Γ'.set j (.val (d1 i))).set k (.val (d2 i))) fun b Γ2 => (b = true → WE K te Γ2 fun r Γ3 => ∃ d, r.dt? = some d ∧ Inv (i + 1) (es ++ [d]) ((Γ3.set k (keepV Γ[k]?)).set j (keepV Γ[j]?))) ∧ (b = false → Inv (i + 1) es ((Γ2.set k (keepV Γ[k]?)).set j (keepV Γ[j]?))))
    (done : ∀ es Γ', Inv n es Γ' → Post (.new es) Γ') (q : ∀ v B' H' r Γ', Go K σ B H Γ B' H' Γ' → ReOk K σ (Own σ Γ) (Own σ Γ') B' H H' v r → Post r Γ' → Q v H') :
    ∀ D, H D = none → ∃ W : Nat → Nat → Hp → Prop, (∃ m, W 0 m (upd H D (.lst []))) ∧ ∀ i m H, W i m H →
      (J.stop i H ∧ Q (.ref D) H) ∨ (J.go i H ∧ ∃ Nx : Hp → Prop, (∀ H', Nx H' → ∃ m', m' < m ∧ W (i + 1) m' H') ∧ ∀ x H', J.yld i H x H' → g2 K j k x (wipe σ [j, k]) H' fun σ2 H2 => wipe σ2 [j, k] = wipe σ [j, k] ∧ tt σ2 H2 fun b H3 =>
        if b = true then te σ2 H3 fun y H4 => ∃ acc, H4 D = some (.lst acc) ∧ acc.length < sizeLine ∧ Nx (upd H4 D (.lst (acc ++ [y]))) else Nx H3) := by
  intro D hD
  have hjs : j < σ.length := by rw [E.len]; exact hj
  have hks : k < σ.length := by rw [E.len]; exact hk
  refine ⟨fun i m H' => m = n - i ∧ i ≤ n ∧ ∃ B' Γ' vs es, LcSt K σ B H Γ j D Inv i H' B' Γ' vs es, ⟨n, by simp, Nat.zero_le _, B, Γ, [], [], ⟨(Go.beside E hD).mv, fun k ds h => ⟨ds, h⟩, E.beside hD, upd_same, E.base_none hD, E.not_own hD, .nil, Nat.le_refl _, i0⟩⟩, ?_⟩
  rintro i m H' ⟨rfl, hi, B', Γ', vs, es, S⟩
  by_cases hlt : i < n
  · refine .inr ⟨go i B' H' es Γ' hlt S.mv.bb S.env S.inv, fun H2 => ∃ B' Γ' vs es, LcSt K σ B H Γ j D Inv (i + 1) H2 B' Γ' vs es, fun H2 ⟨B2, Γ2, vs2, es2, S2⟩ => ⟨n - (i + 1), by omega, rfl, hlt, B2, Γ2, vs2, es2, S2⟩, fun x H2 hy => ?_⟩
    obtain ⟨B2, gy, hx⟩ := yl i H' x H2 B' es Γ' hlt S.mv.bb S.env S.inv hy
    obtain ⟨a, xs, rfl, hT, hA⟩ := Is.tupR hx
    have hj' : j < Γ'.length := by rw [← S.env.len]; exact hjs
    have hk' : k < Γ'.length := by rw [← S.env.len]; exact hks
    obtain ⟨x1, x2, rfl⟩ : ∃ x1 x2, xs = [x1, x2] := by
      have hl := hA.len
      match xs, hl with
      | [x1, x2], _ => exact ⟨x1, x2, rfl⟩
    have hx1 : Is K B2 x1 (d1 i) := hA.at_ 0 _ _ rfl rfl
    have hx2 : Is K B2 x2 (d2 i) := hA.at_ 1 _ _ rfl rfl
    refine ⟨a, [x1, x2], rfl, sqT_mono gy.env.bh hT, rfl, x1, [x2], rfl, x2, [], rfl, rfl, ?_⟩
    have es2 : ((wipe σ [j, k]).set j (some x1)).set k (some x2) = (σ.set j (some x1)).set k (some x2) := by
      show (((σ.set k none).set j none).set j (some x1)).set k (some x2) = _
      rw [List.set_set, List.set_comm _ _ hjk.symm, List.set_set]
    rw [es2]
    have wp : ∀ τ : L2.St, wipe τ [j, k] = (τ.set k none).set j none := fun _ => rfl
    refine ⟨by rw [wp, wp, List.set_set, List.set_comm _ _ hjk, List.set_set, List.set_comm _ _ hjk.symm], ?_⟩
    have E1 := gy.env.setV hj' hx1
    have E2 := E1.setV (i := k) (by rw [List.length_set]; exact hk') hx2
    have ow1 : ∀ a, Own ((σ.set j (some x1)).set k (some x2)) ((Γ'.set j (.val (d1 i))).set k (.val (d2 i))) a → Own σ Γ' a := fun a h => (h.set_ne fun ds z => nomatch z).set_ne fun ds z => nomatch z
    have nA : ¬ Own ((σ.set j (some x1)).set k (some x2)) ((Γ'.set j (.val (d1 i))).set k (.val (d2 i))) D := fun z => S.oD (ow1 D z)
    have h2D : H2 D = some (.lst vs) := gy.mv.kp D _ S.oD S.hD
    have tD : H2 D ≠ none := by rw [h2D]; exact fun z => nomatch z
    have b2D : B2 D = none := gy.mv.off D S.oD (by rw [S.hD]; exact fun z => nomatch z) S.bD
    have fin : ∀ {B3 H3 : Hp} {Γ3 : List Sl}, Go K ((σ.set j (some x1)).set k (some x2)) B2 H2 ((Γ'.set j (.val (d1 i))).set k (.val (d2 i))) B3 H3 Γ3 →
        Mv (Own σ Γ) B H B3 H3 ∧ (∀ (l : Nat) ds, ((Γ3.set k (keepV Γ[k]?)).set j (keepV Γ[j]?))[l]? = some (.cel ds) → ∃ es, Γ[l]? = some (.cel es)) ∧ Env K B3 H3 σ ((Γ3.set k (keepV Γ[k]?)).set j (keepV Γ[j]?)) ∧ H3 D = some (.lst vs) ∧ B3 D = none ∧ ¬ Own σ ((Γ3.set k (keepV Γ[k]?)).set j (keepV Γ[j]?)) D ∧ IsA K B3 vs es := by
      intro B3 H3 Γ3 g
      have hl3 : Γ3.length = σ.length := by
        have h1 := g.env.len
        rw [List.length_set, List.length_set] at h1
        exact h1.symm
      have hk3 : k < Γ3.length := by omega
      have hj3 : j < (Γ3.set k (keepV Γ[k]?)).length := by rw [List.length_set]; omega
      have subO : ∀ a, Own σ ((Γ3.set k (keepV Γ[k]?)).set j (keepV Γ[j]?)) a → Own ((σ.set j (some x1)).set k (some x2)) Γ3 a := fun a h =>
        own_back (fun ds z => keepV_acc z) (own_back (fun ds z => keepV_acc z) h)
      have Ej : Env K B H (σ.set j (some x1)) (Γ.set j .un) := E.setU (some x1) hj
      have kk : (Γ.set j Sl.un)[k]? = Γ[k]? := List.getElem?_set_ne hjk
      have b1 := env_back (x := some x2) Ej ((S.mv.bb.trans gy.mv.bb).trans g.mv.bb) g.env hk3
      rw [kk] at b1
      have b2 := env_back E ((S.mv.bb.trans gy.mv.bb).trans g.mv.bb) b1 hj3
      have mv1 : Mv (Own σ Γ) B H B2 H2 := S.mv.trans (m1 := Own σ Γ') (fun a ⟨k, ds, h1, h2⟩ => .inl (by obtain ⟨es, h⟩ := S.ac k ds h1; exact ⟨k, es, h, h2⟩)) gy.mv
      refine ⟨mv1.trans (m1 := Own σ Γ') (fun a ⟨k, ds, h1, h2⟩ => .inl (by obtain ⟨es, h⟩ := S.ac k ds h1; exact ⟨k, es, h, h2⟩)) (g.mv.iff ow1), fun l ds h => ?_, b2, g.mv.kp D _ nA h2D, g.mv.off D nA tD b2D, fun z => nA (g.sub D (subO D z)), (S.its.mono gy.mv.bb).mono g.mv.bb⟩
      by_cases hl : j = l
      · subst hl
        rw [List.getElem?_set_self hj3] at h
        exact (keepV_acc (Option.some.inj h)).elim
      · rw [List.getElem?_set_ne hl] at h
        by_cases hl2 : k = l
        · subst hl2
          rw [List.getElem?_set_self hk3] at h
          exact (keepV_acc (Option.some.inj h)).elim
        · rw [List.getElem?_set_ne hl2] at h
          obtain ⟨es', h1⟩ := g.ac l ds h
          rw [List.getElem?_set_ne hl2, List.getElem?_set_ne hl] at h1
          exact S.ac l es' h1
    refine turn i es Γ' hlt S.inv _ B2 H2 E2 _ fun b B3 H3 Γ3 g3 p => ?_
    cases b with
    | true =>
      show te ((σ.set j (some x1)).set k (some x2)) H3 _
      have p1 : WE K te Γ3 fun r Γ4 => ∃ d, r = .val d ∧ Inv (i + 1) (es ++ [d]) ((Γ4.set k (keepV Γ[k]?)).set j (keepV Γ[j]?)) := we_freeze (we_mono (p.1 rfl) fun r Γ4 ⟨d, hd, k⟩ => ⟨d, hd, d, rfl, k⟩)
      refine p1 _ B3 H3 g3.env _ fun y B4 H4 r Γ4 g4 k4 p4 => ?_
      obtain ⟨d, rfl, inv⟩ := p4
      obtain ⟨f1, f2, f3, f4, f5, f6, f7⟩ := fin (g3.trans g4)
      refine ⟨vs, f4, ?_, B4, ((Γ4.set k (keepV Γ[k]?)).set j (keepV Γ[j]?)), vs ++ [y], es ++ [d], ?_⟩
      · rw [S.its.len]
        have := S.len
        exact Nat.lt_of_le_of_lt this (Nat.lt_of_lt_of_le hlt (Nat.le_trans hn (by decide)))
      · refine ⟨⟨fun a o na e => ?_, f1.bb, f1.off⟩, f2, f3.updOff f5 f6, upd_same, f5, f6, f7.snoc k4, by rw [List.length_append]; have := S.len; simp; omega, inv⟩
        rw [upd_ne (ne_of_none e hD)]
        exact f1.kp a o na e
    | false =>
      show ∃ B' Γ' vs es, _
      obtain ⟨f1, f2, f3, f4, f5, f6, f7⟩ := fin g3
      exact ⟨B3, ((Γ3.set k (keepV Γ[k]?)).set j (keepV Γ[j]?)), vs, es, ⟨f1, f2, f3, f4, f5, f6, f7, Nat.le_trans S.len (Nat.le_succ i), p.2 rfl⟩⟩
  · have e : i = n := by omega
    subst e
    exact .inl ⟨stop B' H' es Γ' S.mv.bb S.env S.inv, q (.ref D) B' H' (.new es) Γ' ⟨S.mv, S.ac, S.env⟩ ⟨D, _, rfl, .inr hD, S.oD, S.hD, S.bD, vs, rfl, S.its⟩ (done es Γ' S.inv)⟩
end
/-- [.. for i, x in enumerate(tuple)] -/
theorem lc_enumT {K : PySem.W.Frag} {Γ : List Sl} {Post : Re → List Sl → Prop} {te : TE} {ta : TA} {tt : TT} {j k : Nat} (ds : List Dt) (Inv : Nat → List Dt → List Sl → Prop) (h : WD K ta Γ fun zs Γ1 => Hold (zs = [.tup ds] ∧ ds.length ≤ 1000000 ∧ (decide (j ≠ k) && decide (j < Γ1.length) && decide (k < Γ1.length)) = true ∧ keepV Γ1[j]? = keepV Γ[j]? ∧ keepV Γ1[k]? = keepV Γ[k]? ∧ Inv 0 [] Γ1))
    (turn : ∀ (i : Nat) d es G, ds[i]? = some d → Inv i es G → WT K tt ((G.set j (.val (.int i))).set k (.val d)) fun b G2 => (b = true → WE K te G2 fun r G3 => ∃ d, r.dt? = some d ∧ Hold (Inv (i + 1) (es ++ [d]) ((G3.set k (keepV Γ[k]?)).set j (keepV Γ[j]?)))) ∧ (b = false → Hold (Inv (i + 1) es ((G2.set k (keepV Γ[k]?)).set j (keepV Γ[j]?)))))
    (done : ∀ es G, Inv ds.length es G → Post (.new es) G) : WE K (tLc (iEnumT K ta) (gTup K 2 (gCons (gName j) (gCons (gName k) gNil))) tt te [j, k]) Γ Post := fun σ B H E Q q => by
  refine h σ B H E _ fun vs B1 H1 zs Γ1 g1 kz p => ?_
  obtain ⟨rfl, hn, hd, h4, h5, i0⟩ := p.get
  rw [Bool.and_eq_true, Bool.and_eq_true, decide_eq_true_eq, decide_eq_true_eq, decide_eq_true_eq] at hd
  obtain ⟨v, rfl⟩ : ∃ v, vs = [v] := by
    have hl := kz.len
    match vs, hl with
    | [v], _ => exact ⟨v, rfl⟩
  obtain ⟨a, xs, rfl, ha, hx⟩ := Is.tupR (kz.at_ 0 v _ rfl rfl)
  refine ⟨a, xs, rfl, sqT_mono g1.env.bh ha, ?_⟩
  have at_ : ∀ i, i < ds.length → ds[i]? = some (ds.getD i .non) := fun i hi => by rw [List.getD_eq_getElem?_getD, List.getElem?_eq_getElem hi]; rfl
  refine lc_run2 (n := ds.length) (d1 := fun i => .int i) (d2 := fun i => ds.getD i .non) (J := IteT K a 0) g1.env hd.1.1 hd.1.2 hd.2 hn (fun i es G => Hold (Inv i es G)) (fun i B' H' _ _ hi b1 b2 _ => ?_) (fun i H' x H'' B' _ _ hi b1 b2 _ hy => ?_) (fun B' H' _ _ b1 b2 _ => ?_) (.a i0) (fun i es Γ' hi' hI => ?_) (fun es G hG => done es G hG.get) fun v B2 H2 r Γ2 g2 k2 p2 => q v B2 H2 r Γ2 (g1.trans g2) (ReOk.earlier k2 g1.mv fun a h => .inl (g1.sub a h)) p2
  · obtain ⟨x, h1, _⟩ := hx.get (at_ i hi)
    exact ⟨xs, x, sqT_mono (b1.trans b2.bh) ha, h1⟩
  · obtain ⟨T, y, rfl, hT, rfl, e2⟩ := hy
    have hy : Is K B' y (ds.getD i .non) := (hx.at_ i y _ (e2 xs (sqT_mono (b1.trans b2.bh) ha)) (at_ i hi)).mono b1
    refine ⟨_, Go.laid b2 hT, ?_⟩
    have e0 : ((0 : Int) + (i : Nat)) = i := by omega
    rw [e0]
    have hA : IsA K B' [V.int i, y] [.int i, ds.getD i .non] := .cons (.raw _) (.cons hy .nil)
    exact re_laidT b2 hA hT
  · exact ⟨xs, sqT_mono (b1.trans b2.bh) ha, hx.len⟩
  · rw [h4, h5]
    exact turn i _ es Γ' (at_ i hi') hI.get
end Ab
namespace Ab
open PySem PySem.Spec L2 PyProof.Rows
/-! ### str(text), str(int) -/
def rStrG : List V → Hp → VK → Prop := fun xs H Q => (∃ a, xs = [.str a] ∧ Q (.str a) H) ∨ ∃ i : Int, xs = [.int i] ∧ i.natAbs.log2 < 1920 ∧ Q (.str (toString i)) H
theorem call_strG {X : Cx} : CallR X (.type "str") rStrG := by
  intro pins s σ H vs us Q I r h
  rcases h with h | h
  · exact SkE.call_str_str pins s σ H vs us Q I r h
  · exact call_str_int pins s σ H vs us Q I r h
def StrP (r : Re) (Γ : List Sl) (Post : Re → List Sl → Prop) : Prop := (∃ a, r = .val (.str a) ∧ Post (.val (.str a)) Γ) ∨ ∃ i : Int, r = .val (.int i) ∧ i.natAbs.log2 < 1920 ∧ Post (.val (.str (toString i))) Γ
theorem we_strG {K : PySem.W.Frag} {Γ : List Sl} {Post : Re → List Sl → Prop} {te : TE} (h : WE K te Γ fun r Γ1 => StrP r Γ1 Post) : WE K (tCB rStrG (tCons te tNil)) Γ Post :=
  we_cb1 (we_mono h fun r Γ1 hp => fun σ B H x E kx Q q => by
    rcases hp with ⟨a, rfl, p⟩ | ⟨i, rfl, hi, p⟩
    · cases Is.rawI kx
      exact .inl ⟨a, rfl, q _ B H _ Γ1 (.refl E) (.raw _) p⟩
    · cases Is.rawI kx
      exact .inr ⟨i, rfl, hi, q _ B H _ Γ1 (.refl E) (.raw _) p⟩)
theorem strp_s {Γ : List Sl} {Post : Re → List Sl → Prop} {a : Str} (p : Post (.val (.str a)) Γ) : StrP (.val (.str a)) Γ Post := .inl ⟨a, rfl, p⟩
theorem strp_i {Γ : List Sl} {Post : Re → List Sl → Prop} {i : Int} (h : i.natAbs.log2 < 1920) (p : Post (.val (.str (toString i))) Γ) : StrP (.val (.int i)) Γ Post := .inr ⟨i, rfl, h, p⟩
/-- any of a list of truths -/
theorem we_any {K : PySem.W.Frag} {Γ : List Sl} {Post : Re → List Sl → Prop} {te : TE} (h : WE K te Γ fun r Γ1 => Hold (∃ bs : List Bool, lstOf Γ1 r = some (bs.map Dt.bl) ∧ Post (.val (.bl (bs.any id))) Γ1)) : WE K (tCB (rAny K) (tCons te tNil)) Γ Post :=
  we_cb1 (we_mono h fun r Γ1 hp => fun σ B H x E kx Q q => by
    obtain ⟨bs, hs, p⟩ := hp.get
    obtain ⟨a, vs, rfl, hq, ha⟩ := rv_lst E kx hs
    have e : vs = bs.map V.bl := IsA.rawsI (xs := bs.map V.bl) (by rw [List.map_map]; exact ha)
    subst e
    exact ⟨a, bs, rfl, hq, q _ B H _ Γ1 (.refl E) (.raw _) p⟩)
theorem bi_sorted : bootBuiltins "sorted" = some (.builtin "sorted") := by decide +kernel
theorem bi_all : bootBuiltins "all" = some (.builtin "all") := by decide +kernel
theorem bi_any : bootBuiltins "any" = some (.builtin "any") := by decide +kernel
theorem kb_nd : kitB "NoneType" "dict" = some false := by decide +kernel
theorem kb_bd : kitB "bool" "dict" = some false := by decide +kernel
theorem kb_id : kitB "int" "dict" = some false := by decide +kernel
theorem kb_sd : kitB "str" "dict" = some false := by decide +kernel
theorem kb_td : kitB "tuple" "dict" = some false := by decide +kernel
theorem kb_ld : kitB "list" "dict" = some false := by decide +kernel
end Ab
namespace Ab
open PySem L2
local macro_rules | `(tactic| walk_at "no") => `(tactic| first
  | exact fun h => Bool.noConfusion (show true = false from h)
  | exact fun h => Bool.noConfusion (show false = true from h)
  | exact fun h => absurd (of_decide_eq_true h) (by omega)
  | exact fun h => absurd (by omega) (of_decide_eq_false h)
  | exact fun h => absurd (by omega) (nd_t h)
  | exact fun h => absurd (nd_f h) (by omega)
  | fail "no")
local macro_rules | `(tactic| walk_at "kb") => `(tactic| first | exact kb_tt | exact kb_ll | exact kb_ii | exact kb_ib | exact kb_ss | exact kb_sb | exact kb_si | exact kb_tb | exact kb_ti | exact kb_ts | exact kb_tl | exact kb_lb | exact kb_li | exact kb_ls | exact kb_lt | exact kb_is | exact kb_it | exact kb_il | exact kb_st | exact kb_sl | exact kb_bb | exact kb_bi | exact kb_nb | exact kb_ni | exact kb_ns | exact kb_nt | exact kb_nl | exact kb_bs | exact kb_bt | exact kb_bl | exact kb_nd | fail "kb")
local macro_rules | `(tactic| walk_at "norm") => `(tactic| first
  | exact (rfl : _ = ([] : List Sl))
  | ((refine' norm_cons (rfl : _ = _ :: _) ?ea ?et); (case ea => first | exact norm_v | exact norm_n | exact norm_o | exact rfl | fail "norm"); (case et => walk_at "norm"))
  | fail "norm")
local macro_rules | `(tactic| walk_at "e") => `(tactic| first
  | ((with_reducible refine' norm_intro ?hn ?_); (case hn => walk_at "norm"))
  | ((with_reducible refine' we_var ?hh ?_); (case hh => exact rfl))
  | ((with_reducible refine' we_own ?hh ?_); (case hh => exact rfl))
  | with_reducible refine we_c ?_
  | with_reducible refine we_addG ?_
  | with_reducible refine addp_i ?_
  | with_reducible refine we_opI0 ?_
  | with_reducible refine we_opI ?_
  | with_reducible refine we_mulG ?_
  | ((with_reducible refine' mulp_r ?h1 ?_); (case h1 => first | decide | omega | fail "m"))
  | ((with_reducible refine' mulp_l ?h1 ?_); (case h1 => first | decide | omega | fail "m"))
  | with_reducible refine we_neg ?_
  | with_reducible refine we_ltG ?_
  | with_reducible refine ltp_i ?_
  | with_reducible refine we_eqG ?_
  | with_reducible refine we_neG ?_
  | with_reducible refine eqp_i ?_
  | with_reducible refine nep_i ?_
  | with_reducible refine we_ixG ?_
  | ((with_reducible refine' ixp ?h1 ?h2 ?_); (case h1 => exact rfl); (case h2 => exact rfl))
  | with_reducible refine we_lenG ?_
  | ((with_reducible refine' lenp ?hh ?_); (case hh => exact rfl))
  | with_reducible refine we_intG ?_
  | with_reducible refine intp_i ?_
  | with_reducible refine intp_b ?_
  | with_reducible refine we_abs ?_
  | with_reducible refine we_tup ?_
  | with_reducible refine we_lst ?_
  | with_reducible refine we_tuple ?_
  | with_reducible refine we_list ?_
  | with_reducible refine we_sum ?_
  | with_reducible refine we_max2 ?_
  | with_reducible refine we_min2 ?_
  | with_reducible refine wd_cons ?_
  | with_reducible refine wd_nil ?_
  | with_reducible refine wa_cons ?_
  | with_reducible refine wa_nil ?_
  | with_reducible refine we_callH ?_
  | with_reducible refine we_isiG ?_
  | ((with_reducible refine' isi_own ?h1 ?h2 ?_); (case h1 => exact rfl); (case h2 => walk_at "kb"))
  | ((with_reducible refine' isi_val ?h1 ?h2 ?_); (case h1 => exact rfl); (case h2 => walk_at "kb"))
  | ((with_reducible refine' isi_new ?h2 ?_); (case h2 => walk_at "kb"))
  | with_reducible refine we_chainI ?_
  | with_reducible refine we_andV ?_
  | with_reducible refine we_orV ?_
  | with_reducible refine we_notV ?_
  | with_reducible refine wt_test ?_
  | with_reducible refine wt_B ?_
  | with_reducible refine wt_yes ?_
  | with_reducible refine wt_and ?_
  | with_reducible refine wt_or ?_
  | with_reducible refine wt_not ?_
  | with_reducible refine ws_seq ?_
  | ((with_reducible refine' ws_retA ?hh ?_); (case hh => exact rfl))
  | with_reducible refine ws_ret ?_
  | with_reducible refine ws_if ?_
  | with_reducible refine ws_nil ?_
  | with_reducible refine ws_expr ?_
  | with_reducible refine ws_asgN rfl rfl ?_
  | with_reducible refine ws_setN ?_
  | with_reducible refine ws_asgG ?_
  | ((with_reducible refine' wg_tup ?hh ?_); (case hh => exact rfl))
  | with_reducible refine wgs_cons ?_
  | with_reducible refine wgs_nil ?_
  | with_reducible refine wg_nameN rfl rfl ?_
  | ((with_reducible refine' we_appendN ?hh ?_); (case hh => exact rfl))
  | ((with_reducible refine' we_reverseN ?hh ?_); (case hh => exact rfl))
  | ((with_reducible refine' ws_augN ?h1 ?h2 ?_); (case h1 => exact rfl); (case h2 => exact rfl))
  | (refine ⟨_, rfl, ⟨_, rfl⟩, ?_⟩)
  | (refine ⟨_, rfl, ?_⟩)
  | (refine ⟨_, _, _, rfl, rfl, rfl, ?_⟩)
  | (refine ⟨_, _, rfl, rfl, (Nat.le_of_ble_eq_true rfl : _ ≤ _), ?_⟩)
  | (refine ⟨_, _, rfl, rfl, ?_⟩)
  | (refine ⟨(Nat.le_of_ble_eq_true rfl : _ ≤ _), ?_⟩)
  | (refine ⟨(rfl : _ = true), ?_⟩)
  | ((refine' ⟨fun _ => ?_, fun hY => absurd hY ?k2⟩); (case k2 => walk_at "no"))
  | ((refine' ⟨fun hY => absurd hY ?k2, fun _ => ?_⟩); (case k2 => walk_at "no"))
  | (refine ⟨⟨(by omega), (by omega)⟩, ?_⟩)
  | (refine ⟨⟨(by decide), (by decide), (by decide)⟩, ?_⟩)
  | (refine ⟨(by first | decide | omega | fail "c"), ?_⟩)
  | fail "stop")
local macro_rules | `(tactic| walk_at "es") => `(tactic| repeat' walk_at "e")
local macro_rules | `(tactic| walk_at "e") => `(tactic| first | with_reducible refine we_isN ?_ | with_reducible refine we_notN ?_ | fail "is")
def tSameD (K : PySem.W.Frag) (ap__law_same : AP) : TS :=
    (tSeq (tIfS (tOr (tB (tCB (rIsi K) (tCons (tVar 0) (tCons (tC (.ty "bool")) tNil)))) (tB (tCB (rIsi K) (tCons (tVar 1) (tCons (tC (.ty "bool")) tNil))))) (tRet (tAndV (tCB (rIsi K) (tCons (tVar 0) (tCons (tC (.ty "bool")) tNil))) (tAndV (tCB (rIsi K) (tCons (tVar 1) (tCons (tC (.ty "bool")) tNil))) (tOp (rEqG K) (tVar 0) (tVar 1))))) tNext)
    (tSeq (tIfS (tAnd (tB (tCB (rIsi K) (tCons (tVar 0) (tCons (tC (.ty "int")) tNil)))) (tB (tCB (rIsi K) (tCons (tVar 1) (tCons (tC (.ty "int")) tNil))))) (tRet (tOp (rEqG K) (tVar 0) (tVar 1))) tNext)
    (tSeq (tIfS (tAnd (tB (tCB (rIsi K) (tCons (tVar 0) (tCons (tC (.ty "str")) tNil)))) (tB (tCB (rIsi K) (tCons (tVar 1) (tCons (tC (.ty "str")) tNil))))) (tRet (tOp (rEqG K) (tVar 0) (tVar 1))) tNext)
    (tSeq (tAsg (tAndV (tCB (rIsi K) (tCons (tVar 0) (tCons (tC (.ty "tuple")) tNil))) (tCB (rIsi K) (tCons (tVar 1) (tCons (tC (.ty "tuple")) tNil)))) (gName 2))
    (tSeq (tIfS (tOr (tB (tVar 2)) (tAnd (tB (tCB (rIsi K) (tCons (tVar 0) (tCons (tC (.ty "list")) tNil)))) (tB (tCB (rIsi K) (tCons (tVar 1) (tCons (tC (.ty "list")) tNil)))))) (tSeq (tIfS (tTest (tOp (rNeG K) (tCB (rLenV K) (tCons (tVar 0) tNil)) (tCB (rLenV K) (tCons (tVar 1) tNil)))) (tRet (tC (.bl false))) tNext)
    (tSeq (tFor (iRng1 (tCons (tCB (rLenV K) (tCons (tVar 0) tNil)) tNil)) (gName 3) (tIfS (tNot (tB (tCall (toSp K ap__law_same) [] E0 (tCons (tOp (rIx K) (tVar 0) (tVar 3)) (tCons (tOp (rIx K) (tVar 1) (tVar 3)) tNil))))) (tRet (tC (.bl false))) tNext))
    (tRet (tC (.bl true))))) tNext)
    (tSeq (tIfS (tAnd (tB (tCB (rIsi K) (tCons (tVar 0) (tCons (tC (.ty "dict")) tNil)))) (tB (tCB (rIsi K) (tCons (tVar 1) (tCons (tC (.ty "dict")) tNil))))) tNever tNext)
    (tRet (tAndV (tIsN (tVar 0)) (tIsN (tVar 1))))))))))

theorem run_tSameD {K : PySem.W.Frag} {n : Nat} {ap : AP} (hap : SameIn n ap) (as : List Sl) (Post : Re → List Sl → Prop) (h : ap_same n as Post) : WS K [0, 1] (tSameD K ap) (as ++ List.replicate (4 - as.length) .un) ⟨fun G => Post (.val .non) (exitArgs [0, 1] G as), fun r G => Post r (exitArgs [0, 1] G as), fun _ => False, fun _ => False, .no⟩ := by
  obtain ⟨s0, s1, d, rfl, h0, h1, ok, dp, p⟩ := h
  unfold tSameD
  show WS K [0, 1] _ [s0, s1, .un, .un] _
  have acc0 : ∀ {s : Sl} {d : Dt}, slDt s = some d → s = .val d ∨ ∃ ds, d = .lst ds ∧ s = .acc ds := fun {s d} h => by
    cases s with
    | un => cases h
    | val e => cases h; exact .inl rfl
    | cel c =>
      cases c with
      | lst es => cases h; exact .inr ⟨es, rfl, rfl⟩
      | dK es => cases h
      | dT es => cases h
  have scal : ∀ v : V, d = .raw v → s0 = .val (.raw v) ∧ s1 = .val (.raw v) := fun v e => by
    subst e
    rcases acc0 h0 with rfl | ⟨ds, e, _⟩
    · rcases acc0 h1 with rfl | ⟨ds, e, _⟩
      · exact ⟨rfl, rfl⟩
      · cases e
    · cases e
  cases d with
  | obj C fs => simp [okD] at ok
  | dK fs => simp [okD] at ok
  | dT fs => simp [okD] at ok
  | exn a d fs => simp [okD] at ok
  | scr ns => simp [okD] at ok
  | raw v =>
    obtain ⟨rfl, rfl⟩ := scal v rfl
    cases v with
    | non => walk_at "es"; exact p
    | bl b =>
      walk_at "es"
      refine eqp_s rfl ?_
      rw [decide_eq_true rfl]
      exact ⟨rfl, p⟩
    | int i =>
      walk_at "es"
      rw [decide_eq_true rfl]
      exact p
    | str x =>
      walk_at "es"
      refine eqp_s rfl ?_
      rw [decide_eq_true rfl]
      exact ⟨rfl, p⟩
    | byt b => simp [okD] at ok
    | flt b => simp [okD] at ok
    | ref a => simp [okD] at ok
    | ty t => simp [okD] at ok
  | tup ds =>
    rw [okD, Bool.and_eq_true, decide_eq_true_eq] at ok
    obtain ⟨hlen, ok⟩ := ok
    rw [depD] at dp
    have e0 : s0 = .val (.tup ds) := by
      rcases acc0 h0 with rfl | ⟨_, e, _⟩
      · rfl
      · cases e
    have e1 : s1 = .val (.tup ds) := by
      rcases acc0 h1 with rfl | ⟨_, e, _⟩
      · rfl
      · cases e
    subst e0 e1
    walk_at "es"
    refine for_range1 ds.length (fun i G => ∃ s3, G = [.val (.tup ds), .val (.tup ds), .val (.bl true), s3]) ?_ ?_ ?_
    · walk_at "es"
      exact .a ⟨rfl, by omega, by omega, _, rfl⟩
    · rintro i G hi ⟨s3, rfl⟩
      have hi' : i < ds.length := by omega
      have g := List.getElem?_eq_getElem hi'
      walk_at "es"
      refine ixp rfl (atI_of (j := i) rfl g) ?_
      walk_at "es"
      refine ixp rfl (atI_of (j := i) rfl g) ?_
      walk_at "es"
      refine .a (hap _ _ (okAll_at ok g) (by have := depAll_at g; omega) ?_)
      walk_at "es"
      exact .a ⟨_, rfl⟩
    · rintro G ⟨s3, rfl⟩
      walk_at "es"
      exact p
  | lst ds =>
    rw [okD, Bool.and_eq_true, decide_eq_true_eq] at ok
    obtain ⟨hlen, ok⟩ := ok
    rw [depD] at dp
    have e0 : s0 = .val (.lst ds) ∨ s0 = .acc ds := by
      rcases acc0 h0 with rfl | ⟨_, e, rfl⟩
      · exact .inl rfl
      · cases e; exact .inr rfl
    have e1 : s1 = .val (.lst ds) ∨ s1 = .acc ds := by
      rcases acc0 h1 with rfl | ⟨_, e, rfl⟩
      · exact .inl rfl
      · cases e; exact .inr rfl
    rcases e0 with rfl | rfl <;> rcases e1 with rfl | rfl
    · walk_at "es"
      refine for_range1 ds.length (fun i G => ∃ s3, G = [.val (.lst ds), .val (.lst ds), .val (.bl false), s3]) ?_ ?_ ?_
      · walk_at "es"
        exact .a ⟨rfl, by omega, by omega, _, rfl⟩
      · rintro i G hi ⟨s3, rfl⟩
        have hi' : i < ds.length := by omega
        have g := List.getElem?_eq_getElem hi'
        walk_at "es"
        refine ixp rfl (atI_of (j := i) rfl g) ?_
        walk_at "es"
        refine ixp rfl (atI_of (j := i) rfl g) ?_
        walk_at "es"
        refine .a (hap _ _ (okAll_at ok g) (by have := depAll_at g; omega) ?_)
        walk_at "es"
        exact .a ⟨_, rfl⟩
      · rintro G ⟨s3, rfl⟩
        walk_at "es"
        exact p
    · walk_at "es"
      refine for_range1 ds.length (fun i G => ∃ s3, G = [.val (.lst ds), .acc ds, .val (.bl false), s3]) ?_ ?_ ?_
      · walk_at "es"
        exact .a ⟨rfl, by omega, by omega, _, rfl⟩
      · rintro i G hi ⟨s3, rfl⟩
        have hi' : i < ds.length := by omega
        have g := List.getElem?_eq_getElem hi'
        walk_at "es"
        refine ixp rfl (atI_of (j := i) rfl g) ?_
        walk_at "es"
        refine ixp rfl (atI_of (j := i) rfl g) ?_
        walk_at "es"
        refine .a (hap _ _ (okAll_at ok g) (by have := depAll_at g; omega) ?_)
        walk_at "es"
        exact .a ⟨_, rfl⟩
      · rintro G ⟨s3, rfl⟩
        walk_at "es"
        exact p
    · walk_at "es"
      refine for_range1 ds.length (fun i G => ∃ s3, G = [.acc ds, .val (.lst ds), .val (.bl false), s3]) ?_ ?_ ?_
      · walk_at "es"
        exact .a ⟨rfl, by omega, by omega, _, rfl⟩
      · rintro i G hi ⟨s3, rfl⟩
        have hi' : i < ds.length := by omega
        have g := List.getElem?_eq_getElem hi'
        walk_at "es"
        refine ixp rfl (atI_of (j := i) rfl g) ?_
        walk_at "es"
        refine ixp rfl (atI_of (j := i) rfl g) ?_
        walk_at "es"
        refine .a (hap _ _ (okAll_at ok g) (by have := depAll_at g; omega) ?_)
        walk_at "es"
        exact .a ⟨_, rfl⟩
      · rintro G ⟨s3, rfl⟩
        walk_at "es"
        exact p
    · walk_at "es"
      refine for_range1 ds.length (fun i G => ∃ s3, G = [.acc ds, .acc ds, .val (.bl false), s3]) ?_ ?_ ?_
      · walk_at "es"
        exact .a ⟨rfl, by omega, by omega, _, rfl⟩
      · rintro i G hi ⟨s3, rfl⟩
        have hi' : i < ds.length := by omega
        have g := List.getElem?_eq_getElem hi'
        walk_at "es"
        refine ixp rfl (atI_of (j := i) rfl g) ?_
        walk_at "es"
        refine ixp rfl (atI_of (j := i) rfl g) ?_
        walk_at "es"
        refine .a (hap _ _ (okAll_at ok g) (by have := depAll_at g; omega) ?_)
        walk_at "es"
        exact .a ⟨_, rfl⟩
      · rintro G ⟨s3, rfl⟩
        walk_at "es"
        exact p
end Ab
/-! loops and comprehensions over typed rows -/
namespace Ab
open PySem L2
/-- a def that is never called with what it asks for -/
theorem fn_neverA {P : Program} {w : World} {K : PySem.W.Frag} {mg : Str → Option Value} {base : Heap} {x qual : Str} {st : Stmt} {f : Addr} {fd : FuncData} {N ps : List Str} {k : Nat} {ap : AP} (F : Fun K x qual st f fd) (S : FnScope N ps (defScope st)) (h0 : ∀ as Post, ¬ ap as Post) :
    FnOk P w K mg base CX0 (k + 1) f fd ps (toSp K ap) := by
  refine F.ok S (fun vs H Q E h => ?_) (fun cdv A outer s H vs Q E hr h => ?_)
  · obtain ⟨_, _, _, _, z, _⟩ := h; exact (h0 _ _ z).elim
  · obtain ⟨_, _, _, _, z, _⟩ := h; exact (h0 _ _ z).elim
section
variable {K : PySem.W.Frag} {pin : List Nat} {Γ : List Sl} {P : Ps} {te tl : TE} {tt : TT} {tb : TS} {g : TG} {j : Nat} {Post : Re → List Sl → Prop}
theorem take_step {α β : Type} {xs : List α} {i : Nat} {x : α} (p : α → Bool) (f : α → β) (h : xs[i]? = some x) : ((xs.take (i + 1)).filter p).map f = ((xs.take i).filter p).map f ++ (if p x = true then [f x] else []) := by
  rw [List.take_succ, h, List.filter_append, List.map_append]
  by_cases hp : p x = true
  · simp [hp]
  · simp [hp]
theorem filter_tt {α : Type} (xs : List α) : xs.filter (fun _ => true) = xs := List.filter_eq_self.mpr fun _ _ => rfl
/-- a comprehension that changes nothing: over a tuple -/
theorem lc_tupP {α : Type} (xs : List α) (c f : α → Dt) (p : α → Bool) (G0 : List Sl) (h : WE K tl Γ fun z Γ1 => Hold (z = .val (.tup (xs.map c)) ∧ xs.length ≤ 1000000 ∧ decide (j < Γ1.length) = true ∧ notAcc Γ1[j]? = true ∧ keepV Γ1[j]? = keepV Γ[j]? ∧ Γ1 = G0))
    (turn : ∀ x ∈ xs, WT K tt (G0.set j (.val (c x))) fun b G2 => (b = true → WE K te G2 fun r G3 => ∃ d, r.dt? = some d ∧ Hold (p x = true ∧ d = f x ∧ G3.set j (keepV Γ[j]?) = G0)) ∧ (b = false → Hold (p x = false ∧ G2.set j (keepV Γ[j]?) = G0)))
    (done : Post (.new ((xs.filter p).map f)) G0) : WE K (tLc (iTup K tl) (gName j) tt te [j]) Γ Post := by
  refine lc_tuple (xs.map c) (fun i es G => G = G0 ∧ es = ((xs.take i).filter p).map f) ?_ ?_ ?_
  · refine we_mono h fun z Γ1 hp => ?_
    obtain ⟨h1, h2, h3, h4, h5, h6⟩ := hp.get
    exact .a ⟨h1, by rw [List.length_map]; exact h2, h3, h4, h5, h6, rfl⟩
  · rintro i d es G hd ⟨rfl, rfl⟩
    rw [List.getElem?_map] at hd
    obtain ⟨x, hx, rfl⟩ := Option.map_eq_some_iff.mp hd
    refine wt_mono (turn x (List.mem_of_getElem? hx)) fun b G2 hb => ⟨fun e => ?_, fun e => ?_⟩
    · refine we_mono (hb.1 e) fun r G3 hr => ?_
      obtain ⟨d, h1, h2⟩ := hr
      obtain ⟨h3, rfl, h5⟩ := h2.get
      exact ⟨_, h1, .a ⟨h5, by rw [take_step p f hx, if_pos h3]⟩⟩
    · obtain ⟨h3, h5⟩ := (hb.2 e).get
      exact .a ⟨h5, by rw [take_step p f hx, if_neg (by rw [h3]; exact Bool.false_ne_true), List.append_nil]⟩
  · rintro es G ⟨rfl, rfl⟩
    rw [List.length_map, List.take_length]
    exact done
/-- .. over a list -/
theorem lc_lstP {α : Type} (xs : List α) (c f : α → Dt) (p : α → Bool) (G0 : List Sl) (h : WE K tl Γ fun z Γ1 => Hold (z.dt? = some (.lst (xs.map c)) ∧ xs.length ≤ 1000000 ∧ decide (j < Γ1.length) = true ∧ notAcc Γ1[j]? = true ∧ keepV Γ1[j]? = keepV Γ[j]? ∧ Γ1 = G0))
    (turn : ∀ x ∈ xs, WT K tt (G0.set j (.val (c x))) fun b G2 => (b = true → WE K te G2 fun r G3 => ∃ d, r.dt? = some d ∧ Hold (p x = true ∧ d = f x ∧ G3.set j (keepV Γ[j]?) = G0)) ∧ (b = false → Hold (p x = false ∧ G2.set j (keepV Γ[j]?) = G0)))
    (done : Post (.new ((xs.filter p).map f)) G0) : WE K (tLc (iList K tl) (gName j) tt te [j]) Γ Post := by
  refine lc_lst (xs.map c) (fun i es G => G = G0 ∧ es = ((xs.take i).filter p).map f) ?_ ?_ ?_
  · refine we_mono h fun z Γ1 hp => ?_
    obtain ⟨h1, h2, h3, h4, h5, h6⟩ := hp.get
    exact .a ⟨h1, by rw [List.length_map]; exact h2, h3, h4, h5, h6, rfl⟩
  · rintro i d es G hd ⟨rfl, rfl⟩
    rw [List.getElem?_map] at hd
    obtain ⟨x, hx, rfl⟩ := Option.map_eq_some_iff.mp hd
    refine wt_mono (turn x (List.mem_of_getElem? hx)) fun b G2 hb => ⟨fun e => ?_, fun e => ?_⟩
    · refine we_mono (hb.1 e) fun r G3 hr => ?_
      obtain ⟨d, h1, h2⟩ := hr
      obtain ⟨h3, rfl, h5⟩ := h2.get
      exact ⟨_, h1, .a ⟨h5, by rw [take_step p f hx, if_pos h3]⟩⟩
    · obtain ⟨h3, h5⟩ := (hb.2 e).get
      exact .a ⟨h5, by rw [take_step p f hx, if_neg (by rw [h3]; exact Bool.false_ne_true), List.append_nil]⟩
  · rintro es G ⟨rfl, rfl⟩
    rw [List.length_map, List.take_length]
    exact done
/-- .. over an owned list -/
theorem lc_accP {α : Type} {k : Nat} (xs : List α) (c f : α → Dt) (p : α → Bool) (h0 : Γ[k]? = some (.acc (xs.map c))) (hn : xs.length ≤ 1000000) (hj : decide (j < Γ.length) = true) (hja : notAcc Γ[j]? = true)
    (turn : ∀ x ∈ xs, WT K tt (Γ.set j (.val (c x))) fun b G2 => (b = true → WE K te G2 fun r G3 => ∃ d, r.dt? = some d ∧ Hold (p x = true ∧ d = f x ∧ G3.set j (keepV Γ[j]?) = Γ)) ∧ (b = false → Hold (p x = false ∧ G2.set j (keepV Γ[j]?) = Γ)))
    (done : Post (.new ((xs.filter p).map f)) Γ) : WE K (tLc (iList K (tVar k)) (gName j) tt te [j]) Γ Post := by
  refine lc_acc (xs.map c) (fun i es G => G = Γ ∧ es = ((xs.take i).filter p).map f) h0 (by rw [List.length_map]; exact hn) hj hja ⟨rfl, rfl⟩ (fun i es G h => by rw [h.1]; exact h0) ?_ ?_
  · rintro i d es G hd ⟨rfl, rfl⟩
    rw [List.getElem?_map] at hd
    obtain ⟨x, hx, rfl⟩ := Option.map_eq_some_iff.mp hd
    refine wt_mono (turn x (List.mem_of_getElem? hx)) fun b G2 hb => ⟨fun e => ?_, fun e => ?_⟩
    · refine we_mono (hb.1 e) fun r G3 hr => ?_
      obtain ⟨d, h1, h2⟩ := hr
      obtain ⟨h3, rfl, h5⟩ := h2.get
      exact ⟨_, h1, .a ⟨h5, by rw [take_step p f hx, if_pos h3]⟩⟩
    · obtain ⟨h3, h5⟩ := (hb.2 e).get
      exact .a ⟨h5, by rw [take_step p f hx, if_neg (by rw [h3]; exact Bool.false_ne_true), List.append_nil]⟩
  · rintro es G ⟨rfl, rfl⟩
    rw [List.length_map, List.take_length]
    exact done
/-- .. over a range from 0 -/
theorem lc_rngP {t1 : TA} (n : Nat) (f : Nat → Dt) (p : Nat → Bool) (G0 : List Sl) (h : WD K t1 Γ fun ds Γ1 => Hold (ds = [.int n] ∧ n ≤ 1000000 ∧ decide (j < Γ1.length) = true ∧ notAcc Γ1[j]? = true ∧ keepV Γ1[j]? = keepV Γ[j]? ∧ Γ1 = G0))
    (turn : ∀ x : Nat, x < n → WT K tt (G0.set j (.val (.int x))) fun b G2 => (b = true → WE K te G2 fun r G3 => ∃ d, r.dt? = some d ∧ Hold (p x = true ∧ d = f x ∧ G3.set j (keepV Γ[j]?) = G0)) ∧ (b = false → Hold (p x = false ∧ G2.set j (keepV Γ[j]?) = G0)))
    (done : Post (.new (((List.range n).filter p).map f)) G0) : WE K (tLc (iRng1 t1) (gName j) tt te [j]) Γ Post := by
  refine lc_range1 n (fun i es G => G = G0 ∧ es = (((List.range n).take i).filter p).map f) ?_ ?_ ?_
  · refine fun σ B H E Q q => h σ B H E Q fun vs B' H' ds Γ1 g k hp => q vs B' H' ds Γ1 g k ?_
    obtain ⟨h1, h2, h3, h4, h5, h6⟩ := hp.get
    exact .a ⟨h1, h2, h3, h4, h5, h6, by rw [List.take_zero]; rfl⟩
  · rintro i es G hi ⟨rfl, rfl⟩
    have hx : (List.range n)[i]? = some i := by rw [List.getElem?_range hi]
    refine wt_mono (turn i hi) fun b G2 hb => ⟨fun e => ?_, fun e => ?_⟩
    · refine we_mono (hb.1 e) fun r G3 hr => ?_
      obtain ⟨d, h1, h2⟩ := hr
      obtain ⟨h3, rfl, h5⟩ := h2.get
      exact ⟨_, h1, .a ⟨h5, by rw [take_step p f hx, if_pos h3]⟩⟩
    · obtain ⟨h3, h5⟩ := (hb.2 e).get
      exact .a ⟨h5, by rw [take_step p f hx, if_neg (by rw [h3]; exact Bool.false_ne_true), List.append_nil]⟩
  · rintro es G ⟨rfl, rfl⟩
    have : (List.range n).take n = List.range n := by
      have := List.take_length (l := List.range n)
      rwa [List.length_range] at this
    rw [this]
    exact done
theorem lc_tupV {α : Type} (xs : List α) (c f : α → Dt) (p : α → Bool) (h : WE K tl Γ fun z Γ1 => Hold (z = .val (.tup (xs.map c)) ∧ xs.length ≤ 1000000 ∧ decide (j < Γ.length) = true ∧ notAcc Γ[j]? = true ∧ Γ1 = Γ))
    (turn : ∀ x ∈ xs, WT K tt (Γ.set j (.val (c x))) fun b G2 => (b = true → WE K te G2 fun r G3 => ∃ d, r.dt? = some d ∧ Hold (p x = true ∧ d = f x ∧ G3.set j (keepV Γ[j]?) = Γ)) ∧ (b = false → Hold (p x = false ∧ G2.set j (keepV Γ[j]?) = Γ)))
    (done : Post (.new ((xs.filter p).map f)) Γ) : WE K (tLc (iTup K tl) (gName j) tt te [j]) Γ Post :=
  lc_tupP xs c f p Γ (we_mono h fun z Γ1 hp => by
    obtain ⟨h1, h2, h3, h4, rfl⟩ := hp.get
    exact .a ⟨h1, h2, h3, h4, rfl, rfl⟩) turn done
theorem lc_lstV {α : Type} (xs : List α) (c f : α → Dt) (p : α → Bool) (h : WE K tl Γ fun z Γ1 => Hold (z.dt? = some (.lst (xs.map c)) ∧ xs.length ≤ 1000000 ∧ decide (j < Γ.length) = true ∧ notAcc Γ[j]? = true ∧ Γ1 = Γ))
    (turn : ∀ x ∈ xs, WT K tt (Γ.set j (.val (c x))) fun b G2 => (b = true → WE K te G2 fun r G3 => ∃ d, r.dt? = some d ∧ Hold (p x = true ∧ d = f x ∧ G3.set j (keepV Γ[j]?) = Γ)) ∧ (b = false → Hold (p x = false ∧ G2.set j (keepV Γ[j]?) = Γ)))
    (done : Post (.new ((xs.filter p).map f)) Γ) : WE K (tLc (iList K tl) (gName j) tt te [j]) Γ Post :=
  lc_lstP xs c f p Γ (we_mono h fun z Γ1 hp => by
    obtain ⟨h1, h2, h3, h4, rfl⟩ := hp.get
    exact .a ⟨h1, h2, h3, h4, rfl, rfl⟩) turn done
theorem lc_rngV {t1 : TA} (n : Nat) (f : Nat → Dt) (p : Nat → Bool) (h : WD K t1 Γ fun ds Γ1 => Hold (ds = [.int n] ∧ n ≤ 1000000 ∧ decide (j < Γ.length) = true ∧ notAcc Γ[j]? = true ∧ Γ1 = Γ))
    (turn : ∀ x : Nat, x < n → WT K tt (Γ.set j (.val (.int x))) fun b G2 => (b = true → WE K te G2 fun r G3 => ∃ d, r.dt? = some d ∧ Hold (p x = true ∧ d = f x ∧ G3.set j (keepV Γ[j]?) = Γ)) ∧ (b = false → Hold (p x = false ∧ G2.set j (keepV Γ[j]?) = Γ)))
    (done : Post (.new (((List.range n).filter p).map f)) Γ) : WE K (tLc (iRng1 t1) (gName j) tt te [j]) Γ Post :=
  lc_rngP n f p Γ (fun σ B H E Q q => h σ B H E Q fun vs B' H' ds Γ1 g k hp => q vs B' H' ds Γ1 g k (by
    obtain ⟨h1, h2, h3, h4, rfl⟩ := hp.get
    exact .a ⟨h1, h2, h3, h4, rfl, rfl⟩)) turn done
/-- loops over typed rows -/
theorem for_tupT {α : Type} (xs : List α) (c : α → Dt) (Inv : Nat → List Sl → Prop) (h : WE K te Γ fun z Γ1 => Hold (z = .val (.tup (xs.map c)) ∧ Inv 0 Γ1))
    (turn : ∀ (i : Nat) x G, xs[i]? = some x → Inv i G → WG K pin g (c x) G fun G2 => WS K pin tb G2 ⟨fun G => Hold (Inv (i + 1) G), P.rt, P.nx, fun G => Hold (Inv (i + 1) G), P.ex⟩) (done : ∀ G, Inv xs.length G → P.nx G) : WS K pin (tFor (iTup K te) g tb) Γ P :=
  for_tuple (xs.map c) Inv h (fun i d G hd hG => by
    rw [List.getElem?_map] at hd
    obtain ⟨x, hx, rfl⟩ := Option.map_eq_some_iff.mp hd
    exact turn i x G hx hG) (fun G hG => done G (by rwa [List.length_map] at hG))
theorem for_lstT {α : Type} (xs : List α) (c : α → Dt) (Inv : Nat → List Sl → Prop) (h : WE K te Γ fun z Γ1 => Hold (z.dt? = some (.lst (xs.map c)) ∧ Inv 0 Γ1))
    (turn : ∀ (i : Nat) x G, xs[i]? = some x → Inv i G → WG K pin g (c x) G fun G2 => WS K pin tb G2 ⟨fun G => Hold (Inv (i + 1) G), P.rt, P.nx, fun G => Hold (Inv (i + 1) G), P.ex⟩) (done : ∀ G, Inv xs.length G → P.nx G) : WS K pin (tFor (iList K te) g tb) Γ P :=
  for_lst (xs.map c) Inv h (fun i d G hd hG => by
    rw [List.getElem?_map] at hd
    obtain ⟨x, hx, rfl⟩ := Option.map_eq_some_iff.mp hd
    exact turn i x G hx hG) (fun G hG => done G (by rwa [List.length_map] at hG))
theorem for_accT {α : Type} {k : Nat} (xs : List α) (c : α → Dt) (Inv : Nat → List Sl → Prop) (h0 : Γ[k]? = some (.acc (xs.map c))) (i0 : Inv 0 Γ) (hk : ∀ i G, Inv i G → G[k]? = some (.acc (xs.map c)))
    (turn : ∀ (i : Nat) x G, xs[i]? = some x → Inv i G → WG K (k :: pin) g (c x) G fun G2 => WS K (k :: pin) tb G2 ⟨fun G => Hold (Inv (i + 1) G), P.rt, P.nx, fun G => Hold (Inv (i + 1) G), P.ex⟩) (done : ∀ G, Inv xs.length G → P.nx G) : WS K pin (tFor (iList K (tVar k)) g tb) Γ P :=
  for_acc (xs.map c) Inv h0 i0 hk (fun i d G hd hG => by
    rw [List.getElem?_map] at hd
    obtain ⟨x, hx, rfl⟩ := Option.map_eq_some_iff.mp hd
    exact turn i x G hx hG) (fun G hG => done G (by rwa [List.length_map] at hG))
theorem at_mapI {α : Type} {c : α → Dt} {xs : List α} {k : Int} {i : Nat} {x : α} (e : k = (i : Int)) (h : xs[i]? = some x) : atI (xs.map c) k = some (c x) := atI_of (j := i) e (by rw [List.getElem?_map, h]; rfl)
end
/-- a new list goes on as data -/
theorem we_freezeV {K : PySem.W.Frag} {Γ : List Sl} {Post : Re → List Sl → Prop} {te : TE} (h : WE K te Γ fun r Γ1 => ∃ d, r.dt? = some d ∧ Post (.val d) Γ1) : WE K te Γ Post := we_freeze h
end Ab
/-! exceptions: defs that raise, try -/
namespace Ab
open PySem L2
/-- the promise of a def that may raise: what is let out, too -/
abbrev APX := List Sl → (Re → List Sl → Prop) → (Value → List (Str × Dt) → List Sl → Prop) → Prop
def toSpX (K : PySem.W.Frag) (ap : APX) : Sp := fun vs H Q E => ∃ B as Post XP, Env K B H (vs.map some) as ∧ ap as Post XP ∧
  (∀ v B' H' r as', Go K (vs.map some) B H as B' H' as' → ReOk K [] (Own (vs.map some) as) (Own (vs.map some) as') B' H H' v r → Post r as' → Q v H') ∧
  ∀ cls d fs B' H' as', Go K (vs.map some) B H as B' H' as' → ExB K B' d fs → XP cls fs as' → E cls d H'
abbrev RunOkX (K : PySem.W.Frag) (pin : List Nat) (t : WX → TS) (N : Nat) (ap : APX) : Prop := ∀ (W : WX) (as : List Sl) (Post : Re → List Sl → Prop) (XP : Value → List (Str × Dt) → List Sl → Prop), ap as Post XP →
  WS K pin (t W) (as ++ List.replicate (N - as.length) .un) ⟨fun G => Post (.val .non) (exitArgs pin G as), fun r G => Post r (exitArgs pin G as), fun _ => False, fun _ => False, ⟨W, fun cls fs G => XP cls fs (exitArgs pin G as)⟩⟩
section
variable {P : Program} {w : World} {K : PySem.W.Frag} {mg : Str → Option Value} {base : Heap}
/-- a def that may raise, by its body's run over data -/
theorem fn_abX {x qual : Str} {st : Stmt} {f : Addr} {fd : FuncData} {N ps : List Str} {k : Nat} {ap : APX} (pin : List Nat) (F : Fun K x qual st f fd) (S : FnScope N ps (defScope st))
    (hlen : ∀ as Post XP, ap as Post XP → as.length = ps.length) (hN : decide (ps.length ≤ N.length) = true) (t : WX → TS)
    (body : ∀ (cdv : Value) (A : Around) (outer : List PySem.Env) (s : Shared) (H : Hp) (E : XK), Room k (A.deeper (PyProof.Rows.envOfC qual (defScope st) s.heap.objs.size f cdv)) →
      PSs (cxOf (L2.CX P w) P w K mg base N qual (defScope st) f cdv A outer s H E) (defBody st) (t fun cls d _ H' => E cls d H'))
    (run : RunOkX K pin t N.length ap) :
    FnOk P w K mg base (L2.CX P w) (k + 1) f fd ps (toSpX K ap) := by
  refine F.okX S (fun vs H Q E h => ?_) (fun cdv A outer s H vs Q E hr h => ?_)
  · obtain ⟨B, as, Post, XP, E1, ha, _⟩ := h
    have := E1.len
    rw [List.length_map] at this
    rw [this]; exact hlen as Post XP ha
  · obtain ⟨B, as, Post, XP, E1, ha, q, qx⟩ := h
    refine ⟨_, body cdv A outer s H E hr, ?_⟩
    have hl : vs.length = as.length := by have := E1.len; simpa using this
    have hps : as.length ≤ N.length := by rw [hlen as Post XP ha]; exact of_decide_eq_true hN
    have E0 := env_start E1 hps
    have fin : ∀ v σ' B' H' r Γ', GoS K pin (L2.start N vs) B H (as ++ List.replicate (N.length - as.length) .un) σ' B' H' Γ' → ReOk K [] (Own (L2.start N vs) (as ++ List.replicate (N.length - as.length) .un)) (Own σ' Γ') B' H H' v r → Post r (exitArgs pin Γ' as) → Q v H' := by
      intro v σ' B' H' r Γ' g kk p
      obtain ⟨g', kr⟩ := exit_go E1 hl g
      exact q v B' H' r _ g' (kr v r kk) p
    exact run _ as Post XP ha (L2.start N vs) B H _ E0 (fun σ' B' H' Γ' g p => fin .non σ' B' H' (.val .non) Γ' g (Is.raw _) p) (fun v σ' B' H' r Γ' g kk p => fin v σ' B' H' r Γ' g kk p) (fun _ _ _ _ _ p => p.elim) (fun _ _ _ _ _ p => p.elim)
      (fun cls d fs σ' B' H' Γ' g hx p => qx cls d fs B' H' _ (exit_go E1 hl g).1 hx p)
end
/-! ### raise -/
def tRaise (W : WX) (cls : Value) : TS := fun _ σ H => W cls none σ H
section
variable {K : PySem.W.Frag} {pin : List Nat} {Γ : List Sl} {P : Ps} {Post : Re → List Sl → Prop} {te : TE} {ta : TA}
theorem ws_raise {W : WX} {cls : Value} (hW : P.ex.W = W) (p : P.ex.q cls [] Γ) : WS K pin (tRaise W cls) Γ P := fun σ B H D E n r b c xx => by
  subst hW
  exact xx cls none [] σ B H Γ (.refl E) .none p
/-! ### calls of defs that may raise -/
def tCallX (K : PySem.W.Frag) (ap : APX) (W : WX) (ta : TA) : TE := fun σ H Q => ta σ H fun vs H1 => toSpX K ap vs H1 Q (fun cls d H' => W cls d σ H')
/-- expressions that may raise -/
def WX' (K : PySem.W.Frag) (X : Ex) (te : TE) (Γ : List Sl) (Post : Re → List Sl → Prop) : Prop := ∀ σ B H, Env K B H σ Γ → ∀ Q : VK,
  (∀ v B' H' r Γ', Go K σ B H Γ B' H' Γ' → ReOk K σ (Own σ Γ) (Own σ Γ') B' H H' v r → Post r Γ' → Q v H') →
  (∀ cls d fs B' H' Γ', Go K σ B H Γ B' H' Γ' → ExB K B' d fs → X.q cls fs Γ' → X.W cls d σ H') → te σ H Q
theorem wx_call {X : Ex} {W : WX} {ap : APX} (hW : X.W = W) (h : WA K ta Γ fun rs Γ1 => nodupB (ownsOf rs) = true ∧ Hold (ap (rs.map (argSl Γ1)) (fun r as' => NormP (putBack rs as' Γ1) (Post r)) fun cls fs as' => NormP (putBack rs as' Γ1) (X.q cls fs))) : WX' K X (tCallX K ap W ta) Γ Post := fun σ B H E Q q qx => by
  subst hW
  refine h σ B H E _ fun vs B1 H1 rs Γ1 g1 k1 p1 => ?_
  obtain ⟨E2, kk⟩ := call_go E g1 k1 p1.1
  exact ⟨B1, rs.map (argSl Γ1), _, _, E2, p1.2.get, fun v B2 H2 r as' g2 k2 p => q v B2 H2 r _ (kk B2 H2 as' g2).1 ((kk B2 H2 as' g2).2 v r k2) p,
    fun cls d fs B2 H2 as' g2 hx p => qx cls d fs B2 H2 _ (kk B2 H2 as' g2).1 hx p⟩
theorem wx_freeze {X : Ex} (h : WX' K X te Γ fun r Γ1 => ∃ d, r.dt? = some d ∧ Post (.val d) Γ1) : WX' K X te Γ Post := fun σ B H E Q q qx => by
  refine h σ B H E Q (fun v B1 H1 r Γ1 g k p => ?_) qx
  obtain ⟨d, hd, p⟩ := p
  cases r with
  | own i => cases hd
  | val d =>
    cases hd
    exact q v B1 H1 (.val d) Γ1 g k p
  | nw ds =>
    cases hd
    obtain ⟨l, vs, rfl, h1, h2, h3, h4, h5⟩ := k
    have sB : Same B1 (upd B1 l vs) := fun a u e => by rw [upd_ne (ne_of_none e h4)]; exact e
    refine q (.ref l) (upd B1 l vs) H1 (.val ds.dt) Γ1 ⟨⟨g.mv.kp, g.mv.bb.trans sB, fun a na ha hb => ?_⟩, g.ac, ?_⟩ ?_ p
    · have hal : a ≠ l := fun z => by
        subst z
        exact h1.elim na ha
      rw [upd_ne hal]; exact g.mv.off a na ha hb
    · refine ⟨g.env.len, fun a u e => ?_, fun i d hi => ?_, fun i es hi => ?_, g.env.sep⟩
      · by_cases ha : a = l
        · subst ha; rw [upd_same] at e; cases e; exact h3
        · rw [upd_ne ha] at e; exact g.env.bh a u e
      · obtain ⟨w, e, k⟩ := g.env.val i d hi
        exact ⟨w, e, k.mono sB⟩
      · obtain ⟨c, us, e, e1, e2, k⟩ := g.env.cel i es hi
        have hc : c ≠ l := fun z => by
          subst z
          exact h2 ⟨i, es, hi, e⟩
        exact ⟨c, us, e, e1, by rw [upd_ne hc]; exact e2, k.mono sB⟩
    · exact (h5.mono sB).is upd_same
/-! operations on ints -/
theorem wx_mono {X : Ex} {Post' : Re → List Sl → Prop} (h : WX' K X te Γ Post) (k : ∀ r G, Post r G → Post' r G) : WX' K X te Γ Post' := fun σ B H E Q q qx =>
  h σ B H E Q (fun v B' H' r Γ' g kk p => q v B' H' r Γ' g kk (k _ _ p)) qx
theorem wx_we {X : Ex} (h : WE K te Γ Post) : WX' K X te Γ Post := fun σ B H E Q q qx => h σ B H E Q q
/-- [e] -/
theorem wx_lst1 {X : Ex} (h : WX' K X te Γ fun r Γ1 => ∃ d, r.dt? = some d ∧ Post (.new [d]) Γ1) : WX' K X (tLst (tCons te tNil)) Γ Post := fun σ B H E Q q qx => by
  have h' : WX' K X te Γ fun r Γ1 => ∃ d, r = .val d ∧ Post (.new [d]) Γ1 := wx_freeze (wx_mono h fun r G ⟨d, hd, p⟩ => ⟨d, hd, d, rfl, p⟩)
  refine h' σ B H E _ (fun v B1 H1 r Γ1 g k p => ?_) qx
  obtain ⟨d, rfl, p⟩ := p
  refine ⟨by show 1 ≤ sizeLine; decide, fun a ha => ?_⟩
  have g2 := Go.beside (o := .lst [v]) g.env ha
  exact q (.ref a) _ _ (.new [d]) Γ1 (g.trans g2) ⟨a, _, rfl, g.mv.back ha, g.env.not_own ha, upd_same, g.env.base_none ha, [v], rfl, .cons k .nil⟩ p
/-! statements with such an expression -/
theorem ws_exprX (h : WX' K P.ex te Γ fun _ Γ1 => P.nx Γ1) : WS K pin (tDrop te) Γ P := fun σ B H D E n r b c xx =>
  h σ B H E _ (fun v B1 H1 z Γ1 g k p => n σ B1 H1 Γ1 g.s p) fun cls d fs B1 H1 Γ1 g hx p => xx cls d fs σ B1 H1 Γ1 g.s hx p
theorem ws_retX (h : WX' K P.ex te Γ fun z Γ1 => z.free = true ∧ P.rt z Γ1) : WS K pin (tRet te) Γ P := fun σ B H D E n r b c xx =>
  h σ B H E _ (fun v B1 H1 z Γ1 g k ⟨hf, p⟩ => r v σ B1 H1 z Γ1 g.s (k.off hf) p) fun cls d fs B1 H1 Γ1 g hx p => xx cls d fs σ B1 H1 Γ1 g.s hx p
theorem ws_asgX {i : Nat} (hp : pin.contains i = false) (hi : decide (i < Γ.length) = true) (h : WX' K P.ex te Γ fun z Γ1 => NormP (Γ1.set i (slOf z)) P.nx) : WS K pin (tAsg te (gName i)) Γ P := fun σ B H D E n r b c xx =>
  h σ B H E _ (fun v B1 H1 z Γ1 g k p => n _ B1 H1 _ (goS_set g k hp (by rw [← g.env.len, E.len]; exact of_decide_eq_true hi)) p) fun cls d fs B1 H1 Γ1 g hx p => xx cls d fs σ B1 H1 Γ1 g.s hx p
/-- .. to a target that is a row of names -/
theorem ws_asgGX {g : TG} (h : WX' K P.ex te Γ fun z Γ1 => ∃ d, z = .val d ∧ WG K pin g d Γ1 P.nx) : WS K pin (tAsg te g) Γ P := fun σ B H D E n r b c xx =>
  h σ B H E _ (fun v B1 H1 z Γ1 g1 k p => by
    obtain ⟨d, rfl, p⟩ := p
    exact p σ B1 H1 v g1.env k _ fun σ' Γ' g2 p2 => n σ' B1 H1 Γ' (g1.s.trans g2) p2) fun cls d fs B1 H1 Γ1 g hx p => xx cls d fs σ B1 H1 Γ1 g.s hx p
/-- a call that raises nothing -/
theorem we_callN {ap : APX} {E0 : XK} (h : WA K ta Γ fun rs Γ1 => nodupB (ownsOf rs) = true ∧ Hold (ap (rs.map (argSl Γ1)) (fun r as' => NormP (putBack rs as' Γ1) (Post r)) fun cls fs as' => False)) : WE K (tCall (toSpX K ap) [] E0 ta) Γ Post := fun σ B H E Q q => by
  refine h σ B H E _ fun vs B1 H1 rs Γ1 g1 k1 p1 => ?_
  rw [List.append_nil]
  obtain ⟨E2, kk⟩ := call_go E g1 k1 p1.1
  exact ⟨B1, rs.map (argSl Γ1), _, _, E2, p1.2.get, fun v B2 H2 r as' g2 k2 p => q v B2 H2 r _ (kk B2 H2 as' g2).1 ((kk B2 H2 as' g2).2 v r k2) p, fun cls d fs B2 H2 as' g2 hx p => p.elim⟩
theorem we_callNX {ap : APX} {W : WX} (h : WA K ta Γ fun rs Γ1 => nodupB (ownsOf rs) = true ∧ Hold (ap (rs.map (argSl Γ1)) (fun r as' => NormP (putBack rs as' Γ1) (Post r)) fun cls fs as' => False)) : WE K (tCallX K ap W ta) Γ Post := fun σ B H E Q q => by
  refine h σ B H E _ fun vs B1 H1 rs Γ1 g1 k1 p1 => ?_
  obtain ⟨E2, kk⟩ := call_go E g1 k1 p1.1
  exact ⟨B1, rs.map (argSl Γ1), _, _, E2, p1.2.get, fun v B2 H2 r as' g2 k2 p => q v B2 H2 r _ (kk B2 H2 as' g2).1 ((kk B2 H2 as' g2).2 v r k2) p, fun cls d fs B2 H2 as' g2 hx p => p.elim⟩
/-! ### try -/
def tTryO (K : PySem.W.Frag) (c : Value) (tb : WX → TS) (ts : TS) (Wout : WX) : TS := fun D σ H => tb (wOnly K c (fun _ _ _ => ts) Wout D) D σ H
/-- try: .. except X: .. -/
theorem ws_tryO {c : Value} {tb : WX → TS} {ts : TS} {Wout : WX} (q' : Value → List (Str × Dt) → List Sl → Prop) (h : ∀ W, WS K pin (tb W) Γ ⟨P.nx, P.rt, P.bk, P.ct, ⟨W, fun cls fs G => Hold (q' cls fs G)⟩⟩)
    (k : ∀ cls fs G, q' cls fs G → ∃ b, PySem.W.exmOne K cls c = some b ∧ (b = true → WS K pin ts G P) ∧ (b = false → P.ex.W = Wout ∧ P.ex.q cls fs G)) : WS K pin (tTryO K c tb ts Wout) Γ P := fun σ B H D E n r b cc xx => by
  refine h _ σ B H D E n r b cc fun cls d fs σ' B' H' Γ' g hx p => ?_
  obtain ⟨z, hz, hy, hn⟩ := k cls fs Γ' p.get
  refine ⟨z, hz, fun e a ha => ?_, fun e => ?_⟩
  · exact ws_from (hy e) g n r b cc xx
  · obtain ⟨rfl, pq⟩ := hn e
    exact xx cls d fs σ' B' H' Γ' g hx pq
end
end Ab
/-! an instance that is being made and whose fields are owned lists: the fields stand as further slots behind those of the frame -/
namespace Ab
open PySem L2
section
variable {K : PySem.W.Frag} {B H B' H' : Hp} {σ τ σ' : L2.St} {Γ Δ Γ' : List Sl} {pin : List Nat}
theorem pre_get {α : Type} {a b : List α} {i : Nat} {x : α} (h : a[i]? = some x) : (a ++ b)[i]? = some x := by
  rw [List.getElem?_append_left (List.getElem?_eq_some_iff.mp h).1]; exact h
theorem app_get {α : Type} {a b : List α} {i : Nat} {x : α} (h : (a ++ b)[i]? = some x) : a[i]? = some x ∨ (a.length ≤ i ∧ b[i - a.length]? = some x) := by
  by_cases hi : i < a.length
  · rw [List.getElem?_append_left hi] at h; exact .inl h
  · rw [List.getElem?_append_right (by omega)] at h; exact .inr ⟨by omega, h⟩
theorem env_pre (E : Env K B H (σ ++ τ) (Γ ++ Δ)) (hl : σ.length = Γ.length) : Env K B H σ Γ := by
  have pre : ∀ {i : Nat} {x : Option V}, i < Γ.length → (σ ++ τ)[i]? = some x → σ[i]? = some x := fun {i x} hi h => by
    rw [List.getElem?_append_left (by omega)] at h; exact h
  refine ⟨hl, E.bh, fun i d h => ?_, fun i c h => ?_, fun i j c d l h1 h2 h3 h4 => E.sep i j c d l (pre_get h1) (pre_get h2) (pre_get h3) (pre_get h4)⟩
  · obtain ⟨v, e1, e2⟩ := E.val i d (pre_get h)
    exact ⟨v, pre (List.getElem?_eq_some_iff.mp h).1 e1, e2⟩
  · obtain ⟨l, o, e1, e2⟩ := E.cel i c (pre_get h)
    exact ⟨l, o, pre (List.getElem?_eq_some_iff.mp h).1 e1, e2⟩
theorem own_pre {a : Addr} (h : Own σ Γ a) : Own (σ ++ τ) (Γ ++ Δ) a := by
  obtain ⟨i, c, h1, h2⟩ := h
  exact ⟨i, c, pre_get h1, pre_get h2⟩
/-- the frame goes on, the fields stay -/
theorem env_ext (E : Env K B H (σ ++ τ) (Γ ++ Δ)) (hl : σ.length = Γ.length) (g : GoS K pin σ B H Γ σ' B' H' Γ') : Env K B' H' (σ' ++ τ) (Γ' ++ Δ) := by
  have hl' := g.env.len
  have hL : τ.length = Δ.length := by have := E.len; rw [List.length_append, List.length_append] at this; omega
  -- a cell of a field
  have cell : ∀ {i : Nat} {c : Cn}, Δ[i]? = some (.cel c) → ∃ l o, τ[i]? = some (some (.ref l)) ∧ H l = some o ∧ B l = none ∧ CnIs K B o c ∧ ¬ Own σ Γ l := fun {i c} h => by
    have h1 : (Γ ++ Δ)[Γ.length + i]? = some (.cel c) := by rw [List.getElem?_append_right (by omega), Nat.add_sub_cancel_left]; exact h
    obtain ⟨l, o, e1, e2, e3, e4⟩ := E.cel _ c h1
    have e1' : τ[i]? = some (some (.ref l)) := by rw [List.getElem?_append_right (by omega)] at e1; rw [← e1]; congr 1; omega
    refine ⟨l, o, e1', e2, e3, e4, fun ⟨j, d, q1, q2⟩ => ?_⟩
    have hj := (List.getElem?_eq_some_iff.mp q1).1
    have := E.sep j (Γ.length + i) d c l (pre_get q1) h1 (pre_get q2) e1
    omega
  refine ⟨by rw [List.length_append, List.length_append, hl', hL], g.env.bh, fun i d h => ?_, fun i c h => ?_, fun i j c d l h1 h2 h3 h4 => ?_⟩
  · rcases app_get h with h | ⟨hi, h⟩
    · obtain ⟨v, e1, e2⟩ := g.env.val i d h
      exact ⟨v, pre_get e1, e2⟩
    · have h1 : (Γ ++ Δ)[Γ.length + (i - Γ'.length)]? = some (.val d) := by rw [List.getElem?_append_right (by omega), Nat.add_sub_cancel_left]; exact h
      obtain ⟨v, e1, e2⟩ := E.val _ d h1
      refine ⟨v, ?_, e2.mono g.mv.bb⟩
      rw [List.getElem?_append_right (by omega)] at e1
      rw [List.getElem?_append_right (by omega), ← e1]; congr 1; omega
  · rcases app_get h with h | ⟨hi, h⟩
    · obtain ⟨l, o, e1, e2⟩ := g.env.cel i c h
      exact ⟨l, o, pre_get e1, e2⟩
    · obtain ⟨l, o, e1, e2, e3, e4, e5⟩ := cell h
      refine ⟨l, o, ?_, g.mv.kp l o e5 e2, g.mv.off l e5 (by rw [e2]; exact fun z => nomatch z) e3, e4.mono g.mv.bb⟩
      rw [List.getElem?_append_right (by omega), hl']; exact e1
  · have mix : ∀ {i j : Nat} {c d : Cn}, Γ'[i]? = some (.cel c) → Δ[j - Γ'.length]? = some (.cel d) → Γ'.length ≤ j → (σ' ++ τ)[i]? = some (some (.ref l)) → (σ' ++ τ)[j]? = some (some (.ref l)) → False := fun {i j c d} h1 h2 hj h3 h4 => by
      have hi := (List.getElem?_eq_some_iff.mp h1).1
      rw [List.getElem?_append_left (by omega)] at h3
      rw [List.getElem?_append_right (by omega), hl'] at h4
      obtain ⟨l', o, e1, e2, e3, e4, e5⟩ := cell h2
      rw [h4] at e1; cases e1
      rcases g.new l ⟨i, c, h1, h3⟩ with z | z
      · exact e5 z
      · rw [z] at e2; cases e2
    rcases app_get h1 with a1 | ⟨i1, a1⟩
    · rcases app_get h2 with a2 | ⟨i2, a2⟩
      · have b1 := (List.getElem?_eq_some_iff.mp a1).1
        have b2 := (List.getElem?_eq_some_iff.mp a2).1
        rw [List.getElem?_append_left (by omega)] at h3 h4
        exact g.env.sep i j c d l a1 a2 h3 h4
      · exact (mix a1 a2 i2 h3 h4).elim
    · rcases app_get h2 with a2 | ⟨i2, a2⟩
      · exact (mix a2 a1 i1 h4 h3).elim
      · have c1 : (Γ ++ Δ)[Γ.length + (i - Γ'.length)]? = some (.cel c) := by rw [List.getElem?_append_right (by omega), Nat.add_sub_cancel_left]; exact a1
        have c2 : (Γ ++ Δ)[Γ.length + (j - Γ'.length)]? = some (.cel d) := by rw [List.getElem?_append_right (by omega), Nat.add_sub_cancel_left]; exact a2
        rw [List.getElem?_append_right (by omega)] at h3 h4
        have d1 : (σ ++ τ)[Γ.length + (i - Γ'.length)]? = some (some (.ref l)) := by rw [List.getElem?_append_right (by omega), ← h3]; congr 1; omega
        have d2 : (σ ++ τ)[Γ.length + (j - Γ'.length)]? = some (some (.ref l)) := by rw [List.getElem?_append_right (by omega), ← h4]; congr 1; omega
        have := E.sep _ _ c d l c1 c2 d1 d2
        omega
theorem env_un (E : Env K B H σ Γ) : Env K B H (σ ++ [none]) (Γ ++ [.un]) := by
  have up : ∀ {i : Nat} {s : Sl}, (Γ ++ [.un])[i]? = some s → s ≠ .un → Γ[i]? = some s := fun {i s} h hs => by
    rcases app_get h with h | ⟨hi, h⟩
    · exact h
    · cases q : i - Γ.length with
      | zero => rw [q] at h; cases h; exact absurd rfl hs
      | succ j => rw [q] at h; simp at h
  have dn : ∀ {i : Nat} {s : Sl} {x : Option V}, Γ[i]? = some s → (σ ++ [none])[i]? = some x → σ[i]? = some x := fun {i s x} h e => by
    have := (List.getElem?_eq_some_iff.mp h).1
    rw [List.getElem?_append_left (by rw [E.len]; exact this)] at e; exact e
  refine ⟨by rw [List.length_append, List.length_append, E.len]; rfl, E.bh, fun i d h => ?_, fun i c h => ?_, fun i j c d l h1 h2 h3 h4 => ?_⟩
  · obtain ⟨v, e1, e2⟩ := E.val i d (up h (fun z => nomatch z))
    exact ⟨v, pre_get e1, e2⟩
  · obtain ⟨l, o, e1, e2⟩ := E.cel i c (up h (fun z => nomatch z))
    exact ⟨l, o, pre_get e1, e2⟩
  · have a1 := up h1 (fun z => nomatch z)
    have a2 := up h2 (fun z => nomatch z)
    exact E.sep i j c d l a1 a2 (dn a1 h3) (dn a2 h4)
end
structure Mj (K : PySem.W.Frag) (C x dx : Addr) (σ τ : L2.St) (B H : Hp) (Γ Δ : List Sl) (ns : List Str) : Prop where
  len : σ.length = Γ.length
  env : Env K B H (σ ++ τ) (Γ ++ Δ)
  sl : σ[0]? = some (some (.ref x))
  un : Γ[0]? = some .un
  no : ¬ Own (σ ++ τ) (Γ ++ Δ) x
  fs : ∃ vs : List V, τ = vs.map some ∧ H x = some (.ins C dx (ns.zip vs)) ∧ vs.length = ns.length
  bx : B x = none
structure GoJ (K : PySem.W.Frag) (C x dx : Addr) (σ τ : L2.St) (B H : Hp) (Γ Δ : List Sl) (σ' τ' : L2.St) (B' H' : Hp) (Γ' Δ' : List Sl) (ns' : List Str) : Prop where
  mv : Mv (fun a => Own (σ ++ τ) (Γ ++ Δ) a ∨ a = x) B H B' H'
  new : ∀ a, Own (σ' ++ τ') (Γ' ++ Δ') a → Own (σ ++ τ) (Γ ++ Δ) a ∨ H a = none
  mg : Mj K C x dx σ' τ' B' H' Γ' Δ' ns'
section
variable {K : PySem.W.Frag} {C x dx : Addr} {σ τ σ1 τ1 σ2 τ2 : L2.St} {B H B1 H1 B2 H2 : Hp} {Γ Δ Γ1 Δ1 Γ2 Δ2 : List Sl} {ns ns1 ns2 : List Str} {pin : List Nat}
theorem Mj.hx (M : Mj K C x dx σ τ B H Γ Δ ns) : H x ≠ none := by
  obtain ⟨vs, _, h, _⟩ := M.fs
  rw [h]; exact fun z => nomatch z
theorem GoJ.trans (a : GoJ K C x dx σ τ B H Γ Δ σ1 τ1 B1 H1 Γ1 Δ1 ns1) (b : GoJ K C x dx σ1 τ1 B1 H1 Γ1 Δ1 σ2 τ2 B2 H2 Γ2 Δ2 ns2) : GoJ K C x dx σ τ B H Γ Δ σ2 τ2 B2 H2 Γ2 Δ2 ns2 :=
  ⟨a.mv.trans (fun c hc => hc.elim (fun h => (a.new c h).imp .inl id) fun h => .inl (.inr h)) b.mv, fun c h => (b.new c h).elim (fun z => a.new c z) fun z => (a.mv.back z).elim (fun q => q.elim .inl fun e => by
    subst e
    exact absurd z a.mg.hx) .inr, b.mg⟩
theorem GoJ.refl (M : Mj K C x dx σ τ B H Γ Δ ns) : GoJ K C x dx σ τ B H Γ Δ σ τ B H Γ Δ ns := ⟨Mv.refl _ _ _, fun _ h => .inl h, M⟩
/-- a step of the frame -/
theorem GoJ.of (M : Mj K C x dx σ τ B H Γ Δ ns) (g : GoS K pin σ B H Γ σ1 B1 H1 Γ1) (hp : 0 ∈ pin) (hu : Γ1[0]? = some .un) : GoJ K C x dx σ τ B H Γ Δ σ1 τ B1 H1 Γ1 Δ ns := by
  have no : ¬ Own σ Γ x := fun z => M.no (own_pre z)
  have hL : τ.length = Δ.length := by have := M.env.len; rw [List.length_append, List.length_append] at this; have := M.len; omega
  have new : ∀ a, Own (σ1 ++ τ) (Γ1 ++ Δ) a → Own (σ ++ τ) (Γ ++ Δ) a ∨ H a = none := fun a ⟨i, c, h1, h2⟩ => by
    have hl1 := g.env.len
    rcases app_get h1 with h1 | ⟨hi, h1⟩
    · have := (List.getElem?_eq_some_iff.mp h1).1
      rw [List.getElem?_append_left (by omega)] at h2
      exact (g.new a ⟨i, c, h1, h2⟩).imp own_pre id
    · rw [List.getElem?_append_right (by omega), hl1] at h2
      refine .inl ⟨Γ.length + (i - Γ1.length), c, ?_, ?_⟩
      · rw [List.getElem?_append_right (by omega), Nat.add_sub_cancel_left]; exact h1
      · rw [List.getElem?_append_right (by have := M.len; omega), ← h2]; congr 1; have := M.len; omega
  obtain ⟨vs, e1, e2, e3⟩ := M.fs
  refine ⟨⟨fun a o na e => g.mv.kp a o (fun z => na (.inl (own_pre z))) e, g.mv.bb, fun a na ha hb => g.mv.off a (fun z => na (.inl (own_pre z))) ha hb⟩, new, ⟨g.env.len, env_ext M.env M.len g, ?_, hu, fun z => ?_, ⟨vs, e1, g.mv.kp x _ no e2, e3⟩, g.mv.off x no M.hx M.bx⟩⟩
  · rw [g.pin 0 hp]; exact M.sl
  · rcases new x z with z | z
    · exact M.no z
    · exact M.hx z
/-- a field's list is changed -/
theorem GoJ.put (M : Mj K C x dx σ τ B H Γ Δ ns) {j : Nat} {ds es : List Dt} {l : Addr} {ys : List V} (h : Δ[j]? = some (.acc ds)) (hl : τ[j]? = some (some (.ref l))) (ha : IsA K B ys es) :
    GoJ K C x dx σ τ B H Γ Δ σ τ B (upd H l (.lst ys)) Γ (Δ.set j (.acc es)) ns := by
  have h' : (Γ ++ Δ)[Γ.length + j]? = some (.acc ds) := by rw [List.getElem?_append_right (by omega), Nat.add_sub_cancel_left]; exact h
  have hl' : (σ ++ τ)[Γ.length + j]? = some (some (.ref l)) := by rw [List.getElem?_append_right (by have := M.len; omega), M.len, Nat.add_sub_cancel_left]; exact hl
  have g := Go.put M.env h' hl' ha
  have es' : (Γ ++ Δ).set (Γ.length + j) (.acc es) = Γ ++ Δ.set j (.acc es) := by
    rw [List.set_append_right _ _ (by omega), Nat.add_sub_cancel_left]
  rw [es'] at g
  have own : Own (σ ++ τ) (Γ ++ Δ) l := ⟨_, _, h', hl'⟩
  have nx : x ≠ l := fun z => by subst z; exact M.no own
  obtain ⟨vs, e1, e2, e3⟩ := M.fs
  exact ⟨⟨fun a o na e => g.mv.kp a o (fun z => na (.inl z)) e, g.mv.bb, fun a na ha hb => g.mv.off a (fun z => na (.inl z)) ha hb⟩, fun a z => .inl (g.sub a z), ⟨M.len, g.env, M.sl, M.un, fun z => M.no (g.sub x z), ⟨vs, e1, by rw [upd_ne nx]; exact e2, e3⟩, M.bx⟩⟩
theorem zip_get {ns : List Str} {vs : List V} {f : Str} {j : Nat} {v : V} (hj : ns[j]? = some f) (hn : ∀ i, i < j → ∀ g, ns[i]? = some g → ¬ f = g) (hv : vs[j]? = some v) : (ns.zip vs).lookup f = some v := by
  induction ns generalizing vs j with
  | nil => simp at hj
  | cons n r ih =>
    cases vs with
    | nil => simp at hv
    | cons u us =>
      cases j with
      | zero =>
        simp at hj hv; subst hj hv
        have hb : (n == n) = true := beq_iff_eq.mpr rfl
        simp only [List.zip_cons_cons, List.lookup, hb]
      | succ j =>
        have hne := hn 0 (by omega) n rfl
        have hb : (f == n) = false := beq_eq_false_iff_ne.mpr hne
        simp only [List.zip_cons_cons, List.lookup, hb]
        exact ih (by simpa using hj) (fun i hi g hg => hn (i + 1) (by omega) g (by simpa using hg)) (by simpa using hv)
theorem putF_zip {f : Str} {v : V} : ∀ {ns : List Str} {vs : List V}, ns.length = vs.length → (∀ g ∈ ns, ¬ g = f) → putF f v (ns.zip vs) = (ns ++ [f]).zip (vs ++ [v])
  | [], [], _, _ => rfl
  | [], _ :: _, h, _ => by simp at h
  | _ :: _, [], h, _ => by simp at h
  | n :: r, u :: us, h, hn => by
    show putF f v ((n, u) :: r.zip us) = _
    unfold putF
    rw [if_neg (hn n List.mem_cons_self), putF_zip (by simpa using h) fun g hg => hn g (List.mem_cons_of_mem _ hg)]
    rfl
end
def WJ (K : PySem.W.Frag) (C : Addr) (t : TS) (Γ Δ : List Sl) (ns : List Str) (P : List Sl → List Sl → List Str → Prop) : Prop := ∀ σ τ B H (D : Ends) x dx, Mj K C x dx σ τ B H Γ Δ ns →
  (∀ σ' τ' B' H' Γ' Δ' ns', GoJ K C x dx σ τ B H Γ Δ σ' τ' B' H' Γ' Δ' ns' → P Γ' Δ' ns' → D.nx σ' H') → t D σ H
section
variable {K : PySem.W.Frag} {C : Addr} {Γ Δ : List Sl} {ns : List Str} {P : List Sl → List Sl → List Str → Prop} {t u tb : TS} {te : TE} {g : TG}
theorem wj_seq (h : WJ K C t Γ Δ ns fun G D n => WJ K C u G D n P) : WJ K C (tSeq t u) Γ Δ ns P := fun σ τ B H D x dx M n =>
  h σ τ B H { D with nx := u D } x dx M fun σ1 τ1 B1 H1 Γ1 Δ1 ns1 g p => p σ1 τ1 B1 H1 D x dx g.mg fun σ2 τ2 B2 H2 Γ2 Δ2 ns2 g2 p2 => n σ2 τ2 B2 H2 Γ2 Δ2 ns2 (g.trans g2) p2
/-- self.f = e, a new field: data, or a new list that goes on being owned -/
theorem wj_set {f : Str} (cl : Cls K C) (na : NoAttr K C f) (hn : ∀ g ∈ ns, ¬ g = f) (hz : ns.length < 900)
    (h : WE K te Γ fun r Γ1 => Γ1[0]? = some .un ∧ ((∃ d, r = .val d ∧ P Γ1 (Δ ++ [.val d]) (ns ++ [f])) ∨ ∃ c, r = .nw c ∧ P Γ1 (Δ ++ [.cel c]) (ns ++ [f]))) : WJ K C (sFld K (tVar 0) te f) Γ Δ ns P := fun σ τ B H D x dx M n => by
  refine h σ B H (env_pre M.env M.len) _ fun y B1 H1 r Γ1 g k p => ?_
  obtain ⟨h0, p⟩ := p
  have G := GoJ.of (pin := [0]) M g.s (by simp) h0
  obtain ⟨vs, e1, e2, e3⟩ := G.mg.fs
  have hxn := G.mg.hx
  refine ⟨.ref x, M.sl, x, C, dx, _, rfl, e2, cl, na, by rw [List.length_zip, e3, Nat.min_self]; omega, ?_⟩
  rw [putF_zip (by omega) hn]
  -- the slot of the new field
  have E1 := env_un G.mg.env
  have hlen : (Γ1 ++ Δ).length < ((Γ1 ++ Δ) ++ [Sl.un]).length := by rw [List.length_append (as := Γ1 ++ Δ)]; simp
  have sset : ∀ {α : Type} (a : List α) (u v : α), (a ++ [u]).set a.length v = a ++ [v] := fun a u v => by rw [List.set_append_right _ _ (Nat.le_refl _), Nat.sub_self]; rfl
  have lenE : (σ ++ τ).length = (Γ1 ++ Δ).length := G.mg.env.len
  -- the instance is changed beside all that
  have upE : ∀ {σ2 Γ2 B2}, Env K B2 H1 σ2 Γ2 → B2 x = none → ¬ Own σ2 Γ2 x → Env K B2 (upd H1 x (.ins C dx ((ns ++ [f]).zip (vs ++ [y])))) σ2 Γ2 := fun {σ2 Γ2 B2} E bx nx => by
    refine ⟨E.len, fun a o e => ?_, E.val, fun i es hi => ?_, E.sep⟩
    · have : a ≠ x := fun z => by subst z; rw [bx] at e; cases e
      rw [upd_ne this]; exact E.bh a o e
    · obtain ⟨l, o, q1, q2, q3⟩ := E.cel i es hi
      have : l ≠ x := fun z => nx (by subst z; exact ⟨i, es, hi, q1⟩)
      exact ⟨l, o, q1, by rw [upd_ne this]; exact q2, q3⟩
  have fin : ∀ (s : Sl), Env K B1 H1 ((σ ++ τ) ++ [some y]) ((Γ1 ++ Δ) ++ [s]) → ¬ Own ((σ ++ τ) ++ [some y]) ((Γ1 ++ Δ) ++ [s]) x → (∀ a, Own ((σ ++ τ) ++ [some y]) ((Γ1 ++ Δ) ++ [s]) a → Own (σ ++ τ) (Γ ++ Δ) a ∨ H a = none) → P Γ1 (Δ ++ [s]) (ns ++ [f]) → D.nx σ (upd H1 x (.ins C dx ((ns ++ [f]).zip (vs ++ [y])))) := fun s E2 no2 new2 p => by
    have E3 := upE E2 G.mg.bx no2
    rw [List.append_assoc, List.append_assoc] at E3 no2
    simp only [List.append_assoc] at new2
    refine n σ (τ ++ [some y]) B1 _ Γ1 (Δ ++ [s]) (ns ++ [f]) ⟨⟨fun a o na' e => ?_, G.mv.bb, fun a na' ha hb => G.mv.off a na' ha hb⟩, new2, ⟨G.mg.len, E3, M.sl, h0, no2, ⟨vs ++ [y], by rw [e1, List.map_append]; rfl, upd_same, by rw [List.length_append, List.length_append, e3]; rfl⟩, G.mg.bx⟩⟩ p
    have h2 : a ≠ x := fun z => na' (.inr z)
    rw [upd_ne h2]; exact G.mv.kp a o na' e
  rcases p with ⟨d, rfl, p⟩ | ⟨c, rfl, p⟩
  · have E2 := E1.setV (i := (Γ1 ++ Δ).length) (d := d) (v := y) hlen k
    rw [sset, ← lenE, sset] at E2
    have sub : ∀ a, Own ((σ ++ τ) ++ [some y]) ((Γ1 ++ Δ) ++ [.val d]) a → Own (σ ++ τ) (Γ1 ++ Δ) a := fun a ⟨i, c, h1, h2⟩ => by
      rcases app_get h1 with q | ⟨hi, q⟩
      · have := (List.getElem?_eq_some_iff.mp q).1
        rw [List.getElem?_append_left (by omega)] at h2
        exact ⟨i, c, q, h2⟩
      · cases hq : i - (Γ1 ++ Δ).length with
        | zero => rw [hq] at q; cases q
        | succ m => rw [hq] at q; simp at q
    exact fin _ E2 (fun z => G.mg.no (sub x z)) (fun a z => G.new a (sub a z)) p
  · obtain ⟨l, o, rfl, k1, k2, k3, k4, k5⟩ := k
    have nol : ¬ Own (σ ++ τ) (Γ1 ++ Δ) l := fun ⟨i, cc, h1, h2⟩ => by
      rcases app_get h1 with q | ⟨hi, q⟩
      · have := (List.getElem?_eq_some_iff.mp q).1
        rw [List.getElem?_append_left (by have := G.mg.len; omega)] at h2
        exact k2 ⟨i, cc, q, h2⟩
      · -- a field's cell is neither of the frame's nor new
        have hln := G.mg.len
        rw [List.getElem?_append_right (by omega)] at h2
        have c1 : (Γ ++ Δ)[Γ.length + (i - Γ1.length)]? = some (.cel cc) := by rw [List.getElem?_append_right (by omega), Nat.add_sub_cancel_left]; exact q
        have c2 : (σ ++ τ)[Γ.length + (i - Γ1.length)]? = some (some (.ref l)) := by rw [List.getElem?_append_right (by have := M.len; omega), ← h2]; congr 1; have := M.len; omega
        rcases k1 with k1 | k1
        · obtain ⟨m, dd, m1, m2⟩ := k1
          have hm := (List.getElem?_eq_some_iff.mp m1).1
          have := M.env.sep m _ dd cc l (pre_get m1) c1 (pre_get m2) c2
          omega
        · obtain ⟨l', o', f1, f2, _⟩ := M.env.cel _ cc c1
          rw [c2] at f1; cases f1
          rw [k1] at f2; cases f2
    have E2 := E1.setA (i := (Γ1 ++ Δ).length) (l := l) (vs := o) (ds := c) hlen (fun z => nol (by
      obtain ⟨i, cc, h1, h2⟩ := z
      rcases app_get h1 with q | ⟨hi, q⟩
      · have := (List.getElem?_eq_some_iff.mp q).1
        rw [List.getElem?_append_left (by omega)] at h2
        exact ⟨i, cc, q, h2⟩
      · cases hq : i - (Γ1 ++ Δ).length with
        | zero => rw [hq] at q; cases q
        | succ m => rw [hq] at q; simp at q)) k3 k4 k5
    rw [sset, ← lenE, sset] at E2
    have sub : ∀ a, Own ((σ ++ τ) ++ [some (V.ref l)]) ((Γ1 ++ Δ) ++ [.cel c]) a → Own (σ ++ τ) (Γ1 ++ Δ) a ∨ a = l := fun a ⟨i, cc, h1, h2⟩ => by
      rcases app_get h1 with q | ⟨hi, q⟩
      · have := (List.getElem?_eq_some_iff.mp q).1
        rw [List.getElem?_append_left (by omega)] at h2
        exact .inl ⟨i, cc, q, h2⟩
      · cases hq : i - (Γ1 ++ Δ).length with
        | zero =>
          rw [List.getElem?_append_right (by omega), lenE, hq] at h2
          cases h2; exact .inr rfl
        | succ m => rw [hq] at q; simp at q
    refine fin _ E2 (fun z => ?_) (fun a z => ?_) p
    · rcases sub x z with z | z
      · exact G.mg.no z
      · subst z
        obtain ⟨vs', _, q, _⟩ := G.mg.fs
        rw [q] at k3; cases k3
        cases c <;> (obtain ⟨_, z, _⟩ := k5; cases z)
    · rcases sub a z with z | z
      · exact G.new a z
      · subst z
        exact k1.imp own_pre id
end
/-- expressions that may read the fields; what comes is data -/
def WEJ (K : PySem.W.Frag) (C : Addr) (te : TE) (Γ Δ : List Sl) (ns : List Str) (Post : Dt → List Sl → Prop) : Prop := ∀ σ τ B H x dx, Mj K C x dx σ τ B H Γ Δ ns →
  ∀ Q : VK, (∀ v B' H' d Γ', GoJ K C x dx σ τ B H Γ Δ σ τ B' H' Γ' Δ ns → Is K B' v d → Post d Γ' → Q v H') → te σ H Q
section
variable {K : PySem.W.Frag} {C : Addr} {Γ Δ : List Sl} {ns : List Str} {P : List Sl → List Sl → List Str → Prop} {Post : Dt → List Sl → Prop} {t u tb : TS} {te ta tb' : TE} {g : TG} {f : Str} {j : Nat}
theorem wej_we (h : WE K te Γ fun r Γ1 => ∃ d, r = .val d ∧ Γ1[0]? = some .un ∧ Post d Γ1) : WEJ K C te Γ Δ ns Post := fun σ τ B H x dx M Q q => by
  refine h σ B H (env_pre M.env M.len) Q fun v B' H' r Γ' g k p => ?_
  obtain ⟨d, rfl, h0, p⟩ := p
  exact q v B' H' d Γ' (GoJ.of (pin := [0]) M g.s (by simp) h0) k p
/-- where a field's list stands -/
theorem Mj.cell {x dx : Addr} {σ τ : L2.St} {B H : Hp} {ds : List Dt} (M : Mj K C x dx σ τ B H Γ Δ ns) (hf : ns[j]? = some f) (hn : ∀ i, i < j → ∀ g, ns[i]? = some g → ¬ f = g) (h : Δ[j]? = some (.acc ds)) :
    ∃ l vs fs, τ[j]? = some (some (.ref l)) ∧ H l = some (.lst vs) ∧ IsA K B vs ds ∧ H x = some (.ins C dx fs) ∧ fs.lookup f = some (.ref l) := by
  have h' : (Γ ++ Δ)[Γ.length + j]? = some (.acc ds) := by rw [List.getElem?_append_right (by omega), Nat.add_sub_cancel_left]; exact h
  obtain ⟨l, vs, e1, e2, e3, e4⟩ := M.env.acc _ _ h'
  rw [List.getElem?_append_right (by have := M.len; omega), M.len, Nat.add_sub_cancel_left] at e1
  obtain ⟨us, f1, f2, f3⟩ := M.fs
  have hu : us[j]? = some (.ref l) := by
    rw [f1, List.getElem?_map] at e1
    cases q : us[j]? with
    | none => rw [q] at e1; cases e1
    | some u => rw [q] at e1; cases e1; rfl
  exact ⟨l, vs, _, e1, e2, e4, f2, zip_get hf hn hu⟩
/-- self.f[-1] -/
theorem wej_last {ds : List Dt} {d : Dt} (cl : Cls K C) (na : NoAttr K C f) (hf : ns[j]? = some f) (hn : ∀ i, i < j → ∀ g, ns[i]? = some g → ¬ f = g) (h : Δ[j]? = some (.acc ds)) (hd : atI ds (-1) = some d) (p : Post d Γ) :
    WEJ K C (tOp (rIx K) (tFld K (tVar 0) f) (tUn rNegI (tC (.int 1)))) Γ Δ ns Post := fun σ τ B H x dx M Q q => by
  obtain ⟨l, vs, fs, e1, e2, e3, e4, e5⟩ := M.cell hf hn h
  obtain ⟨v, hv, hi⟩ := e3.atI hd
  refine ⟨.ref x, M.sl, x, C, dx, fs, .ref l, rfl, e4, cl, na, e5, 1, rfl, ?_⟩
  exact .inl ⟨l, vs, -1, v, rfl, rfl, .inl (.inl e2), hv, q v B H d Γ (.refl M) hi p⟩
theorem wej_add (h : WEJ K C ta Γ Δ ns fun a Γ1 => ∃ i, a = .int i ∧ WEJ K C tb' Γ1 Δ ns fun b Γ2 => ∃ k, b = .int k ∧ Post (.int (i + k)) Γ2) : WEJ K C (tOp (rAddG K) ta tb') Γ Δ ns Post := fun σ τ B H x dx M Q q => by
  refine h σ τ B H x dx M _ fun v B1 H1 d Γ1 g1 k1 ⟨i, e, h1⟩ => ?_
  subst e
  refine h1 σ τ B1 H1 x dx g1.mg _ fun w B2 H2 d2 Γ2 g2 k2 ⟨k, e, p⟩ => ?_
  subst e
  cases Is.rawI k1; cases Is.rawI k2
  exact .inl ⟨i, k, rfl, rfl, q _ B2 H2 _ Γ2 (g1.trans g2) (.raw _) p⟩
/-- self.f.append(e) -/
theorem wj_app {ds0 : List Dt} (cl : Cls K C) (na : NoAttr K C f) (hf : ns[j]? = some f) (hn : ∀ i, i < j → ∀ g, ns[i]? = some g → ¬ f = g) (h0 : Δ[j]? = some (.acc ds0)) (hz : ds0.length < 1000000)
    (h : WEJ K C te Γ Δ ns fun d Γ1 => P Γ1 (Δ.set j (.acc (ds0 ++ [d]))) ns) : WJ K C (tDrop (tBM K "list" rAppend (tFld K (tVar 0) f) (tCons te tNil))) Γ Δ ns P := fun σ τ B H D x dx M n => by
  obtain ⟨l, vs, fs, e1, e2, e3, e4, e5⟩ := M.cell hf hn h0
  refine ⟨.ref x, M.sl, x, C, dx, fs, .ref l, rfl, e4, cl, na, e5, .inl ⟨rfl, vs, .inl (.inl e2)⟩, ?_⟩
  refine h σ τ B H x dx M _ fun v B1 H1 d Γ1 g1 k1 p => ?_
  obtain ⟨l', us, fs', f1, f2, f3, f4, f5⟩ := g1.mg.cell hf hn h0
  rw [e1] at f1; cases f1
  refine ⟨l, us, v, rfl, rfl, f2, Nat.lt_trans (by rw [f3.len]; exact hz) (by decide), ?_⟩
  exact n σ τ B1 _ Γ1 _ ns (g1.trans (GoJ.put g1.mg h0 e1 (f3.snoc k1))) p
/-- self.f.extend(e) -/
theorem wj_ext {ds0 : List Dt} (cl : Cls K C) (na : NoAttr K C f) (hf : ns[j]? = some f) (hn : ∀ i, i < j → ∀ g, ns[i]? = some g → ¬ f = g) (h0 : Δ[j]? = some (.acc ds0))
    (h : WE K te Γ fun z Γ1 => ∃ es, lstOf Γ1 z = some es ∧ z.isScr = false ∧ Γ1[0]? = some .un ∧ ds0.length + es.length ≤ 1000000 ∧ P Γ1 (Δ.set j (.acc (ds0 ++ es))) ns) : WJ K C (tDrop (tBM K "list" rExtend (tFld K (tVar 0) f) (tCons te tNil))) Γ Δ ns P := fun σ τ B H D x dx M n => by
  obtain ⟨l, vs, fs, e1, e2, e3, e4, e5⟩ := M.cell hf hn h0
  refine ⟨.ref x, M.sl, x, C, dx, fs, .ref l, rfl, e4, cl, na, e5, .inl ⟨rfl, vs, .inl (.inl e2)⟩, ?_⟩
  refine h σ B H (env_pre M.env M.len) _ fun y B1 H1 z Γ1 g k p => ?_
  obtain ⟨es, hl, hs, hu, hz, p⟩ := p
  have G := GoJ.of (pin := [0]) M g.s (by simp) hu
  obtain ⟨l', us, fs', f1, f2, f3, f4, f5⟩ := G.mg.cell hf hn h0
  rw [e1] at f1; cases f1
  obtain ⟨b, zs, rfl, hb, kz⟩ := rv_lstH g.env k.rv hl hs
  refine ⟨l, b, us, zs, rfl, rfl, f2, hb, Nat.le_trans (by rw [f3.len, kz.len]; exact hz) (by decide), ?_⟩
  exact n σ τ B1 _ Γ1 _ ns (G.trans (GoJ.put G.mg h0 e1 (f3.append kz))) p
/-- a statement beside the instance -/
theorem wj_ws (h : WS K [0] t Γ ⟨fun G => G[0]? = some .un ∧ P G Δ ns, fun _ _ => False, fun _ => False, fun _ => False, .no⟩) : WJ K C t Γ Δ ns P := fun σ τ B H D x dx M n => by
  refine h σ B H D (env_pre M.env M.len) (fun σ' B' H' Γ' g p => ?_) (fun _ _ _ _ _ _ _ _ p => p.elim) (fun _ _ _ _ _ p => p.elim) (fun _ _ _ _ _ p => p.elim) (fun _ _ _ _ _ _ _ _ _ p => (show False from p).elim)
  exact n σ' τ B' H' Γ' Δ ns (GoJ.of M g List.mem_cons_self p.1) p.2
/-- over a tuple -/
theorem wj_forT (ds : List Dt) (Inv : Nat → List Sl → List Sl → List Str → Prop) (h : WE K te Γ fun z Γ1 => Hold (z = .val (.tup ds) ∧ Γ1[0]? = some .un ∧ Inv 0 Γ1 Δ ns))
    (turn : ∀ (i : Nat) d Γ' Δ' ns', ds[i]? = some d → Inv i Γ' Δ' ns' → WG K [0] g d Γ' fun Γ2 => Γ2[0]? = some .un ∧ WJ K C tb Γ2 Δ' ns' fun G D n => Hold (Inv (i + 1) G D n)) (done : ∀ G D n, Inv ds.length G D n → P G D n) :
    WJ K C (tFor (iTup K te) g tb) Γ Δ ns P := fun σ τ B H D x dx M n => by
  refine h σ B H (env_pre M.env M.len) _ fun v B1 H1 z Γ1 g1 k p => ?_
  obtain ⟨rfl, hu, i0⟩ := p.get
  have G := GoJ.of (pin := [0]) M g1.s (by simp) hu
  obtain ⟨a, xs, rfl, ha, hx⟩ := Is.tupR k
  refine ⟨a, rfl, ⟨xs, sqT_mono g1.env.bh ha⟩, for_tup (xs := xs) (fun i σ' H' => ∃ τ' B' Γ' Δ' ns', Same B1 B' ∧ GoJ K C x dx σ τ B H Γ Δ σ' τ' B' H' Γ' Δ' ns' ∧ Inv i Γ' Δ' ns') ⟨τ, B1, Γ1, Δ, ns, Same.refl _, G, i0⟩ ?_ ?_ ?_⟩
  · rintro i σ' H' _ ⟨τ', B', Γ', Δ', ns', sb, g2, _⟩
    exact sqT_mono (sb.trans g2.mg.env.bh) ha
  · rintro i y σ' H' hi ⟨τ', B', Γ', Δ', ns', sb, g2, inv⟩
    have hlt : i < ds.length := by rw [← hx.len]; exact (List.getElem?_eq_some_iff.mp hi).1
    refine turn i ds[i] Γ' Δ' ns' (List.getElem?_eq_getElem hlt) inv σ' B' H' y (env_pre g2.mg.env g2.mg.len) ((hx.at_ i y _ hi (List.getElem?_eq_getElem hlt)).mono sb) _ fun σ2 Γ2 g3 w => ?_
    have G3 := g2.trans (GoJ.of g2.mg g3 List.mem_cons_self w.1)
    exact w.2 σ2 τ' B' H' _ x dx G3.mg fun σ4 τ4 B4 H4 Γ4 Δ4 ns4 g4 p => ⟨τ4, B4, Γ4, Δ4, ns4, sb.trans g4.mv.bb, G3.trans g4, p.get⟩
  · rintro σ' H' ⟨τ', B', Γ', Δ', ns', sb, g2, inv⟩
    rw [hx.len] at inv
    exact n σ' τ' B' H' Γ' Δ' ns' g2 (done Γ' Δ' ns' inv)
/-- what the fields come to as data -/
def fdt : Sl → Dt
  | .val d => d
  | .cel c => c.dt
  | .un => .non
def frzS : Sl → Sl
  | .cel c => .val c.dt
  | s => s
end
/-- all become data -/
theorem go_frzN {K : PySem.W.Frag} {σ : L2.St} {B H : Hp} {G : List Sl} (E : Env K B H σ G) : ∀ n, n ≤ G.length → ∃ B', Go K σ B H G B' H ((G.take n).map frzS ++ G.drop n)
  | 0, _ => ⟨B, by rw [List.take_zero, List.drop_zero]; exact .refl E⟩
  | n + 1, h => by
    obtain ⟨B1, g⟩ := go_frzN E n (by omega)
    have hd : G.drop n = G[n] :: G.drop (n + 1) := List.drop_eq_getElem_cons (by omega)
    have ht : G.take (n + 1) = G.take n ++ [G[n]] := by rw [List.take_succ, List.getElem?_eq_getElem (by omega)]; rfl
    have hl : ((G.take n).map frzS).length = n := by rw [List.length_map, List.length_take]; omega
    have hat : ((G.take n).map frzS ++ G.drop n)[n]? = some G[n] := by
      rw [List.getElem?_append_right (by omega), hl, Nat.sub_self, hd]; rfl
    have hset : ∀ s, ((G.take n).map frzS ++ G.drop n).set n s = (G.take n).map frzS ++ (s :: G.drop (n + 1)) := fun s => by
      rw [List.set_append_right _ _ (by omega), hl, Nat.sub_self, hd]; rfl
    rw [ht, List.map_append, List.append_assoc]
    cases hs : G[n] with
    | cel c =>
      rw [hs] at hat
      obtain ⟨B2, g2⟩ := go_frz hat g.env
      rw [hset] at g2
      exact ⟨B2, g.trans g2⟩
    | val d => rw [hd, hs] at g; exact ⟨B1, g⟩
    | un => rw [hd, hs] at g; exact ⟨B1, g⟩
theorem zip_some {α β : Type} (f : Str) : ∀ {ns : List Str} {as : List α} {bs : List β}, as.length = ns.length → bs.length = ns.length → ((ns.zip as).lookup f).isSome = ((ns.zip bs).lookup f).isSome
  | [], _, _, _, _ => rfl
  | _ :: _, [], _, h, _ => by simp at h
  | _ :: _, _ :: _, [], _, h => by simp at h
  | n :: r, a :: as, b :: bs, h, h' => by
    simp only [List.zip_cons_cons, List.lookup]
    cases f == n with
    | true => rfl
    | false => exact zip_some f (by simpa using h) (by simpa using h')
theorem zip_both {α β : Type} (f : Str) : ∀ {ns : List Str} {as : List α} {bs : List β} {a : α} {b : β}, (ns.zip as).lookup f = some a → (ns.zip bs).lookup f = some b → ∃ i : Nat, as[i]? = some a ∧ bs[i]? = some b
  | [], _, _, _, _, h, _ => by simp [List.lookup] at h
  | _ :: _, [], _, _, _, h, _ => by simp [List.lookup] at h
  | _ :: _, _ :: _, [], _, _, _, h => by simp [List.lookup] at h
  | n :: r, a :: as, b :: bs, x, y, h, h' => by
    simp only [List.zip_cons_cons, List.lookup] at h h'
    cases hq : f == n with
    | true => rw [hq] at h h'; cases h; cases h'; exact ⟨0, rfl, rfl⟩
    | false =>
      rw [hq] at h h'
      obtain ⟨i, e1, e2⟩ := zip_both f h h'
      exact ⟨i + 1, e1, e2⟩
/-- __init__ by its run, fields that are owned while it is made -/
theorem fn_initJ {K : PySem.W.Frag} {C : Addr} {Pg : Program} {w : World} {mg : Str → Option Value} {base : Heap} {x qual : Str} {st : Stmt} {f : Addr} {fd : FuncData} {N ps : List Str} {k : Nat} {ai : AI} (F : Fun K x qual st f fd) (S : FnScope N ps (defScope st))
    (hlen : ∀ ds Post, ai ds Post → ds.length + 1 = ps.length) (hN : decide (ps.length ≤ N.length) = true)
    (body : ∀ (cdv : Value) (A : Around) (outer : List PySem.Env) (s : Shared) (H : Hp) (E : XK), Room k (A.deeper (PyProof.Rows.envOfC qual (defScope st) s.heap.objs.size f cdv)) →
      ∃ t, PSs (cxOf CX0 Pg w K mg base N qual (defScope st) f cdv A outer s H E).nox (defBody st) t ∧
        ∀ ds Post, ai ds Post → WJ K C t ((.un :: ds.map Sl.val) ++ List.replicate (N.length - (ds.length + 1)) .un) [] [] (fun _ D ns => (∀ s ∈ D, s ≠ .un) ∧ Post (ns.zip (D.map fdt)))) :
    FnOk Pg w K mg base CX0 (k + 1) f fd ps (toSpI K C ai) := by
  refine F.ok S (fun vs H Q E h => ?_) (fun cdv A outer s H vs Q E hr h => ?_)
  · obtain ⟨x, dx, ws, B, ds, Post, rfl, _, _, _, ha, hai, _⟩ := h
    rw [List.length_cons, ha.len]; exact hlen ds Post hai
  · obtain ⟨x, dx, ws, B, ds, Post, rfl, hx, bx, hbh, ha, hai, q⟩ := h
    obtain ⟨t, ht, hw⟩ := body cdv A outer s H E hr
    refine ⟨t, ht, ?_⟩
    have E1 : Env K B H ((V.ref x :: ws).map some) (.un :: ds.map Sl.val) := by
      have e := env_vals hbh ha
      refine ⟨by simp [ha.len], hbh, fun i d h => ?_, fun i es h => ?_, fun i j es fs l h1 h2 h3 h4 => ?_⟩
      · cases i with
        | zero => cases h
        | succ i => exact e.val i d (by simpa using h)
      · cases i with
        | zero => cases h
        | succ i => exact e.cel i es (by simpa using h)
      · cases i with
        | zero => cases h1
        | succ i =>
          cases j with
          | zero => cases h2
          | succ j => exact congrArg Nat.succ (e.sep i j es fs l (by simpa using h1) (by simpa using h2) (by simpa using h3) (by simpa using h4))
    have hps : (Sl.un :: ds.map Sl.val).length ≤ N.length := by
      rw [List.length_cons, List.length_map, hlen ds Post hai]; exact of_decide_eq_true hN
    have E0 := env_start E1 hps
    have no : ∀ a, ¬ Own (L2.start N (V.ref x :: ws)) ((Sl.un :: ds.map Sl.val) ++ List.replicate (N.length - (Sl.un :: ds.map Sl.val).length) .un) a := fun a z => by
      have := (own_start (N := N) (vs := V.ref x :: ws) (as := Sl.un :: ds.map Sl.val) (by simp [ha.len])).mp z
      obtain ⟨i, es, h1, h2⟩ := this
      cases i with
      | zero => cases h1
      | succ i =>
        have h1 : (ds.map Sl.val)[i]? = some (.cel es) := by simpa using h1
        rw [List.getElem?_map] at h1
        cases q : ds[i]? with
        | none => rw [q] at h1; cases h1
        | some d => rw [q] at h1; cases h1
    have hlN : (Sl.un :: ds.map Sl.val).length = ds.length + 1 := by rw [List.length_cons, List.length_map]
    rw [hlN] at E0 no
    have nn : ∀ {α : Type} (l : List α), l ++ [] = l := fun l => List.append_nil l
    refine hw ds Post hai (L2.start N (V.ref x :: ws)) [] B H _ x dx ⟨E0.len, by rw [nn, nn]; exact E0, rfl, rfl, by rw [nn, nn]; exact no x, ⟨[], rfl, hx, rfl⟩, bx⟩ fun σ' τ' B' H' Γ' Δ' ns' g p => ?_
    obtain ⟨hu, p⟩ := p
    obtain ⟨vs, e1, e2, e3⟩ := g.mg.fs
    obtain ⟨B2, g2⟩ := go_frzN g.mg.env (Γ' ++ Δ').length (Nat.le_refl _)
    rw [List.take_length, List.drop_length, nn, List.map_append] at g2
    have hL : τ'.length = Δ'.length := by have := g.mg.env.len; rw [List.length_append, List.length_append] at this; have := g.mg.len; omega
    have hV : vs.length = Δ'.length := by rw [← hL, e1, List.length_map]
    have no' : ∀ a, Own (L2.start N (V.ref x :: ws) ++ []) ((Sl.un :: ds.map Sl.val) ++ List.replicate (N.length - (ds.length + 1)) .un ++ []) a → False := fun a z => no a (by rw [nn, nn] at z; exact z)
    refine q B2 H' _ _ ⟨fun a o na e => g.mv.kp a o (fun z => z.elim (no' a) na) e, g.mv.bb.trans g2.mv.bb, fun a na ha hb => ?_⟩ g2.env.bh e2 (g2.mv.off x g.mg.no (by rw [e2]; exact fun z => nomatch z) g.mg.bx) ⟨?_, fun f => zip_some f e3 (by rw [List.length_map, ← hV, e3]), fun f v d h1 h2 => ?_⟩ p
    · have h' := g.mv.off a (fun z => z.elim (no' a) na) ha hb
      refine g2.mv.off a (fun z => ?_) (fun z => ?_) h'
      · rcases g.new a z with z | z
        · exact no' a z
        · exact ha z
      · cases q : H a with
        | none => exact ha q
        | some o => rw [g.mv.kp a o (fun z => z.elim (no' a) na) q] at z; cases z
    · rw [List.length_zip, List.length_zip, List.length_map, hV]
      exact Nat.le_refl _
    · obtain ⟨i, a1, a2⟩ := zip_both f h1 h2
      rw [List.getElem?_map] at a2
      cases hs : Δ'[i]? with
      | none => rw [hs] at a2; cases a2
      | some s =>
        rw [hs] at a2
        have hd : fdt s = d := by simpa using a2
        have hsu := hu s (List.mem_of_getElem? hs)
        have hat : (Γ'.map frzS ++ Δ'.map frzS)[Γ'.length + i]? = some (.val d) := by
          rw [List.getElem?_append_right (by rw [List.length_map]; omega), List.length_map, Nat.add_sub_cancel_left, List.getElem?_map, hs]
          cases s with
          | un => exact absurd rfl hsu
          | val e => rw [← hd]; rfl
          | cel c => rw [← hd]; rfl
        obtain ⟨u, q1, q2⟩ := g2.env.val _ d hat
        rw [List.getElem?_append_right (by have := g.mg.len; omega), g.mg.len, Nat.add_sub_cancel_left, e1, List.getElem?_map, a1] at q1
        cases q1
        exact q2
end Ab
namespace Ab
open PySem L2
/-- signs are code points -/
def CS (z : Str) : Prop := ∀ c ∈ z.cps.toList, c < 1114112
theorem CS.app {a b : Str} (ha : CS a) (hb : CS b) : CS (a ++ b) := fun c hc => by
  have e : (a ++ b).cps.toList = a.cps.toList ++ b.cps.toList := by show (a.cps ++ b.cps).toList = _; simp
  rw [e] at hc
  rcases List.mem_append.mp hc with h | h
  · exact ha c h
  · exact hb c h
theorem CS.cut {z : Str} (h : CS z) (lo hi : Option Int) : CS (cutS z lo hi) := fun c hc => by
  unfold cutS at hc
  exact h c (List.mem_of_mem_drop (List.mem_of_mem_take (by simpa using hc)))
theorem CS.nil : CS "" := fun c hc => by
  have : (("" : Str)).cps.toList = [] := by decide +kernel
  rw [this] at hc
  cases hc
theorem CS.join : ∀ {ys : List Str}, (∀ y ∈ ys, CS y) → CS (Txt.join "" ys)
  | [], _ => by rw [TL.join_eq]; exact fun c hc => nomatch hc
  | [x], h => by rw [TL.join_eq]; exact h x List.mem_cons_self
  | x :: y :: r, h => by
    have ih := CS.join (ys := y :: r) fun z hz => h z (List.mem_cons_of_mem _ hz)
    rw [TL.join_eq] at ih ⊢
    show CS (x ++ "" ++ Str.join "" (y :: r))
    exact ((h x List.mem_cons_self).app CS.nil).app ih
theorem CS.one {c : Nat} (h : c < 1114112) : CS ⟨#[c]⟩ := fun d hd => by
  rw [List.mem_singleton.mp (show d ∈ [c] from hd)]
  exact h
theorem at_str {z : Str} {k : Int} (h0 : 0 ≤ k) (h1 : k < z.length) : ∃ c, c ∈ z.cps.toList ∧ atI z.cps.toList k = some c := by
  have hl : k.toNat < z.cps.toList.length := by
    have : z.cps.toList.length = z.length := by rw [Array.length_toList]; rfl
    omega
  exact ⟨z.cps.toList[k.toNat], List.getElem_mem hl, atI_of (j := k.toNat) (by omega) (List.getElem?_eq_getElem hl)⟩
theorem join_len : ∀ (ys : List Str), (Txt.join "" ys).length = (ys.map (·.length)).sum
  | [] => by rw [TL.join_eq]; rfl
  | [x] => by rw [TL.join_eq]; show x.length = _; simp
  | x :: y :: r => by
    have ih := join_len (y :: r)
    rw [TL.join_eq] at ih ⊢
    show (x ++ "" ++ Str.join "" (y :: r)).length = _
    rw [PySem.Str.length_append, PySem.Str.length_append, ih]
    show x.length + 0 + _ = _
    simp
theorem ones_len {ys : List Str} (h : ∀ y ∈ ys, y.length = 1) : (ys.map (·.length)).sum = ys.length := by
  induction ys with
  | nil => rfl
  | cons x r ih =>
    rw [List.map_cons, List.sum_cons, ih fun y hy => h y (List.mem_cons_of_mem _ hy), h x List.mem_cons_self, List.length_cons]
    omega
theorem cutS_take {z : Str} {m : Nat} (h : m ≤ z.length) : (cutS z none (some (m : Int))).length = m := by
  have e : z.cps.toList.length = z.length := by rw [Array.length_toList]; rfl
  unfold cutS
  show (List.toArray _).size = m
  rw [HT.sIx_none, HT.sIx_nat, Nat.min_eq_left h, List.drop_zero, Nat.sub_zero, List.size_toArray, List.length_take, e, Nat.min_eq_left h]
theorem cutS_drop {z : Str} {m : Nat} (h : m ≤ z.length) : (cutS z (some (m : Int)) none).length = z.length - m := by
  have e : z.cps.toList.length = z.length := by rw [Array.length_toList]; rfl
  unfold cutS
  show (List.toArray _).size = _
  rw [HT.sIx_none, HT.sIx_nat, Nat.min_eq_left h, List.size_toArray, List.length_take, List.length_drop, e, Nat.min_self]
/-- small letters -/
def Az (z : Str) : Prop := ∀ c ∈ z.cps.toList, 97 ≤ c ∧ c ≤ 122
theorem Az.cs {z : Str} (h : Az z) : CS z := fun c hc => by have := h c hc; omega
theorem Az.app {a b : Str} (ha : Az a) (hb : Az b) : Az (a ++ b) := fun c hc => by
  have e : (a ++ b).cps.toList = a.cps.toList ++ b.cps.toList := by show (a.cps ++ b.cps).toList = _; simp
  rw [e] at hc
  rcases List.mem_append.mp hc with h | h
  · exact ha c h
  · exact hb c h
theorem Az.cut {z : Str} (h : Az z) (lo hi : Option Int) : Az (cutS z lo hi) := fun c hc => by
  unfold cutS at hc
  exact h c (List.mem_of_mem_drop (List.mem_of_mem_take (by simpa using hc)))
theorem Az.nil : Az "" := fun c hc => by
  have : (("" : Str)).cps.toList = [] := by decide +kernel
  rw [this] at hc
  cases hc
theorem join_all {Pc : Nat → Prop} : ∀ {ys : List Str}, (∀ y ∈ ys, ∀ c ∈ y.cps.toList, Pc c) → ∀ c ∈ (Txt.join "" ys).cps.toList, Pc c
  | [], _ => by rw [TL.join_eq]; exact fun c hc => nomatch hc
  | [x], h => by rw [TL.join_eq]; exact h x List.mem_cons_self
  | x :: y :: r, h => by
    have ih := join_all (ys := y :: r) fun z hz => h z (List.mem_cons_of_mem _ hz)
    rw [TL.join_eq] at ih ⊢
    show ∀ c ∈ (x ++ "" ++ Str.join "" (y :: r)).cps.toList, Pc c
    have e : (x ++ "" ++ Str.join "" (y :: r)).cps.toList = x.cps.toList ++ (Str.join "" (y :: r)).cps.toList := by show ((x.cps ++ #[]) ++ (Str.join "" (y :: r)).cps).toList = _; simp
    intro c hc
    rw [e] at hc
    rcases List.mem_append.mp hc with h1 | h1
    · exact h x List.mem_cons_self c h1
    · exact ih c h1
def signs : Str := " abcdefghijklmnopqrstuvwxyzABCDEFGHIJKLMNOPQRSTUVWXYZ0123456789.,;:!?'()|"
/-- signs of texts -/
def Tx (z : Str) : Prop := ∀ c ∈ z.cps.toList, c ∈ signs.cps.toList
theorem signs_cs : ∀ c ∈ signs.cps.toList, c < 1114112 := by decide +kernel
theorem Tx.cs {z : Str} (h : Tx z) : CS z := fun c hc => signs_cs c (h c hc)
end Ab
/-! types of data and of slots: what a draw comes to is told by its type -/
namespace Ab
open PySem L2
abbrev Ty := Dt → Prop
inductive TIs (e : Dt) : Ty where
  | mk : TIs e e
inductive TInt (lo hi : Int) : Ty where
  | mk {i : Int} (h0 : lo ≤ i) (h1 : i ≤ hi) : TInt lo hi (.int i)
inductive TBl : Ty where
  | mk {b : Bool} : TBl (.bl b)
/-- a text of n to m signs -/
inductive TStr (n m : Nat) : Ty where
  | mk {z : Str} (h0 : n ≤ z.length) (h1 : z.length ≤ m) : TStr n m (.str z)
/-- small letters, n to m of them -/
inductive TNm (n m : Nat) : Ty where
  | mk {z : Str} (h0 : n ≤ z.length) (h1 : z.length ≤ m) (ha : Az z) : TNm n m (.str z)
inductive T1 (A : Ty) : Ty where
  | mk {a : Dt} (ha : A a) : T1 A (.tup [a])
inductive T2 (A B : Ty) : Ty where
  | mk {a b : Dt} (ha : A a) (hb : B b) : T2 A B (.tup [a, b])
inductive T3 (A B C : Ty) : Ty where
  | mk {a b c : Dt} (ha : A a) (hb : B b) (hc : C c) : T3 A B C (.tup [a, b, c])
inductive T4 (A B C D : Ty) : Ty where
  | mk {a b c d : Dt} (ha : A a) (hb : B b) (hc : C c) (hd : D d) : T4 A B C D (.tup [a, b, c, d])
inductive TTs (A : Ty) (n m : Nat) : Ty where
  | mk {ds : List Dt} (h0 : n ≤ ds.length) (h1 : ds.length ≤ m) (h : ∀ d ∈ ds, A d) : TTs A n m (.tup ds)
inductive TLs (A : Ty) (n m : Nat) : Ty where
  | mk {ds : List Dt} (h0 : n ≤ ds.length) (h1 : ds.length ≤ m) (h : ∀ d ∈ ds, A d) : TLs A n m (.lst ds)
abbrev STy := Sl → Prop
inductive SAny : STy where
  | mk {s : Sl} : SAny s
inductive SIs (t : Sl) : STy where
  | mk : SIs t t
inductive SVal (A : Ty) : STy where
  | mk {d : Dt} (h : A d) : SVal A (.val d)
inductive SAcc (A : Ty) (n m : Nat) : STy where
  | mk {ds : List Dt} (h0 : n ≤ ds.length) (h1 : ds.length ≤ m) (h : ∀ d ∈ ds, A d) : SAcc A n m (.cel (.lst ds))
inductive SPool (b : Int) : STy where
  | mk {ds : List Dt} (h : PoolUp b ds) : SPool b (.cel (.lst ds))
inductive EnvT : List STy → List Sl → Prop where
  | nil : EnvT [] []
  | cons {S : STy} {s : Sl} {D : List STy} {G : List Sl} (h : S s) (t : EnvT D G) : EnvT (S :: D) (s :: G)
theorem EnvT.len : ∀ {D : List STy} {G : List Sl}, EnvT D G → G.length = D.length
  | _, _, .nil => rfl
  | _, _, .cons _ t => by rw [List.length_cons, List.length_cons, t.len]
inductive RVal (A : Ty) : Re → Prop where
  | mk {d : Dt} (h : A d) : RVal A (.val d)
inductive RNew (A : Ty) (n m : Nat) : Re → Prop where
  | mk {ds : List Dt} (h0 : n ≤ ds.length) (h1 : ds.length ≤ m) (h : ∀ d ∈ ds, A d) : RNew A n m (.nw (.lst ds))
theorem ws_norm {K : PySem.W.Frag} {pin : List Nat} {Γ Γ' : List Sl} {P : Ps} {t : TS} (e : Γ = Γ') (h : WS K pin t Γ' P) : WS K pin t Γ P := by
  subst e
  exact h
section
variable {Γ : List Sl} {Post : Re → List Sl → Prop}
/-- an index that is told by its bounds -/
theorem ixp_k {ra : Re} {ds : List Dt} {k : Int} (h1 : seqOf Γ ra = some ds) (h2 : 0 ≤ k) (h3 : k < ds.length) (p : ∀ d, d ∈ ds → Post (.val d) Γ) : IxP ra (.val (.int k)) Γ Post := by
  have hk : k.toNat < ds.length := by omega
  exact ixp h1 (atI_of (j := k.toNat) (by omega) (List.getElem?_eq_getElem hk)) (p _ (List.getElem_mem hk))
theorem ixp_c0 {ra : Re} {a : Dt} {l : List Dt} (h1 : seqOf Γ ra = some (a :: l)) (p : Post (.val a) Γ) : IxP ra (.val (.int 0)) Γ Post := ixp h1 (atI_of (j := 0) rfl rfl) p
theorem ixp_kT {A : Ty} {ra : Re} {ds : List Dt} {k : Int} (h1 : seqOf Γ ra = some ds) (h2 : 0 ≤ k) (h3 : k < ds.length) (h4 : ∀ d ∈ ds, A d) (p : ∀ d, A d → Post (.val d) Γ) : IxP ra (.val (.int k)) Γ Post := ixp_k h1 h2 h3 fun d hd => p d (h4 d hd)
theorem ixp_sk {z : Str} {k : Int} (hz : z.length ≤ 1000000) (h2 : 0 ≤ k) (h3 : k < z.length) (p : ∀ c, c ∈ z.cps.toList → Post (.val (.str ⟨#[c]⟩)) Γ) : IxP (.val (.str z)) (.val (.int k)) Γ Post := by
  have e : z.length = z.cps.toList.length := by simp [Str.length]
  have hk : k.toNat < z.cps.toList.length := by omega
  exact ixp_s hz (atI_of (j := k.toNat) (by omega) (List.getElem?_eq_getElem hk)) (p _ (List.getElem_mem hk))
end
theorem all_nil {A : Ty} : ∀ d ∈ ([] : List Dt), A d := fun _ h => nomatch h
theorem all_cons {A : Ty} {a : Dt} {l : List Dt} (h : A a) (t : ∀ d ∈ l, A d) : ∀ d ∈ a :: l, A d := fun d hd => (List.mem_cons.mp hd).elim (fun e => e ▸ h) (t d)
theorem all_app {A : Ty} {l m : List Dt} (h : ∀ d ∈ l, A d) (t : ∀ d ∈ m, A d) : ∀ d ∈ l ++ m, A d := fun d hd => (List.mem_append.mp hd).elim (h d) (t d)
theorem all_take {A : Ty} {l : List Dt} {n : Nat} (h : ∀ d ∈ l, A d) : ∀ d ∈ l.take n, A d := fun d hd => h d (List.mem_of_mem_take hd)
theorem all_drop {A : Ty} {l : List Dt} {n : Nat} (h : ∀ d ∈ l, A d) : ∀ d ∈ l.drop n, A d := fun d hd => h d (List.mem_of_mem_drop hd)
theorem all_set {A : Ty} {l : List Dt} {n : Nat} {a : Dt} (h : ∀ d ∈ l, A d) (ha : A a) : ∀ d ∈ l.set n a, A d := fun d hd => (List.mem_or_eq_of_mem_set hd).elim (h d) (fun e => e ▸ ha)
theorem all_erase {A : Ty} {l : List Dt} {n : Nat} (h : ∀ d ∈ l, A d) : ∀ d ∈ l.eraseIdx n, A d := fun d hd => h d (List.mem_of_mem_eraseIdx hd)
theorem all_cut {A : Ty} {l : List Dt} {a b : Option Int} (h : ∀ d ∈ l, A d) : ∀ d ∈ cutD l a b, A d := by
  unfold cutD
  exact all_take (all_drop h)
theorem all_mono {A B : Ty} {l : List Dt} (h : ∀ d ∈ l, A d) (k : ∀ d, A d → B d) : ∀ d ∈ l, B d := fun d hd => k d (h d hd)
/-- a list of texts as texts -/
theorem strs_of {n m : Nat} : ∀ {ds : List Dt}, (∀ d ∈ ds, TStr n m d) → ∃ xs : List Str, ds = xs.map Dt.str ∧ ∀ z ∈ xs, n ≤ z.length ∧ z.length ≤ m
  | [], _ => ⟨[], rfl, (fun _ h => nomatch h)⟩
  | d :: r, h => by
    obtain ⟨xs, e, hx⟩ := strs_of (ds := r) fun y hy => h y (List.mem_cons_of_mem _ hy)
    cases h d List.mem_cons_self with
    | mk h0 h1 =>
      rename_i z
      refine ⟨z :: xs, by rw [e]; rfl, fun y hy => ?_⟩
      rcases List.mem_cons.mp hy with rfl | hy
      · exact ⟨h0, h1⟩
      · exact hx y hy
theorem strs_all {n m : Nat} {xs : List Str} (h : ∀ z ∈ xs, n ≤ z.length ∧ z.length ≤ m) : ∀ d ∈ xs.map Dt.str, TStr n m d := fun d hd => by
  obtain ⟨z, hz, rfl⟩ := List.mem_map.mp hd
  exact .mk (h z hz).1 (h z hz).2
theorem nms_of {n m : Nat} : ∀ {ds : List Dt}, (∀ d ∈ ds, TNm n m d) → ∃ xs : List Str, ds = xs.map Dt.str ∧ ∀ z ∈ xs, n ≤ z.length ∧ z.length ≤ m ∧ Az z
  | [], _ => ⟨[], rfl, (fun _ h => nomatch h)⟩
  | d :: r, h => by
    obtain ⟨xs, e, hx⟩ := nms_of (ds := r) fun y hy => h y (List.mem_cons_of_mem _ hy)
    cases h d List.mem_cons_self with
    | mk h0 h1 h2 =>
      rename_i z
      refine ⟨z :: xs, by rw [e]; rfl, fun y hy => ?_⟩
      rcases List.mem_cons.mp hy with rfl | hy
      · exact ⟨h0, h1, h2⟩
      · exact hx y hy
theorem nms_all {n m : Nat} {xs : List Str} (h : ∀ z ∈ xs, n ≤ z.length ∧ z.length ≤ m ∧ Az z) : ∀ d ∈ xs.map Dt.str, TNm n m d := fun d hd => by
  obtain ⟨z, hz, rfl⟩ := List.mem_map.mp hd
  exact .mk (h z hz).1 (h z hz).2.1 (h z hz).2.2
theorem Az.one {c : Nat} (h : 97 ≤ c ∧ c ≤ 122) : Az ⟨#[c]⟩ := fun d hd => by
  rw [List.mem_singleton.mp (show d ∈ [c] from hd)]
  exact h
theorem az_abc : Az "abcdefghijklmnopqrstuvwxyz" := by unfold Az; decide +kernel
theorem cutS_takeI {z : Str} {k : Int} (h0 : 0 ≤ k) (h : k ≤ z.length) : (cutS z none (some k)).length = k.toNat := by
  obtain ⟨m, rfl⟩ := Int.eq_ofNat_of_zero_le h0
  rw [cutS_take (by omega)]; rfl
theorem cutS_dropI {z : Str} {k : Int} (h0 : 0 ≤ k) (h : k ≤ z.length) : (cutS z (some k) none).length = z.length - k.toNat := by
  obtain ⟨m, rfl⟩ := Int.eq_ofNat_of_zero_le h0
  rw [cutS_drop (by omega)]; rfl
theorem cutS_both {z : Str} {k : Int} (h0 : 0 ≤ k) : (cutS z none (some k)).length + (cutS z (some k) none).length = z.length := by
  obtain ⟨m, rfl⟩ := Int.eq_ofNat_of_zero_le h0
  have e : z.cps.toList.length = z.length := by rw [Array.length_toList]; rfl
  unfold cutS
  show (List.toArray _).size + (List.toArray _).size = _
  show (List.toArray ((List.drop (HT.sIx z.length 0 none) z.cps.toList).take (HT.sIx z.length z.length (some ((m : Nat) : Int)) - HT.sIx z.length 0 none))).size + (List.toArray ((List.drop (HT.sIx z.length 0 (some ((m : Nat) : Int))) z.cps.toList).take (HT.sIx z.length z.length none - HT.sIx z.length 0 (some ((m : Nat) : Int))))).size = _
  rw [HT.sIx_none, HT.sIx_none, HT.sIx_nat, HT.sIx_nat, List.drop_zero, Nat.sub_zero, List.size_toArray, List.length_take, List.size_toArray, List.length_take, List.length_drop, e]
  omega
theorem mul_len {n : Int} {c : Nat} : (PySem.Txt.mul ⟨#[c]⟩ n).length = n.toNat ∧ ∀ d ∈ (PySem.Txt.mul ⟨#[c]⟩ n).cps.toList, d = c := by
  have aux : ∀ (m : Nat) (a : Array Nat), (∀ d ∈ a.toList, d = c) → ((List.replicate m #[c]).foldl (· ++ ·) a).size = a.size + m ∧ ∀ d ∈ ((List.replicate m #[c]).foldl (· ++ ·) a).toList, d = c := by
    intro m
    induction m with
    | zero => intro a ha; exact ⟨by simp, by simpa using ha⟩
    | succ m ih =>
      intro a ha
      rw [List.replicate_succ, List.foldl_cons]
      obtain ⟨h1, h2⟩ := ih (a ++ #[c]) (fun d hd => by
        rw [Array.toList_append] at hd
        rcases List.mem_append.mp hd with h | h
        · exact ha d h
        · exact List.mem_singleton.mp h)
      refine ⟨?_, h2⟩
      rw [h1, Array.size_append]
      show a.size + 1 + m = _
      omega
  unfold PySem.Txt.mul
  split
  · rename_i h
    have e : (Str.empty).cps = #[] := rfl
    refine ⟨?_, fun d hd => ?_⟩
    · show 0 = _
      omega
    · rw [e] at hd; simp at hd
  · split
    · rename_i h1 h2
      have hn : n = 1 := by
        rcases Bool.or_eq_true _ _ |>.mp h2 with h | h
        · exact beq_iff_eq.mp h
        · cases h
      subst hn
      exact ⟨rfl, fun d hd => List.mem_singleton.mp (show d ∈ [c] from hd)⟩
    · obtain ⟨h1, h2⟩ := aux n.toNat #[] (fun d hd => by simp at hd)
      refine ⟨?_, h2⟩
      show Array.size _ = _
      rw [h1]
      show 0 + _ = _
      omega
theorem len_cutS (z : Str) (a b : Option Int) : (cutS z a b).length ≤ z.length := by
  unfold cutS
  simp only [Str.length, List.size_toArray, List.length_take, List.length_drop, Array.length_toList]
  omega
end Ab
/-! dicts of the written part with text keys; list(range), reversed, upper -/
namespace Ab
open PySem L2
/-- text keys of a dict of the written part -/
theorem kd_find {K : PySem.W.Frag} {d : Addr} {es : Array DictEntry} {n : Nat} {z : Str} {r : Option Value} (h : List.lookup d K = some { cls := .type "dict", data := .dict es n }) (hn : PySem.W.nsIn K d z = some r) : findBy Value.isStrOf es z = r := by
  unfold PySem.W.nsIn at hn
  rw [h] at hn
  have e : ∀ x : DictEntry, x.key.isStr z = Value.isStrOf z x.key := fun x => by
    cases x.key <;> rfl
  simp only [e] at hn
  unfold findBy
  rw [← Array.find?_toList]
  generalize es.toList.find? (fun x => Value.isStrOf z x.key) = q at hn ⊢
  cases q with
  | some e => simpa using hn
  | none =>
    simp only at hn
    split at hn
    · cases hn
    · simpa using hn
def rKIn (K : PySem.W.Frag) (d : Addr) : R2 := fun x y H Q => ∃ (z : Str) (r : Option Value), x = .str z ∧ y = .ref d ∧ PySem.W.nsIn K d z = some r ∧ Q (.bl r.isSome) H
def rKNotIn (K : PySem.W.Frag) (d : Addr) : R2 := fun x y H Q => ∃ (z : Str) (r : Option Value), x = .str z ∧ y = .ref d ∧ PySem.W.nsIn K d z = some r ∧ Q (.bl (!r.isSome)) H
def rKI (K : PySem.W.Frag) (d : Addr) : R2 := fun x y H Q => ∃ (z : Str) (u0 : Value) (v0 : V), x = .ref d ∧ y = .str z ∧ PySem.W.nsIn K d z = some (some u0) ∧ RelV v0 u0 ∧ Q v0 H
section
variable {X : Cx} {d : Addr} {es : Array DictEntry} {n : Nat}
theorem op_kin (D : KDict X.K X.w d es n) : OpR X (compareOp .In) (rKIn X.K d) := op_in_kd D
theorem op_knotin (D : KDict X.K X.w d es n) : OpR X (compareOp .NotIn) (rKNotIn X.K d) := op_notIn_kd D
theorem ix_ki (D : KDict X.K X.w d es n) : IxR X (rKI X.K d) := fun value slice pins s σ H x y v u Q I rx ry h e =>
  ix_kdict value slice pins s σ H x y v u Q I rx ry (by
    obtain ⟨z, u0, v0, rfl, rfl, h1, h2, q⟩ := h
    exact ⟨d, z, v0, rfl, rfl, ⟨es, n, u0, D.at_, D.lit, h1, h2⟩, q⟩) e
def kdTy (d : Addr) : V → Hp → Prop := fun x _ => x = .ref d
theorem kd_ty (D : KDict X.K X.w d es n) : TyOk X "dict" (kdTy d) := fun pins σ H s x v I rx h => by
  have h : x = .ref d := h
  subst h
  cases rx
  have e := I.kIn d _ D.at_
  exact ⟨⟨_, e, rfl⟩, fun a ha => by cases ha; exact ⟨_, e, rfl⟩⟩
def rKGet (K : PySem.W.Frag) (d : Addr) : V → List V → Hp → VK → Prop := fun x xs H Q => ∃ z r, x = .ref d ∧ xs = [.str z] ∧ PySem.W.nsIn K d z = some r ∧ (∀ u, r = some u → ∃ v0, RelV v0 u ∧ Q v0 H) ∧ (r = none → Q .non H)
def rKGet2 (K : PySem.W.Frag) (d : Addr) : V → List V → Hp → VK → Prop := fun x xs H Q => ∃ z y r, x = .ref d ∧ xs = [.str z, y] ∧ PySem.W.nsIn K d z = some r ∧ (∀ u, r = some u → ∃ v0, RelV v0 u ∧ Q v0 H) ∧ (r = none → Q y H)
theorem mt_kget (D : KDict X.K X.w d es n) : MtR X "dict.get" (rKGet X.K d) := by
  intro pins s σ H x xs v us Q I rx rs h
  obtain ⟨z, r, rfl, rfl, hn, h1, h2⟩ := h
  cases rx
  cases rs with
  | cons ra rt =>
    cases rt
    obtain ⟨t, rfl⟩ := ra
    refine call_meetsIn F.slot_dict_get ⟨_, I.kIn d _ D.at_, rfl⟩ F.entry_dict_get (F.args_dict_get_2 _ _) (meets_dict_get (strKind X.prog X.w) (k := z) d (by simp [strKind, Value.isStrOf]) D.low) ⟨_, W.mapOf_K I.kIn D.at_ D.lit, ?_⟩
    rw [kd_find D.at_ hn]
    cases r with
    | none => exact ⟨.non, H, I.tok _, rfl, h2 rfl⟩
    | some u =>
      obtain ⟨v0, hr, q⟩ := h1 u rfl
      exact ⟨v0, H, I.tok _, hr, q⟩
theorem mt_kget2 (D : KDict X.K X.w d es n) : MtR X "dict.get" (rKGet2 X.K d) := by
  intro pins s σ H x xs v us Q I rx rs h
  obtain ⟨z, y, r, rfl, rfl, hn, h1, h2⟩ := h
  cases rx
  cases rs with
  | cons ra rt =>
    cases rt with
    | cons rb rt =>
      cases rt
      obtain ⟨t, rfl⟩ := ra
      refine call_meetsIn F.slot_dict_get ⟨_, I.kIn d _ D.at_, rfl⟩ F.entry_dict_get (F.args_dict_get_3 _ _ _) (meets_dict_get_default (strKind X.prog X.w) (k := z) d (by simp [strKind, Value.isStrOf]) D.low _) ⟨_, W.mapOf_K I.kIn D.at_ D.lit, ?_⟩
      rw [kd_find D.at_ hn]
      cases r with
      | none => exact ⟨y, H, I.tok _, rb, h2 rfl⟩
      | some u =>
        obtain ⟨v0, hr, q⟩ := h1 u rfl
        exact ⟨v0, H, I.tok _, hr, q⟩
end

/-- a value of the written part as data -/
inductive KV (K : PySem.W.Frag) : V → Dt → Prop where
  | raw (v : V) : KV K v (.raw v)
  | tup {a : Addr} {xs : List V} (h : KTup K a xs) : KV K (.ref a) (.tup (xs.map Dt.raw))
theorem KV.is {K : PySem.W.Frag} {B : Hp} {v : V} {d : Dt} (h : KV K v d) : Is K B v d := by
  cases h with
  | raw => exact .raw _
  | @tup a xs h =>
    have ha : IsA K B xs (xs.map Dt.raw) := IsA.raws
    exact Is.tup (.inr h) ha.len ha.at_
def KEnts (K : PySem.W.Frag) : List DictEntry → List (Str × Dt) → Prop
  | [], [] => True
  | e :: es, kv :: kvs => (∃ t, e.key = .str kv.1 t) ∧ (∃ v, RelV v e.val ∧ KV K v kv.2) ∧ KEnts K es kvs
  | _, _ => False
def valS (kvs : List (Str × Dt)) (z : Str) : Option Dt := (kvs.find? fun kv => decide (kv.1 = z)).map (·.2)
structure KDic (K : PySem.W.Frag) (w : World) (c : Addr) (kvs : List (Str × Dt)) : Prop where
  ex : ∃ es n, KDict K w c es n ∧ KEnts K es.toList kvs
theorem KEnts.val {K : PySem.W.Frag} : ∀ {es : List DictEntry} {kvs : List (Str × Dt)}, KEnts K es kvs → ∀ z, (es.any fun e => e.refKey) = false ∧ ((valS kvs z = none ∧ es.find? (fun e => e.key.isStr z) = none) ∨ ∃ e d v, valS kvs z = some d ∧ es.find? (fun e => e.key.isStr z) = some e ∧ RelV v e.val ∧ KV K v d)
  | [], [], _, z => ⟨rfl, .inl ⟨rfl, rfl⟩⟩
  | [], _ :: _, h, _ => h.elim
  | _ :: _, [], h, _ => h.elim
  | e :: es, kv :: kvs, h, z => by
    obtain ⟨⟨t, hk⟩, ⟨v, hv, hd⟩, hr⟩ := h
    obtain ⟨i1, i2⟩ := KEnts.val hr z
    refine ⟨?_, ?_⟩
    · rw [List.any_cons, i1, Bool.or_false]
      unfold DictEntry.refKey
      rw [hk]
    · unfold valS at *
      rw [List.find?_cons, List.find?_cons]
      have e1 : e.key.isStr z = decide (kv.1 = z) := by
        rw [hk]
        show (kv.1 == z) = decide (kv.1 = z)
        rw [Bool.eq_iff_iff]; simp
      rw [e1]
      by_cases c : kv.1 = z
      · rw [decide_eq_true c]
        exact .inr ⟨e, kv.2, v, rfl, rfl, hv, hd⟩
      · rw [decide_eq_false c]
        exact i2
theorem KDic.val {K : PySem.W.Frag} {w : World} {c : Addr} {kvs : List (Str × Dt)} (h : KDic K w c kvs) (z : Str) : (valS kvs z = none ∧ PySem.W.nsIn K c z = some none) ∨ ∃ u d v, valS kvs z = some d ∧ PySem.W.nsIn K c z = some (some u) ∧ RelV v u ∧ KV K v d := by
  obtain ⟨es, n, D, E⟩ := h.ex
  have hn : PySem.W.nsIn K c z = match es.toList.find? (fun x => x.key.isStr z) with
    | some e => some (some e.val)
    | none => if (es.toList.any fun x => x.refKey) = true then none else some none := by
    unfold PySem.W.nsIn; rw [D.at_]
    rfl
  obtain ⟨i1, i2⟩ := E.val z
  rw [hn, i1]
  rcases i2 with ⟨a, b⟩ | ⟨e, d, v, a, b, c1, c2⟩
  · rw [b]; exact .inl ⟨a, rfl⟩
  · rw [b]; exact .inr ⟨e.val, d, v, a, rfl, c1, c2⟩
section
variable {K : PySem.W.Frag} {w : World} {c : Addr} {kvs : List (Str × Dt)} {Γ : List Sl} {Post : Re → List Sl → Prop} {tk tx : TE}
theorem we_ki (D : KDic K w c kvs) (h : WE K tk Γ fun r Γ1 => ∃ z d, r = .val (.str z) ∧ valS kvs z = some d ∧ Post (.val d) Γ1) : WE K (tOp (rKI K c) (tC (.ref c)) tk) Γ Post := fun σ B H E Q q => by
  refine h σ B H E _ fun y B1 H1 r Γ1 g1 k1 p1 => ?_
  obtain ⟨z, d, rfl, hv, p⟩ := p1
  cases Is.rawI k1
  rcases D.val z with ⟨a, _⟩ | ⟨u, d', v, a, b, c1, c2⟩
  · rw [a] at hv; cases hv
  · rw [a] at hv; cases hv
    exact ⟨z, u, v, rfl, rfl, b, c1, q v B1 H1 (.val _) Γ1 g1 c2.is p⟩
theorem we_kin (D : KDic K w c kvs) (h : WE K tk Γ fun r Γ1 => ∃ z, r = .val (.str z) ∧ Post (.val (.bl (valS kvs z).isSome)) Γ1) : WE K (tOp (rKIn K c) tk (tC (.ref c))) Γ Post := fun σ B H E Q q => by
  refine h σ B H E _ fun y B1 H1 r Γ1 g1 k1 p1 => ?_
  obtain ⟨z, rfl, p⟩ := p1
  cases Is.rawI k1
  rcases D.val z with ⟨a, b⟩ | ⟨u, d', v, a, b, _, _⟩
  · exact ⟨z, none, rfl, rfl, b, q _ B1 H1 _ Γ1 g1 (.raw _) (by rw [a] at p; exact p)⟩
  · exact ⟨z, some u, rfl, rfl, b, q _ B1 H1 _ Γ1 g1 (.raw _) (by rw [a] at p; exact p)⟩
theorem we_knotin (D : KDic K w c kvs) (h : WE K tk Γ fun r Γ1 => ∃ z, r = .val (.str z) ∧ Post (.val (.bl (!(valS kvs z).isSome))) Γ1) : WE K (tOp (rKNotIn K c) tk (tC (.ref c))) Γ Post := fun σ B H E Q q => by
  refine h σ B H E _ fun y B1 H1 r Γ1 g1 k1 p1 => ?_
  obtain ⟨z, rfl, p⟩ := p1
  cases Is.rawI k1
  rcases D.val z with ⟨a, b⟩ | ⟨u, d', v, a, b, _, _⟩
  · exact ⟨z, none, rfl, rfl, b, q _ B1 H1 _ Γ1 g1 (.raw _) (by rw [a] at p; exact p)⟩
  · exact ⟨z, some u, rfl, rfl, b, q _ B1 H1 _ Γ1 g1 (.raw _) (by rw [a] at p; exact p)⟩
theorem we_kget1 (D : KDic K w c kvs) (h : WE K tk Γ fun r Γ1 => ∃ z, r = .val (.str z) ∧ (∀ d, valS kvs z = some d → Post (.val d) Γ1) ∧ (valS kvs z = none → Post (.val .non) Γ1)) : WE K (tMG (kdTy c) (rKGet K c) (tC (.ref c)) (tCons tk tNil)) Γ Post := fun σ B H E Q q => by
  refine ⟨rfl, h σ B H E _ fun y B1 H1 r Γ1 g1 k1 p1 => ?_⟩
  obtain ⟨z, rfl, pS, pN⟩ := p1
  cases Is.rawI k1
  rcases D.val z with ⟨a, b⟩ | ⟨u, d', v, a, b, c1, c2⟩
  · exact ⟨z, none, rfl, rfl, b, (fun u h => nomatch h), fun _ => q _ B1 H1 (.val .non) Γ1 g1 (.raw _) (pN a)⟩
  · exact ⟨z, some u, rfl, rfl, b, (fun u' h => by cases h; exact ⟨v, c1, q v B1 H1 (.val _) Γ1 g1 c2.is (pS _ a)⟩), (fun h => nomatch h)⟩
theorem we_kget2 (D : KDic K w c kvs) (h : WE K tk Γ fun r Γ1 => ∃ z, r = .val (.str z) ∧ WE K tx Γ1 fun rx Γ2 => (∀ d, valS kvs z = some d → Post (.val d) Γ2) ∧ (valS kvs z = none → Post rx Γ2)) : WE K (tMG (kdTy c) (rKGet2 K c) (tC (.ref c)) (tCons tk (tCons tx tNil))) Γ Post := fun σ B H E Q q => by
  refine ⟨rfl, h σ B H E _ fun y B1 H1 r Γ1 g1 k1 p1 => ?_⟩
  obtain ⟨z, rfl, p1⟩ := p1
  cases Is.rawI k1
  refine p1 σ B1 H1 g1.env _ fun x B2 H2 rx Γ2 g2 k2 p2 => ?_
  obtain ⟨pS, pN⟩ := p2
  rcases D.val z with ⟨a, b⟩ | ⟨u, d', v, a, b, c1, c2⟩
  · exact ⟨z, x, none, rfl, rfl, b, (fun u h => nomatch h), fun _ => q _ B2 H2 rx Γ2 (g1.trans g2) (ReOk.earlier k2 g1.mv fun a h => .inl (g1.sub a h)) (pN a)⟩
  · exact ⟨z, x, some u, rfl, rfl, b, (fun u' h => by cases h; exact ⟨v, c1, q v B2 H2 (.val _) Γ2 (g1.trans g2) c2.is (pS _ a)⟩), (fun h => nomatch h)⟩
end
def rUpper : V → List V → Hp → VK → Prop := fun x xs H Q => ∃ a, x = .str a ∧ xs = [] ∧ a.length ≤ 5592405 ∧ Q (.str (Txt.upper a)) H
section
variable {K : PySem.W.Frag} {pin : List Nat} {Γ : List Sl} {P : Ps} {Post : Re → List Sl → Prop} {te ta tb : TE} {g : TG} {tb' : TS}
theorem we_upper (h : WE K te Γ fun r Γ1 => ∃ z : Str, r = .val (.str z) ∧ z.length ≤ 5592405 ∧ Post (.val (.str (Txt.upper z))) Γ1) : WE K (tM0 rUpper te) Γ Post := fun σ B H E Q q => by
  refine h σ B H E _ fun y B1 H1 r Γ1 g1 k1 p1 => ?_
  obtain ⟨z, rfl, hz, p⟩ := p1
  cases Is.rawI k1
  exact ⟨⟨z, rfl⟩, z, rfl, rfl, hz, q _ B1 H1 _ Γ1 g1 (.raw _) p⟩
/-- list(range(a, b)) -/
def rgD (a b : Int) : List Dt := (List.range (b - a).toNat).map fun i : Nat => .int (a + (i : Int))
theorem we_listRg2 (h : WE K ta Γ fun ra Γ1 => ∃ a, ra = .val (.int a) ∧ WE K tb Γ1 fun rb Γ2 => ∃ b, rb = .val (.int b) ∧ (-(2 ^ 62) ≤ a ∧ a < 2 ^ 62 ∧ -(2 ^ 62) ≤ b ∧ b < 2 ^ 62 ∧ (b - a).toNat ≤ 1000000) ∧ Post (.new (rgD a b)) Γ2) : WE K (tLstRg (tRg2 ta tb)) Γ Post := fun σ B H E Q q => by
  refine h σ B H E _ fun x B1 H1 ra Γ1 g1 k1 p1 => ?_
  obtain ⟨a, rfl, p1⟩ := p1
  cases Is.rawI k1
  refine p1 σ B1 H1 g1.env _ fun y B2 H2 rb Γ2 g2 k2 p2 => ?_
  obtain ⟨b, rfl, ⟨h1, h2, h3, h4, h5⟩, p⟩ := p2
  cases Is.rawI k2
  refine ⟨a, b, rfl, rfl, ⟨h1, h2, h3, h4, by omega⟩, fun p' hp' => ?_⟩
  have ha : IsA K B2 (rgV a b) (rgD a b) := by
    unfold rgV rgD
    rw [show ((List.range (b - a).toNat).map fun i : Nat => Dt.int (a + (i : Int))) = ((List.range (b - a).toNat).map fun i : Nat => V.int (a + (i : Int))).map Dt.raw by rw [List.map_map]; rfl]
    exact IsA.raws
  have kk : ReOk K σ (Own σ Γ2) (Own σ Γ2) B2 H2 (upd H2 p' (.lst (rgV a b))) (.ref p') (.new (rgD a b)) := ⟨p', _, rfl, .inr hp', g2.env.not_own hp', upd_same, g2.env.base_none hp', _, rfl, ha⟩
  exact q _ _ _ (.new (rgD a b)) Γ2 ((g1.trans g2).trans (Go.beside g2.env hp')) (ReOk.earlier kk (g1.trans g2).mv fun a h => .inl ((g1.trans g2).sub a h)) p
end
/-! text keys -/
theorem norm_nw {c : Cn} : slOf (.nw c) = .cel c := rfl
section
variable {K : PySem.W.Frag} {pin : List Nat} {Γ : List Sl} {P : Ps} {Post : Re → List Sl → Prop} {td ty tv tx : TE}
theorem wp_consS {Po : List (Key × Dt) → List Sl → Prop} {tk tv : TE} {trs : List (TE × TE)} (h : WE K tk Γ fun rk Γ1 => ∃ z, rk = .val (.str z) ∧ WE K tv Γ1 fun rv Γ2 => ∃ d, rv.dt? = some d ∧ WP K trs Γ2 fun kds Γ3 => Po ((.inr z, d) :: kds) Γ3) : WP K ((tk, tv) :: trs) Γ Po :=
  wp_cons (we_mono h fun rk Γ1 ⟨z, e, p⟩ => ⟨.inr z, e, p⟩)
theorem we_dgetS (h : WE K td Γ fun ra Γ1 => WE K ty Γ1 fun rb Γ2 => ∃ kvs z, dkOf Γ2 ra = some kvs ∧ rb = .val (.str z) ∧ ∃ d, valD kvs (.inr z) = some d ∧ Post (.val d) Γ2) : WE K (tDGet td ty) Γ Post :=
  we_dgetK (we_mono h fun ra Γ1 h => we_mono h fun rb Γ2 ⟨kvs, z, e1, e2, d, e3, p⟩ => ⟨kvs, .inr z, d, e1, e2, e3, p⟩)
theorem we_dinS (h : WE K ty Γ fun rb Γ1 => WE K td Γ1 fun ra Γ2 => ∃ kvs z, dkOf Γ2 ra = some kvs ∧ rb = .val (.str z) ∧ Post (.val (.bl (valD kvs (.inr z)).isSome)) Γ2) : WE K (tDIn ty td) Γ Post :=
  we_dinK (we_mono h fun rb Γ1 h => we_mono h fun ra Γ2 ⟨kvs, z, e1, e2, p⟩ => ⟨kvs, .inr z, e1, e2, p⟩)
theorem we_dnotinS (h : WE K ty Γ fun rb Γ1 => WE K td Γ1 fun ra Γ2 => ∃ kvs z, dkOf Γ2 ra = some kvs ∧ rb = .val (.str z) ∧ Post (.val (.bl (!(valD kvs (.inr z)).isSome))) Γ2) : WE K (tDNotIn ty td) Γ Post :=
  we_dnotinK (we_mono h fun rb Γ1 h => we_mono h fun ra Γ2 ⟨kvs, z, e1, e2, p⟩ => ⟨kvs, .inr z, e1, e2, p⟩)
theorem we_dget2S (h : WE K td Γ fun ra Γ1 => (dkOf Γ1 ra).isSome = true ∧ WE K ty Γ1 fun rb Γ2 => WE K tx Γ2 fun rc Γ3 => ∃ kvs z, dkOf Γ3 ra = some kvs ∧ rb = .val (.str z) ∧ (∀ d, valD kvs (.inr z) = some d → Post (.val d) Γ3) ∧ (valD kvs (.inr z) = none → Post rc Γ3)) : WE K (tDGet2 td ty tx) Γ Post :=
  we_dget2K (we_mono h fun ra Γ1 ⟨h0, h⟩ => ⟨h0, we_mono h fun rb Γ2 h => we_mono h fun rc Γ3 ⟨kvs, z, e1, e2, p⟩ => ⟨kvs, .inr z, e1, e2, p⟩⟩)
theorem we_dget1S (h : WE K td Γ fun ra Γ1 => (dkOf Γ1 ra).isSome = true ∧ WE K ty Γ1 fun rb Γ2 => ∃ kvs z, dkOf Γ2 ra = some kvs ∧ rb = .val (.str z) ∧ (∀ d, valD kvs (.inr z) = some d → Post (.val d) Γ2) ∧ (valD kvs (.inr z) = none → Post (.val .non) Γ2)) : WE K (tDGet1 td ty) Γ Post :=
  we_dget1K (we_mono h fun ra Γ1 ⟨h0, h⟩ => ⟨h0, we_mono h fun rb Γ2 ⟨kvs, z, e1, e2, p⟩ => ⟨kvs, .inr z, e1, e2, p⟩⟩)
theorem ws_dputS {i : Nat} (h : WE K tv Γ fun z Γ1 => ∃ d, z.dt? = some d ∧ (∃ kvs1, Γ1[i]? = some (.cel kvs1)) ∧ WE K ty Γ1 fun y Γ2 => ∃ kvs k, y = .val (.str k) ∧ Γ2[i]? = some (.cel (.dK kvs)) ∧ kvs.length < 1000000 ∧ NormP (Γ2.set i (.cel (.dK (putE kvs (.inr k) d)))) P.nx) :
    WS K pin (sDPut (tVar i) ty tv) Γ P :=
  ws_dputK (we_mono h fun z Γ1 ⟨d, h1, h2, h⟩ => ⟨d, h1, h2, we_mono h fun y Γ2 ⟨kvs, k, e1, e2, e3, p⟩ => ⟨kvs, .inr k, e1, e2, e3, p⟩⟩)
end
/-! tables as functions -/
def look {α κ : Type} [DecidableEq κ] (xs : List (κ × α)) (z : κ) : Option α := (xs.find? fun kv => decide (kv.1 = z)).map (·.2)
theorem look_perm {α κ : Type} [DecidableEq κ] : ∀ {xs ys : List (κ × α)}, xs.Perm ys → (xs.map (·.1)).Nodup → ∀ z, look xs z = look ys z := by
  intro xs ys h
  induction h with
  | nil => intro _ z; rfl
  | cons x h ih =>
    intro hn z
    unfold look at *
    rw [List.find?_cons, List.find?_cons]
    by_cases c : x.1 = z
    · rw [decide_eq_true c]
    · rw [decide_eq_false c]
      exact ih (List.nodup_cons.mp hn).2 z
  | swap x y l =>
    intro hn z
    unfold look
    rw [List.find?_cons, List.find?_cons, List.find?_cons, List.find?_cons]
    have hne : y.1 ≠ x.1 := by
      intro e
      have := (List.nodup_cons.mp hn).1
      exact this (by show y.1 ∈ _; rw [e]; exact List.mem_cons_self ..)
    by_cases c : x.1 = z
    · by_cases c2 : y.1 = z
      · exact absurd (c2.trans c.symm) hne
      · rw [decide_eq_true c, decide_eq_false c2]
    · rw [decide_eq_false c]
  | trans h1 h2 i1 i2 =>
    intro hn z
    exact (i1 hn z).trans (i2 ((h1.map _).nodup_iff.mp hn) z)
theorem valS_look {α : Type} (f : α → Dt) (xs : List (Str × α)) (z : Str) : valS (xs.map fun kv => (kv.1, f kv.2)) z = (look xs z).map f := by
  unfold valS look
  induction xs with
  | nil => rfl
  | cons x r ih =>
    rw [List.map_cons, List.find?_cons, List.find?_cons]
    by_cases c : x.1 = z
    · rw [decide_eq_true c]; rfl
    · rw [decide_eq_false c]; exact ih
theorem valD_look {α : Type} (f : α → Dt) (xs : List (Str × α)) (z : Str) : valD (xs.map fun kv => ((Sum.inr kv.1 : Key), f kv.2)) (Sum.inr z) = (look xs z).map f := by
  unfold valD look
  induction xs with
  | nil => rfl
  | cons x r ih =>
    rw [List.map_cons, List.find?_cons, List.find?_cons]
    by_cases c : x.1 = z
    · rw [decide_eq_true c, decide_eq_true (show (Sum.inr x.1 : Key) = Sum.inr z by rw [c])]; rfl
    · rw [decide_eq_false c, decide_eq_false (show ¬ (Sum.inr x.1 : Key) = Sum.inr z from fun h => c (Sum.inr.inj h))]; exact ih
theorem merge_new : ∀ (more kvs : List (Key × Dt)), ((kvs ++ more).map (·.1)).Nodup → mergeD kvs more = kvs ++ more
  | [], kvs, _ => by rw [List.append_nil]; rfl
  | m :: more, kvs, h => by
    show mergeD (putE kvs m.1 m.2) more = _
    have hv : valD kvs m.1 = none := by
      unfold valD
      rw [Option.map_eq_none_iff, List.find?_eq_none]
      intro x hx hc
      have hc := of_decide_eq_true hc
      rw [List.map_append, List.nodup_append] at h
      exact h.2.2 x.1 (List.mem_map_of_mem hx) m.1 (by rw [List.map_cons]; exact List.mem_cons_self ..) hc
    rw [putE_new hv, merge_new more (kvs ++ [(m.1, m.2)]) (by rw [List.append_assoc]; exact h), List.append_assoc]; rfl
/-- a display with unlike keys -/
theorem merge_all {kds : List (Key × Dt)} (h : (kds.map (·.1)).Nodup) : mergeD [] kds = kds := merge_new kds [] h
theorem rg_mem (a b n : Int) : (n ∈ (List.range (b - a).toNat).map fun i : Nat => a + (i : Int)) ↔ a ≤ n ∧ n < b := by
  rw [List.mem_map]
  constructor
  · rintro ⟨i, hi, rfl⟩
    have := List.mem_range.mp hi
    omega
  · rintro ⟨h1, h2⟩
    exact ⟨(n - a).toNat, List.mem_range.mpr (by omega), by omega⟩
def rgN (a b : Int) : List Int := (List.range (b - a).toNat).map fun i : Nat => a + (i : Int)
theorem rgD_map (a b : Int) : rgD a b = (rgN a b).map Dt.int := by unfold rgD rgN; rw [List.map_map]; rfl
theorem mem_rgN (a b n : Int) : n ∈ rgN a b ↔ a ≤ n ∧ n < b := rg_mem a b n
/-! for x in reversed(list) -/
section
variable {K : PySem.W.Frag} {pin : List Nat} {Γ : List Sl} {P : Ps} {te : TE} {g : TG} {tb' : TS}
theorem ws_forRev (h : WE K te Γ fun z Γ1 => ∃ d ds, z.dt? = some d ∧ d = .lst ds ∧ ∃ Inv : Nat → List Sl → Prop, Inv 0 Γ1 ∧
      (∀ (i : Nat) d Γ', i < ds.length → ds[ds.length - 1 - i]? = some d → Inv i Γ' → WG K pin g d Γ' fun Γ2 => WS K pin tb' Γ2 ⟨Inv (i + 1), P.rt, P.nx, Inv (i + 1), P.ex⟩) ∧ ∀ Γ', Inv ds.length Γ' → P.nx Γ') : WS K pin (tFor (iRev K (tCons te tNil)) g tb') Γ P := fun σ B H D E n r b c xx => by
  have h' : WE K te Γ fun z Γ1 => ∃ ds, z = .val (.lst ds) ∧ ∃ Inv : Nat → List Sl → Prop, Inv 0 Γ1 ∧
      (∀ (i : Nat) d Γ', i < ds.length → ds[ds.length - 1 - i]? = some d → Inv i Γ' → WG K pin g d Γ' fun Γ2 => WS K pin tb' Γ2 ⟨Inv (i + 1), P.rt, P.nx, Inv (i + 1), P.ex⟩) ∧ ∀ Γ', Inv ds.length Γ' → P.nx Γ' :=
    we_freeze (we_mono h fun z Γ1 ⟨d, ds, hd, e, r⟩ => ⟨d, hd, ds, by rw [e], r⟩)
  refine h' σ B H E _ fun v B1 H1 z Γ1 g1 k p => ?_
  obtain ⟨ds, rfl, Inv, i0, turn, done⟩ := p
  obtain ⟨a, xs, rfl, ha, hx⟩ := Is.lstR k
  refine ⟨a, xs, rfl, .inl (.inl (g1.env.bh _ _ ha)), RT.for_Itv (xs := xs) (fun i σ' H' => ∃ B' Γ', Same B1 B' ∧ GoS K pin σ B H Γ σ' B' H' Γ' ∧ Inv i Γ') ⟨B1, Γ1, Same.refl _, g1.s, i0⟩ ?_ ?_ ?_⟩
  · rintro i σ' H' ⟨B', Γ', sb, g2, _⟩
    exact .inl (.inl ((sb.trans g2.env.bh) _ _ ha))
  · rintro i x σ' H' hi hxi ⟨B', Γ', sb, g2, inv⟩
    have hlt : i < ds.length := by rw [← hx.len]; exact hi
    have hj : ds.length - 1 - i < ds.length := by omega
    rw [hx.len] at hxi
    refine turn i ds[ds.length - 1 - i] Γ' hlt (List.getElem?_eq_getElem hj) inv σ' B' H' x g2.env ((hx.at_ _ x _ hxi (List.getElem?_eq_getElem hj)).mono sb) _ fun σ2 Γ2 g3 w => ?_
    have g23 := g2.trans g3
    refine w σ2 B' H' _ g23.env (fun σ3 B3 H3 Γ3 g4 p => ⟨B3, Γ3, sb.trans g4.mv.bb, g23.trans g4, p⟩) (fun v σ3 B3 H3 z Γ3 g4 k4 p => r v σ3 B3 H3 z Γ3 (g23.trans g4) (ReOk.earlier k4 g23.mv g23.new) p)
      (fun σ3 B3 H3 Γ3 g4 p => n σ3 B3 H3 Γ3 (g23.trans g4) p) (fun σ3 B3 H3 Γ3 g4 p => ⟨B3, Γ3, sb.trans g4.mv.bb, g23.trans g4, p⟩) (fun cls d fs σ3 B3 H3 Γ3 g4 hx p => xx cls d fs σ3 B3 H3 Γ3 (g23.trans g4) hx p)
  · rintro σ' H' ⟨B', Γ', sb, g2, inv⟩
    rw [hx.len] at inv
    exact n σ' B' H' Γ' g2 (done Γ' inv)
theorem for_revH (h : WE K te Γ fun z Γ1 => Hold (∃ ds, z.dt? = some (.lst ds) ∧ ∃ Inv : Nat → List Sl → Prop, Inv 0 Γ1 ∧
      (∀ (i : Nat) d Γ', i < ds.length → ds[ds.length - 1 - i]? = some d → Inv i Γ' → WG K pin g d Γ' fun Γ2 => WS K pin tb' Γ2 ⟨fun G => Hold (Inv (i + 1) G), P.rt, P.nx, fun G => Hold (Inv (i + 1) G), P.ex⟩) ∧ ∀ Γ', Inv ds.length Γ' → P.nx Γ')) : WS K pin (tFor (iRev K (tCons te tNil)) g tb') Γ P :=
  ws_forRev (we_mono h fun z Γ1 p => by
    obtain ⟨ds, e, Inv, i0, turn, done⟩ := p.get
    exact ⟨_, ds, e, rfl, fun i G => Hold (Inv i G), .a i0, fun i d G hi hd hG => turn i d G hi hd hG.get, fun G hG => done G hG.get⟩)
end
end Ab
/-! dict(d), list(d), isinstance of dicts, the laws' _law_same on dicts -/
namespace Ab
open PySem L2
/-- the entries of a dict of the written part, as what a new dict holds -/
def KVE : List (Key × V) → List DictEntry → Prop
  | [], [] => True
  | kv :: r, e :: es => (∃ x t, kv.1 = .inr x ∧ e.key = .str x t) ∧ RelV kv.2 e.val ∧ KVE r es
  | _, _ => False
def moreOf : List (Key × V) → List DictEntry → List (Key × Value)
  | kv :: r, e :: es => (kv.1, e.val) :: moreOf r es
  | _, _ => []
theorem KVE.pairs {P : Program} {w : World} : ∀ {kvs : List (Key × V)} {es : List DictEntry}, KVE kvs es → Pairs (mixKind P w) es (moreOf kvs es) ∧ L2.KV kvs (moreOf kvs es) ∧ (moreOf kvs es).map (·.1) = kvs.map (·.1) ∧ (moreOf kvs es).length = kvs.length
  | [], [], _ => ⟨.nil, .nil, rfl, rfl⟩
  | [], _ :: _, h => h.elim
  | _ :: _, [], h => h.elim
  | (k, v) :: r, e :: es, ⟨⟨x, t, hk, he⟩, hv, hr⟩ => by
    obtain ⟨i1, i2, i3, i4⟩ := KVE.pairs (P := P) (w := w) hr
    refine ⟨.cons ?_ rfl i1, .cons ⟨rfl, hv⟩ i2, ?_, ?_⟩
    · show keyIs k e.key = true
      have hk : k = .inr x := hk
      rw [hk, he]
      simp [keyIs, Value.isStrOf]
    · show k :: _ = k :: _
      rw [i3]
    · show (moreOf r es).length + 1 = r.length + 1
      rw [i4]
theorem get_lt {h : Heap} {a : Addr} {o : Obj} (e : h.get? a = some o) : a < h.objs.size := by
  unfold Heap.get? at e
  by_cases c : a < h.objs.size
  · exact c
  · rw [Array.getElem?_eq_none (Nat.le_of_not_lt c)] at e
    cases e
theorem sys_lt {h : Heap} {mg : Str → Option Value} (g : h.Ns mainGlobals mg) : sysModules < h.objs.size := by
  obtain ⟨o, es, ep, e, _⟩ := g
  exact Nat.lt_trans (by decide : sysModules < mainGlobals) (get_lt e)
def rKCopy (d : Addr) (es : Array DictEntry) : List V → Hp → VK → Prop := fun xs H Q => ∃ kvs : List (Key × V), xs = [.ref d] ∧ KVE kvs es.toList ∧ (kvs.map (·.1)).Nodup ∧ kvs.length ≤ sizeLine ∧ ∀ p, H p = none → Q (.ref p) (upd H p (.dK kvs))
theorem call_kdict {X : Cx} {d : Addr} {es : Array DictEntry} {n : Nat} (D : KDict X.K X.w d es n) : CallR X (.type "dict") (rKCopy d es) := by
  intro pins s σ H xs us Q I rs h
  obtain ⟨kvs, rfl, hk, hn, hl, q⟩ := h
  cases rs with
  | cons ra rt =>
    cases rt
    cases ra
    obtain ⟨i1, i2, i3, i4⟩ := hk.pairs (P := X.prog) (w := X.w)
    have hd : Heap.DictOf (mixKind X.prog X.w) s.heap d (moreOf kvs es.toList) := by
      refine ⟨_, es, n, I.kIn d _ D.at_, ⟨rfl, rfl, rfl⟩, rfl, ?_, i1, by rw [i3]; exact hn⟩
      intro e he
      obtain ⟨x, t, h1, h2⟩ := D.lit.all e (by simpa using he)
      refine ⟨.inr x, ?_, h2⟩
      show keyIs (.inr x) e.key = true
      rw [h1]; simp [keyIs, Value.isStrOf]
    refine kt_call_dict D.low hd (by rw [i4]; exact hl) fun h' hd' hs => ?_
    have keep : ∀ (b : Addr) (u : Obj), s.heap.get? b = some u → h'.get? b = some u := fun b u hb => by
      have hne : b ≠ s.heap.objs.size := fun e => by
        subst e
        unfold Heap.get? at hb
        simp at hb
      rw [hs.2 b hne]
      exact Heap.get?_push_of_some _ hb
    have ok : ObjOk X.prog X.w (upd H s.heap.objs.size (.dK kvs)) h' s.heap.objs.size (.dK kvs) := by
      unfold ObjOk
      refine ⟨hl, ?_, _, i2, hd'⟩
      have hlt : sysModules < s.heap.objs.size := by
        obtain ⟨o, es', ep, e, _⟩ := I.mod.glob
        exact Nat.lt_trans (by decide : sysModules < mainGlobals) (get_lt (I.bs _ _ e).1)
      simp only [beq_eq_false_iff_ne, ne_eq]
      exact fun e => absurd hlt (by rw [e]; exact Nat.lt_irrefl _)
    exact ⟨.ref _, _, I.laid keep (Nat.le_refl _) ok, rfl, q _ I.fresh⟩

def rKCopyX (K : PySem.W.Frag) (d : Addr) : List V → Hp → VK → Prop := fun xs H Q => ∃ es n, List.lookup d K = some { cls := .type "dict", data := .dict es n } ∧ rKCopy d es xs H Q
theorem call_kdictX {X : Cx} {d : Addr} {es : Array DictEntry} {n : Nat} (D : KDict X.K X.w d es n) : CallR X (.type "dict") (rKCopyX X.K d) := by
  intro pins s σ H xs us Q I rs h
  obtain ⟨es', n', h1, h2⟩ := h
  rw [D.at_] at h1
  cases h1
  exact call_kdict D pins s σ H xs us Q I rs h2
theorem KEnts.kve {K : PySem.W.Frag} : ∀ {es : List DictEntry} {kvs : List (Str × Dt)}, KEnts K es kvs → ∃ vs : List (Key × V), KVE vs es ∧ ∀ B, IsKv K B vs (kvs.map fun kv => ((Sum.inr kv.1 : Key), kv.2))
  | [], [], _ => ⟨[], trivial, fun _ => .nil⟩
  | [], _ :: _, h => h.elim
  | _ :: _, [], h => h.elim
  | e :: es, kv :: kvs, h => by
    obtain ⟨⟨t, hk⟩, ⟨v, hv, hd⟩, hr⟩ := h
    obtain ⟨vs, i1, i2⟩ := KEnts.kve hr
    exact ⟨(.inr kv.1, v) :: vs, ⟨⟨_, t, rfl, hk⟩, hv, i1⟩, fun B => .cons hd.is (i2 B)⟩
section
variable {K : PySem.W.Frag} {w : World} {c : Addr} {kvs : List (Str × Dt)} {pin : List Nat} {Γ : List Sl} {P : Ps} {Post : Re → List Sl → Prop} {te : TE}
theorem we_kdict (D : KDic K w c kvs) (hn : (kvs.map fun kv => (Sum.inr kv.1 : Key)).Nodup) (hl : kvs.length ≤ 1000000) (p : Post (.nw (.dK (kvs.map fun kv => ((Sum.inr kv.1 : Key), kv.2)))) Γ) : WE K (tCB (rKCopyX K c) (tCons (tC (.ref c)) tNil)) Γ Post := fun σ B H E Q q => by
  obtain ⟨es, n, D1, D2⟩ := D.ex
  obtain ⟨vs, h1, h2⟩ := D2.kve
  have hk : vs.map (·.1) = kvs.map fun kv => (Sum.inr kv.1 : Key) := by
    rw [(h2 B).ks, List.map_map]; rfl
  refine ⟨es, n, D1.at_, vs, rfl, h1, by rw [hk]; exact hn, ?_, fun a ha => ?_⟩
  · rw [(h2 B).len, List.length_map]; exact Nat.le_trans hl (by decide)
  · exact q _ _ _ (.nw (.dK _)) Γ (Go.beside E ha) ⟨a, _, rfl, .inr ha, E.not_own ha, upd_same, E.base_none ha, vs, rfl, h2 B⟩ p
/-- dict(d) of a dict -/
def rDictD : List V → Hp → VK → Prop := fun xs H Q => ∃ (a : Addr) (kvs : List (Key × V)), xs = [.ref a] ∧ Rd H a (.dK kvs) ∧ ∀ p, H p = none → Q (.ref p) (upd H p (.dK kvs))
theorem cr_dictD {X : Cx} : CallR X (.type "dict") rDictD := call_dictD
theorem we_dictD (h : WE K te Γ fun r Γ1 => ∃ kvs, dkOf Γ1 r = some kvs ∧ Post (.nw (.dK kvs)) Γ1) : WE K (tCB rDictD (tCons te tNil)) Γ Post := fun σ B H E Q q => by
  refine h σ B H E _ fun x B1 H1 r Γ1 g1 k1 p1 => ?_
  obtain ⟨kvs, e, p⟩ := p1
  obtain ⟨a, xs, rfl, ha, hk⟩ := rv_dK g1.env k1.rv e
  refine ⟨a, xs, rfl, .inl ha, fun q' hq' => ?_⟩
  have kk : ReOk K σ (Own σ Γ1) (Own σ Γ1) B1 H1 (upd H1 q' (.dK xs)) (.ref q') (.nw (.dK kvs)) := ⟨q', _, rfl, .inr hq', g1.env.not_own hq', upd_same, g1.env.base_none hq', xs, rfl, hk⟩
  exact q _ _ _ (.nw (.dK kvs)) Γ1 (g1.trans (Go.beside g1.env hq')) (ReOk.earlier kk g1.mv fun a h => .inl (g1.sub a h)) p
/-- list(d) -/
theorem we_listD (h : WE K te Γ fun r Γ1 => ∃ kvs, dkOf Γ1 r = some kvs ∧ Post (.new (kvs.map fun kv => .raw (kV kv.1))) Γ1) : WE K (tCB rListD (tCons te tNil)) Γ Post := fun σ B H E Q q => by
  refine h σ B H E _ fun x B1 H1 r Γ1 g1 k1 p1 => ?_
  obtain ⟨kvs, e, p⟩ := p1
  obtain ⟨a, xs, rfl, ha, hk⟩ := rv_dK g1.env k1.rv e
  refine ⟨a, xs, rfl, ha, fun q' hq' => ?_⟩
  have hx : (xs.map fun kv => kV kv.1).map Dt.raw = kvs.map fun kv => Dt.raw (kV kv.1) := by
    have := congrArg (List.map fun k => Dt.raw (kV k)) hk.ks
    rw [List.map_map, List.map_map] at this
    rw [List.map_map]; exact this
  have ia : IsA K B1 (xs.map fun kv => kV kv.1) (kvs.map fun kv => Dt.raw (kV kv.1)) := by rw [← hx]; exact IsA.raws
  have kk : ReOk K σ (Own σ Γ1) (Own σ Γ1) B1 H1 (upd H1 q' (.lst (xs.map fun kv => kV kv.1))) (.ref q') (.new (kvs.map fun kv => .raw (kV kv.1))) := ⟨q', _, rfl, .inr hq', g1.env.not_own hq', upd_same, g1.env.base_none hq', _, rfl, ia⟩
  exact q _ _ _ (.new _) Γ1 (g1.trans (Go.beside g1.env hq')) (ReOk.earlier kk g1.mv fun a h => .inl (g1.sub a h)) p
/-- isinstance of an owned dict -/
theorem we_isiD {i : Nat} {ds : List (Key × Dt)} {c : String} {b : Bool} (h : Γ[i]? = some (.cel (.dK ds))) (hk : kitB "dict" c = some b) (p : Post (.val (.bl b)) Γ) : WE K (tCB (rIsi K) (tCons (tVar i) (tCons (tC (.ty c)) tNil))) Γ Post := fun σ B H E Q q => by
  obtain ⟨l, o, e1, e2, e3, us, rfl, e4⟩ := E.cel i _ h
  exact ⟨.ref l, e1, .ref l, .ty c, .type "dict", .type c, b, rfl, .ty c, .base (.dK e2), kit_ty hk, q _ B H _ Γ (.refl E) (.raw _) p⟩
theorem kb_dd : kitB "dict" "dict" = some true := by decide +kernel
theorem kb_db : kitB "dict" "bool" = some false := by decide +kernel
theorem kb_di : kitB "dict" "int" = some false := by decide +kernel
theorem kb_ds : kitB "dict" "str" = some false := by decide +kernel
theorem kb_dt : kitB "dict" "tuple" = some false := by decide +kernel
theorem kb_dl : kitB "dict" "list" = some false := by decide +kernel
end
/-- return d of an owned dict -/
theorem ws_retK {K : PySem.W.Frag} {pin : List Nat} {Γ : List Sl} {P : Ps} {i : Nat} {kvs : List (Key × Dt)} (h : Γ[i]? = some (.cel (.dK kvs))) (p : P.rt (.nw (.dK kvs)) (Γ.set i .un)) : WS K pin (tRet (tVar i)) Γ P := ws_ret (we_move h ⟨rfl, p⟩)
end Ab
/-! dicts: comprehensions over the keys of a locked dict, dict comprehensions over a tuple -/
namespace Ab
open PySem L2
theorem upd_upd {H : Hp} {a : Addr} {o u : HO} : upd (upd H a o) a u = upd H a u := funext fun b => by
  by_cases h : b = a
  · subst h; rw [upd_same, upd_same]
  · rw [upd_ne h, upd_ne h, upd_ne h]
section
variable {K : PySem.W.Frag} {pin : List Nat} {Γ : List Sl} {P : Ps}
/-- ys = [k for k in d if ..], d an owned dict, locked meanwhile; what the test says is shown on the heap -/
theorem ws_lockKeys {i j m : Nat} {kvs : List (Key × Dt)} {tt : TT} (hi : Γ[i]? = some (.cel (.dK kvs))) (hj : Γ[j]? = some .un) (hm : pin.contains m = false) (hml : decide (m < Γ.length) = true) (hn : kvs.length ≤ 1000000) (p : Key × Dt → Bool)
    (raw : ∀ (σ : L2.St) (B H : Hp) (d : Addr) (us : List (Key × V)), Env K B H σ Γ → σ[i]? = some (some (.ref d)) → H d = some (.dK us) → B d = none → IsKv K B us kvs → ∀ (od : Obj) (k : Key) (dv : Dt), (k, dv) ∈ kvs → ∀ (H' : Hp) (R : Bool → Hp → Prop), (∀ a u, a ≠ d → H a = some u → H' a = some u) → H' d = some (.frz od (.dK us)) → R (p (k, dv)) H' → tt (σ.set j (some (kV k))) H' R)
    (fin : P.nx (Γ.set m (.acc ((kvs.filter p).map fun kv => .raw (kV kv.1))))) : WS K pin (tLock (tAsg (tLc (iKeys (tVar i)) (gName j) tt (tVar j) [j]) (gName m))) Γ P := fun σ B H D E n r b c xx => by
  obtain ⟨d, o, q1, q2, q3, us, rfl, q4⟩ := E.cel i _ hi
  have hjL : j < Γ.length := (List.getElem?_eq_some_iff.mp hj).1
  have hjs : j < σ.length := by rw [E.len]; exact hjL
  have hln := q4.len
  refine ⟨d, .dK us, q2, trivial, fun od => ?_⟩
  show tLc (iKeys (tVar i)) (gName j) tt (tVar j) [j] σ (upd H d (.frz od (.dK us))) _
  refine ⟨.ref d, q1, d, od, rfl, .inl ⟨us, upd_same, fun L hL => ?_⟩⟩
  have hLd : L ≠ d := fun z => by subst z; rw [upd_same] at hL; cases hL
  have hL0 : H L = none := by rw [upd_ne hLd] at hL; exact hL
  refine ⟨fun t mm H' => mm = us.length - t ∧ t ≤ us.length ∧ H' = upd (upd H d (.frz od (.dK us))) L (.lst (((kvs.take t).filter p).map fun kv => kV kv.1)), ⟨us.length, by simp, Nat.zero_le _, by rw [List.take_zero]; rfl⟩, ?_⟩
  rintro t mm H' ⟨rfl, ht, rfl⟩
  by_cases hlt : t < us.length
  · refine .inr ⟨⟨by rw [upd_ne (Ne.symm hLd)]; exact upd_same, hlt⟩, fun H2 => H2 = upd (upd H d (.frz od (.dK us))) L (.lst (((kvs.take (t + 1)).filter p).map fun kv => kV kv.1)), fun H2 e => ⟨us.length - (t + 1), by omega, rfl, hlt, e⟩, fun x H2 hy => ?_⟩
    obtain ⟨rfl, k, v, hkt, rfl⟩ := hy
    obtain ⟨dv, hdv⟩ : ∃ dv, kvs[t]? = some (k, dv) := by
      have e1 : (us.map (·.1))[t]? = some k := by rw [List.getElem?_map, hkt]; rfl
      rw [q4.ks, List.getElem?_map] at e1
      obtain ⟨⟨k', dv⟩, e2, e3⟩ := Option.map_eq_some_iff.mp e1
      cases e3
      exact ⟨dv, e2⟩
    have es2 : (wipe σ [j]).set j (some (kV k)) = σ.set j (some (kV k)) := by
      show (σ.set j none).set j (some (kV k)) = _
      rw [List.set_set]
    show wipe ((wipe σ [j]).set j (some (kV k))) [j] = wipe σ [j] ∧ tt ((wipe σ [j]).set j (some (kV k))) _ _
    rw [es2]
    refine ⟨by show (σ.set j (some (kV k))).set j none = σ.set j none; rw [List.set_set], raw σ B H d us E q1 q2 q3 q4 od k dv (List.mem_of_getElem? hdv) _ _ (fun a u ha hu => ?_) (by rw [upd_ne (Ne.symm hLd)]; exact upd_same) ?_⟩
    · rw [upd_ne (fun z => by subst z; rw [hL0] at hu; cases hu), upd_ne ha]; exact hu
    · by_cases hp : p (k, dv) = true
      · refine Eq.mpr (if_pos hp) ?_
        refine ⟨kV k, List.getElem?_set_self hjs, _, upd_same, ?_, ?_⟩
        · rw [List.length_map]
          refine Nat.lt_of_le_of_lt (List.length_filter_le _ _) (Nat.lt_of_le_of_lt (by rw [List.length_take]; exact Nat.min_le_left _ _) (Nat.lt_of_lt_of_le hlt (Nat.le_trans (by rw [hln]; exact hn) (by decide))))
        · rw [upd_upd, List.take_add_one, hdv, List.filter_append, List.map_append]
          congr 2
          simp [hp]
      · refine Eq.mpr (if_neg hp) ?_
        rw [List.take_add_one, hdv, List.filter_append, List.map_append]
        congr 2
        simp [hp]
  · have e : t = us.length := by omega
    subst e
    refine .inl ⟨⟨by rw [upd_ne (Ne.symm hLd)]; exact upd_same, Nat.le_refl _⟩, ?_⟩
    have hH : upd (upd (upd H d (.frz od (.dK us))) L (.lst (((kvs.take us.length).filter p).map fun kv => kV kv.1))) d (.dK us) = upd H L (.lst ((kvs.filter p).map fun kv => kV kv.1)) := by
      rw [hln, List.take_length]
      refine funext fun a => ?_
      by_cases h1 : a = d
      · subst h1; rw [upd_same, upd_ne (Ne.symm hLd), q2]
      · rw [upd_ne h1]
        by_cases h2 : a = L
        · subst h2; rw [upd_same, upd_same]
        · rw [upd_ne h2, upd_ne h2, upd_ne h1]
    show upd _ _ _ d = _ ∧ D.nx (σ.set m (some (.ref L))) _
    rw [hH]
    refine ⟨by rw [upd_ne (Ne.symm hLd)]; exact upd_same, ?_⟩
    have hraw : IsA K B ((kvs.filter p).map fun kv => kV kv.1) ((kvs.filter p).map fun kv => Dt.raw (kV kv.1)) := by
      have := IsA.raws (K := K) (B := B) (xs := (kvs.filter p).map fun kv => kV kv.1)
      rw [List.map_map] at this
      exact this
    exact n _ B _ _ (goS_set (r := .new ((kvs.filter p).map fun (kv : Key × Dt) => Dt.raw (kV kv.1))) (Go.beside E hL0) (re_newL E hraw hL0) hm (of_decide_eq_true hml)) fin
end
section
variable {K : PySem.W.Frag} {Γ : List Sl} {Post : Re → List Sl → Prop} {te tk tv : TE}
theorem putE_len {κ : Type} [DecidableEq κ] (l : List (κ × Dt)) (k : κ) (d : Dt) : (putE l k d).length ≤ l.length + 1 := by
  unfold putE
  split
  · rw [List.length_map]; omega
  · rw [List.length_append]; exact Nat.le_refl _
/-- {k: v for x in xs}, xs a tuple -/
theorem we_dcT {α : Type} {j : Nat} (xs : List α) (c : α → Dt) (kk : α → Key) (vv : α → Dt) (hj : Γ[j]? = some .un) (hn : xs.length ≤ 1000000) (h : WE K te Γ fun z Γ1 => z = .val (.tup (xs.map c)) ∧ Γ1 = Γ)
    (hk : ∀ x ∈ xs, WE K tk (Γ.set j (.val (c x))) fun r G => r = .val (.raw (kV (kk x))) ∧ G = Γ.set j (.val (c x))) (hv : ∀ x ∈ xs, WE K tv (Γ.set j (.val (c x))) fun r G => r = .val (vv x) ∧ G = Γ.set j (.val (c x)))
    (done : Post (.nw (.dK (xs.foldl (fun l x => putE l (kk x) (vv x)) []))) Γ) : WE K (tDc (iTup K te) (gName j) tYes tk tv [j]) Γ Post := fun σ B H E Q q => by
  refine h σ B H E _ fun v B1 H1 z Γ1 g1 k1 p1 => ?_
  obtain ⟨rfl, rfl⟩ := p1
  obtain ⟨t, us, rfl, hT, hU⟩ := Is.tupR k1
  have E1 := g1.env
  have hjL : j < Γ1.length := (List.getElem?_eq_some_iff.mp hj).1
  have hjs : j < σ.length := by rw [E.len]; exact hjL
  refine ⟨t, rfl, ⟨us, sqT_mono E1.bh hT⟩, fun D hD => ?_⟩
  have oD : ¬ Own σ Γ1 D := E1.not_own hD
  let S : Nat → Hp → Prop := fun i H' => ∃ B' ws, Mv (Own σ Γ1) B1 H1 B' H' ∧ Env K B' H' σ Γ1 ∧ H' D = some (.dK ws) ∧ B' D = none ∧ IsKv K B' ws ((xs.take i).foldl (fun l x => putE l (kk x) (vv x)) []) ∧ ws.length ≤ i
  refine ⟨fun i m H' => m = xs.length - i ∧ i ≤ xs.length ∧ S i H', ⟨xs.length, by simp, Nat.zero_le _, B1, [], (Go.beside E1 hD).mv, E1.beside hD, upd_same, E1.base_none hD, by rw [List.take_zero]; exact .nil, Nat.le_refl _⟩, ?_⟩
  rintro i m H' ⟨rfl, hi, B', ws, mv, E', hD', bD', hw, hwl⟩
  have hT' : SqT K H' t us := sqT_mono E'.bh (sqT_mono mv.bb hT)
  have hul : us.length = xs.length := by rw [hU.len, List.length_map]
  by_cases hlt : i < xs.length
  · obtain ⟨x, hx⟩ : ∃ x, xs[i]? = some x := ⟨_, List.getElem?_eq_getElem hlt⟩
    obtain ⟨xv, hx1, hx2⟩ := hU.get (show (xs.map c)[i]? = some (c x) by rw [List.getElem?_map, hx]; rfl)
    refine .inr ⟨⟨us, xv, hT', hx1⟩, S (i + 1), fun H2 s2 => ⟨xs.length - (i + 1), by omega, rfl, hlt, s2⟩, fun x' H2 hyl => ?_⟩
    obtain ⟨e, hyl⟩ := hyl
    subst e
    have ex : x' = xv := by
      have := hyl us hT'
      rw [hx1] at this; cases this; rfl
    subst ex
    have es2 : (wipe σ [j]).set j (some x') = σ.set j (some x') := by
      show (σ.set j none).set j (some x') = _
      rw [List.set_set]
    show wipe ((wipe σ [j]).set j (some x')) [j] = wipe σ [j] ∧ _
    rw [es2]
    refine ⟨by show (σ.set j (some x')).set j none = σ.set j none; rw [List.set_set], ?_⟩
    unfold tYes
    refine Eq.mpr (if_pos rfl) ?_
    have E2 := E'.setV hjL (hx2.mono mv.bb)
    have xm := List.mem_of_getElem? hx
    have ow1 : ∀ b, Own (σ.set j (some x')) (Γ1.set j (.val (c x))) b → Own σ Γ1 b := fun b h => h.set_ne fun ds z => nomatch z
    have nA : ¬ Own (σ.set j (some x')) (Γ1.set j (.val (c x))) D := fun z => oD (ow1 D z)
    refine hk x xm _ B' _ E2 _ fun y B3 H3 r G g3 k3 p3 => ?_
    obtain ⟨rfl, rfl⟩ := p3
    cases Is.rawI k3
    refine hv x xm _ B3 H3 g3.env _ fun z B4 H4 r G g4 k4 p4 => ?_
    obtain ⟨rfl, rfl⟩ := p4
    have g34 := g3.trans g4
    have h4D : H4 D = some (.dK ws) := g34.mv.kp D _ nA hD'
    have b4D : B4 D = none := g34.mv.off D nA (by rw [hD']; exact fun z => nomatch z) bD'
    have mv4 : Mv (Own σ Γ1) B1 H1 B4 H4 := mv.trans (m1 := Own σ Γ1) (fun _ z => .inl z) (g34.mv.iff ow1)
    have b2 := env_back E1 mv4.bb g34.env (by rw [List.length_set]; exact hjL)
    have eG : (Γ1.set j (.val (c x))).set j (keepV Γ1[j]?) = Γ1 := by
      rw [hj, List.set_set]
      show Γ1.set j .un = Γ1
      apply List.ext_getElem?
      intro z
      by_cases h1 : j = z
      · subst h1; rw [List.getElem?_set_self hjL]; exact hj.symm
      · rw [List.getElem?_set_ne h1]
    rw [eG] at b2
    refine ⟨ws, kk x, rfl, h4D, Nat.lt_of_le_of_lt hwl (Nat.lt_of_lt_of_le hlt (Nat.le_trans hn (by decide))), B4, putK ws (kk x) z, ⟨fun b o nb eb => ?_, mv4.bb, mv4.off⟩, b2.updOff b4D oD, upd_same, b4D, ?_, ?_⟩
    · rw [upd_ne (ne_of_none eb hD)]
      exact mv4.kp b o nb eb
    · rw [List.take_add_one, hx, List.foldl_append]
      exact (hw.mono g34.mv.bb).put (kk x) k4
    · have e1 := ((hw.mono g34.mv.bb).put (kk x) k4).len
      have e2 := putE_len ((xs.take i).foldl (fun l x => putE l (kk x) (vv x)) []) (kk x) (vv x)
      have e3 := hw.len
      omega
  · have e : i = xs.length := by omega
    subst e
    rw [List.take_length] at hw
    exact .inl ⟨⟨us, hT', by rw [hul]; exact Nat.le_refl _⟩, q (.ref D) B' H' (.nw (.dK _)) Γ1 (g1.trans ⟨mv, fun k ds h => ⟨ds, h⟩, E'⟩) ⟨D, _, rfl, g1.mv.back hD, oD, hD', bD', ws, rfl, hw⟩ done⟩
end
end Ab
/-! data of ints, texts and tuples: equality, _law_same on unlike data -/
namespace Ab
open PySem L2
inductive PD where
  | int (i : Int)
  | str (s : Str)
  | tup (l : List PD)
mutual
def PD.dt : PD → Dt
  | .int i => .int i
  | .str s => .str s
  | .tup l => .tup (PD.dts l)
def PD.dts : List PD → List Dt
  | [] => []
  | x :: r => x.dt :: PD.dts r
end
mutual
def PD.py : PD → PyData
  | .int i => .int i
  | .str s => .str s
  | .tup l => .tuple (PD.pys l)
def PD.pys : List PD → List PyData
  | [] => []
  | x :: r => x.py :: PD.pys r
end
mutual
def PD.dep : PD → Nat
  | .int _ => 0
  | .str _ => 0
  | .tup l => PD.deps l + 1
def PD.deps : List PD → Nat
  | [] => 0
  | x :: r => max x.dep (PD.deps r)
end
mutual
def PD.ok : PD → Prop
  | .int _ => True
  | .str s => CS s
  | .tup l => l.length ≤ 1000000 ∧ PD.oks l
def PD.oks : List PD → Prop
  | [] => True
  | x :: r => x.ok ∧ PD.oks r
end
theorem PD.dts_map : ∀ l : List PD, PD.dts l = l.map PD.dt
  | [] => by rw [PD.dts]; rfl
  | x :: r => by rw [PD.dts, PD.dts_map r]; rfl
theorem PD.pys_map : ∀ l : List PD, PD.pys l = l.map PD.py
  | [] => by rw [PD.pys]; rfl
  | x :: r => by rw [PD.pys, PD.pys_map r]; rfl
theorem PD.deps_le {n : Nat} : ∀ {l : List PD}, PD.deps l ≤ n ↔ ∀ x ∈ l, x.dep ≤ n
  | [] => by simp [PD.deps]
  | x :: r => by
    rw [PD.deps, Nat.max_le, PD.deps_le (l := r)]
    simp
theorem PD.oks_iff : ∀ {l : List PD}, PD.oks l ↔ ∀ x ∈ l, x.ok
  | [] => by simp [PD.oks]
  | x :: r => by
    rw [PD.oks, PD.oks_iff (l := r)]
    simp
theorem PD.dts_len (l : List PD) : (PD.dts l).length = l.length := by rw [PD.dts_map, List.length_map]
def PD.eq (a b : PD) : Bool := PyData.eqv a.py b.py
def PD.eqs (a b : List PD) : Bool := PyData.eqvAll (PD.pys a) (PD.pys b)
mutual
theorem PD.eq_iff : ∀ (a b : PD), PD.eq a b = true ↔ a = b
  | .int i, .int j => by simp [PD.eq, PD.py, PyData.eqv]
  | .int i, .str t => by simp [PD.eq, PD.py, PyData.eqv]
  | .int i, .tup m => by simp [PD.eq, PD.py, PyData.eqv]
  | .str s, .int j => by simp [PD.eq, PD.py, PyData.eqv]
  | .str s, .str t => by simp [PD.eq, PD.py, PyData.eqv]
  | .str s, .tup m => by simp [PD.eq, PD.py, PyData.eqv]
  | .tup l, .int j => by simp [PD.eq, PD.py, PyData.eqv]
  | .tup l, .str t => by simp [PD.eq, PD.py, PyData.eqv]
  | .tup l, .tup m => by
    have h := PD.eqs_iff l m
    unfold PD.eqs at h
    simp only [PD.eq, PD.py, PyData.eqv, PD.tup.injEq]
    exact h
theorem PD.eqs_iff : ∀ (a b : List PD), PD.eqs a b = true ↔ a = b
  | [], [] => by simp [PD.eqs, PD.pys, PyData.eqvAll]
  | [], y :: s => by simp [PD.eqs, PD.pys, PyData.eqvAll]
  | x :: r, [] => by simp [PD.eqs, PD.pys, PyData.eqvAll]
  | x :: r, y :: s => by
    have h1 := PD.eq_iff x y
    have h2 := PD.eqs_iff r s
    unfold PD.eqs at h2
    unfold PD.eq at h1
    simp only [PD.eqs, PD.pys, PyData.eqvAll, Bool.and_eq_true, List.cons.injEq]
    rw [h1, h2]
end
theorem PD.eqs_false {a b : List PD} (h : a ≠ b) : PD.eqs a b = false := by
  cases e : PD.eqs a b with
  | false => rfl
  | true => exact absurd ((PD.eqs_iff a b).mp e) h
theorem PD.eq_false {a b : PD} (h : a ≠ b) : PD.eq a b = false := by
  cases e : PD.eq a b with
  | false => rfl
  | true => exact absurd ((PD.eq_iff a b).mp e) h
theorem PD.eq_int (i j : Int) : PD.eq (.int i) (.int j) = decide (i = j) := by
  rw [Bool.eq_iff_iff, PD.eq_iff, decide_eq_true_iff, PD.int.injEq]
theorem PD.eq_str (i j : Str) : PD.eq (.str i) (.str j) = decide (i = j) := by
  rw [Bool.eq_iff_iff, PD.eq_iff, decide_eq_true_iff, PD.str.injEq]
mutual
theorem PD.py_dt : ∀ a : PD, Dt.py a.dt = some a.py
  | .int i => by rw [PD.dt, PD.py]; rfl
  | .str s => by rw [PD.dt, PD.py]; rfl
  | .tup l => by rw [PD.dt, PD.py, Dt.py, PD.pys_dts l]; rfl
theorem PD.pys_dts : ∀ l : List PD, pyAll (PD.dts l) = some (PD.pys l)
  | [] => by rw [PD.dts, PD.pys, pyAll]
  | x :: r => by rw [PD.dts, PD.pys, pyAll, PD.py_dt x, PD.pys_dts r]
end
mutual
theorem PD.py_ok : ∀ a : PD, a.ok → a.py.canLay0 = true ∧ a.py.depth ≤ a.dep
  | .int i, _ => by rw [PD.py, PD.dep]; exact ⟨by simp [PyData.canLay0], by simp [PyData.depth]⟩
  | .str s, h => by
    rw [PD.ok] at h
    rw [PD.py, PD.dep]
    refine ⟨?_, by simp [PyData.depth]⟩
    rw [PyData.canLay0]
    show s.cps.all (fun c => decide (c < 1114112)) = true
    rw [← Array.all_toList, List.all_eq_true]
    exact fun c hc => decide_eq_true (h c hc)
  | .tup l, h => by
    rw [PD.ok] at h
    obtain ⟨h1, h2⟩ := PD.pys_ok l h.2
    rw [PD.py, PD.dep, PyData.canLay0, PyData.depth, h1]
    exact ⟨rfl, by omega⟩
theorem PD.pys_ok : ∀ l : List PD, PD.oks l → PyData.canLayAll0 (PD.pys l) = true ∧ PyData.depthAll (PD.pys l) ≤ PD.deps l
  | [], _ => by rw [PD.pys, PD.deps, PyData.canLayAll0, PyData.depthAll]; exact ⟨rfl, by omega⟩
  | x :: r, h => by
    rw [PD.oks] at h
    obtain ⟨a1, a2⟩ := PD.py_ok x h.1
    obtain ⟨b1, b2⟩ := PD.pys_ok r h.2
    rw [PD.pys, PD.deps, PyData.canLayAll0, PyData.depthAll, a1, b1]
    exact ⟨rfl, by omega⟩
end
theorem eqp_pd {Γ : List Sl} {Post : Re → List Sl → Prop} {neg : Bool} {a b : PD} (ha : a.ok) (hb : b.ok) (da : a.dep ≤ 64) (db : b.dep ≤ 64) (k : Post (.val (.bl (neg ^^ PD.eq a b))) Γ) : EqP neg (.val a.dt) (.val b.dt) Γ Post := by
  obtain ⟨a1, a2⟩ := PD.py_ok a ha
  obtain ⟨b1, b2⟩ := PD.py_ok b hb
  refine eqp_d (PD.py_dt a) (PD.py_dt b) ?_ ?_ k
  · unfold SeqAt.shaped; rw [a1, decide_eq_true (by omega)]; rfl
  · unfold SeqAt.shaped; rw [b1, decide_eq_true (by omega)]; rfl
/-- what stands in the two slots: data, or two lists -/
inductive SmP : List Sl → Bool → Nat → Prop
  | dat (a b : PD) (ha : a.ok) (hb : b.ok) : SmP [.val a.dt, .val b.dt] (PD.eq a b) (max a.dep b.dep)
  | lst (a b : List PD) (ha : PD.oks a) (hb : PD.oks b) (la : a.length ≤ 1000000) (lb : b.length ≤ 1000000) : SmP [.acc (PD.dts a), .acc (PD.dts b)] (PD.eqs a b) (max (PD.deps a) (PD.deps b) + 1)
def ap_sameP (n : Nat) : AP := fun as Post => ∃ b d, SmP as b d ∧ d ≤ n ∧ Post (.val (.bl b)) as
theorem len_sameP {n : Nat} (as : List Sl) (Post : Re → List Sl → Prop) (h : ap_sameP n as Post) : as.length = 2 := by obtain ⟨b, d, h, _⟩ := h; cases h <;> rfl
theorem take_snoc {α : Type} {l : List α} {i : Nat} {x : α} (h : l[i]? = some x) : l.take (i + 1) = l.take i ++ [x] := by rw [List.take_add_one, h]; rfl
local macro_rules | `(tactic| walk_at "no") => `(tactic| first
  | with_reducible exact fun h => Bool.noConfusion (show true = false from h)
  | with_reducible exact fun h => Bool.noConfusion (show false = true from h)
  | exact fun h => absurd h (by decide)
  | exact fun h => absurd (of_decide_eq_true h) (by omega)
  | exact fun h => absurd (by omega) (of_decide_eq_false h)
  | exact fun h => absurd (by omega) (nd_t h)
  | exact fun h => absurd (nd_f h) (by omega)
  | fail "no")
local macro_rules | `(tactic| walk_at "kb") => `(tactic| first | exact kb_tt | exact kb_ll | exact kb_ii | exact kb_ib | exact kb_ss | exact kb_sb | exact kb_si | exact kb_tb | exact kb_ti | exact kb_ts | exact kb_tl | exact kb_lb | exact kb_li | exact kb_ls | exact kb_lt | exact kb_is | exact kb_it | exact kb_il | exact kb_st | exact kb_sl | exact kb_bb | exact kb_bi | exact kb_nb | exact kb_ni | exact kb_ns | exact kb_nt | exact kb_nl | exact kb_bs | exact kb_bt | exact kb_bl | fail "kb")
local macro_rules | `(tactic| walk_at "norm") => `(tactic| first
  | ((refine' norm_cons (rfl : _ = _ :: _) ?ea ?et); (case ea => first | with_reducible exact (rfl : Sl.val _ = _) | with_reducible exact (rfl : Sl.cel _ = _) | with_reducible exact (rfl : Sl.un = _) | with_reducible exact norm_v | with_reducible exact norm_n | with_reducible exact norm_o | exact norm_v | exact norm_n | exact norm_o | exact rfl | fail "norm"); (case et => walk_at "norm"))
  | exact (rfl : _ = ([] : List Sl))
  | fail "norm")
local macro_rules | `(tactic| walk_at "x") => `(tactic| first
  | ((with_reducible refine' norm_intro ?hn ?_); (case hn => walk_at "norm"))
  | ((with_reducible refine' we_var ?hh ?_); (case hh => exact rfl))
  | ((with_reducible refine' we_own ?hh ?_); (case hh => exact rfl))
  | with_reducible refine we_c ?_
  | with_reducible refine we_addG ?_
  | with_reducible refine addp_i ?_
  | with_reducible refine we_opI0 ?_
  | with_reducible refine we_opI ?_
  | with_reducible refine we_mulG ?_
  | ((with_reducible refine' mulp_r ?h1 ?_); (case h1 => first | decide | omega | fail "m"))
  | ((with_reducible refine' mulp_l ?h1 ?_); (case h1 => first | decide | omega | fail "m"))
  | with_reducible refine we_neg ?_
  | with_reducible refine we_ltG ?_
  | with_reducible refine ltp_i ?_
  | with_reducible refine we_eqG ?_
  | with_reducible refine we_neG ?_
  | with_reducible refine eqp_i ?_
  | with_reducible refine nep_i ?_
  | with_reducible refine we_ixG ?_
  | ((with_reducible refine' ixp ?h1 ?h2 ?_); (case h1 => exact rfl); (case h2 => exact rfl))
  | with_reducible refine we_lenG ?_
  | ((with_reducible refine' lenp ?hh ?_); (case hh => exact rfl))
  | with_reducible refine we_intG ?_
  | with_reducible refine intp_i ?_
  | with_reducible refine intp_b ?_
  | with_reducible refine we_abs ?_
  | with_reducible refine we_tup ?_
  | with_reducible refine we_lst ?_
  | with_reducible refine we_tuple ?_
  | with_reducible refine we_list ?_
  | with_reducible refine we_sum ?_
  | with_reducible refine we_max2 ?_
  | with_reducible refine we_min2 ?_
  | with_reducible refine wd_cons ?_
  | with_reducible refine wd_nil ?_
  | with_reducible refine wa_cons ?_
  | with_reducible refine wa_nil ?_
  | with_reducible refine we_callH ?_
  | with_reducible refine we_isiG ?_
  | ((with_reducible refine' isi_own ?h1 ?h2 ?_); (case h1 => exact rfl); (case h2 => walk_at "kb"))
  | ((with_reducible refine' isi_val ?h1 ?h2 ?_); (case h1 => exact rfl); (case h2 => walk_at "kb"))
  | ((with_reducible refine' isi_new ?h2 ?_); (case h2 => walk_at "kb"))
  | with_reducible refine we_chainI ?_
  | with_reducible refine we_andV ?_
  | with_reducible refine we_orV ?_
  | with_reducible refine we_notV ?_
  | with_reducible refine wt_test ?_
  | with_reducible refine wt_B ?_
  | with_reducible refine wt_yes ?_
  | with_reducible refine wt_and ?_
  | with_reducible refine wt_or ?_
  | with_reducible refine wt_not ?_
  | ((with_reducible refine' ws_retA ?hh ?_); (case hh => exact rfl))
  | with_reducible refine ws_ret ?_
  | with_reducible refine ws_if ?_
  | with_reducible refine ws_nil ?_
  | with_reducible refine ws_expr ?_
  | with_reducible refine ws_asgN rfl rfl ?_
  | with_reducible refine ws_setN ?_
  | with_reducible refine ws_asgG ?_
  | ((with_reducible refine' wg_tup ?hh ?_); (case hh => exact rfl))
  | with_reducible refine wgs_cons ?_
  | with_reducible refine wgs_nil ?_
  | with_reducible refine wg_nameN rfl rfl ?_
  | ((with_reducible refine' we_appendN ?hh ?_); (case hh => exact rfl))
  | ((with_reducible refine' we_reverseN ?hh ?_); (case hh => exact rfl))
  | ((with_reducible refine' ws_augN ?h1 ?h2 ?_); (case h1 => exact rfl); (case h2 => exact rfl))
  | (refine ⟨_, rfl, ⟨_, rfl⟩, ?_⟩)
  | (refine ⟨_, rfl, ?_⟩)
  | (refine ⟨_, _, _, rfl, rfl, rfl, ?_⟩)
  | (refine ⟨_, _, rfl, rfl, (Nat.le_of_ble_eq_true rfl : _ ≤ _), ?_⟩)
  | (refine ⟨_, _, rfl, rfl, ?_⟩)
  | (refine ⟨(Nat.le_of_ble_eq_true rfl : _ ≤ _), ?_⟩)
  | (refine ⟨(rfl : _ = true), ?_⟩)
  | ((refine' ⟨fun _ => ?_, fun hY => absurd hY ?k2⟩); (case k2 => walk_at "no"))
  | ((refine' ⟨fun hY => absurd hY ?k2, fun _ => ?_⟩); (case k2 => walk_at "no"))
  | (refine ⟨⟨(by omega), (by omega)⟩, ?_⟩)
  | (refine ⟨⟨(by decide), (by decide), (by decide)⟩, ?_⟩)
  | (refine ⟨(show (_ : Prop) from by first | decide | omega | fail "c"), ?_⟩)
  | fail "stop")
local macro_rules | `(tactic| walk_at "e") => `(tactic| first | with_reducible refine ws_seq ?_ | walk_at "x" | fail "stop")
local macro_rules | `(tactic| walk_at "xs") => `(tactic| repeat' walk_at "x")
local macro_rules | `(tactic| walk_at "es") => `(tactic| repeat' walk_at "e")
local macro_rules | `(tactic| walk_at "len") => `(tactic| ((intro as Post h); (repeat (first | (obtain ⟨e, _⟩ := h; exact (congrArg List.length e).trans rfl) | (obtain ⟨_, h⟩ := h)))))
local macro_rules | `(tactic| walk_at "x") => `(tactic| first
  | with_reducible refine we_isN ?_
  | with_reducible refine we_notN ?_
  | with_reducible refine we_slG ?_
  | with_reducible refine wo_none ?_
  | with_reducible refine wo_some ?_
  | ((with_reducible refine' ixp ?h1 ?h2 ?_); (case h1 => exact rfl); (case h2 => assumption))
  | ((with_reducible refine' ixp_s ?h1 ?h2 ?_); (case h1 => assumption); (case h2 => assumption))
  | ((with_reducible refine' lenp_s ?h1 ?_); (case h1 => assumption))
  | ((with_reducible refine' slp_s ?h1 ?_); (case h1 => assumption))
  | with_reducible refine we_join ?_
  | with_reducible refine we_gtS ?_
  | ((with_reducible refine' we_ktup ?h1 ?_); (case h1 => assumption))
  | fail "x3")
theorem pd_at {l : List PD} {i : Nat} {x : PD} (h : l[i]? = some x) : (PD.dts l)[i]? = some x.dt := by rw [PD.dts_map, List.getElem?_map, h]; rfl
/-- the loop over the two rows -/
theorem run_rows {K : PySem.W.Frag} {n : Nat} {ap : AP} (hap : ∀ (a b : PD) (Post : Re → List Sl → Prop), a.ok → b.ok → max a.dep b.dep < n → Post (.val (.bl (PD.eq a b))) [.val a.dt, .val b.dt] → ap [.val a.dt, .val b.dt] Post)
    (xs ys : List PD) (hx : PD.oks xs) (hy : PD.oks ys) (lx : xs.length ≤ 1000000) (hl : xs.length = ys.length) (hd : max (PD.deps xs) (PD.deps ys) < n) (mk : List PD → Sl) (hmk : (∀ l, mk l = .acc (PD.dts l)) ∨ (∀ l, mk l = .val (.tup (PD.dts l)))) (s2 s3 : Sl) (P : Ps)
    (good : xs = ys → ∀ s3, P.nx [mk xs, mk ys, s2, s3]) (bad : xs ≠ ys → ∀ s3, P.rt (.val (.bl false)) [mk xs, mk ys, s2, s3]) :
    WS K [0, 1] (tFor (iRng1 (tCons (tCB (rLenV K) (tCons (tVar 0) tNil)) tNil)) (gName 3) (tIfS (tNot (tB (tCall (toSp K ap) [] E0 (tCons (tOp (rIx K) (tVar 0) (tVar 3)) (tCons (tOp (rIx K) (tVar 1) (tVar 3)) tNil))))) (tRet (tC (.bl false))) tNext)) [mk xs, mk ys, s2, s3] P := by
  have lxm := PD.dts_len xs
  have lym := PD.dts_len ys
  refine for_range1 (xs.length : Int) (fun i G => ∃ s3, xs.take i = ys.take i ∧ G = [mk xs, mk ys, s2, s3]) ?_ ?_ ?_
  · rcases hmk with hm | hm
    · rw [hm, hm]
      walk_at "es"
      exact .a ⟨by rw [lxm], by omega, by omega, _, rfl, rfl⟩
    · rw [hm, hm]
      walk_at "es"
      exact .a ⟨by rw [lxm], by omega, by omega, _, rfl, rfl⟩
  · rintro i G hi ⟨s3, he, rfl⟩
    obtain ⟨x, hxi⟩ : ∃ x, xs[i]? = some x := ⟨_, List.getElem?_eq_getElem (by omega)⟩
    obtain ⟨y, hyi⟩ : ∃ y, ys[i]? = some y := ⟨_, List.getElem?_eq_getElem (by omega)⟩
    have ox := PD.oks_iff.mp hx x (List.mem_of_getElem? hxi)
    have oy := PD.oks_iff.mp hy y (List.mem_of_getElem? hyi)
    have dx := PD.deps_le.mp (Nat.le_refl _) x (List.mem_of_getElem? hxi)
    have dy := PD.deps_le.mp (Nat.le_refl _) y (List.mem_of_getElem? hyi)
    rcases hmk with hm | hm
    · rw [hm, hm]
      walk_at "es"
      refine ixp rfl (atI_of rfl (pd_at hxi)) ?_
      walk_at "es"
      refine ixp rfl (atI_of rfl (pd_at hyi)) ?_
      walk_at "es"
      refine .a (hap x y _ ox oy (by omega) ?_)
      by_cases e : x = y
      · rw [(PD.eq_iff x y).mpr e]
        walk_at "es"
        exact .a ⟨_, by rw [take_snoc hxi, take_snoc hyi, he, e], rfl⟩
      · rw [PD.eq_false e]
        walk_at "es"
        have hb := bad (fun z => e (by subst z; rw [hxi] at hyi; cases hyi; rfl)) (.val (.int (i : Int)))
        rw [hm, hm] at hb
        exact hb
    · rw [hm, hm]
      walk_at "es"
      refine ixp rfl (atI_of rfl (pd_at hxi)) ?_
      walk_at "es"
      refine ixp rfl (atI_of rfl (pd_at hyi)) ?_
      walk_at "es"
      refine .a (hap x y _ ox oy (by omega) ?_)
      by_cases e : x = y
      · rw [(PD.eq_iff x y).mpr e]
        walk_at "es"
        exact .a ⟨_, by rw [take_snoc hxi, take_snoc hyi, he, e], rfl⟩
      · rw [PD.eq_false e]
        walk_at "es"
        have hb := bad (fun z => e (by subst z; rw [hxi] at hyi; cases hyi; rfl)) (.val (.int (i : Int)))
        rw [hm, hm] at hb
        exact hb
  · rintro G ⟨s3, he, rfl⟩
    rw [show (xs.length : Int).toNat = xs.length by omega, List.take_length, hl, List.take_length] at he
    exact good he s3
theorem run_sameP {K : PySem.W.Frag} {n : Nat} {ap : AP} (hap : ∀ (a b : PD) (Post : Re → List Sl → Prop), a.ok → b.ok → max a.dep b.dep < n → Post (.val (.bl (PD.eq a b))) [.val a.dt, .val b.dt] → ap [.val a.dt, .val b.dt] Post)
    (as : List Sl) (Post : Re → List Sl → Prop) (h : ap_sameP n as Post) : WS K [0, 1] (tSame K ap) (as ++ List.replicate (4 - as.length) .un) ⟨fun G => Post (.val .non) (exitArgs [0, 1] G as), fun r G => Post r (exitArgs [0, 1] G as), fun _ => False, fun _ => False, .no⟩ := by
  obtain ⟨b, d, h, hd, k⟩ := h
  unfold tSame
  cases h with
  | dat a c ha hc =>
    show WS K [0, 1] _ [.val a.dt, .val c.dt, .un, .un] _
    cases a with
    | int i =>
      cases c with
      | int j => rw [PD.eq_int] at k; rw [PD.dt, PD.dt] at k ⊢; walk_at "es"; exact k
      | str t => rw [PD.eq_false (by intro h; cases h)] at k; rw [PD.dt, PD.dt] at k ⊢; walk_at "es"; exact ⟨fun h => Bool.noConfusion h, fun _ => ⟨rfl, k⟩⟩
      | tup m => rw [PD.eq_false (by intro h; cases h)] at k; rw [PD.dt, PD.dt] at k ⊢; walk_at "es"; exact ⟨fun h => Bool.noConfusion h, fun _ => ⟨rfl, k⟩⟩
    | str s =>
      cases c with
      | int j => rw [PD.eq_false (by intro h; cases h)] at k; rw [PD.dt, PD.dt] at k ⊢; walk_at "es"; exact ⟨fun h => Bool.noConfusion h, fun _ => ⟨rfl, k⟩⟩
      | str t => rw [PD.eq_str] at k; rw [PD.dt, PD.dt] at k ⊢; walk_at "es"; exact eqp_str ⟨rfl, k⟩
      | tup m => rw [PD.eq_false (by intro h; cases h)] at k; rw [PD.dt, PD.dt] at k ⊢; walk_at "es"; exact ⟨fun h => Bool.noConfusion h, fun _ => ⟨rfl, k⟩⟩
    | tup l =>
      cases c with
      | int j => rw [PD.eq_false (by intro h; cases h)] at k; rw [PD.dt, PD.dt] at k ⊢; walk_at "es"; exact ⟨fun h => Bool.noConfusion h, fun _ => ⟨rfl, k⟩⟩
      | str t => rw [PD.eq_false (by intro h; cases h)] at k; rw [PD.dt, PD.dt] at k ⊢; walk_at "es"; exact ⟨fun h => Bool.noConfusion h, fun _ => ⟨rfl, k⟩⟩
      | tup m =>
        rw [PD.ok] at ha hc
        rw [PD.dep, PD.dep] at hd
        have l1 := PD.dts_len l
        have l2 := PD.dts_len m
        rw [PD.dt, PD.dt] at k ⊢
        by_cases hl : l.length = m.length
        · have hl2 : (PD.dts l).length = (PD.dts m).length := by omega
          walk_at "es"
          refine run_rows hap l m ha.2 hc.2 ha.1 hl (by omega) (fun l => .val (.tup (PD.dts l))) (.inr fun _ => rfl) _ _ _ (fun e s3 => ?_) (fun e s3 => ?_)
          · walk_at "es"
            rw [(PD.eq_iff _ _).mpr (by rw [e])] at k
            exact k
          · rw [PD.eq_false (by intro h; cases h; exact e rfl)] at k
            exact k
        · have hl2 : ¬ (PD.dts l).length = (PD.dts m).length := by omega
          walk_at "es"
          rw [PD.eq_false (by intro h; cases h; exact hl rfl)] at k
          exact k
  | lst a c ha hc la lc =>
    show WS K [0, 1] _ [.acc (PD.dts a), .acc (PD.dts c), .un, .un] _
    have l1 := PD.dts_len a
    have l2 := PD.dts_len c
    by_cases hl : a.length = c.length
    · have hl2 : (PD.dts a).length = (PD.dts c).length := by omega
      walk_at "es"
      refine run_rows hap a c ha hc la hl (by omega) (fun l => .acc (PD.dts l)) (.inl fun _ => rfl) _ _ _ (fun e s3 => ?_) (fun e s3 => ?_)
      · walk_at "es"
        rw [(PD.eqs_iff _ _).mpr e] at k
        exact k
      · rw [PD.eqs_false e] at k
        exact k
    · have hl2 : ¬ (PD.dts a).length = (PD.dts c).length := by omega
      walk_at "es"
      rw [PD.eqs_false (fun e => hl (by rw [e]))] at k
      exact k
end Ab
namespace Lk83
open PySem L2 Ab
def topS (i : Nat) : Stmt := PySem.Challenge.pw_stylepages_k83_changed_pages.main.body.getD i (.Pass ⟨0, 0, 0, 0⟩)
abbrev s_pages_by_number : Stmt := topS 1
abbrev N_pages_by_number : List Str := ["result", "page"]
theorem sc_pages_by_number : FnScope ["result", "page"] ["result"] (defScope s_pages_by_number) := ⟨rfl, rfl, rfl, by decide +kernel, rfl, by decide +kernel, by decide +kernel⟩
abbrev s_changed_pages : Stmt := topS 2
abbrev N_changed_pages : List Str := ["before", "after", "old", "new", "changed", "added", "number"]
theorem sc_changed_pages : FnScope ["before", "after", "old", "new", "changed", "added", "number"] ["before", "after"] (defScope s_changed_pages) := ⟨rfl, rfl, rfl, by decide +kernel, rfl, by decide +kernel, by decide +kernel⟩
abbrev s__law_pool : Stmt := topS 4
abbrev N__law_pool : List Str := ["_law_script", "_law_at", "_law_cell"]
theorem sc__law_pool : FnScope ["_law_script", "_law_at", "_law_cell"] ["_law_script", "_law_at"] (defScope s__law_pool) := ⟨rfl, rfl, rfl, by decide +kernel, rfl, by decide +kernel, by decide +kernel⟩
abbrev s__law_take : Stmt := topS 5
abbrev N__law_take : List Str := ["_law_pool_here", "_law_many", "_law_got", "_law_one", "_law_two"]
theorem sc__law_take : FnScope ["_law_pool_here", "_law_many", "_law_got", "_law_one", "_law_two"] ["_law_pool_here", "_law_many"] (defScope s__law_take) := ⟨rfl, rfl, rfl, by decide +kernel, rfl, by decide +kernel, by decide +kernel⟩
abbrev s__law_same : Stmt := topS 6
abbrev N__law_same : List Str := ["_law_one", "_law_two", "_law_both", "_law_k"]
theorem sc__law_same : FnScope ["_law_one", "_law_two", "_law_both", "_law_k"] ["_law_one", "_law_two"] (defScope s__law_same) := ⟨rfl, rfl, rfl, by decide +kernel, rfl, by decide +kernel, by decide +kernel⟩
abbrev s__law_line : Stmt := topS 7
abbrev N__law_line : List Str := ["_law_pool_here", "_law_chars", "_law_x", "_law_down", "_law_letters", "_law_j", "_law_char"]
theorem sc__law_line : FnScope ["_law_pool_here", "_law_chars", "_law_x", "_law_down", "_law_letters", "_law_j", "_law_char"] ["_law_pool_here"] (defScope s__law_line) := ⟨rfl, rfl, rfl, by decide +kernel, rfl, by decide +kernel, by decide +kernel⟩
abbrev s__law_page : Stmt := topS 8
abbrev N__law_page : List Str := ["_law_pool_here", "_law_number", "_law_cols", "_law_floats", "_law_columns", "_law_c", "_law_notes", "_law_k"]
theorem sc__law_page : FnScope ["_law_pool_here", "_law_number", "_law_cols", "_law_floats", "_law_columns", "_law_c", "_law_notes", "_law_k"] ["_law_pool_here", "_law_number", "_law_cols"] (defScope s__law_page) := ⟨rfl, rfl, rfl, by decide +kernel, rfl, by decide +kernel, by decide +kernel⟩
abbrev s__law_bent : Stmt := topS 9
abbrev N__law_bent : List Str := ["_law_pool_here", "_law_block", "_law_line_here", "_law_one", "_law_way"]
theorem sc__law_bent : FnScope ["_law_pool_here", "_law_block", "_law_line_here", "_law_one", "_law_way"] ["_law_pool_here", "_law_block"] (defScope s__law_bent) := ⟨rfl, rfl, rfl, by decide +kernel, rfl, by decide +kernel, by decide +kernel⟩
abbrev s__law_turned : Stmt := topS 10
abbrev N__law_turned : List Str := ["_law_pool_here", "_law_page_here", "_law_kind", "_law_columns", "_law_bent_here"]
theorem sc__law_turned : FnScope ["_law_pool_here", "_law_page_here", "_law_kind", "_law_columns", "_law_bent_here"] ["_law_pool_here", "_law_page_here"] (defScope s__law_turned) := ⟨rfl, rfl, rfl, by decide +kernel, rfl, by decide +kernel, by decide +kernel⟩
abbrev s__law_second : Stmt := topS 11
abbrev N__law_second : List Str := ["_law_script", "_law_pages", "_law_number", "_law_many", "_law_mode", "_law_cols", "_law_rows", "_law_k", "_law_own", "_law_elder", "_law_page_here"]
theorem sc__law_second : FnScope ["_law_script", "_law_pages", "_law_number", "_law_many", "_law_mode", "_law_cols", "_law_rows", "_law_k", "_law_own", "_law_elder", "_law_page_here"] ["_law_script", "_law_pages", "_law_number", "_law_many", "_law_mode", "_law_cols"] (defScope s__law_second) := ⟨rfl, rfl, rfl, by decide +kernel, rfl, by decide +kernel, by decide +kernel⟩
abbrev s__law_result : Stmt := topS 12
abbrev N__law_result : List Str := ["_law_pool_here", "_law_pages", "_law_unset", "_law_forms", "_law_k"]
theorem sc__law_result : FnScope ["_law_pool_here", "_law_pages", "_law_unset", "_law_forms", "_law_k"] ["_law_pool_here", "_law_pages", "_law_unset"] (defScope s__law_result) := ⟨rfl, rfl, rfl, by decide +kernel, rfl, by decide +kernel, by decide +kernel⟩
abbrev s__law_due : Stmt := topS 13
abbrev N__law_due : List Str := ["_law_one", "_law_two", "_law_changed", "_law_page_here", "_law_here", "_law_there", "_law_number", "_law_other"]
theorem sc__law_due : FnScope ["_law_one", "_law_two", "_law_changed", "_law_page_here", "_law_here", "_law_there", "_law_number", "_law_other"] ["_law_one", "_law_two"] (defScope s__law_due) := ⟨rfl, rfl, rfl, by decide +kernel, rfl, by decide +kernel, by decide +kernel⟩
abbrev s_law : Stmt := topS 14
abbrev N_law : List Str := ["_law_script", "_law_pool_here", "_law_start", "_law_many", "_law_shift", "_law_other", "_law_mode", "_law_cols", "_law_unset", "_law_pages", "_law_rows", "_law_one", "_law_two", "_law_due_here", "_law_k"]
theorem sc_law : FnScope ["_law_script", "_law_pool_here", "_law_start", "_law_many", "_law_shift", "_law_other", "_law_mode", "_law_cols", "_law_unset", "_law_pages", "_law_rows", "_law_one", "_law_two", "_law_due_here", "_law_k"] ["_law_script"] (defScope s_law) := ⟨rfl, rfl, rfl, by decide +kernel, rfl, by decide +kernel, by decide +kernel⟩
/-- what the top has left -/
structure Txt (K : PySem.W.Frag) (mg : Str → Option Value) where
  m_abs : mg "abs" = none
  m_bool : mg "bool" = none
  m_int : mg "int" = none
  m_isinstance : mg "isinstance" = none
  m_len : mg "len" = none
  m_list : mg "list" = none
  m_max : mg "max" = none
  m_range : mg "range" = none
  m_sorted : mg "sorted" = none
  m_str : mg "str" = none
  m_tuple : mg "tuple" = none
  f_pages_by_number : Addr
  fd_pages_by_number : FuncData
  F_pages_by_number : Fun K "pages_by_number" "pages_by_number" s_pages_by_number f_pages_by_number fd_pages_by_number
  g_pages_by_number : mg "pages_by_number" = some (.ref f_pages_by_number)
  b_pages_by_number : Binds K fd_pages_by_number ["result"] []
  f_changed_pages : Addr
  fd_changed_pages : FuncData
  F_changed_pages : Fun K "changed_pages" "changed_pages" s_changed_pages f_changed_pages fd_changed_pages
  g_changed_pages : mg "changed_pages" = some (.ref f_changed_pages)
  b_changed_pages : Binds K fd_changed_pages ["before", "after"] []
  f__law_pool : Addr
  fd__law_pool : FuncData
  F__law_pool : Fun K "_law_pool" "_law_pool" s__law_pool f__law_pool fd__law_pool
  g__law_pool : mg "_law_pool" = some (.ref f__law_pool)
  b__law_pool : Binds K fd__law_pool ["_law_script", "_law_at"] []
  f__law_take : Addr
  fd__law_take : FuncData
  F__law_take : Fun K "_law_take" "_law_take" s__law_take f__law_take fd__law_take
  g__law_take : mg "_law_take" = some (.ref f__law_take)
  b__law_take : Binds K fd__law_take ["_law_pool_here", "_law_many"] []
  f__law_same : Addr
  fd__law_same : FuncData
  F__law_same : Fun K "_law_same" "_law_same" s__law_same f__law_same fd__law_same
  g__law_same : mg "_law_same" = some (.ref f__law_same)
  b__law_same : Binds K fd__law_same ["_law_one", "_law_two"] []
  f__law_line : Addr
  fd__law_line : FuncData
  F__law_line : Fun K "_law_line" "_law_line" s__law_line f__law_line fd__law_line
  g__law_line : mg "_law_line" = some (.ref f__law_line)
  b__law_line : Binds K fd__law_line ["_law_pool_here"] []
  f__law_page : Addr
  fd__law_page : FuncData
  F__law_page : Fun K "_law_page" "_law_page" s__law_page f__law_page fd__law_page
  g__law_page : mg "_law_page" = some (.ref f__law_page)
  b__law_page : Binds K fd__law_page ["_law_pool_here", "_law_number", "_law_cols"] []
  f__law_bent : Addr
  fd__law_bent : FuncData
  F__law_bent : Fun K "_law_bent" "_law_bent" s__law_bent f__law_bent fd__law_bent
  g__law_bent : mg "_law_bent" = some (.ref f__law_bent)
  b__law_bent : Binds K fd__law_bent ["_law_pool_here", "_law_block"] []
  f__law_turned : Addr
  fd__law_turned : FuncData
  F__law_turned : Fun K "_law_turned" "_law_turned" s__law_turned f__law_turned fd__law_turned
  g__law_turned : mg "_law_turned" = some (.ref f__law_turned)
  b__law_turned : Binds K fd__law_turned ["_law_pool_here", "_law_page_here"] []
  f__law_second : Addr
  fd__law_second : FuncData
  F__law_second : Fun K "_law_second" "_law_second" s__law_second f__law_second fd__law_second
  g__law_second : mg "_law_second" = some (.ref f__law_second)
  b__law_second : Binds K fd__law_second ["_law_script", "_law_pages", "_law_number", "_law_many", "_law_mode", "_law_cols"] []
  f__law_result : Addr
  fd__law_result : FuncData
  F__law_result : Fun K "_law_result" "_law_result" s__law_result f__law_result fd__law_result
  g__law_result : mg "_law_result" = some (.ref f__law_result)
  b__law_result : Binds K fd__law_result ["_law_pool_here", "_law_pages", "_law_unset"] []
  f__law_due : Addr
  fd__law_due : FuncData
  F__law_due : Fun K "_law_due" "_law_due" s__law_due f__law_due fd__law_due
  g__law_due : mg "_law_due" = some (.ref f__law_due)
  b__law_due : Binds K fd__law_due ["_law_one", "_law_two"] []
  f_law : Addr
  fd_law : FuncData
  F_law : Fun K "law" "law" s_law f_law fd_law
  g_law : mg "law" = some (.ref f_law)
  b_law : Binds K fd_law ["_law_script"] []
def t_pages_by_number (K : PySem.W.Frag) : TS :=
    (tSeq (tIfS (tTest (tOp (rEqG K) (tOp (rIx K) (tVar 0) (tC (.int 0))) (tC (.str "unset")))) (tRet tDNewK) tNext)
    (tRet (tDc (iTup K (tOp (rIx K) (tVar 0) (tC (.int 2)))) (gName 1) tYes (tOp (rIx K) (tVar 1) (tC (.int 0))) (tVar 1) [1])))
def t_changed_pages (K : PySem.W.Frag) (ap_pages_by_number : AP) : TS :=
    (tSeq (tAsg (tCall (toSp K ap_pages_by_number) [] E0 (tCons (tVar 0) tNil)) (gName 2))
    (tSeq (tAsg (tCall (toSp K ap_pages_by_number) [] E0 (tCons (tVar 1) tNil)) (gName 3))
    (tSeq (tLock (tAsg (tLc (iKeys (tVar 2)) (gName 6) (tOr (tB (tDNotIn (tVar 6) (tVar 3))) (tTest (tOp (rNeG K) (tDGet (tVar 3) (tVar 6)) (tDGet (tVar 2) (tVar 6))))) (tVar 6) [6]) (gName 4)))
    (tSeq (tLock (tAsg (tLc (iKeys (tVar 3)) (gName 6) (tB (tDNotIn (tVar 6) (tVar 2))) (tVar 6) [6]) (gName 5)))
    (tRet (tCB (rSorted K) (tCons (tOp (rAddG K) (tVar 4) (tVar 5)) tNil)))))))
def t__law_pool (K : PySem.W.Frag) : TS :=
    (tSeq (tAsg (tC (.int 0)) (gName 2))
    (tSeq (tIfS (tTest (tOp (rLtG K) (tVar 1) (tCB (rLenV K) (tCons (tVar 0) tNil)))) (tAsg (tCB rAbs (tCons (tCB rInt1 (tCons (tOp (rIx K) (tVar 0) (tVar 1)) tNil)) tNil)) (gName 2)) tNext)
    (tRet (tLst (tCons (tVar 2) (tCons (tC (.int 0)) (tCons (tCB rInt1 (tCons (tOp rGeI (tVar 2) (tOp rPowI (tC (.int 10)) (tC (.int 18)))) tNil)) (tCons (tOp rModI (tCB rInt1 (tCons (tOp (rAddG K) (tVar 2) (tOp (rMulG K) (tVar 1) (tC (.int 7919)))) tNil)) (tC (.int 2147483647))) (tCons (tC (.int 3)) tNil)))))))))
def t__law_take (K : PySem.W.Frag) : TS :=
    (tSeq (tAsg (tOp (rAddG K) (tOp (rIx K) (tVar 0) (tC (.int 1))) (tC (.int 1))) (gSub (tVar 0) (tC (.int 1)) rSetL))
    (tSeq (tIfS (tTest (tOp (rEqG K) (tOp (rIx K) (tVar 0) (tC (.int 2))) (tC (.int 1)))) (tSeq (tAsg (tOp rModI (tCB rInt1 (tCons (tOp (rIx K) (tVar 0) (tC (.int 0))) tNil)) (tVar 1)) (gName 2))
    (tSeq (tAsg (tOp rDivI (tOp (rIx K) (tVar 0) (tC (.int 0))) (tVar 1)) (gSub (tVar 0) (tC (.int 0)) rSetL))
    (tRet (tVar 2)))) tNext)
    (tSeq (tAsg (tOp rModI (tCB rInt1 (tCons (tOp (rAddG K) (tOp (rAddG K) (tOp (rMulG K) (tOp (rIx K) (tVar 0) (tC (.int 3))) (tC (.int 48271))) (tOp (rMulG K) (tOp (rIx K) (tVar 0) (tC (.int 1))) (tC (.int 69621)))) (tC (.int 11))) tNil)) (tC (.int 2147483647))) (gName 3))
    (tSeq (tAsg (tOp rModI (tCB rInt1 (tCons (tOp (rAddG K) (tOp (rAddG K) (tOp (rMulG K) (tVar 3) (tC (.int 16807))) (tOp rDivI (tVar 3) (tC (.int 65536)))) (tOp (rMulG K) (tOp (rMulG K) (tOp (rIx K) (tVar 0) (tC (.int 1))) (tOp (rIx K) (tVar 0) (tC (.int 1)))) (tC (.int 40692)))) tNil)) (tC (.int 2147483399))) (gName 4))
    (tRet (tOp rModI (tCB rInt1 (tCons (tOp rDivI (tVar 4) (tOp (rAddG K) (tOp (rIx K) (tVar 0) (tC (.int 1))) (tC (.int 6)))) tNil)) (tVar 1)))))))
def t__law_same (K : PySem.W.Frag) (ap__law_same : AP) : TS :=
    (tSeq (tIfS (tOr (tB (tCB (rIsi K) (tCons (tVar 0) (tCons (tC (.ty "bool")) tNil)))) (tB (tCB (rIsi K) (tCons (tVar 1) (tCons (tC (.ty "bool")) tNil))))) (tRet (tAndV (tCB (rIsi K) (tCons (tVar 0) (tCons (tC (.ty "bool")) tNil))) (tAndV (tCB (rIsi K) (tCons (tVar 1) (tCons (tC (.ty "bool")) tNil))) (tOp (rEqG K) (tVar 0) (tVar 1))))) tNext)
    (tSeq (tIfS (tAnd (tB (tCB (rIsi K) (tCons (tVar 0) (tCons (tC (.ty "int")) tNil)))) (tB (tCB (rIsi K) (tCons (tVar 1) (tCons (tC (.ty "int")) tNil))))) (tRet (tOp (rEqG K) (tVar 0) (tVar 1))) tNext)
    (tSeq (tIfS (tAnd (tB (tCB (rIsi K) (tCons (tVar 0) (tCons (tC (.ty "str")) tNil)))) (tB (tCB (rIsi K) (tCons (tVar 1) (tCons (tC (.ty "str")) tNil))))) (tRet (tOp (rEqG K) (tVar 0) (tVar 1))) tNext)
    (tSeq (tAsg (tAndV (tCB (rIsi K) (tCons (tVar 0) (tCons (tC (.ty "tuple")) tNil))) (tCB (rIsi K) (tCons (tVar 1) (tCons (tC (.ty "tuple")) tNil)))) (gName 2))
    (tSeq (tIfS (tOr (tB (tVar 2)) (tAnd (tB (tCB (rIsi K) (tCons (tVar 0) (tCons (tC (.ty "list")) tNil)))) (tB (tCB (rIsi K) (tCons (tVar 1) (tCons (tC (.ty "list")) tNil)))))) (tSeq (tIfS (tTest (tOp (rNeG K) (tCB (rLenV K) (tCons (tVar 0) tNil)) (tCB (rLenV K) (tCons (tVar 1) tNil)))) (tRet (tC (.bl false))) tNext)
    (tSeq (tFor (iRng1 (tCons (tCB (rLenV K) (tCons (tVar 0) tNil)) tNil)) (gName 3) (tIfS (tNot (tB (tCall (toSp K ap__law_same) [] E0 (tCons (tOp (rIx K) (tVar 0) (tVar 3)) (tCons (tOp (rIx K) (tVar 1) (tVar 3)) tNil))))) (tRet (tC (.bl false))) tNext))
    (tRet (tC (.bl true))))) tNext)
    (tRet (tAndV (tIsN (tVar 0)) (tIsN (tVar 1)))))))))
def t__law_line (K : PySem.W.Frag) (ap__law_take : AP) : TS :=
    (tSeq (tAsg (tC (.str "abcdefghijklmnopqrstuvwxyzABCDEFGHIJKLMNOPQRSTUVWXYZ0123456789.,;:!?'()-")) (gName 1))
    (tSeq (tAsg (tCall (toSp K ap__law_take) [] E0 (tCons (tVar 0) (tCons (tC (.int 300)) tNil))) (gName 2))
    (tSeq (tAsg (tCall (toSp K ap__law_take) [] E0 (tCons (tVar 0) (tCons (tC (.int 200)) tNil))) (gName 3))
    (tSeq (tAsg (tLst tNil) (gName 4))
    (tSeq (tFor (iRng1 (tCons (tOp (rAddG K) (tC (.int 1)) (tCall (toSp K ap__law_take) [] E0 (tCons (tVar 0) (tCons (tC (.int 3)) tNil)))) tNil)) (gName 5) (tSeq (tAsg (tOp (rIx K) (tVar 1) (tCall (toSp K ap__law_take) [] E0 (tCons (tVar 0) (tCons (tC (.int 72)) tNil)))) (gName 6))
    (tDrop (tBM K "list" rAppend (tVar 4) (tCons (tTup (tCons (tOp (rAddG K) (tVar 2) (tOp (rMulG K) (tC (.int 40)) (tVar 5))) (tCons (tVar 6) (tCons (tOp (rAddG K) (tC (.int 1)) (tVar 5)) (tCons (tOp (rIx K) (tLst (tCons (tC (.str "plain")) (tCons (tC (.str "bold")) tNil))) (tOp rModI (tCB rInt1 (tCons (tVar 5) tNil)) (tC (.int 2)))) tNil))))) tNil)))))
    (tRet (tTup (tCons (tVar 3) (tCons (tCB (rTupleOf K) (tCons (tVar 4) tNil)) tNil)))))))))
def t__law_page (K : PySem.W.Frag) (ap__law_take : AP) (ap__law_line : AP) : TS :=
    (tSeq (tAsg (tTup tNil) (gName 3))
    (tSeq (tIfS (tTest (tOp (rEqG K) (tCall (toSp K ap__law_take) [] E0 (tCons (tVar 0) (tCons (tC (.int 4)) tNil))) (tC (.int 1)))) (tAsg (tTup (tCons (tTup (tCons (tCall (toSp K ap__law_line) [] E0 (tCons (tVar 0) tNil)) tNil)) tNil)) (gName 3)) tNext)
    (tSeq (tAsg (tLst tNil) (gName 4))
    (tSeq (tFor (iRng1 (tCons (tVar 2) tNil)) (gName 5) (tDrop (tBM K "list" rAppend (tVar 4) (tCons (tCB (rTupleOf K) (tCons (tLc (iRng1 (tCons (tCall (toSp K ap__law_take) [] E0 (tCons (tVar 0) (tCons (tC (.int 3)) tNil))) tNil)) (gName 7) tYes (tCall (toSp K ap__law_line) [] E0 (tCons (tVar 0) tNil)) [7]) tNil)) tNil))))
    (tSeq (tAsg (tTup tNil) (gName 6))
    (tSeq (tIfS (tTest (tOp (rEqG K) (tCall (toSp K ap__law_take) [] E0 (tCons (tVar 0) (tCons (tC (.int 4)) tNil))) (tC (.int 2)))) (tAsg (tTup (tCons (tTup (tCons (tCall (toSp K ap__law_line) [] E0 (tCons (tVar 0) tNil)) tNil)) tNil)) (gName 6)) tNext)
    (tRet (tTup (tCons (tVar 1) (tCons (tVar 3) (tCons (tCB (rTupleOf K) (tCons (tVar 4) tNil)) (tCons (tVar 6) tNil))))))))))))
def t__law_bent (K : PySem.W.Frag) (ap__law_take : AP) : TS :=
    (tSeq (tIfS (tTest (tOp (rEqG K) (tCB (rLenV K) (tCons (tVar 1) tNil)) (tC (.int 0)))) (tRet (tVar 1)) tNext)
    (tSeq (tAsg (tOp (rIx K) (tVar 1) (tUn rNegI (tC (.int 1)))) (gName 2))
    (tSeq (tAsg (tOp (rIx K) (tOp (rIx K) (tVar 2) (tC (.int 1))) (tUn rNegI (tC (.int 1)))) (gName 3))
    (tSeq (tAsg (tCall (toSp K ap__law_take) [] E0 (tCons (tVar 0) (tCons (tC (.int 5)) tNil))) (gName 4))
    (tSeq (tIfS (tTest (tOp (rEqG K) (tVar 4) (tC (.int 0)))) (tRet (tOp (rAddG K) (tSl (rSlG K) (tVar 1) tNoPart (tPart (tUn rNegI (tC (.int 1))))) (tTup (tCons (tTup (tCons (tOp (rAddG K) (tOp (rIx K) (tVar 2) (tC (.int 0))) (tC (.int 1))) (tCons (tOp (rIx K) (tVar 2) (tC (.int 1))) tNil))) tNil)))) tNext)
    (tSeq (tIfS (tTest (tOp (rEqG K) (tVar 4) (tC (.int 1)))) (tAsg (tTup (tCons (tOp (rAddG K) (tOp (rIx K) (tVar 3) (tC (.int 0))) (tC (.int 1))) (tCons (tOp (rIx K) (tVar 3) (tC (.int 1))) (tCons (tOp (rIx K) (tVar 3) (tC (.int 2))) (tCons (tOp (rIx K) (tVar 3) (tC (.int 3))) tNil))))) (gName 3)) tNext)
    (tSeq (tIfS (tTest (tOp (rEqG K) (tVar 4) (tC (.int 2)))) (tAsg (tTup (tCons (tOp (rIx K) (tVar 3) (tC (.int 0))) (tCons (tOp (rIx K) (tC (.str "ab")) (tCB rInt1 (tCons (tOp (rEqG K) (tOp (rIx K) (tVar 3) (tC (.int 1))) (tC (.str "a"))) tNil))) (tCons (tOp (rIx K) (tVar 3) (tC (.int 2))) (tCons (tOp (rIx K) (tVar 3) (tC (.int 3))) tNil))))) (gName 3)) tNext)
    (tSeq (tIfS (tTest (tOp (rEqG K) (tVar 4) (tC (.int 3)))) (tAsg (tTup (tCons (tOp (rIx K) (tVar 3) (tC (.int 0))) (tCons (tOp (rIx K) (tVar 3) (tC (.int 1))) (tCons (tOp (rAddG K) (tOp (rIx K) (tVar 3) (tC (.int 2))) (tC (.int 1))) (tCons (tOp (rIx K) (tVar 3) (tC (.int 3))) tNil))))) (gName 3)) tNext)
    (tSeq (tIfS (tTest (tOp (rEqG K) (tVar 4) (tC (.int 4)))) (tAsg (tTup (tCons (tOp (rIx K) (tVar 3) (tC (.int 0))) (tCons (tOp (rIx K) (tVar 3) (tC (.int 1))) (tCons (tOp (rIx K) (tVar 3) (tC (.int 2))) (tCons (tOp (rIx K) (tLst (tCons (tC (.str "plain")) (tCons (tC (.str "bold")) tNil))) (tCB rInt1 (tCons (tOp (rEqG K) (tOp (rIx K) (tVar 3) (tC (.int 3))) (tC (.str "plain"))) tNil))) tNil))))) (gName 3)) tNext)
    (tRet (tOp (rAddG K) (tSl (rSlG K) (tVar 1) tNoPart (tPart (tUn rNegI (tC (.int 1))))) (tTup (tCons (tTup (tCons (tOp (rIx K) (tVar 2) (tC (.int 0))) (tCons (tOp (rAddG K) (tSl (rSlG K) (tOp (rIx K) (tVar 2) (tC (.int 1))) tNoPart (tPart (tUn rNegI (tC (.int 1))))) (tTup (tCons (tVar 3) tNil))) tNil))) tNil)))))))))))))
def t__law_turned (K : PySem.W.Frag) (ap__law_take : AP) (ap__law_line : AP) (ap__law_bent : AP) : TS :=
    (tSeq (tAsg (tCall (toSp K ap__law_take) [] E0 (tCons (tVar 0) (tCons (tC (.int 10)) tNil))) (gName 2))
    (tSeq (tAsg (tOp (rIx K) (tVar 1) (tC (.int 2))) (gName 3))
    (tSeq (tIfS (tTest (tOp (rEqG K) (tVar 2) (tC (.int 3)))) (tRet (tTup (tCons (tOp (rIx K) (tVar 1) (tC (.int 0))) (tCons (tOp (rAddG K) (tOp (rIx K) (tVar 1) (tC (.int 1))) (tTup (tCons (tTup (tCons (tCall (toSp K ap__law_line) [] E0 (tCons (tVar 0) tNil)) tNil)) tNil))) (tCons (tVar 3) (tCons (tOp (rIx K) (tVar 1) (tC (.int 3))) tNil)))))) tNext)
    (tSeq (tIfS (tTest (tOp (rEqG K) (tVar 2) (tC (.int 4)))) (tRet (tTup (tCons (tOp (rIx K) (tVar 1) (tC (.int 0))) (tCons (tOp (rIx K) (tVar 1) (tC (.int 1))) (tCons (tVar 3) (tCons (tOp (rAddG K) (tOp (rIx K) (tVar 1) (tC (.int 3))) (tTup (tCons (tTup (tCons (tCall (toSp K ap__law_line) [] E0 (tCons (tVar 0) tNil)) tNil)) tNil))) tNil)))))) tNext)
    (tSeq (tIfS (tTest (tOp (rEqG K) (tVar 2) (tC (.int 5)))) (tRet (tTup (tCons (tOp (rIx K) (tVar 1) (tC (.int 0))) (tCons (tOp (rIx K) (tVar 1) (tC (.int 1))) (tCons (tOp (rAddG K) (tSl (rSlG K) (tVar 3) tNoPart (tPart (tUn rNegI (tC (.int 1))))) (tTup (tCons (tTup tNil) tNil))) (tCons (tOp (rIx K) (tVar 1) (tC (.int 3))) tNil)))))) tNext)
    (tSeq (tIfS (tTest (tOp (rEqG K) (tVar 2) (tC (.int 6)))) (tSeq (tAsg (tCall (toSp K ap__law_bent) [] E0 (tCons (tVar 0) (tCons (tOp (rIx K) (tVar 3) (tC (.int 0))) tNil))) (gName 4))
    (tRet (tTup (tCons (tOp (rIx K) (tVar 1) (tC (.int 0))) (tCons (tOp (rIx K) (tVar 1) (tC (.int 1))) (tCons (tOp (rAddG K) (tTup (tCons (tVar 4) tNil)) (tSl (rSlG K) (tVar 3) (tPart (tC (.int 1))) tNoPart)) (tCons (tOp (rIx K) (tVar 1) (tC (.int 3))) tNil))))))) tNext)
    (tSeq (tIfS (tAnd (tTest (tOp (rEqG K) (tVar 2) (tC (.int 7)))) (tTest (tOp rGtI (tCB (rLenV K) (tCons (tOp (rIx K) (tVar 1) (tC (.int 3))) tNil)) (tC (.int 0))))) (tRet (tTup (tCons (tOp (rIx K) (tVar 1) (tC (.int 0))) (tCons (tOp (rIx K) (tVar 1) (tC (.int 1))) (tCons (tVar 3) (tCons (tTup (tCons (tCall (toSp K ap__law_bent) [] E0 (tCons (tVar 0) (tCons (tOp (rIx K) (tOp (rIx K) (tVar 1) (tC (.int 3))) (tC (.int 0))) tNil))) tNil)) tNil)))))) tNext)
    (tSeq (tIfS (tAnd (tTest (tOp (rEqG K) (tVar 2) (tC (.int 8)))) (tTest (tOp rGtI (tCB (rLenV K) (tCons (tOp (rIx K) (tVar 1) (tC (.int 1))) tNil)) (tC (.int 0))))) (tRet (tTup (tCons (tOp (rIx K) (tVar 1) (tC (.int 0))) (tCons (tTup (tCons (tCall (toSp K ap__law_bent) [] E0 (tCons (tVar 0) (tCons (tOp (rIx K) (tOp (rIx K) (tVar 1) (tC (.int 1))) (tC (.int 0))) tNil))) tNil)) (tCons (tVar 3) (tCons (tOp (rIx K) (tVar 1) (tC (.int 3))) tNil)))))) tNext)
    (tSeq (tIfS (tTest (tOp (rEqG K) (tVar 2) (tC (.int 9)))) (tRet (tTup (tCons (tOp (rIx K) (tVar 1) (tC (.int 0))) (tCons (tOp (rIx K) (tVar 1) (tC (.int 1))) (tCons (tOp (rAddG K) (tTup (tCons (tSl (rSlG K) (tOp (rIx K) (tVar 3) (tC (.int 0))) tNoPart (tPart (tUn rNegI (tC (.int 1))))) tNil)) (tSl (rSlG K) (tVar 3) (tPart (tC (.int 1))) tNoPart)) (tCons (tOp (rIx K) (tVar 1) (tC (.int 3))) tNil)))))) tNext)
    (tRet (tVar 1)))))))))))
def t__law_second (K : PySem.W.Frag) (ap__law_pool : AP) (ap__law_turned : AP) (ap__law_page : AP) : TS :=
    (tSeq (tAsg (tLst tNil) (gName 6))
    (tSeq (tFor (iRng1 (tCons (tVar 3) tNil)) (gName 7) (tSeq (tAsg (tCall (toSp K ap__law_pool) [] E0 (tCons (tVar 0) (tCons (tOp (rAddG K) (tC (.int 6)) (tVar 7)) tNil))) (gName 8))
    (tSeq (tAsg (tLc (iList K (tVar 1)) (gName 10) (tTest (tOp (rEqG K) (tOp (rIx K) (tVar 10) (tC (.int 0))) (tOp (rAddG K) (tVar 2) (tVar 7)))) (tVar 10) [10]) (gName 9))
    (tIfS (tAnd (tTest (tOp (rEqG K) (tVar 4) (tC (.int 0)))) (tTest (tOp rGtI (tCB (rLenV K) (tCons (tVar 9) tNil)) (tC (.int 0))))) (tDrop (tBM K "list" rAppend (tVar 6) (tCons (tCall (toSp K ap__law_turned) [] E0 (tCons (tVar 8) (tCons (tOp (rIx K) (tVar 9) (tC (.int 0))) tNil))) tNil))) (tIfS (tAnd (tTest (tOp (rEqG K) (tVar 4) (tC (.int 1)))) (tTest (tOp (rLtG K) (tVar 7) (tCB (rLenV K) (tCons (tVar 1) tNil))))) (tDrop (tBM K "list" rAppend (tVar 6) (tCons (tOp (rAddG K) (tTup (tCons (tOp (rAddG K) (tVar 2) (tVar 7)) tNil)) (tSl (rSlG K) (tOp (rIx K) (tVar 1) (tVar 7)) (tPart (tC (.int 1))) tNoPart)) tNil))) (tDrop (tBM K "list" rAppend (tVar 6) (tCons (tCall (toSp K ap__law_page) [] E0 (tCons (tVar 8) (tCons (tOp (rAddG K) (tVar 2) (tVar 7)) (tCons (tVar 5) tNil)))) tNil))))))))
    (tRet (tVar 6))))
def t__law_result (K : PySem.W.Frag) (ap__law_take : AP) : TS :=
    (tSeq (tAsg (tCB (rTupleOf K) (tCons (tLc (iRng1 (tCons (tCall (toSp K ap__law_take) [] E0 (tCons (tVar 0) (tCons (tC (.int 3)) tNil))) tNil)) (gName 4) tYes (tCall (toSp K ap__law_take) [] E0 (tCons (tVar 0) (tCons (tC (.int 5)) tNil))) [4]) tNil)) (gName 3))
    (tSeq (tIfS (tB (tVar 2)) (tRet (tTup (tCons (tC (.str "unset")) (tCons (tTup (tCons (tTup (tCons (tVar 3) (tCons (tTup (tCons (tC (.str "page")) (tCons (tCall (toSp K ap__law_take) [] E0 (tCons (tVar 0) (tCons (tC (.int 60)) tNil))) tNil))) tNil))) tNil)) tNil)))) tNext)
    (tRet (tTup (tCons (tC (.str "pages")) (tCons (tVar 3) (tCons (tCB (rTupleOf K) (tCons (tVar 1) tNil)) tNil)))))))
def t__law_due (K : PySem.W.Frag) (ap__law_same : AP) : TS :=
    (tSeq (tAsg (tLst tNil) (gName 2))
    (tSeq (tFor (iList K (tOp (rAddG K) (tVar 0) (tVar 1))) (gName 3) (tSeq (tAsg (tLc (iList K (tVar 0)) (gName 7) (tTest (tOp (rEqG K) (tOp (rIx K) (tVar 7) (tC (.int 0))) (tOp (rIx K) (tVar 3) (tC (.int 0))))) (tVar 7) [7]) (gName 4))
    (tSeq (tAsg (tLc (iList K (tVar 1)) (gName 7) (tTest (tOp (rEqG K) (tOp (rIx K) (tVar 7) (tC (.int 0))) (tOp (rIx K) (tVar 3) (tC (.int 0))))) (tVar 7) [7]) (gName 5))
    (tIfS (tAnd (tNot (tB (tCall (toSp K ap__law_same) [] E0 (tCons (tVar 4) (tCons (tVar 5) tNil))))) (tTest (tOp (rIn K true) (tOp (rIx K) (tVar 3) (tC (.int 0))) (tVar 2)))) (tDrop (tBM K "list" rAppend (tVar 2) (tCons (tOp (rIx K) (tVar 3) (tC (.int 0))) tNil))) tNext))))
    (tRet (tLc (iRng1 (tCons (tC (.int 9100)) tNil)) (gName 6) (tTest (tOp (rInG K) (tVar 6) (tVar 2))) (tVar 6) [6]))))
def t_law (K : PySem.W.Frag) (ap__law_pool : AP) (ap__law_take : AP) (ap__law_page : AP) (ap__law_second : AP) (ap__law_result : AP) (ap__law_due : AP) (ap__law_same : AP) (ap_changed_pages : AP) : TS :=
    (tSeq (tAsg (tCall (toSp K ap__law_pool) [] E0 (tCons (tVar 0) (tCons (tC (.int 0)) tNil))) (gName 1))
    (tSeq (tAsg (tOp (rAddG K) (tC (.int 1)) (tCall (toSp K ap__law_take) [] E0 (tCons (tVar 1) (tCons (tC (.int 9000)) tNil)))) (gName 2))
    (tSeq (tAsg (tCall (toSp K ap__law_take) [] E0 (tCons (tVar 1) (tCons (tC (.int 6)) tNil))) (gName 3))
    (tSeq (tAsg (tOp (rIx K) (tLst (tCons (tC (.int 1)) (tCons (tC (.int 0)) (tCons (tC (.int 2)) (tCons (tUn rNegI (tC (.int 1))) (tCons (tUn rNegI (tC (.int 2))) tNil)))))) (tCall (toSp K ap__law_take) [] E0 (tCons (tVar 1) (tCons (tC (.int 5)) tNil)))) (gName 4))
    (tSeq (tAsg (tOp (rIx K) (tLst (tCons (tC (.int 0)) (tCons (tC (.int 3)) (tCons (tC (.int 1)) (tCons (tC (.int 4)) (tCons (tC (.int 5)) (tCons (tC (.int 2)) tNil))))))) (tCall (toSp K ap__law_take) [] E0 (tCons (tVar 1) (tCons (tC (.int 6)) tNil)))) (gName 5))
    (tSeq (tAsg (tCall (toSp K ap__law_take) [] E0 (tCons (tVar 1) (tCons (tC (.int 3)) tNil))) (gName 6))
    (tSeq (tAsg (tOp rSubI (tC (.int 2)) (tCall (toSp K ap__law_take) [] E0 (tCons (tVar 1) (tCons (tC (.int 2)) tNil)))) (gName 7))
    (tSeq (tAsg (tLst (tCons (tOp (rEqG K) (tCall (toSp K ap__law_take) [] E0 (tCons (tVar 1) (tCons (tC (.int 8)) tNil))) (tC (.int 5))) (tCons (tOp (rEqG K) (tCall (toSp K ap__law_take) [] E0 (tCons (tVar 1) (tCons (tC (.int 8)) tNil))) (tC (.int 5))) tNil))) (gName 8))
    (tSeq (tAsg (tLc (iRng1 (tCons (tVar 3) tNil)) (gName 14) tYes (tCall (toSp K ap__law_page) [] E0 (tCons (tCall (toSp K ap__law_pool) [] E0 (tCons (tVar 0) (tCons (tOp (rAddG K) (tC (.int 1)) (tVar 14)) tNil))) (tCons (tOp (rAddG K) (tVar 2) (tVar 14)) (tCons (tVar 7) tNil)))) [14]) (gName 9))
    (tSeq (tAsg (tCall (toSp K ap__law_second) [] E0 (tCons (tVar 0) (tCons (tVar 9) (tCons (tCB rMx2 (tCons (tC (.int 1)) (tCons (tOp (rAddG K) (tVar 2) (tVar 4)) tNil))) (tCons (tVar 5) (tCons (tVar 6) (tCons (tVar 7) tNil))))))) (gName 10))
    (tSeq (tAsg (tCall (toSp K ap__law_result) [] E0 (tCons (tVar 1) (tCons (tVar 9) (tCons (tOp (rIx K) (tVar 8) (tC (.int 0))) tNil)))) (gName 11))
    (tSeq (tAsg (tCall (toSp K ap__law_result) [] E0 (tCons (tVar 1) (tCons (tVar 10) (tCons (tOp (rIx K) (tVar 8) (tC (.int 1))) tNil)))) (gName 12))
    (tSeq (tIfS (tB (tOp (rIx K) (tVar 8) (tC (.int 0)))) (tAsg (tLst tNil) (gName 9)) tNext)
    (tSeq (tIfS (tB (tOp (rIx K) (tVar 8) (tC (.int 1)))) (tAsg (tLst tNil) (gName 10)) tNext)
    (tSeq (tAsg (tCall (toSp K ap__law_due) [] E0 (tCons (tVar 9) (tCons (tVar 10) tNil))) (gName 13))
    (tSeq (tIfS (tOr (tNot (tB (tCall (toSp K ap__law_same) [] E0 (tCons (tCall (toSp K ap_changed_pages) [] E0 (tCons (tVar 11) (tCons (tVar 12) tNil))) (tCons (tVar 13) tNil))))) (tNot (tB (tCall (toSp K ap__law_same) [] E0 (tCons (tCall (toSp K ap_changed_pages) [] E0 (tCons (tVar 12) (tCons (tVar 11) tNil))) (tCons (tVar 13) tNil)))))) (tRet (tC (.bl false))) tNext)
    (tSeq (tIfS (tOr (tNot (tB (tCall (toSp K ap__law_same) [] E0 (tCons (tCall (toSp K ap_changed_pages) [] E0 (tCons (tVar 11) (tCons (tVar 11) tNil))) (tCons (tLst tNil) tNil))))) (tNot (tB (tCall (toSp K ap__law_same) [] E0 (tCons (tCall (toSp K ap_changed_pages) [] E0 (tCons (tVar 12) (tCons (tVar 12) tNil))) (tCons (tLst tNil) tNil)))))) (tRet (tC (.bl false))) tNext)
    (tRet (tCall (toSp K ap__law_same) [] E0 (tCons (tCall (toSp K ap_changed_pages) [] E0 (tCons (tVar 11) (tCons (tVar 12) tNil))) (tCons (tVar 13) tNil)))))))))))))))))))))
section
variable {P : Program} {w : World} {K : PySem.W.Frag} {mg : Str → Option Value} {base : Heap}
theorem tm_pages_by_number (T : Txt K mg) (cdv : Value) (A : Around) (outer : List PySem.Env) (s : Shared) (H : Hp) (E : XK) (hr : Room 0 (A.deeper (PyProof.Rows.envOfC "pages_by_number" (defScope s_pages_by_number) s.heap.objs.size T.f_pages_by_number cdv))) :
    PSs (cxOf CX0 P w K mg base ["result", "page"] "pages_by_number" (defScope s_pages_by_number) T.f_pages_by_number cdv A outer s H E).nox (defBody s_pages_by_number) (t_pages_by_number K) := 
      (pss_cons (ps_if (pt_cmpR (op_eqG hr.units) (pe_ix ix_seq (pv 0) pe_int (fun _ _ => rfl)) pe_str (nomark _)) (pss_one (ps_ret pe_dnewK)) pss_nil)
      (pss_one (ps_ret (pe_dc (own := [("page", 1)]) (g := (gName 1)) (tt := tYes) (by rfl) sc_pages_by_number.nd (pi_tup (pe_ix ix_seq (pv 0) pe_int (fun _ _ => rfl))) (blkOk_by (own := [("page", 1)]) (N := ["result", "page"]) (sc := defScope s_pages_by_number) (by decide +kernel)) (fun _ _ _ _ _ => (pg_name (i := 1) sc_pages_by_number.nd rfl (Or.inl rfl))) (fun _ _ _ _ _ => pts_nil) (fun _ _ _ _ _ => (pe_ix ix_seq (pv 1) pe_int (fun _ _ => rfl))) (fun _ _ _ _ _ => (pv 1))))))
theorem tm_changed_pages {ap_pages_by_number : AP} (T : Txt K mg) (G_pages_by_number : FnOk P w K mg base CX0 1 T.f_pages_by_number T.fd_pages_by_number ["result"] (toSp K ap_pages_by_number)) (cdv : Value) (A : Around) (outer : List PySem.Env) (s : Shared) (H : Hp) (E : XK) (hr : Room 1 (A.deeper (PyProof.Rows.envOfC "changed_pages" (defScope s_changed_pages) s.heap.objs.size T.f_changed_pages cdv))) :
    PSs (cxOf CX0 P w K mg base ["before", "after", "old", "new", "changed", "added", "number"] "changed_pages" (defScope s_changed_pages) T.f_changed_pages cdv A outer s H E).nox (defBody s_changed_pages) (t_changed_pages K ap_pages_by_number) := 
      (pss_cons (ps_set (i := 2) sc_changed_pages.nd rfl (Or.inr rfl) (pe_call G_pages_by_number (hr.mono (by decide)) (by rfl) T.g_pages_by_number T.F_pages_by_number.kp T.b_pages_by_number .nil pass0 (pa_cons (pv 0) pa_nil)))
      (pss_cons (ps_set (i := 3) sc_changed_pages.nd rfl (Or.inr rfl) (pe_call G_pages_by_number (hr.mono (by decide)) (by rfl) T.g_pages_by_number T.F_pages_by_number.kp T.b_pages_by_number .nil pass0 (pa_cons (pv 1) pa_nil)))
      (pss_cons (ps_lock (ps_setLc (i := 4) (own := [("number", 6)]) (g := (gName 6)) (tt := (tOr (tB (tDNotIn (tVar 6) (tVar 3))) (tTest (tOp (rNeG K) (tDGet (tVar 3) (tVar 6)) (tDGet (tVar 2) (tVar 6)))))) (by rfl) sc_changed_pages.nd rfl rfl (sw_true rfl rfl rfl (by decide +kernel)) (pi_keys (pv 2)) (blkOk_by (own := [("number", 6)]) (N := ["before", "after", "old", "new", "changed", "added", "number"]) (sc := defScope s_changed_pages) (by decide +kernel)) (fun _ _ _ _ _ => (pg_name (i := 6) sc_changed_pages.nd rfl (Or.inl rfl))) (fun _ _ _ _ _ => (pts_one (PW.pt (pw_or (pt_cmp (pc_dnotin (Nat.lt_of_le_of_lt (Nat.add_le_add_left (Nat.le_of_ble_eq_true rfl : 1 ≤ 64) _) hr.units) (pv 6) (pv 3))) (pw_or1 (pt_cmpR (op_neG hr.units) (pe_dget (Nat.lt_of_le_of_lt (Nat.add_le_add_left (Nat.le_of_ble_eq_true rfl : 1 ≤ 64) _) hr.units) (pv 3) (pv 6) (fun _ _ => rfl)) (pe_dget (Nat.lt_of_le_of_lt (Nat.add_le_add_left (Nat.le_of_ble_eq_true rfl : 1 ≤ 64) _) hr.units) (pv 2) (pv 6) (fun _ _ => rfl)) (nomark _))))))) (fun _ _ _ _ _ => (pv 6))))
      (pss_cons (ps_lock (ps_setLc (i := 5) (own := [("number", 6)]) (g := (gName 6)) (tt := (tB (tDNotIn (tVar 6) (tVar 2)))) (by rfl) sc_changed_pages.nd rfl rfl (sw_true rfl rfl rfl (by decide +kernel)) (pi_keys (pv 3)) (blkOk_by (own := [("number", 6)]) (N := ["before", "after", "old", "new", "changed", "added", "number"]) (sc := defScope s_changed_pages) (by decide +kernel)) (fun _ _ _ _ _ => (pg_name (i := 6) sc_changed_pages.nd rfl (Or.inl rfl))) (fun _ _ _ _ _ => (pts_one (pt_cmp (pc_dnotin (Nat.lt_of_le_of_lt (Nat.add_le_add_left (Nat.le_of_ble_eq_true rfl : 1 ≤ 64) _) hr.units) (pv 6) (pv 2))))) (fun _ _ _ _ _ => (pv 6))))
      (pss_one (ps_ret (pe_callB cr_sorted (by rfl) T.m_sorted bi_sorted (pa_cons (pe_op op_addG (pv 4) (pv 5)) pa_nil))))))))
theorem tm__law_pool (T : Txt K mg) (cdv : Value) (A : Around) (outer : List PySem.Env) (s : Shared) (H : Hp) (E : XK) (hr : Room 0 (A.deeper (PyProof.Rows.envOfC "_law_pool" (defScope s__law_pool) s.heap.objs.size T.f__law_pool cdv))) :
    PSs (cxOf CX0 P w K mg base ["_law_script", "_law_at", "_law_cell"] "_law_pool" (defScope s__law_pool) T.f__law_pool cdv A outer s H E).nox (defBody s__law_pool) (t__law_pool K) := 
      (pss_cons (ps_set (i := 2) sc__law_pool.nd rfl (Or.inl rfl) pe_int)
      (pss_cons (ps_if (pt_cmpR (op_ltG hr.units0) (pv 1) (pe_callB call_len (by rfl) T.m_len bi_len (pa_cons (pv 0) pa_nil)) (nomark _)) (pss_one (ps_set (i := 2) sc__law_pool.nd rfl (Or.inl rfl) (pe_callB call_abs (by rfl) T.m_abs bi_abs (pa_cons (pe_callTy call_int1 (by rfl) T.m_int bi_int (pa_cons (pe_ix ix_seq (pv 0) (pv 1) (fun _ _ => rfl)) pa_nil)) pa_nil)))) pss_nil)
      (pss_one (ps_ret (pe_lst (pa_cons (pv 2) (pa_cons pe_int (pa_cons (pe_callTy call_int1 (by rfl) T.m_int bi_int (pa_cons (pe_cmpR op_ge (pv 2) (pe_op op_pow pe_int pe_int) (nomark _)) pa_nil)) (pa_cons (pe_op op_mod (pe_callTy call_int1 (by rfl) T.m_int bi_int (pa_cons (pe_op op_addG (pv 2) (pe_op op_mulG (pv 1) pe_int)) pa_nil)) pe_int) (pa_cons pe_int pa_nil))))))))))
theorem tm__law_take (T : Txt K mg) (cdv : Value) (A : Around) (outer : List PySem.Env) (s : Shared) (H : Hp) (E : XK) (hr : Room 0 (A.deeper (PyProof.Rows.envOfC "_law_take" (defScope s__law_take) s.heap.objs.size T.f__law_take cdv))) :
    PSs (cxOf CX0 P w K mg base ["_law_pool_here", "_law_many", "_law_got", "_law_one", "_law_two"] "_law_take" (defScope s__law_take) T.f__law_take cdv A outer s H E).nox (defBody s__law_take) (t__law_take K) := 
      (pss_cons (ps_asg (pe_op op_addG (pe_ix ix_seq (pv 0) pe_int (fun _ _ => rfl)) pe_int) (pg_sub (pv 0) pe_int set_list))
      (pss_cons (ps_if (pt_cmpR (op_eqG hr.units) (pe_ix ix_seq (pv 0) pe_int (fun _ _ => rfl)) pe_int (nomark _)) (pss_cons (ps_set (i := 2) sc__law_take.nd rfl (Or.inl rfl) (pe_op op_mod (pe_callTy call_int1 (by rfl) T.m_int bi_int (pa_cons (pe_ix ix_seq (pv 0) pe_int (fun _ _ => rfl)) pa_nil)) (pv 1)))
      (pss_cons (ps_asg (pe_op op_fdivW (pe_ix ix_seq (pv 0) pe_int (fun _ _ => rfl)) (pv 1)) (pg_sub (pv 0) pe_int set_list))
      (pss_one (ps_ret (pv 2))))) pss_nil)
      (pss_cons (ps_set (i := 3) sc__law_take.nd rfl (Or.inl rfl) (pe_op op_mod (pe_callTy call_int1 (by rfl) T.m_int bi_int (pa_cons (pe_op op_addG (pe_op op_addG (pe_op op_mulG (pe_ix ix_seq (pv 0) pe_int (fun _ _ => rfl)) pe_int) (pe_op op_mulG (pe_ix ix_seq (pv 0) pe_int (fun _ _ => rfl)) pe_int)) pe_int) pa_nil)) pe_int))
      (pss_cons (ps_set (i := 4) sc__law_take.nd rfl (Or.inl rfl) (pe_op op_mod (pe_callTy call_int1 (by rfl) T.m_int bi_int (pa_cons (pe_op op_addG (pe_op op_addG (pe_op op_mulG (pv 3) pe_int) (pe_op op_fdivW (pv 3) pe_int)) (pe_op op_mulG (pe_op op_mulG (pe_ix ix_seq (pv 0) pe_int (fun _ _ => rfl)) (pe_ix ix_seq (pv 0) pe_int (fun _ _ => rfl))) pe_int)) pa_nil)) pe_int))
      (pss_one (ps_ret (pe_op op_mod (pe_callTy call_int1 (by rfl) T.m_int bi_int (pa_cons (pe_op op_fdivW (pv 4) (pe_op op_addG (pe_ix ix_seq (pv 0) pe_int (fun _ _ => rfl)) pe_int)) pa_nil)) (pv 1))))))))
theorem tm__law_same {ap__law_same : AP} (T : Txt K mg) {k : Nat} (G__law_same : FnOk P w K mg base CX0 k T.f__law_same T.fd__law_same ["_law_one", "_law_two"] (toSp K ap__law_same)) (cdv : Value) (A : Around) (outer : List PySem.Env) (s : Shared) (H : Hp) (E : XK) (hr : Room k (A.deeper (PyProof.Rows.envOfC "_law_same" (defScope s__law_same) s.heap.objs.size T.f__law_same cdv))) :
    PSs (cxOf CX0 P w K mg base ["_law_one", "_law_two", "_law_both", "_law_k"] "_law_same" (defScope s__law_same) T.f__law_same cdv A outer s H E).nox (defBody s__law_same) (t__law_same K ap__law_same) := 
      (pss_cons (ps_if (PW.pt (pw_or (pt_val (pe_callB call_isi (by rfl) T.m_isinstance bi_isinstance (pa_cons (pv 0) (pa_cons (pe_bltn (v := .ty "bool") (by rfl) T.m_bool bi_bool rfl) pa_nil)))) (pw_or1 (pt_val (pe_callB call_isi (by rfl) T.m_isinstance bi_isinstance (pa_cons (pv 1) (pa_cons (pe_bltn (v := .ty "bool") (by rfl) T.m_bool bi_bool rfl) pa_nil))))))) (pss_one (ps_ret (pe_and (pe_callB call_isi (by rfl) T.m_isinstance bi_isinstance (pa_cons (pv 0) (pa_cons (pe_bltn (v := .ty "bool") (by rfl) T.m_bool bi_bool rfl) pa_nil))) (pe_and (pe_callB call_isi (by rfl) T.m_isinstance bi_isinstance (pa_cons (pv 1) (pa_cons (pe_bltn (v := .ty "bool") (by rfl) T.m_bool bi_bool rfl) pa_nil))) (pe_one (pe_cmpR (op_eqG hr.units) (pv 0) (pv 1) (nomark _))))))) pss_nil)
      (pss_cons (ps_if (PW.pt (pw_and (pt_val (pe_callB call_isi (by rfl) T.m_isinstance bi_isinstance (pa_cons (pv 0) (pa_cons (pe_bltn (v := .ty "int") (by rfl) T.m_int bi_int rfl) pa_nil)))) (pw_and1 (pt_val (pe_callB call_isi (by rfl) T.m_isinstance bi_isinstance (pa_cons (pv 1) (pa_cons (pe_bltn (v := .ty "int") (by rfl) T.m_int bi_int rfl) pa_nil))))))) (pss_one (ps_ret (pe_cmpR (op_eqG hr.units) (pv 0) (pv 1) (nomark _)))) pss_nil)
      (pss_cons (ps_if (PW.pt (pw_and (pt_val (pe_callB call_isi (by rfl) T.m_isinstance bi_isinstance (pa_cons (pv 0) (pa_cons (pe_bltn (v := .ty "str") (by rfl) T.m_str bi_str rfl) pa_nil)))) (pw_and1 (pt_val (pe_callB call_isi (by rfl) T.m_isinstance bi_isinstance (pa_cons (pv 1) (pa_cons (pe_bltn (v := .ty "str") (by rfl) T.m_str bi_str rfl) pa_nil))))))) (pss_one (ps_ret (pe_cmpR (op_eqG hr.units) (pv 0) (pv 1) (nomark _)))) pss_nil)
      (pss_cons (ps_set (i := 2) sc__law_same.nd rfl (Or.inl rfl) (pe_and (pe_callB call_isi (by rfl) T.m_isinstance bi_isinstance (pa_cons (pv 0) (pa_cons (pe_bltn (v := .ty "tuple") (by rfl) T.m_tuple bi_tuple rfl) pa_nil))) (pe_one (pe_callB call_isi (by rfl) T.m_isinstance bi_isinstance (pa_cons (pv 1) (pa_cons (pe_bltn (v := .ty "tuple") (by rfl) T.m_tuple bi_tuple rfl) pa_nil))))))
      (pss_cons (ps_if (PW.pt (pw_or (pt_val (pv 2)) (pw_or1 (PW.pt (pw_and (pt_val (pe_callB call_isi (by rfl) T.m_isinstance bi_isinstance (pa_cons (pv 0) (pa_cons (pe_bltn (v := .ty "list") (by rfl) T.m_list bi_list rfl) pa_nil)))) (pw_and1 (pt_val (pe_callB call_isi (by rfl) T.m_isinstance bi_isinstance (pa_cons (pv 1) (pa_cons (pe_bltn (v := .ty "list") (by rfl) T.m_list bi_list rfl) pa_nil)))))))))) (pss_cons (ps_if (pt_cmpR (op_neG hr.units) (pe_callB call_len (by rfl) T.m_len bi_len (pa_cons (pv 0) pa_nil)) (pe_callB call_len (by rfl) T.m_len bi_len (pa_cons (pv 1) pa_nil)) (nomark _)) (pss_one (ps_ret pe_bl)) pss_nil)
      (pss_cons (ps_for PassesOwn.never rfl (pi_range1 (by rfl) T.m_range (pa_cons (pe_callB call_len (by rfl) T.m_len bi_len (pa_cons (pv 0) pa_nil)) pa_nil)) (pg_name (i := 3) sc__law_same.nd rfl (Or.inl rfl)) (pss_one (ps_if (pt_not (pt_val (pe_call G__law_same hr (by rfl) T.g__law_same T.F__law_same.kp T.b__law_same .nil pass0 (pa_cons (pe_ix ix_seq (pv 0) (pv 3) (fun _ _ => rfl)) (pa_cons (pe_ix ix_seq (pv 1) (pv 3) (fun _ _ => rfl)) pa_nil))))) (pss_one (ps_ret pe_bl)) pss_nil)))
      (pss_one (ps_ret pe_bl)))) pss_nil)
      (pss_one (ps_ret (pe_and (pe_cmp (pc_isN (pv 0))) (pe_one (pe_cmp (pc_isN (pv 1))))))))))))
theorem tm__law_line {ap__law_take : AP} (T : Txt K mg) (G__law_take : FnOk P w K mg base CX0 1 T.f__law_take T.fd__law_take ["_law_pool_here", "_law_many"] (toSp K ap__law_take)) (cdv : Value) (A : Around) (outer : List PySem.Env) (s : Shared) (H : Hp) (E : XK) (hr : Room 1 (A.deeper (PyProof.Rows.envOfC "_law_line" (defScope s__law_line) s.heap.objs.size T.f__law_line cdv))) :
    PSs (cxOf CX0 P w K mg base ["_law_pool_here", "_law_chars", "_law_x", "_law_down", "_law_letters", "_law_j", "_law_char"] "_law_line" (defScope s__law_line) T.f__law_line cdv A outer s H E).nox (defBody s__law_line) (t__law_line K ap__law_take) := 
      (pss_cons (ps_set (i := 1) sc__law_line.nd rfl (Or.inl rfl) pe_str)
      (pss_cons (ps_set (i := 2) sc__law_line.nd rfl (Or.inl rfl) (pe_call G__law_take (hr.mono (by decide)) (by rfl) T.g__law_take T.F__law_take.kp T.b__law_take .nil pass0 (pa_cons (pv 0) (pa_cons pe_int pa_nil))))
      (pss_cons (ps_set (i := 3) sc__law_line.nd rfl (Or.inl rfl) (pe_call G__law_take (hr.mono (by decide)) (by rfl) T.g__law_take T.F__law_take.kp T.b__law_take .nil pass0 (pa_cons (pv 0) (pa_cons pe_int pa_nil))))
      (pss_cons (ps_set (i := 4) sc__law_line.nd rfl (Or.inl rfl) (pe_lst pa_nil))
      (pss_cons (ps_for PassesOwn.never rfl (pi_range1 (by rfl) T.m_range (pa_cons (pe_op op_addG pe_int (pe_call G__law_take (hr.mono (by decide)) (by rfl) T.g__law_take T.F__law_take.kp T.b__law_take .nil pass0 (pa_cons (pv 0) (pa_cons pe_int pa_nil)))) pa_nil)) (pg_name (i := 5) sc__law_line.nd rfl (Or.inl rfl)) (pss_cons (ps_set (i := 6) sc__law_line.nd rfl (Or.inl rfl) (pe_ix ix_seq (pv 1) (pe_call G__law_take (hr.mono (by decide)) (by rfl) T.g__law_take T.F__law_take.kp T.b__law_take .nil pass0 (pa_cons (pv 0) (pa_cons pe_int pa_nil))) (fun _ _ => rfl)))
      (pss_one (ps_expr (pe_bm PySem.F.plainAttrs_list PySem.F.slot_list_append PySem.F.type_list_append mt_append (pv 4) (pa_cons (pe_tup (pa_cons (pe_op op_addG (pv 2) (pe_op op_mulG pe_int (pv 5))) (pa_cons (pv 6) (pa_cons (pe_op op_addG pe_int (pv 5)) (pa_cons (pe_ix ix_seq (pe_lst (pa_cons pe_str (pa_cons pe_str pa_nil))) (pe_op op_mod (pe_callTy call_int1 (by rfl) T.m_int bi_int (pa_cons (pv 5) pa_nil)) pe_int) (fun _ _ => rfl)) pa_nil))))) pa_nil))))))
      (pss_one (ps_ret (pe_tup (pa_cons (pv 3) (pa_cons (pe_callTy call_tuple_of (by rfl) T.m_tuple bi_tuple (pa_cons (pv 4) pa_nil)) pa_nil))))))))))
theorem tm__law_page {ap__law_take : AP} {ap__law_line : AP} (T : Txt K mg) (G__law_take : FnOk P w K mg base CX0 1 T.f__law_take T.fd__law_take ["_law_pool_here", "_law_many"] (toSp K ap__law_take)) (G__law_line : FnOk P w K mg base CX0 2 T.f__law_line T.fd__law_line ["_law_pool_here"] (toSp K ap__law_line)) (cdv : Value) (A : Around) (outer : List PySem.Env) (s : Shared) (H : Hp) (E : XK) (hr : Room 2 (A.deeper (PyProof.Rows.envOfC "_law_page" (defScope s__law_page) s.heap.objs.size T.f__law_page cdv))) :
    PSs (cxOf CX0 P w K mg base ["_law_pool_here", "_law_number", "_law_cols", "_law_floats", "_law_columns", "_law_c", "_law_notes", "_law_k"] "_law_page" (defScope s__law_page) T.f__law_page cdv A outer s H E).nox (defBody s__law_page) (t__law_page K ap__law_take ap__law_line) := 
      (pss_cons (ps_set (i := 3) sc__law_page.nd rfl (Or.inl rfl) (pe_tup pa_nil))
      (pss_cons (ps_if (pt_cmpR (op_eqG hr.units) (pe_call G__law_take (hr.mono (by decide)) (by rfl) T.g__law_take T.F__law_take.kp T.b__law_take .nil pass0 (pa_cons (pv 0) (pa_cons pe_int pa_nil))) pe_int (nomark _)) (pss_one (ps_set (i := 3) sc__law_page.nd rfl (Or.inl rfl) (pe_tup (pa_cons (pe_tup (pa_cons (pe_call G__law_line (hr.mono (by decide)) (by rfl) T.g__law_line T.F__law_line.kp T.b__law_line .nil pass0 (pa_cons (pv 0) pa_nil)) pa_nil)) pa_nil)))) pss_nil)
      (pss_cons (ps_set (i := 4) sc__law_page.nd rfl (Or.inl rfl) (pe_lst pa_nil))
      (pss_cons (ps_for PassesOwn.never rfl (pi_range1 (by rfl) T.m_range (pa_cons (pv 2) pa_nil)) (pg_name (i := 5) sc__law_page.nd rfl (Or.inl rfl)) (pss_one (ps_expr (pe_bm PySem.F.plainAttrs_list PySem.F.slot_list_append PySem.F.type_list_append mt_append (pv 4) (pa_cons (pe_callTy call_tuple_of (by rfl) T.m_tuple bi_tuple (pa_cons (pe_lc (own := [("_law_k", 7)]) (g := (gName 7)) (tt := tYes) (by rfl) sc__law_page.nd (pi_range1 (by rfl) T.m_range (pa_cons (pe_call G__law_take (hr.mono (by decide)) (by rfl) T.g__law_take T.F__law_take.kp T.b__law_take .nil pass0 (pa_cons (pv 0) (pa_cons pe_int pa_nil))) pa_nil)) (blkOk_by (own := [("_law_k", 7)]) (N := ["_law_pool_here", "_law_number", "_law_cols", "_law_floats", "_law_columns", "_law_c", "_law_notes", "_law_k"]) (sc := defScope s__law_page) (by decide +kernel)) (fun _ _ _ _ _ => (pg_name (i := 7) sc__law_page.nd rfl (Or.inl rfl))) (fun _ _ _ _ _ => pts_nil) (fun _ _ _ _ _ => (pe_call G__law_line (hr.mono (by decide)) (by rfl) T.g__law_line T.F__law_line.kp T.b__law_line .nil pass0 (pa_cons (pv 0) pa_nil)))) pa_nil)) pa_nil)))))
      (pss_cons (ps_set (i := 6) sc__law_page.nd rfl (Or.inl rfl) (pe_tup pa_nil))
      (pss_cons (ps_if (pt_cmpR (op_eqG hr.units) (pe_call G__law_take (hr.mono (by decide)) (by rfl) T.g__law_take T.F__law_take.kp T.b__law_take .nil pass0 (pa_cons (pv 0) (pa_cons pe_int pa_nil))) pe_int (nomark _)) (pss_one (ps_set (i := 6) sc__law_page.nd rfl (Or.inl rfl) (pe_tup (pa_cons (pe_tup (pa_cons (pe_call G__law_line (hr.mono (by decide)) (by rfl) T.g__law_line T.F__law_line.kp T.b__law_line .nil pass0 (pa_cons (pv 0) pa_nil)) pa_nil)) pa_nil)))) pss_nil)
      (pss_one (ps_ret (pe_tup (pa_cons (pv 1) (pa_cons (pv 3) (pa_cons (pe_callTy call_tuple_of (by rfl) T.m_tuple bi_tuple (pa_cons (pv 4) pa_nil)) (pa_cons (pv 6) pa_nil)))))))))))))
theorem tm__law_bent {ap__law_take : AP} (T : Txt K mg) (G__law_take : FnOk P w K mg base CX0 1 T.f__law_take T.fd__law_take ["_law_pool_here", "_law_many"] (toSp K ap__law_take)) (cdv : Value) (A : Around) (outer : List PySem.Env) (s : Shared) (H : Hp) (E : XK) (hr : Room 1 (A.deeper (PyProof.Rows.envOfC "_law_bent" (defScope s__law_bent) s.heap.objs.size T.f__law_bent cdv))) :
    PSs (cxOf CX0 P w K mg base ["_law_pool_here", "_law_block", "_law_line_here", "_law_one", "_law_way"] "_law_bent" (defScope s__law_bent) T.f__law_bent cdv A outer s H E).nox (defBody s__law_bent) (t__law_bent K ap__law_take) := 
      (pss_cons (ps_if (pt_cmpR (op_eqG hr.units) (pe_callB call_len (by rfl) T.m_len bi_len (pa_cons (pv 1) pa_nil)) pe_int (nomark _)) (pss_one (ps_ret (pv 1))) pss_nil)
      (pss_cons (ps_set (i := 2) sc__law_bent.nd rfl (Or.inl rfl) (pe_ix ix_seq (pv 1) (pe_un un_neg pe_int) (fun _ _ => rfl)))
      (pss_cons (ps_set (i := 3) sc__law_bent.nd rfl (Or.inl rfl) (pe_ix ix_seq (pe_ix ix_seq (pv 2) pe_int (fun _ _ => rfl)) (pe_un un_neg pe_int) (fun _ _ => rfl)))
      (pss_cons (ps_set (i := 4) sc__law_bent.nd rfl (Or.inl rfl) (pe_call G__law_take (hr.mono (by decide)) (by rfl) T.g__law_take T.F__law_take.kp T.b__law_take .nil pass0 (pa_cons (pv 0) (pa_cons pe_int pa_nil))))
      (pss_cons (ps_if (pt_cmpR (op_eqG hr.units) (pv 4) pe_int (nomark _)) (pss_one (ps_ret (pe_op op_addG (pe_slice sl_G (pv 1) po_none (po_some (pe_un un_neg pe_int))) (pe_tup (pa_cons (pe_tup (pa_cons (pe_op op_addG (pe_ix ix_seq (pv 2) pe_int (fun _ _ => rfl)) pe_int) (pa_cons (pe_ix ix_seq (pv 2) pe_int (fun _ _ => rfl)) pa_nil))) pa_nil))))) pss_nil)
      (pss_cons (ps_if (pt_cmpR (op_eqG hr.units) (pv 4) pe_int (nomark _)) (pss_one (ps_set (i := 3) sc__law_bent.nd rfl (Or.inl rfl) (pe_tup (pa_cons (pe_op op_addG (pe_ix ix_seq (pv 3) pe_int (fun _ _ => rfl)) pe_int) (pa_cons (pe_ix ix_seq (pv 3) pe_int (fun _ _ => rfl)) (pa_cons (pe_ix ix_seq (pv 3) pe_int (fun _ _ => rfl)) (pa_cons (pe_ix ix_seq (pv 3) pe_int (fun _ _ => rfl)) pa_nil))))))) pss_nil)
      (pss_cons (ps_if (pt_cmpR (op_eqG hr.units) (pv 4) pe_int (nomark _)) (pss_one (ps_set (i := 3) sc__law_bent.nd rfl (Or.inl rfl) (pe_tup (pa_cons (pe_ix ix_seq (pv 3) pe_int (fun _ _ => rfl)) (pa_cons (pe_ix ix_seq pe_str (pe_callTy call_int1 (by rfl) T.m_int bi_int (pa_cons (pe_cmpR (op_eqG hr.units) (pe_ix ix_seq (pv 3) pe_int (fun _ _ => rfl)) pe_str (nomark _)) pa_nil)) (fun _ _ => rfl)) (pa_cons (pe_ix ix_seq (pv 3) pe_int (fun _ _ => rfl)) (pa_cons (pe_ix ix_seq (pv 3) pe_int (fun _ _ => rfl)) pa_nil))))))) pss_nil)
      (pss_cons (ps_if (pt_cmpR (op_eqG hr.units) (pv 4) pe_int (nomark _)) (pss_one (ps_set (i := 3) sc__law_bent.nd rfl (Or.inl rfl) (pe_tup (pa_cons (pe_ix ix_seq (pv 3) pe_int (fun _ _ => rfl)) (pa_cons (pe_ix ix_seq (pv 3) pe_int (fun _ _ => rfl)) (pa_cons (pe_op op_addG (pe_ix ix_seq (pv 3) pe_int (fun _ _ => rfl)) pe_int) (pa_cons (pe_ix ix_seq (pv 3) pe_int (fun _ _ => rfl)) pa_nil))))))) pss_nil)
      (pss_cons (ps_if (pt_cmpR (op_eqG hr.units) (pv 4) pe_int (nomark _)) (pss_one (ps_set (i := 3) sc__law_bent.nd rfl (Or.inl rfl) (pe_tup (pa_cons (pe_ix ix_seq (pv 3) pe_int (fun _ _ => rfl)) (pa_cons (pe_ix ix_seq (pv 3) pe_int (fun _ _ => rfl)) (pa_cons (pe_ix ix_seq (pv 3) pe_int (fun _ _ => rfl)) (pa_cons (pe_ix ix_seq (pe_lst (pa_cons pe_str (pa_cons pe_str pa_nil))) (pe_callTy call_int1 (by rfl) T.m_int bi_int (pa_cons (pe_cmpR (op_eqG hr.units) (pe_ix ix_seq (pv 3) pe_int (fun _ _ => rfl)) pe_str (nomark _)) pa_nil)) (fun _ _ => rfl)) pa_nil))))))) pss_nil)
      (pss_one (ps_ret (pe_op op_addG (pe_slice sl_G (pv 1) po_none (po_some (pe_un un_neg pe_int))) (pe_tup (pa_cons (pe_tup (pa_cons (pe_ix ix_seq (pv 2) pe_int (fun _ _ => rfl)) (pa_cons (pe_op op_addG (pe_slice sl_G (pe_ix ix_seq (pv 2) pe_int (fun _ _ => rfl)) po_none (po_some (pe_un un_neg pe_int))) (pe_tup (pa_cons (pv 3) pa_nil))) pa_nil))) pa_nil))))))))))))))
theorem tm__law_turned {ap__law_take : AP} {ap__law_line : AP} {ap__law_bent : AP} (T : Txt K mg) (G__law_take : FnOk P w K mg base CX0 1 T.f__law_take T.fd__law_take ["_law_pool_here", "_law_many"] (toSp K ap__law_take)) (G__law_line : FnOk P w K mg base CX0 2 T.f__law_line T.fd__law_line ["_law_pool_here"] (toSp K ap__law_line)) (G__law_bent : FnOk P w K mg base CX0 2 T.f__law_bent T.fd__law_bent ["_law_pool_here", "_law_block"] (toSp K ap__law_bent)) (cdv : Value) (A : Around) (outer : List PySem.Env) (s : Shared) (H : Hp) (E : XK) (hr : Room 2 (A.deeper (PyProof.Rows.envOfC "_law_turned" (defScope s__law_turned) s.heap.objs.size T.f__law_turned cdv))) :
    PSs (cxOf CX0 P w K mg base ["_law_pool_here", "_law_page_here", "_law_kind", "_law_columns", "_law_bent_here"] "_law_turned" (defScope s__law_turned) T.f__law_turned cdv A outer s H E).nox (defBody s__law_turned) (t__law_turned K ap__law_take ap__law_line ap__law_bent) := 
      (pss_cons (ps_set (i := 2) sc__law_turned.nd rfl (Or.inl rfl) (pe_call G__law_take (hr.mono (by decide)) (by rfl) T.g__law_take T.F__law_take.kp T.b__law_take .nil pass0 (pa_cons (pv 0) (pa_cons pe_int pa_nil))))
      (pss_cons (ps_set (i := 3) sc__law_turned.nd rfl (Or.inl rfl) (pe_ix ix_seq (pv 1) pe_int (fun _ _ => rfl)))
      (pss_cons (ps_if (pt_cmpR (op_eqG hr.units) (pv 2) pe_int (nomark _)) (pss_one (ps_ret (pe_tup (pa_cons (pe_ix ix_seq (pv 1) pe_int (fun _ _ => rfl)) (pa_cons (pe_op op_addG (pe_ix ix_seq (pv 1) pe_int (fun _ _ => rfl)) (pe_tup (pa_cons (pe_tup (pa_cons (pe_call G__law_line (hr.mono (by decide)) (by rfl) T.g__law_line T.F__law_line.kp T.b__law_line .nil pass0 (pa_cons (pv 0) pa_nil)) pa_nil)) pa_nil))) (pa_cons (pv 3) (pa_cons (pe_ix ix_seq (pv 1) pe_int (fun _ _ => rfl)) pa_nil))))))) pss_nil)
      (pss_cons (ps_if (pt_cmpR (op_eqG hr.units) (pv 2) pe_int (nomark _)) (pss_one (ps_ret (pe_tup (pa_cons (pe_ix ix_seq (pv 1) pe_int (fun _ _ => rfl)) (pa_cons (pe_ix ix_seq (pv 1) pe_int (fun _ _ => rfl)) (pa_cons (pv 3) (pa_cons (pe_op op_addG (pe_ix ix_seq (pv 1) pe_int (fun _ _ => rfl)) (pe_tup (pa_cons (pe_tup (pa_cons (pe_call G__law_line (hr.mono (by decide)) (by rfl) T.g__law_line T.F__law_line.kp T.b__law_line .nil pass0 (pa_cons (pv 0) pa_nil)) pa_nil)) pa_nil))) pa_nil))))))) pss_nil)
      (pss_cons (ps_if (pt_cmpR (op_eqG hr.units) (pv 2) pe_int (nomark _)) (pss_one (ps_ret (pe_tup (pa_cons (pe_ix ix_seq (pv 1) pe_int (fun _ _ => rfl)) (pa_cons (pe_ix ix_seq (pv 1) pe_int (fun _ _ => rfl)) (pa_cons (pe_op op_addG (pe_slice sl_G (pv 3) po_none (po_some (pe_un un_neg pe_int))) (pe_tup (pa_cons (pe_tup pa_nil) pa_nil))) (pa_cons (pe_ix ix_seq (pv 1) pe_int (fun _ _ => rfl)) pa_nil))))))) pss_nil)
      (pss_cons (ps_if (pt_cmpR (op_eqG hr.units) (pv 2) pe_int (nomark _)) (pss_cons (ps_set (i := 4) sc__law_turned.nd rfl (Or.inl rfl) (pe_call G__law_bent (hr.mono (by decide)) (by rfl) T.g__law_bent T.F__law_bent.kp T.b__law_bent .nil pass0 (pa_cons (pv 0) (pa_cons (pe_ix ix_seq (pv 3) pe_int (fun _ _ => rfl)) pa_nil))))
      (pss_one (ps_ret (pe_tup (pa_cons (pe_ix ix_seq (pv 1) pe_int (fun _ _ => rfl)) (pa_cons (pe_ix ix_seq (pv 1) pe_int (fun _ _ => rfl)) (pa_cons (pe_op op_addG (pe_tup (pa_cons (pv 4) pa_nil)) (pe_slice sl_G (pv 3) (po_some pe_int) po_none)) (pa_cons (pe_ix ix_seq (pv 1) pe_int (fun _ _ => rfl)) pa_nil)))))))) pss_nil)
      (pss_cons (ps_if (PW.pt (pw_and (pt_cmpR (op_eqG hr.units) (pv 2) pe_int (nomark _)) (pw_and1 (pt_cmpR op_gt (pe_callB call_len (by rfl) T.m_len bi_len (pa_cons (pe_ix ix_seq (pv 1) pe_int (fun _ _ => rfl)) pa_nil)) pe_int (nomark _))))) (pss_one (ps_ret (pe_tup (pa_cons (pe_ix ix_seq (pv 1) pe_int (fun _ _ => rfl)) (pa_cons (pe_ix ix_seq (pv 1) pe_int (fun _ _ => rfl)) (pa_cons (pv 3) (pa_cons (pe_tup (pa_cons (pe_call G__law_bent (hr.mono (by decide)) (by rfl) T.g__law_bent T.F__law_bent.kp T.b__law_bent .nil pass0 (pa_cons (pv 0) (pa_cons (pe_ix ix_seq (pe_ix ix_seq (pv 1) pe_int (fun _ _ => rfl)) pe_int (fun _ _ => rfl)) pa_nil))) pa_nil)) pa_nil))))))) pss_nil)
      (pss_cons (ps_if (PW.pt (pw_and (pt_cmpR (op_eqG hr.units) (pv 2) pe_int (nomark _)) (pw_and1 (pt_cmpR op_gt (pe_callB call_len (by rfl) T.m_len bi_len (pa_cons (pe_ix ix_seq (pv 1) pe_int (fun _ _ => rfl)) pa_nil)) pe_int (nomark _))))) (pss_one (ps_ret (pe_tup (pa_cons (pe_ix ix_seq (pv 1) pe_int (fun _ _ => rfl)) (pa_cons (pe_tup (pa_cons (pe_call G__law_bent (hr.mono (by decide)) (by rfl) T.g__law_bent T.F__law_bent.kp T.b__law_bent .nil pass0 (pa_cons (pv 0) (pa_cons (pe_ix ix_seq (pe_ix ix_seq (pv 1) pe_int (fun _ _ => rfl)) pe_int (fun _ _ => rfl)) pa_nil))) pa_nil)) (pa_cons (pv 3) (pa_cons (pe_ix ix_seq (pv 1) pe_int (fun _ _ => rfl)) pa_nil))))))) pss_nil)
      (pss_cons (ps_if (pt_cmpR (op_eqG hr.units) (pv 2) pe_int (nomark _)) (pss_one (ps_ret (pe_tup (pa_cons (pe_ix ix_seq (pv 1) pe_int (fun _ _ => rfl)) (pa_cons (pe_ix ix_seq (pv 1) pe_int (fun _ _ => rfl)) (pa_cons (pe_op op_addG (pe_tup (pa_cons (pe_slice sl_G (pe_ix ix_seq (pv 3) pe_int (fun _ _ => rfl)) po_none (po_some (pe_un un_neg pe_int))) pa_nil)) (pe_slice sl_G (pv 3) (po_some pe_int) po_none)) (pa_cons (pe_ix ix_seq (pv 1) pe_int (fun _ _ => rfl)) pa_nil))))))) pss_nil)
      (pss_one (ps_ret (pv 1))))))))))))
theorem tm__law_second {ap__law_pool : AP} {ap__law_turned : AP} {ap__law_page : AP} (T : Txt K mg) (G__law_pool : FnOk P w K mg base CX0 1 T.f__law_pool T.fd__law_pool ["_law_script", "_law_at"] (toSp K ap__law_pool)) (G__law_turned : FnOk P w K mg base CX0 3 T.f__law_turned T.fd__law_turned ["_law_pool_here", "_law_page_here"] (toSp K ap__law_turned)) (G__law_page : FnOk P w K mg base CX0 3 T.f__law_page T.fd__law_page ["_law_pool_here", "_law_number", "_law_cols"] (toSp K ap__law_page)) (cdv : Value) (A : Around) (outer : List PySem.Env) (s : Shared) (H : Hp) (E : XK) (hr : Room 3 (A.deeper (PyProof.Rows.envOfC "_law_second" (defScope s__law_second) s.heap.objs.size T.f__law_second cdv))) :
    PSs (cxOf CX0 P w K mg base ["_law_script", "_law_pages", "_law_number", "_law_many", "_law_mode", "_law_cols", "_law_rows", "_law_k", "_law_own", "_law_elder", "_law_page_here"] "_law_second" (defScope s__law_second) T.f__law_second cdv A outer s H E).nox (defBody s__law_second) (t__law_second K ap__law_pool ap__law_turned ap__law_page) := 
      (pss_cons (ps_set (i := 6) sc__law_second.nd rfl (Or.inl rfl) (pe_lst pa_nil))
      (pss_cons (ps_for PassesOwn.never rfl (pi_range1 (by rfl) T.m_range (pa_cons (pv 3) pa_nil)) (pg_name (i := 7) sc__law_second.nd rfl (Or.inr rfl)) (pss_cons (ps_set (i := 8) sc__law_second.nd rfl (Or.inl rfl) (pe_call G__law_pool (hr.mono (by decide)) (by rfl) T.g__law_pool T.F__law_pool.kp T.b__law_pool .nil pass0 (pa_cons (pv 0) (pa_cons (pe_op op_addG pe_int (pv 7)) pa_nil))))
      (pss_cons (ps_setLc (i := 9) (own := [("_law_page_here", 10)]) (g := (gName 10)) (tt := (tTest (tOp (rEqG K) (tOp (rIx K) (tVar 10) (tC (.int 0))) (tOp (rAddG K) (tVar 2) (tVar 7))))) (by rfl) sc__law_second.nd rfl rfl (sw_true rfl rfl rfl (by decide +kernel)) (pi_list (pv 1)) (blkOk_by (own := [("_law_page_here", 10)]) (N := ["_law_script", "_law_pages", "_law_number", "_law_many", "_law_mode", "_law_cols", "_law_rows", "_law_k", "_law_own", "_law_elder", "_law_page_here"]) (sc := defScope s__law_second) (by decide +kernel)) (fun _ _ _ _ _ => (pg_name (i := 10) sc__law_second.nd rfl (Or.inl rfl))) (fun _ _ _ _ _ => (pts_one (pt_cmpR (op_eqG hr.units) (pe_ix ix_seq (pv 10) pe_int (fun _ _ => rfl)) (pe_op op_addG (pv 2) (pv 7)) (nomark _)))) (fun _ _ _ _ _ => (pv 10)))
      (pss_one (ps_if (PW.pt (pw_and (pt_cmpR (op_eqG hr.units) (pv 4) pe_int (nomark _)) (pw_and1 (pt_cmpR op_gt (pe_callB call_len (by rfl) T.m_len bi_len (pa_cons (pv 9) pa_nil)) pe_int (nomark _))))) (pss_one (ps_expr (pe_bm PySem.F.plainAttrs_list PySem.F.slot_list_append PySem.F.type_list_append mt_append (pv 6) (pa_cons (pe_call G__law_turned (hr.mono (by decide)) (by rfl) T.g__law_turned T.F__law_turned.kp T.b__law_turned .nil pass0 (pa_cons (pv 8) (pa_cons (pe_ix ix_seq (pv 9) pe_int (fun _ _ => rfl)) pa_nil))) pa_nil)))) (pss_one (ps_if (PW.pt (pw_and (pt_cmpR (op_eqG hr.units) (pv 4) pe_int (nomark _)) (pw_and1 (pt_cmpR (op_ltG hr.units0) (pv 7) (pe_callB call_len (by rfl) T.m_len bi_len (pa_cons (pv 1) pa_nil)) (nomark _))))) (pss_one (ps_expr (pe_bm PySem.F.plainAttrs_list PySem.F.slot_list_append PySem.F.type_list_append mt_append (pv 6) (pa_cons (pe_op op_addG (pe_tup (pa_cons (pe_op op_addG (pv 2) (pv 7)) pa_nil)) (pe_slice sl_G (pe_ix ix_seq (pv 1) (pv 7) (fun _ _ => rfl)) (po_some pe_int) po_none)) pa_nil)))) (pss_one (ps_expr (pe_bm PySem.F.plainAttrs_list PySem.F.slot_list_append PySem.F.type_list_append mt_append (pv 6) (pa_cons (pe_call G__law_page (hr.mono (by decide)) (by rfl) T.g__law_page T.F__law_page.kp T.b__law_page .nil pass0 (pa_cons (pv 8) (pa_cons (pe_op op_addG (pv 2) (pv 7)) (pa_cons (pv 5) pa_nil)))) pa_nil)))))))))))
      (pss_one (ps_ret (pv 6)))))
theorem tm__law_result {ap__law_take : AP} (T : Txt K mg) (G__law_take : FnOk P w K mg base CX0 1 T.f__law_take T.fd__law_take ["_law_pool_here", "_law_many"] (toSp K ap__law_take)) (cdv : Value) (A : Around) (outer : List PySem.Env) (s : Shared) (H : Hp) (E : XK) (hr : Room 1 (A.deeper (PyProof.Rows.envOfC "_law_result" (defScope s__law_result) s.heap.objs.size T.f__law_result cdv))) :
    PSs (cxOf CX0 P w K mg base ["_law_pool_here", "_law_pages", "_law_unset", "_law_forms", "_law_k"] "_law_result" (defScope s__law_result) T.f__law_result cdv A outer s H E).nox (defBody s__law_result) (t__law_result K ap__law_take) := 
      (pss_cons (ps_set (i := 3) sc__law_result.nd rfl (Or.inl rfl) (pe_callTy call_tuple_of (by rfl) T.m_tuple bi_tuple (pa_cons (pe_lc (own := [("_law_k", 4)]) (g := (gName 4)) (tt := tYes) (by rfl) sc__law_result.nd (pi_range1 (by rfl) T.m_range (pa_cons (pe_call G__law_take (hr.mono (by decide)) (by rfl) T.g__law_take T.F__law_take.kp T.b__law_take .nil pass0 (pa_cons (pv 0) (pa_cons pe_int pa_nil))) pa_nil)) (blkOk_by (own := [("_law_k", 4)]) (N := ["_law_pool_here", "_law_pages", "_law_unset", "_law_forms", "_law_k"]) (sc := defScope s__law_result) (by decide +kernel)) (fun _ _ _ _ _ => (pg_name (i := 4) sc__law_result.nd rfl (Or.inl rfl))) (fun _ _ _ _ _ => pts_nil) (fun _ _ _ _ _ => (pe_call G__law_take (hr.mono (by decide)) (by rfl) T.g__law_take T.F__law_take.kp T.b__law_take .nil pass0 (pa_cons (pv 0) (pa_cons pe_int pa_nil))))) pa_nil)))
      (pss_cons (ps_if (pt_val (pv 2)) (pss_one (ps_ret (pe_tup (pa_cons pe_str (pa_cons (pe_tup (pa_cons (pe_tup (pa_cons (pv 3) (pa_cons (pe_tup (pa_cons pe_str (pa_cons (pe_call G__law_take (hr.mono (by decide)) (by rfl) T.g__law_take T.F__law_take.kp T.b__law_take .nil pass0 (pa_cons (pv 0) (pa_cons pe_int pa_nil))) pa_nil))) pa_nil))) pa_nil)) pa_nil))))) pss_nil)
      (pss_one (ps_ret (pe_tup (pa_cons pe_str (pa_cons (pv 3) (pa_cons (pe_callTy call_tuple_of (by rfl) T.m_tuple bi_tuple (pa_cons (pv 1) pa_nil)) pa_nil))))))))
theorem tm__law_due {ap__law_same : AP} (T : Txt K mg) (G__law_same : FnOk P w K mg base CX0 20 T.f__law_same T.fd__law_same ["_law_one", "_law_two"] (toSp K ap__law_same)) (cdv : Value) (A : Around) (outer : List PySem.Env) (s : Shared) (H : Hp) (E : XK) (hr : Room 20 (A.deeper (PyProof.Rows.envOfC "_law_due" (defScope s__law_due) s.heap.objs.size T.f__law_due cdv))) :
    PSs (cxOf CX0 P w K mg base ["_law_one", "_law_two", "_law_changed", "_law_page_here", "_law_here", "_law_there", "_law_number", "_law_other"] "_law_due" (defScope s__law_due) T.f__law_due cdv A outer s H E).nox (defBody s__law_due) (t__law_due K ap__law_same) := 
      (pss_cons (ps_set (i := 2) sc__law_due.nd rfl (Or.inr rfl) (pe_lst pa_nil))
      (pss_cons (ps_for PassesOwn.never rfl (pi_list (pe_op op_addG (pv 0) (pv 1))) (pg_name (i := 3) sc__law_due.nd rfl (Or.inr rfl)) (pss_cons (ps_setLc (i := 4) (own := [("_law_other", 7)]) (g := (gName 7)) (tt := (tTest (tOp (rEqG K) (tOp (rIx K) (tVar 7) (tC (.int 0))) (tOp (rIx K) (tVar 3) (tC (.int 0)))))) (by rfl) sc__law_due.nd rfl rfl (sw_true rfl rfl rfl (by decide +kernel)) (pi_list (pv 0)) (blkOk_by (own := [("_law_other", 7)]) (N := ["_law_one", "_law_two", "_law_changed", "_law_page_here", "_law_here", "_law_there", "_law_number", "_law_other"]) (sc := defScope s__law_due) (by decide +kernel)) (fun _ _ _ _ _ => (pg_name (i := 7) sc__law_due.nd rfl (Or.inl rfl))) (fun _ _ _ _ _ => (pts_one (pt_cmpR (op_eqG hr.units) (pe_ix ix_seq (pv 7) pe_int (fun _ _ => rfl)) (pe_ix ix_seq (pv 3) pe_int (fun _ _ => rfl)) (nomark _)))) (fun _ _ _ _ _ => (pv 7)))
      (pss_cons (ps_setLc (i := 5) (own := [("_law_other", 7)]) (g := (gName 7)) (tt := (tTest (tOp (rEqG K) (tOp (rIx K) (tVar 7) (tC (.int 0))) (tOp (rIx K) (tVar 3) (tC (.int 0)))))) (by rfl) sc__law_due.nd rfl rfl (sw_true rfl rfl rfl (by decide +kernel)) (pi_list (pv 1)) (blkOk_by (own := [("_law_other", 7)]) (N := ["_law_one", "_law_two", "_law_changed", "_law_page_here", "_law_here", "_law_there", "_law_number", "_law_other"]) (sc := defScope s__law_due) (by decide +kernel)) (fun _ _ _ _ _ => (pg_name (i := 7) sc__law_due.nd rfl (Or.inl rfl))) (fun _ _ _ _ _ => (pts_one (pt_cmpR (op_eqG hr.units) (pe_ix ix_seq (pv 7) pe_int (fun _ _ => rfl)) (pe_ix ix_seq (pv 3) pe_int (fun _ _ => rfl)) (nomark _)))) (fun _ _ _ _ _ => (pv 7)))
      (pss_one (ps_if (PW.pt (pw_and (pt_not (pt_val (pe_call G__law_same (hr.mono (by decide)) (by rfl) T.g__law_same T.F__law_same.kp T.b__law_same .nil pass0 (pa_cons (pv 4) (pa_cons (pv 5) pa_nil))))) (pw_and1 (pt_cmpR op_notIn_seq (pe_ix ix_seq (pv 3) pe_int (fun _ _ => rfl)) (pv 2) (by rfl))))) (pss_one (ps_expr (pe_bm PySem.F.plainAttrs_list PySem.F.slot_list_append PySem.F.type_list_append mt_append (pv 2) (pa_cons (pe_ix ix_seq (pv 3) pe_int (fun _ _ => rfl)) pa_nil)))) pss_nil)))))
      (pss_one (ps_ret (pe_lc (own := [("_law_number", 6)]) (g := (gName 6)) (tt := (tTest (tOp (rInG K) (tVar 6) (tVar 2)))) (by rfl) sc__law_due.nd (pi_range1 (by rfl) T.m_range (pa_cons pe_int pa_nil)) (blkOk_by (own := [("_law_number", 6)]) (N := ["_law_one", "_law_two", "_law_changed", "_law_page_here", "_law_here", "_law_there", "_law_number", "_law_other"]) (sc := defScope s__law_due) (by decide +kernel)) (fun _ _ _ _ _ => (pg_name (i := 6) sc__law_due.nd rfl (Or.inl rfl))) (fun _ _ _ _ _ => (pts_one (pt_cmpR op_inG (pv 6) (pv 2) (by rfl)))) (fun _ _ _ _ _ => (pv 6)))))))
theorem tm_law {ap__law_pool : AP} {ap__law_take : AP} {ap__law_page : AP} {ap__law_second : AP} {ap__law_result : AP} {ap__law_due : AP} {ap__law_same : AP} {ap_changed_pages : AP} (T : Txt K mg) (G__law_pool : FnOk P w K mg base CX0 1 T.f__law_pool T.fd__law_pool ["_law_script", "_law_at"] (toSp K ap__law_pool)) (G__law_take : FnOk P w K mg base CX0 1 T.f__law_take T.fd__law_take ["_law_pool_here", "_law_many"] (toSp K ap__law_take)) (G__law_page : FnOk P w K mg base CX0 3 T.f__law_page T.fd__law_page ["_law_pool_here", "_law_number", "_law_cols"] (toSp K ap__law_page)) (G__law_second : FnOk P w K mg base CX0 4 T.f__law_second T.fd__law_second ["_law_script", "_law_pages", "_law_number", "_law_many", "_law_mode", "_law_cols"] (toSp K ap__law_second)) (G__law_result : FnOk P w K mg base CX0 2 T.f__law_result T.fd__law_result ["_law_pool_here", "_law_pages", "_law_unset"] (toSp K ap__law_result)) (G__law_due : FnOk P w K mg base CX0 21 T.f__law_due T.fd__law_due ["_law_one", "_law_two"] (toSp K ap__law_due)) (G__law_same : FnOk P w K mg base CX0 20 T.f__law_same T.fd__law_same ["_law_one", "_law_two"] (toSp K ap__law_same)) (G_changed_pages : FnOk P w K mg base CX0 2 T.f_changed_pages T.fd_changed_pages ["before", "after"] (toSp K ap_changed_pages)) (cdv : Value) (A : Around) (outer : List PySem.Env) (s : Shared) (H : Hp) (E : XK) (hr : Room 21 (A.deeper (PyProof.Rows.envOfC "law" (defScope s_law) s.heap.objs.size T.f_law cdv))) :
    PSs (cxOf CX0 P w K mg base ["_law_script", "_law_pool_here", "_law_start", "_law_many", "_law_shift", "_law_other", "_law_mode", "_law_cols", "_law_unset", "_law_pages", "_law_rows", "_law_one", "_law_two", "_law_due_here", "_law_k"] "law" (defScope s_law) T.f_law cdv A outer s H E).nox (defBody s_law) (t_law K ap__law_pool ap__law_take ap__law_page ap__law_second ap__law_result ap__law_due ap__law_same ap_changed_pages) := 
      (pss_cons (ps_set (i := 1) sc_law.nd rfl (Or.inl rfl) (pe_call G__law_pool (hr.mono (by decide)) (by rfl) T.g__law_pool T.F__law_pool.kp T.b__law_pool .nil pass0 (pa_cons (pv 0) (pa_cons pe_int pa_nil))))
      (pss_cons (ps_set (i := 2) sc_law.nd rfl (Or.inr rfl) (pe_op op_addG pe_int (pe_call G__law_take (hr.mono (by decide)) (by rfl) T.g__law_take T.F__law_take.kp T.b__law_take .nil pass0 (pa_cons (pv 1) (pa_cons pe_int pa_nil)))))
      (pss_cons (ps_set (i := 3) sc_law.nd rfl (Or.inl rfl) (pe_call G__law_take (hr.mono (by decide)) (by rfl) T.g__law_take T.F__law_take.kp T.b__law_take .nil pass0 (pa_cons (pv 1) (pa_cons pe_int pa_nil))))
      (pss_cons (ps_set (i := 4) sc_law.nd rfl (Or.inl rfl) (pe_ix ix_seq (pe_lst (pa_cons pe_int (pa_cons pe_int (pa_cons pe_int (pa_cons (pe_un un_neg pe_int) (pa_cons (pe_un un_neg pe_int) pa_nil)))))) (pe_call G__law_take (hr.mono (by decide)) (by rfl) T.g__law_take T.F__law_take.kp T.b__law_take .nil pass0 (pa_cons (pv 1) (pa_cons pe_int pa_nil))) (fun _ _ => rfl)))
      (pss_cons (ps_set (i := 5) sc_law.nd rfl (Or.inl rfl) (pe_ix ix_seq (pe_lst (pa_cons pe_int (pa_cons pe_int (pa_cons pe_int (pa_cons pe_int (pa_cons pe_int (pa_cons pe_int pa_nil))))))) (pe_call G__law_take (hr.mono (by decide)) (by rfl) T.g__law_take T.F__law_take.kp T.b__law_take .nil pass0 (pa_cons (pv 1) (pa_cons pe_int pa_nil))) (fun _ _ => rfl)))
      (pss_cons (ps_set (i := 6) sc_law.nd rfl (Or.inl rfl) (pe_call G__law_take (hr.mono (by decide)) (by rfl) T.g__law_take T.F__law_take.kp T.b__law_take .nil pass0 (pa_cons (pv 1) (pa_cons pe_int pa_nil))))
      (pss_cons (ps_set (i := 7) sc_law.nd rfl (Or.inr rfl) (pe_op op_sub pe_int (pe_call G__law_take (hr.mono (by decide)) (by rfl) T.g__law_take T.F__law_take.kp T.b__law_take .nil pass0 (pa_cons (pv 1) (pa_cons pe_int pa_nil)))))
      (pss_cons (ps_set (i := 8) sc_law.nd rfl (Or.inl rfl) (pe_lst (pa_cons (pe_cmpR (op_eqG hr.units) (pe_call G__law_take (hr.mono (by decide)) (by rfl) T.g__law_take T.F__law_take.kp T.b__law_take .nil pass0 (pa_cons (pv 1) (pa_cons pe_int pa_nil))) pe_int (nomark _)) (pa_cons (pe_cmpR (op_eqG hr.units) (pe_call G__law_take (hr.mono (by decide)) (by rfl) T.g__law_take T.F__law_take.kp T.b__law_take .nil pass0 (pa_cons (pv 1) (pa_cons pe_int pa_nil))) pe_int (nomark _)) pa_nil))))
      (pss_cons (ps_setLc (i := 9) (own := [("_law_k", 14)]) (g := (gName 14)) (tt := tYes) (by rfl) sc_law.nd rfl rfl (sw_true rfl rfl rfl (by decide +kernel)) (pi_range1 (by rfl) T.m_range (pa_cons (pv 3) pa_nil)) (blkOk_by (own := [("_law_k", 14)]) (N := ["_law_script", "_law_pool_here", "_law_start", "_law_many", "_law_shift", "_law_other", "_law_mode", "_law_cols", "_law_unset", "_law_pages", "_law_rows", "_law_one", "_law_two", "_law_due_here", "_law_k"]) (sc := defScope s_law) (by decide +kernel)) (fun _ _ _ _ _ => (pg_name (i := 14) sc_law.nd rfl (Or.inl rfl))) (fun _ _ _ _ _ => pts_nil) (fun _ _ _ _ _ => (pe_call G__law_page (hr.mono (by decide)) (by rfl) T.g__law_page T.F__law_page.kp T.b__law_page .nil pass0 (pa_cons (pe_call G__law_pool (hr.mono (by decide)) (by rfl) T.g__law_pool T.F__law_pool.kp T.b__law_pool .nil pass0 (pa_cons (pv 0) (pa_cons (pe_op op_addG pe_int (pv 14)) pa_nil))) (pa_cons (pe_op op_addG (pv 2) (pv 14)) (pa_cons (pv 7) pa_nil))))))
      (pss_cons (ps_set (i := 10) sc_law.nd rfl (Or.inl rfl) (pe_call G__law_second (hr.mono (by decide)) (by rfl) T.g__law_second T.F__law_second.kp T.b__law_second .nil pass0 (pa_cons (pv 0) (pa_cons (pv 9) (pa_cons (pe_callB (call_max2 rfl) (by rfl) T.m_max bi_max (pa_cons pe_int (pa_cons (pe_op op_addG (pv 2) (pv 4)) pa_nil))) (pa_cons (pv 5) (pa_cons (pv 6) (pa_cons (pv 7) pa_nil))))))))
      (pss_cons (ps_set (i := 11) sc_law.nd rfl (Or.inl rfl) (pe_call G__law_result (hr.mono (by decide)) (by rfl) T.g__law_result T.F__law_result.kp T.b__law_result .nil pass0 (pa_cons (pv 1) (pa_cons (pv 9) (pa_cons (pe_ix ix_seq (pv 8) pe_int (fun _ _ => rfl)) pa_nil)))))
      (pss_cons (ps_set (i := 12) sc_law.nd rfl (Or.inl rfl) (pe_call G__law_result (hr.mono (by decide)) (by rfl) T.g__law_result T.F__law_result.kp T.b__law_result .nil pass0 (pa_cons (pv 1) (pa_cons (pv 10) (pa_cons (pe_ix ix_seq (pv 8) pe_int (fun _ _ => rfl)) pa_nil)))))
      (pss_cons (ps_if (pt_val (pe_ix ix_seq (pv 8) pe_int (fun _ _ => rfl))) (pss_one (ps_set (i := 9) sc_law.nd rfl (Or.inl rfl) (pe_lst pa_nil))) pss_nil)
      (pss_cons (ps_if (pt_val (pe_ix ix_seq (pv 8) pe_int (fun _ _ => rfl))) (pss_one (ps_set (i := 10) sc_law.nd rfl (Or.inl rfl) (pe_lst pa_nil))) pss_nil)
      (pss_cons (ps_set (i := 13) sc_law.nd rfl (Or.inl rfl) (pe_call G__law_due (hr.mono (by decide)) (by rfl) T.g__law_due T.F__law_due.kp T.b__law_due .nil pass0 (pa_cons (pv 9) (pa_cons (pv 10) pa_nil))))
      (pss_cons (ps_if (PW.pt (pw_or (pt_not (pt_val (pe_call G__law_same (hr.mono (by decide)) (by rfl) T.g__law_same T.F__law_same.kp T.b__law_same .nil pass0 (pa_cons (pe_call G_changed_pages (hr.mono (by decide)) (by rfl) T.g_changed_pages T.F_changed_pages.kp T.b_changed_pages .nil pass0 (pa_cons (pv 11) (pa_cons (pv 12) pa_nil))) (pa_cons (pv 13) pa_nil))))) (pw_or1 (pt_not (pt_val (pe_call G__law_same (hr.mono (by decide)) (by rfl) T.g__law_same T.F__law_same.kp T.b__law_same .nil pass0 (pa_cons (pe_call G_changed_pages (hr.mono (by decide)) (by rfl) T.g_changed_pages T.F_changed_pages.kp T.b_changed_pages .nil pass0 (pa_cons (pv 12) (pa_cons (pv 11) pa_nil))) (pa_cons (pv 13) pa_nil)))))))) (pss_one (ps_ret pe_bl)) pss_nil)
      (pss_cons (ps_if (PW.pt (pw_or (pt_not (pt_val (pe_call G__law_same (hr.mono (by decide)) (by rfl) T.g__law_same T.F__law_same.kp T.b__law_same .nil pass0 (pa_cons (pe_call G_changed_pages (hr.mono (by decide)) (by rfl) T.g_changed_pages T.F_changed_pages.kp T.b_changed_pages .nil pass0 (pa_cons (pv 11) (pa_cons (pv 11) pa_nil))) (pa_cons (pe_lst pa_nil) pa_nil))))) (pw_or1 (pt_not (pt_val (pe_call G__law_same (hr.mono (by decide)) (by rfl) T.g__law_same T.F__law_same.kp T.b__law_same .nil pass0 (pa_cons (pe_call G_changed_pages (hr.mono (by decide)) (by rfl) T.g_changed_pages T.F_changed_pages.kp T.b_changed_pages .nil pass0 (pa_cons (pv 12) (pa_cons (pv 12) pa_nil))) (pa_cons (pe_lst pa_nil) pa_nil)))))))) (pss_one (ps_ret pe_bl)) pss_nil)
      (pss_one (ps_ret (pe_call G__law_same (hr.mono (by decide)) (by rfl) T.g__law_same T.F__law_same.kp T.b__law_same .nil pass0 (pa_cons (pe_call G_changed_pages (hr.mono (by decide)) (by rfl) T.g_changed_pages T.F_changed_pages.kp T.b_changed_pages .nil pass0 (pa_cons (pv 11) (pa_cons (pv 12) pa_nil))) (pa_cons (pv 13) pa_nil))))))))))))))))))))))
end
theorem txt_mk {K : PySem.W.Frag} {h : Heap} {mg : Str → Option Value} (X : K.In h) (G : h.Ns mainGlobals mg)
    {f0 : Addr} {od0 an0 : Option Addr} {sl0 : Array (Option Value)} {oc0 kV0 dc0 pm0 cd0 ct0 : Value}
    (a0 : PySem.W.nsIn K mainGlobals "pages_by_number" = some (some (.ref f0))) (l0 : K.lookup f0 = some ⟨oc0, od0, .func (PySem.W.fnOf "pages_by_number" "pages_by_number" (defArgs s_pages_by_number) (defBody s_pages_by_number) (defScope s_pages_by_number) .none kV0 dc0 pm0 an0 cd0 ct0), sl0⟩) (c0 : PySem.W.codeIn K cd0 "pages_by_number" = true) (k0 : PySem.W.keepIn K (.ref f0) = true)
    {f1 : Addr} {od1 an1 : Option Addr} {sl1 : Array (Option Value)} {oc1 kV1 dc1 pm1 cd1 ct1 : Value}
    (a1 : PySem.W.nsIn K mainGlobals "changed_pages" = some (some (.ref f1))) (l1 : K.lookup f1 = some ⟨oc1, od1, .func (PySem.W.fnOf "changed_pages" "changed_pages" (defArgs s_changed_pages) (defBody s_changed_pages) (defScope s_changed_pages) .none kV1 dc1 pm1 an1 cd1 ct1), sl1⟩) (c1 : PySem.W.codeIn K cd1 "changed_pages" = true) (k1 : PySem.W.keepIn K (.ref f1) = true)
    {f2 : Addr} {od2 an2 : Option Addr} {sl2 : Array (Option Value)} {oc2 kV2 dc2 pm2 cd2 ct2 : Value}
    (a2 : PySem.W.nsIn K mainGlobals "_law_pool" = some (some (.ref f2))) (l2 : K.lookup f2 = some ⟨oc2, od2, .func (PySem.W.fnOf "_law_pool" "_law_pool" (defArgs s__law_pool) (defBody s__law_pool) (defScope s__law_pool) .none kV2 dc2 pm2 an2 cd2 ct2), sl2⟩) (c2 : PySem.W.codeIn K cd2 "_law_pool" = true) (k2 : PySem.W.keepIn K (.ref f2) = true)
    {f3 : Addr} {od3 an3 : Option Addr} {sl3 : Array (Option Value)} {oc3 kV3 dc3 pm3 cd3 ct3 : Value}
    (a3 : PySem.W.nsIn K mainGlobals "_law_take" = some (some (.ref f3))) (l3 : K.lookup f3 = some ⟨oc3, od3, .func (PySem.W.fnOf "_law_take" "_law_take" (defArgs s__law_take) (defBody s__law_take) (defScope s__law_take) .none kV3 dc3 pm3 an3 cd3 ct3), sl3⟩) (c3 : PySem.W.codeIn K cd3 "_law_take" = true) (k3 : PySem.W.keepIn K (.ref f3) = true)
    {f4 : Addr} {od4 an4 : Option Addr} {sl4 : Array (Option Value)} {oc4 kV4 dc4 pm4 cd4 ct4 : Value}
    (a4 : PySem.W.nsIn K mainGlobals "_law_same" = some (some (.ref f4))) (l4 : K.lookup f4 = some ⟨oc4, od4, .func (PySem.W.fnOf "_law_same" "_law_same" (defArgs s__law_same) (defBody s__law_same) (defScope s__law_same) .none kV4 dc4 pm4 an4 cd4 ct4), sl4⟩) (c4 : PySem.W.codeIn K cd4 "_law_same" = true) (k4 : PySem.W.keepIn K (.ref f4) = true)
    {f5 : Addr} {od5 an5 : Option Addr} {sl5 : Array (Option Value)} {oc5 kV5 dc5 pm5 cd5 ct5 : Value}
    (a5 : PySem.W.nsIn K mainGlobals "_law_line" = some (some (.ref f5))) (l5 : K.lookup f5 = some ⟨oc5, od5, .func (PySem.W.fnOf "_law_line" "_law_line" (defArgs s__law_line) (defBody s__law_line) (defScope s__law_line) .none kV5 dc5 pm5 an5 cd5 ct5), sl5⟩) (c5 : PySem.W.codeIn K cd5 "_law_line" = true) (k5 : PySem.W.keepIn K (.ref f5) = true)
    {f6 : Addr} {od6 an6 : Option Addr} {sl6 : Array (Option Value)} {oc6 kV6 dc6 pm6 cd6 ct6 : Value}
    (a6 : PySem.W.nsIn K mainGlobals "_law_page" = some (some (.ref f6))) (l6 : K.lookup f6 = some ⟨oc6, od6, .func (PySem.W.fnOf "_law_page" "_law_page" (defArgs s__law_page) (defBody s__law_page) (defScope s__law_page) .none kV6 dc6 pm6 an6 cd6 ct6), sl6⟩) (c6 : PySem.W.codeIn K cd6 "_law_page" = true) (k6 : PySem.W.keepIn K (.ref f6) = true)
    {f7 : Addr} {od7 an7 : Option Addr} {sl7 : Array (Option Value)} {oc7 kV7 dc7 pm7 cd7 ct7 : Value}
    (a7 : PySem.W.nsIn K mainGlobals "_law_bent" = some (some (.ref f7))) (l7 : K.lookup f7 = some ⟨oc7, od7, .func (PySem.W.fnOf "_law_bent" "_law_bent" (defArgs s__law_bent) (defBody s__law_bent) (defScope s__law_bent) .none kV7 dc7 pm7 an7 cd7 ct7), sl7⟩) (c7 : PySem.W.codeIn K cd7 "_law_bent" = true) (k7 : PySem.W.keepIn K (.ref f7) = true)
    {f8 : Addr} {od8 an8 : Option Addr} {sl8 : Array (Option Value)} {oc8 kV8 dc8 pm8 cd8 ct8 : Value}
    (a8 : PySem.W.nsIn K mainGlobals "_law_turned" = some (some (.ref f8))) (l8 : K.lookup f8 = some ⟨oc8, od8, .func (PySem.W.fnOf "_law_turned" "_law_turned" (defArgs s__law_turned) (defBody s__law_turned) (defScope s__law_turned) .none kV8 dc8 pm8 an8 cd8 ct8), sl8⟩) (c8 : PySem.W.codeIn K cd8 "_law_turned" = true) (k8 : PySem.W.keepIn K (.ref f8) = true)
    {f9 : Addr} {od9 an9 : Option Addr} {sl9 : Array (Option Value)} {oc9 kV9 dc9 pm9 cd9 ct9 : Value}
    (a9 : PySem.W.nsIn K mainGlobals "_law_second" = some (some (.ref f9))) (l9 : K.lookup f9 = some ⟨oc9, od9, .func (PySem.W.fnOf "_law_second" "_law_second" (defArgs s__law_second) (defBody s__law_second) (defScope s__law_second) .none kV9 dc9 pm9 an9 cd9 ct9), sl9⟩) (c9 : PySem.W.codeIn K cd9 "_law_second" = true) (k9 : PySem.W.keepIn K (.ref f9) = true)
    {f10 : Addr} {od10 an10 : Option Addr} {sl10 : Array (Option Value)} {oc10 kV10 dc10 pm10 cd10 ct10 : Value}
    (a10 : PySem.W.nsIn K mainGlobals "_law_result" = some (some (.ref f10))) (l10 : K.lookup f10 = some ⟨oc10, od10, .func (PySem.W.fnOf "_law_result" "_law_result" (defArgs s__law_result) (defBody s__law_result) (defScope s__law_result) .none kV10 dc10 pm10 an10 cd10 ct10), sl10⟩) (c10 : PySem.W.codeIn K cd10 "_law_result" = true) (k10 : PySem.W.keepIn K (.ref f10) = true)
    {f11 : Addr} {od11 an11 : Option Addr} {sl11 : Array (Option Value)} {oc11 kV11 dc11 pm11 cd11 ct11 : Value}
    (a11 : PySem.W.nsIn K mainGlobals "_law_due" = some (some (.ref f11))) (l11 : K.lookup f11 = some ⟨oc11, od11, .func (PySem.W.fnOf "_law_due" "_law_due" (defArgs s__law_due) (defBody s__law_due) (defScope s__law_due) .none kV11 dc11 pm11 an11 cd11 ct11), sl11⟩) (c11 : PySem.W.codeIn K cd11 "_law_due" = true) (k11 : PySem.W.keepIn K (.ref f11) = true)
    {f12 : Addr} {od12 an12 : Option Addr} {sl12 : Array (Option Value)} {oc12 kV12 dc12 pm12 cd12 ct12 : Value}
    (a12 : PySem.W.nsIn K mainGlobals "law" = some (some (.ref f12))) (l12 : K.lookup f12 = some ⟨oc12, od12, .func (PySem.W.fnOf "law" "law" (defArgs s_law) (defBody s_law) (defScope s_law) .none kV12 dc12 pm12 an12 cd12 ct12), sl12⟩) (c12 : PySem.W.codeIn K cd12 "law" = true) (k12 : PySem.W.keepIn K (.ref f12) = true)
    (z_abs : PySem.W.nsIn K mainGlobals "abs" = some none)
    (z_bool : PySem.W.nsIn K mainGlobals "bool" = some none)
    (z_int : PySem.W.nsIn K mainGlobals "int" = some none)
    (z_isinstance : PySem.W.nsIn K mainGlobals "isinstance" = some none)
    (z_len : PySem.W.nsIn K mainGlobals "len" = some none)
    (z_list : PySem.W.nsIn K mainGlobals "list" = some none)
    (z_max : PySem.W.nsIn K mainGlobals "max" = some none)
    (z_range : PySem.W.nsIn K mainGlobals "range" = some none)
    (z_sorted : PySem.W.nsIn K mainGlobals "sorted" = some none)
    (z_str : PySem.W.nsIn K mainGlobals "str" = some none)
    (z_tuple : PySem.W.nsIn K mainGlobals "tuple" = some none)
    : ∃ T : Txt K mg, T.f_law = f12 ∧ ∀ (s : Shared) (v : Value), BindsTo s T.fd_law ⟨[v], []⟩ [("_law_script", v)] := by
  have F0 := fun_mk (st := s_pages_by_number) l0 c0 k0
  have b0 := F0.binds (ps := ["result"]) fun _ _ _ _ _ _ us hl => match us, hl with | [_], _ => rfl
  have F1 := fun_mk (st := s_changed_pages) l1 c1 k1
  have b1 := F1.binds (ps := ["before", "after"]) fun _ _ _ _ _ _ us hl => match us, hl with | [_, _], _ => rfl
  have F2 := fun_mk (st := s__law_pool) l2 c2 k2
  have b2 := F2.binds (ps := ["_law_script", "_law_at"]) fun _ _ _ _ _ _ us hl => match us, hl with | [_, _], _ => rfl
  have F3 := fun_mk (st := s__law_take) l3 c3 k3
  have b3 := F3.binds (ps := ["_law_pool_here", "_law_many"]) fun _ _ _ _ _ _ us hl => match us, hl with | [_, _], _ => rfl
  have F4 := fun_mk (st := s__law_same) l4 c4 k4
  have b4 := F4.binds (ps := ["_law_one", "_law_two"]) fun _ _ _ _ _ _ us hl => match us, hl with | [_, _], _ => rfl
  have F5 := fun_mk (st := s__law_line) l5 c5 k5
  have b5 := F5.binds (ps := ["_law_pool_here"]) fun _ _ _ _ _ _ us hl => match us, hl with | [_], _ => rfl
  have F6 := fun_mk (st := s__law_page) l6 c6 k6
  have b6 := F6.binds (ps := ["_law_pool_here", "_law_number", "_law_cols"]) fun _ _ _ _ _ _ us hl => match us, hl with | [_, _, _], _ => rfl
  have F7 := fun_mk (st := s__law_bent) l7 c7 k7
  have b7 := F7.binds (ps := ["_law_pool_here", "_law_block"]) fun _ _ _ _ _ _ us hl => match us, hl with | [_, _], _ => rfl
  have F8 := fun_mk (st := s__law_turned) l8 c8 k8
  have b8 := F8.binds (ps := ["_law_pool_here", "_law_page_here"]) fun _ _ _ _ _ _ us hl => match us, hl with | [_, _], _ => rfl
  have F9 := fun_mk (st := s__law_second) l9 c9 k9
  have b9 := F9.binds (ps := ["_law_script", "_law_pages", "_law_number", "_law_many", "_law_mode", "_law_cols"]) fun _ _ _ _ _ _ us hl => match us, hl with | [_, _, _, _, _, _], _ => rfl
  have F10 := fun_mk (st := s__law_result) l10 c10 k10
  have b10 := F10.binds (ps := ["_law_pool_here", "_law_pages", "_law_unset"]) fun _ _ _ _ _ _ us hl => match us, hl with | [_, _, _], _ => rfl
  have F11 := fun_mk (st := s__law_due) l11 c11 k11
  have b11 := F11.binds (ps := ["_law_one", "_law_two"]) fun _ _ _ _ _ _ us hl => match us, hl with | [_, _], _ => rfl
  have F12 := fun_mk (st := s_law) l12 c12 k12
  have b12 := F12.binds (ps := ["_law_script"]) fun _ _ _ _ _ _ us hl => match us, hl with | [_], _ => rfl
  exact ⟨{ m_abs := PySem.W.mg_none_of X G z_abs, m_bool := PySem.W.mg_none_of X G z_bool, m_int := PySem.W.mg_none_of X G z_int, m_isinstance := PySem.W.mg_none_of X G z_isinstance, m_len := PySem.W.mg_none_of X G z_len, m_list := PySem.W.mg_none_of X G z_list, m_max := PySem.W.mg_none_of X G z_max, m_range := PySem.W.mg_none_of X G z_range, m_sorted := PySem.W.mg_none_of X G z_sorted, m_str := PySem.W.mg_none_of X G z_str, m_tuple := PySem.W.mg_none_of X G z_tuple, f_pages_by_number := f0, fd_pages_by_number := _, F_pages_by_number := F0, b_pages_by_number := b0, g_pages_by_number := PySem.W.mg_of X G a0, f_changed_pages := f1, fd_changed_pages := _, F_changed_pages := F1, b_changed_pages := b1, g_changed_pages := PySem.W.mg_of X G a1, f__law_pool := f2, fd__law_pool := _, F__law_pool := F2, b__law_pool := b2, g__law_pool := PySem.W.mg_of X G a2, f__law_take := f3, fd__law_take := _, F__law_take := F3, b__law_take := b3, g__law_take := PySem.W.mg_of X G a3, f__law_same := f4, fd__law_same := _, F__law_same := F4, b__law_same := b4, g__law_same := PySem.W.mg_of X G a4, f__law_line := f5, fd__law_line := _, F__law_line := F5, b__law_line := b5, g__law_line := PySem.W.mg_of X G a5, f__law_page := f6, fd__law_page := _, F__law_page := F6, b__law_page := b6, g__law_page := PySem.W.mg_of X G a6, f__law_bent := f7, fd__law_bent := _, F__law_bent := F7, b__law_bent := b7, g__law_bent := PySem.W.mg_of X G a7, f__law_turned := f8, fd__law_turned := _, F__law_turned := F8, b__law_turned := b8, g__law_turned := PySem.W.mg_of X G a8, f__law_second := f9, fd__law_second := _, F__law_second := F9, b__law_second := b9, g__law_second := PySem.W.mg_of X G a9, f__law_result := f10, fd__law_result := _, F__law_result := F10, b__law_result := b10, g__law_result := PySem.W.mg_of X G a10, f__law_due := f11, fd__law_due := _, F__law_due := F11, b__law_due := b11, g__law_due := PySem.W.mg_of X G a11, f_law := f12, fd_law := _, F_law := F12, b_law := b12, g_law := PySem.W.mg_of X G a12 }, rfl, fun s v => .of_eq rfl⟩
end Lk83
namespace Lk83
open PySem L2 Ab
local macro_rules | `(tactic| walk_at "no") => `(tactic| first
  | with_reducible exact fun h => Bool.noConfusion (show true = false from h)
  | with_reducible exact fun h => Bool.noConfusion (show false = true from h)
  | exact fun h => absurd h (by decide)
  | exact fun h => absurd (of_decide_eq_true h) (by omega)
  | exact fun h => absurd (by omega) (of_decide_eq_false h)
  | exact fun h => absurd (by omega) (nd_t h)
  | exact fun h => absurd (nd_f h) (by omega)
  | fail "no")
local macro_rules | `(tactic| walk_at "kb") => `(tactic| first | exact kb_tt | exact kb_ll | exact kb_ii | exact kb_ib | exact kb_ss | exact kb_sb | exact kb_si | exact kb_tb | exact kb_ti | exact kb_ts | exact kb_tl | exact kb_lb | exact kb_li | exact kb_ls | exact kb_lt | exact kb_is | exact kb_it | exact kb_il | exact kb_st | exact kb_sl | exact kb_bb | exact kb_bi | exact kb_nb | exact kb_ni | exact kb_ns | exact kb_nt | exact kb_nl | exact kb_bs | exact kb_bt | exact kb_bl | fail "kb")
local macro_rules | `(tactic| walk_at "norm") => `(tactic| first
  | ((refine' norm_cons (rfl : _ = _ :: _) ?ea ?et); (case ea => first | with_reducible exact (rfl : Sl.val _ = _) | with_reducible exact (rfl : Sl.cel _ = _) | with_reducible exact (rfl : Sl.un = _) | with_reducible exact norm_v | with_reducible exact norm_n | with_reducible exact norm_o | exact norm_v | exact norm_n | exact norm_o | exact rfl | fail "norm"); (case et => walk_at "norm"))
  | exact (rfl : _ = ([] : List Sl))
  | fail "norm")
local macro_rules | `(tactic| walk_at "x") => `(tactic| first
  | ((with_reducible refine' norm_intro ?hn ?_); (case hn => walk_at "norm"))
  | ((with_reducible refine' we_var ?hh ?_); (case hh => exact rfl))
  | ((with_reducible refine' we_own ?hh ?_); (case hh => exact rfl))
  | with_reducible refine we_c ?_
  | with_reducible refine we_addG ?_
  | with_reducible refine addp_i ?_
  | with_reducible refine we_opI0 ?_
  | with_reducible refine we_opI ?_
  | with_reducible refine we_mulG ?_
  | ((with_reducible refine' mulp_r ?h1 ?_); (case h1 => first | decide | omega | fail "m"))
  | ((with_reducible refine' mulp_l ?h1 ?_); (case h1 => first | decide | omega | fail "m"))
  | with_reducible refine we_neg ?_
  | with_reducible refine we_ltG ?_
  | with_reducible refine ltp_i ?_
  | with_reducible refine we_eqG ?_
  | with_reducible refine we_neG ?_
  | with_reducible refine eqp_i ?_
  | with_reducible refine nep_i ?_
  | with_reducible refine we_ixG ?_
  | ((with_reducible refine' ixp ?h1 ?h2 ?_); (case h1 => exact rfl); (case h2 => exact rfl))
  | with_reducible refine we_lenG ?_
  | ((with_reducible refine' lenp ?hh ?_); (case hh => exact rfl))
  | with_reducible refine we_intG ?_
  | with_reducible refine intp_i ?_
  | with_reducible refine intp_b ?_
  | with_reducible refine we_abs ?_
  | with_reducible refine we_tup ?_
  | with_reducible refine we_lst ?_
  | with_reducible refine we_tuple ?_
  | with_reducible refine we_list ?_
  | with_reducible refine we_sum ?_
  | with_reducible refine we_max2 ?_
  | with_reducible refine we_min2 ?_
  | with_reducible refine wd_cons ?_
  | with_reducible refine wd_nil ?_
  | with_reducible refine wa_cons ?_
  | with_reducible refine wa_nil ?_
  | with_reducible refine we_callH ?_
  | with_reducible refine we_isiG ?_
  | ((with_reducible refine' isi_own ?h1 ?h2 ?_); (case h1 => exact rfl); (case h2 => walk_at "kb"))
  | ((with_reducible refine' isi_val ?h1 ?h2 ?_); (case h1 => exact rfl); (case h2 => walk_at "kb"))
  | ((with_reducible refine' isi_new ?h2 ?_); (case h2 => walk_at "kb"))
  | with_reducible refine we_chainI ?_
  | with_reducible refine we_andV ?_
  | with_reducible refine we_orV ?_
  | with_reducible refine we_notV ?_
  | with_reducible refine wt_test ?_
  | with_reducible refine wt_B ?_
  | with_reducible refine wt_yes ?_
  | with_reducible refine wt_and ?_
  | with_reducible refine wt_or ?_
  | with_reducible refine wt_not ?_
  | ((with_reducible refine' ws_retA ?hh ?_); (case hh => exact rfl))
  | with_reducible refine ws_ret ?_
  | with_reducible refine ws_if ?_
  | with_reducible refine ws_nil ?_
  | with_reducible refine ws_expr ?_
  | with_reducible refine ws_asgN rfl rfl ?_
  | with_reducible refine ws_setN ?_
  | with_reducible refine ws_asgG ?_
  | ((with_reducible refine' wg_tup ?hh ?_); (case hh => exact rfl))
  | with_reducible refine wgs_cons ?_
  | with_reducible refine wgs_nil ?_
  | with_reducible refine wg_nameN rfl rfl ?_
  | ((with_reducible refine' we_appendN ?hh ?_); (case hh => exact rfl))
  | ((with_reducible refine' we_reverseN ?hh ?_); (case hh => exact rfl))
  | ((with_reducible refine' ws_augN ?h1 ?h2 ?_); (case h1 => exact rfl); (case h2 => exact rfl))
  | (refine ⟨_, rfl, ⟨_, rfl⟩, ?_⟩)
  | (refine ⟨_, rfl, ?_⟩)
  | (refine ⟨_, _, _, rfl, rfl, rfl, ?_⟩)
  | (refine ⟨_, _, rfl, rfl, (Nat.le_of_ble_eq_true rfl : _ ≤ _), ?_⟩)
  | (refine ⟨_, _, rfl, rfl, ?_⟩)
  | (refine ⟨(Nat.le_of_ble_eq_true rfl : _ ≤ _), ?_⟩)
  | (refine ⟨(rfl : _ = true), ?_⟩)
  | ((refine' ⟨fun _ => ?_, fun hY => absurd hY ?k2⟩); (case k2 => walk_at "no"))
  | ((refine' ⟨fun hY => absurd hY ?k2, fun _ => ?_⟩); (case k2 => walk_at "no"))
  | (refine ⟨⟨(by omega), (by omega)⟩, ?_⟩)
  | (refine ⟨⟨(by decide), (by decide), (by decide)⟩, ?_⟩)
  | (refine ⟨(show (_ : Prop) from by first | decide | omega | fail "c"), ?_⟩)
  | fail "stop")
local macro_rules | `(tactic| walk_at "e") => `(tactic| first | with_reducible refine ws_seq ?_ | walk_at "x" | fail "stop")
local macro_rules | `(tactic| walk_at "xs") => `(tactic| repeat' walk_at "x")
local macro_rules | `(tactic| walk_at "es") => `(tactic| repeat' walk_at "e")
local macro_rules | `(tactic| walk_at "len") => `(tactic| ((intro as Post h); (repeat (first | (obtain ⟨e, _⟩ := h; exact (congrArg List.length e).trans rfl) | (obtain ⟨_, h⟩ := h)))))
local macro_rules | `(tactic| walk_at "x") => `(tactic| first
  | with_reducible refine we_isN ?_
  | with_reducible refine we_notN ?_
  | with_reducible refine we_slG ?_
  | with_reducible refine wo_none ?_
  | with_reducible refine wo_some ?_
  | ((with_reducible refine' ixp ?h1 ?h2 ?_); (case h1 => exact rfl); (case h2 => assumption))
  | ((with_reducible refine' ixp_s ?h1 ?h2 ?_); (case h1 => assumption); (case h2 => assumption))
  | ((with_reducible refine' lenp_s ?h1 ?_); (case h1 => assumption))
  | ((with_reducible refine' slp_s ?h1 ?_); (case h1 => assumption))
  | with_reducible refine we_join ?_
  | with_reducible refine we_gtS ?_
  | ((with_reducible refine' we_ktup ?h1 ?_); (case h1 => assumption))
  | fail "x3")
local macro_rules | `(tactic| walk_at "nd") => `(tactic| first
  | exact (rfl : _ = ([] : List Dt))
  | ((refine' normD_cons (rfl : _ = _ :: _) ?et); (case et => walk_at "nd"))
  | fail "nd")
local macro_rules | `(tactic| walk_at "x") => `(tactic| first
  | with_reducible refine we_sumG ?_
  | with_reducible refine eqp_st ?_
  | with_reducible refine nep_st ?_
  | ((with_reducible refine' eqp_sf ?h1 ?_); (case h1 => first | assumption | decide +kernel))
  | ((with_reducible refine' nep_sf ?h1 ?_); (case h1 => first | assumption | decide +kernel))
  | with_reducible refine we_inG ?_
  | with_reducible refine we_if ?_
  | ((with_reducible refine' we_clearN ?hh ?_); (case hh => exact rfl))
  | with_reducible refine we_notInG ?_
  | with_reducible refine we_smeth ?_
  | with_reducible refine we_makeD ?_
  | with_reducible refine we_makeK ?_
  | ((with_reducible refine' slp_tE ?h ?_); (case h => walk_at "nd"))
  | ((with_reducible refine' addp_tE ?hz ?h ?_); (case h => walk_at "nd"); (case hz => exact Nat.le_of_ble_eq_true rfl))
  | fail "x5")
local macro_rules | `(tactic| walk_at "tk") => `(tactic| refine .a (tk (by assumption) (by omega) (by omega) (by omega) fun _ _ _ _ _ => ?_))
structure Lt where
  x : Int
  ch : Str
  sz : Int
  fc : Str
def Lt.dt (l : Lt) : Dt := .tup [.int l.x, .str l.ch, .int l.sz, .str l.fc]
structure Ln where
  down : Int
  ls : List Lt
def Ln.dt (l : Ln) : Dt := .tup [.int l.down, .tup (l.ls.map Lt.dt)]
abbrev Bl := List Ln
def blD (b : Bl) : Dt := .tup (b.map Ln.dt)
structure Pg where
  num : Int
  fl : List Bl
  cl : List Bl
  nt : List Bl
def Pg.dt (p : Pg) : Dt := .tup [.int p.num, .tup (p.fl.map blD), .tup (p.cl.map blD), .tup (p.nt.map blD)]
def Lt.Ok (l : Lt) : Prop := CS l.ch ∧ CS l.fc
def Ln.Ok (l : Ln) : Prop := 0 < l.ls.length ∧ l.ls.length ≤ 3 ∧ ∀ t ∈ l.ls, t.Ok
def Bok (b : Bl) : Prop := b.length ≤ 3 ∧ ∀ l ∈ b, l.Ok
def Pg.Ok (p : Pg) : Prop := p.fl.length ≤ 2 ∧ (0 < p.cl.length ∧ p.cl.length ≤ 2) ∧ p.nt.length ≤ 2 ∧ (∀ b ∈ p.fl, Bok b) ∧ (∀ b ∈ p.cl, Bok b) ∧ ∀ b ∈ p.nt, Bok b
theorem cs_plain : CS "plain" := by unfold CS; decide +kernel
theorem cs_bold : CS "bold" := by unfold CS; decide +kernel
section
variable {P : Program} {w : World} {K : PySem.W.Frag} {mg : Str → Option Value} {base : Heap}
theorem ok_pool (T : Txt K mg) : FnOk P w K mg base CX0 1 T.f__law_pool T.fd__law_pool ["_law_script", "_law_at"] (toSp K ap_pool) :=
  fn_ab [] T.F__law_pool sc__law_pool len_pool rfl (fun cdv A outer s H E hr => ⟨_, tm__law_pool T cdv A outer s H E hr, run_tPool⟩)
theorem ok_take (T : Txt K mg) : FnOk P w K mg base CX0 1 T.f__law_take T.fd__law_take ["_law_pool_here", "_law_many"] (toSp K ap_take) :=
  fn_ab [0] T.F__law_take sc__law_take len_take rfl (fun cdv A outer s H E hr => ⟨_, tm__law_take T cdv A outer s H E hr, run_tTakeA⟩)
theorem ok_same (T : Txt K mg) : ∀ n, FnOk P w K mg base CX0 (n + 2) T.f__law_same T.fd__law_same ["_law_one", "_law_two"] (toSp K (ap_sameP n))
  | 0 => fn_ab [0, 1] T.F__law_same sc__law_same len_sameP rfl (fun cdv A outer s H E hr => ⟨_, tm__law_same T (fn_never (k := 0) T.F__law_same sc__law_same) cdv A outer s H E hr, run_sameP fun a b Post _ _ h => absurd h (Nat.not_lt_zero _)⟩)
  | n + 1 => fn_ab [0, 1] T.F__law_same sc__law_same len_sameP rfl (fun cdv A outer s H E hr => ⟨_, tm__law_same T (ok_same T n) cdv A outer s H E hr, run_sameP fun a b Post h1 h2 h3 p => ⟨_, _, .dat a b h1 h2, Nat.le_of_lt_succ h3, p⟩⟩)
def ap_line : AP := fun as Post => ∃ (ds : List Dt) (c : Int), as = [.acc ds] ∧ PoolIs c ds ∧ 0 ≤ c ∧ c ≤ 10000 ∧ ∀ ds' c' (l : Ln), PoolIs c' ds' → 0 ≤ c' → c' ≤ c + 10 → l.Ok → Post (.val l.dt) [.acc ds']
theorem two_mod {i : Int} (h : 0 ≤ i) : i % 2 = 0 ∨ i % 2 = 1 := by omega
theorem ok_line (T : Txt K mg) : FnOk P w K mg base CX0 2 T.f__law_line T.fd__law_line ["_law_pool_here"] (toSp K ap_line) := by
  refine fn_ab [0] T.F__law_line sc__law_line (by rintro as Post ⟨ds, c, rfl, _⟩; rfl) rfl (fun cdv A outer s H E hr => ⟨_, tm__law_line T (ok_take T) cdv A outer s H E hr, ?_⟩)
  rintro as Post ⟨ds, c, rfl, h0, c0, c1, k⟩
  unfold t__law_line
  show WS K [0] _ [.acc ds, .un, .un, .un, .un, .un, .un] _
  have hz : Str.length "abcdefghijklmnopqrstuvwxyzABCDEFGHIJKLMNOPQRSTUVWXYZ0123456789.,;:!?'()-" = 72 := by decide +kernel
  have hz1 : Str.length "abcdefghijklmnopqrstuvwxyzABCDEFGHIJKLMNOPQRSTUVWXYZ0123456789.,;:!?'()-" ≤ 1000000 := by omega
  have hz3 : CS "abcdefghijklmnopqrstuvwxyzABCDEFGHIJKLMNOPQRSTUVWXYZ0123456789.,;:!?'()-" := by unfold CS; decide +kernel
  generalize ("abcdefghijklmnopqrstuvwxyzABCDEFGHIJKLMNOPQRSTUVWXYZ0123456789.,;:!?'()-" : Str) = abc at hz hz1 hz3 ⊢
  walk_at "es"
  refine .a ⟨ds, c, 300, rfl, h0, by omega, by omega, by omega, by omega, fun d1 x h1 x0 x1 => ?_⟩
  walk_at "es"
  refine .a ⟨d1, c + 1, 200, rfl, h1, by omega, by omega, by omega, by omega, fun d2 dn h2 dn0 dn1 => ?_⟩
  walk_at "es"
  refine for_range1H ?_
  walk_at "es"
  refine .a ⟨d2, c + 1 + 1, 3, rfl, h2, by omega, by omega, by omega, by omega, fun d3 g h3 g0 g1 => ?_⟩
  walk_at "es"
  refine .a ⟨1 + g, rfl, by omega, by omega, fun i G => ∃ (d6 : List Dt) (ls : List Lt) (s5 s6 : Sl), PoolIs (c + 3 + i) d6 ∧ ls.length = i ∧ (∀ t ∈ ls, t.Ok) ∧ G = [.acc d6, .val (.str abc), .val (.int x), .val (.int dn), .acc (ls.map Lt.dt), s5, s6], ⟨d3, [], _, _, by rw [show c + 3 + ((0 : Nat) : Int) = c + 1 + 1 + 1 by omega]; exact h3, rfl, (fun _ h => nomatch h), rfl⟩, ?_, ?_⟩
  · rintro i G hi ⟨d6, ls, s5, s6, h6, hl, hok, rfl⟩
    have hlm : (ls.map Lt.dt).length < 1000000 := by rw [List.length_map]; omega
    walk_at "es"
    refine .a ⟨d6, c + 3 + i, 72, rfl, h6, by omega, by omega, by omega, by omega, fun d7 q h7 q0 q1 => ?_⟩
    obtain ⟨ch, hcm, hch⟩ := at_str (z := abc) q0 (by omega)
    have csc : CS ⟨#[ch]⟩ := fun d hd => by rw [List.mem_singleton.mp (show d ∈ [ch] from hd)]; exact hz3 ch hcm
    walk_at "es"
    rcases two_mod (show (0 : Int) ≤ (i : Int) by omega) with hm | hm
    · rw [hm]
      walk_at "es"
      refine .a ⟨d7, ls ++ [⟨x + 40 * (i : Int), ⟨#[ch]⟩, 1 + (i : Int), "plain"⟩], .val (.int (i : Int)), .val (.str ⟨#[ch]⟩), by rw [show c + 3 + ((i + 1 : Nat) : Int) = c + 3 + i + 1 by omega]; exact h7, by simp [hl], fun t ht => ?_, by rw [List.map_append]; rfl⟩
      rcases List.mem_append.mp ht with ht | ht
      · exact hok t ht
      · rw [List.mem_singleton.mp ht]; exact ⟨csc, cs_plain⟩
    · rw [hm]
      walk_at "es"
      refine .a ⟨d7, ls ++ [⟨x + 40 * (i : Int), ⟨#[ch]⟩, 1 + (i : Int), "bold"⟩], .val (.int (i : Int)), .val (.str ⟨#[ch]⟩), by rw [show c + 3 + ((i + 1 : Nat) : Int) = c + 3 + i + 1 by omega]; exact h7, by simp [hl], fun t ht => ?_, by rw [List.map_append]; rfl⟩
      rcases List.mem_append.mp ht with ht | ht
      · exact hok t ht
      · rw [List.mem_singleton.mp ht]; exact ⟨csc, cs_bold⟩
  · rintro G ⟨d6, ls, s5, s6, h6, hl, hok, rfl⟩
    walk_at "es"
    exact k d6 _ ⟨dn, ls⟩ h6 (by omega) (by omega) ⟨by show 0 < ls.length; omega, by show ls.length ≤ 3; omega, hok⟩
def ap_page : AP := fun as Post => ∃ (ds : List Dt) (c n m : Int), as = [.acc ds, .val (.int n), .val (.int m)] ∧ PoolIs c ds ∧ 0 ≤ c ∧ c ≤ 1000 ∧ 1 ≤ m ∧ m ≤ 2 ∧ ∀ ds' c' (p : Pg), PoolIs c' ds' → 0 ≤ c' → c' ≤ c + 200 → p.Ok → p.num = n → Post (.val p.dt) [.acc ds', .val (.int n), .val (.int m)]
theorem ok_page (T : Txt K mg) : FnOk P w K mg base CX0 3 T.f__law_page T.fd__law_page ["_law_pool_here", "_law_number", "_law_cols"] (toSp K ap_page) := by
  have G1 := ok_take (P := P) (w := w) (base := base) T
  have G2 := ok_line (P := P) (w := w) (base := base) T
  refine fn_ab [0] T.F__law_page sc__law_page (by rintro as Post ⟨ds, c, n, m, rfl, _⟩; rfl) rfl (fun cdv A outer s H E hr => ⟨_, tm__law_page T G1 G2 cdv A outer s H E hr, ?_⟩)
  rintro as Post ⟨ds, c, n, m, rfl, h0, c0, c1, m0, m1, k⟩
  unfold t__law_page
  -- the notes, the end
  have fin : ∀ (d3 : List Dt) (c3 : Int) (fl cl : List Bl) (s5 : Sl), PoolIs c3 d3 → 0 ≤ c3 → c3 ≤ c + 150 → fl.length ≤ 2 → (∀ b ∈ fl, Bok b) → 0 < cl.length → cl.length ≤ 2 → (∀ b ∈ cl, Bok b) →
      WS K [0] (tSeq (tAsg (tTup tNil) (gName 6))
    (tSeq (tIfS (tTest (tOp (rEqG K) (tCall (toSp K ap_take) [] E0 (tCons (tVar 0) (tCons (tC (.int 4)) tNil))) (tC (.int 2)))) (tAsg (tTup (tCons (tTup (tCons (tCall (toSp K ap_line) [] E0 (tCons (tVar 0) tNil)) tNil)) tNil)) (gName 6)) tNext)
    (tRet (tTup (tCons (tVar 1) (tCons (tVar 3) (tCons (tCB (rTupleOf K) (tCons (tVar 4) tNil)) (tCons (tVar 6) tNil)))))))) [.acc d3, .val (.int n), .val (.int m), .val (.tup (fl.map blD)), .acc (cl.map blD), s5, .un, .un] ⟨fun G => Post (.val .non) (exitArgs [0] G [.acc ds, .val (.int n), .val (.int m)]), fun r G => Post r (exitArgs [0] G [.acc ds, .val (.int n), .val (.int m)]), fun _ => False, fun _ => False, .no⟩ := by
    intro d3 c3 fl cl s5 h3 c30 c31 hf hfo hc0 hc hco
    walk_at "es"
    refine .a ⟨d3, c3, 4, rfl, h3, by omega, by omega, by omega, by omega, fun d4 g h4 g0 g1 => ?_⟩
    by_cases hg : g = 2
    · subst hg
      walk_at "es"
      refine .a ⟨d4, c3 + 1, rfl, h4, by omega, by omega, fun d5 c5 l h5 c50 c51 hl => ?_⟩
      walk_at "es"
      exact k d5 c5 ⟨n, fl, cl, [[l]]⟩ h5 c50 (by omega) ⟨hf, ⟨hc0, hc⟩, by show 1 ≤ 2; omega, hfo, hco, fun b hb => by rw [List.mem_singleton.mp hb]; exact ⟨by show 1 ≤ 3; omega, fun y hy => by rw [List.mem_singleton.mp hy]; exact hl⟩⟩ rfl
    · walk_at "es"
      exact k d4 (c3 + 1) ⟨n, fl, cl, []⟩ h4 (by omega) (by omega) ⟨hf, ⟨hc0, hc⟩, by show 0 ≤ 2; omega, hfo, hco, (fun _ h => nomatch h)⟩ rfl
  -- the columns
  have mid : ∀ (d1 : List Dt) (c1' : Int) (fl : List Bl), PoolIs c1' d1 → 0 ≤ c1' → c1' ≤ c + 20 → fl.length ≤ 2 → (∀ b ∈ fl, Bok b) → ∀ (P2 : Ps), (∀ (d3 : List Dt) (c3 : Int) (cl : List Bl) (s5 : Sl), PoolIs c3 d3 → 0 ≤ c3 → c3 ≤ c + 150 → 0 < cl.length → cl.length ≤ 2 → (∀ b ∈ cl, Bok b) → P2.nx [.acc d3, .val (.int n), .val (.int m), .val (.tup (fl.map blD)), .acc (cl.map blD), s5, .un, .un]) →
      WS K [0] (tFor (iRng1 (tCons (tVar 2) tNil)) (gName 5) (tDrop (tBM K "list" rAppend (tVar 4) (tCons (tCB (rTupleOf K) (tCons (tLc (iRng1 (tCons (tCall (toSp K ap_take) [] E0 (tCons (tVar 0) (tCons (tC (.int 3)) tNil))) tNil)) (gName 7) tYes (tCall (toSp K ap_line) [] E0 (tCons (tVar 0) tNil)) [7]) tNil)) tNil)))) [.acc d1, .val (.int n), .val (.int m), .val (.tup (fl.map blD)), .acc [], .un, .un, .un] P2 := by
    intro d1 c1' fl h1 c10 c11 hf hfo P2 q
    refine for_range1 m (fun i G => ∃ (d6 : List Dt) (c6 : Int) (cl : List Bl) (s5 : Sl), PoolIs c6 d6 ∧ 0 ≤ c6 ∧ c6 ≤ c + 20 + 60 * i ∧ cl.length = i ∧ (∀ b ∈ cl, Bok b) ∧ G = [.acc d6, .val (.int n), .val (.int m), .val (.tup (fl.map blD)), .acc (cl.map blD), s5, .un, .un]) ?_ ?_ ?_
    · walk_at "es"
      exact .a ⟨rfl, by omega, by omega, d1, c1', [], _, h1, c10, by omega, rfl, (fun _ h => nomatch h), rfl⟩
    · rintro i G hi ⟨d6, c6, cl, s5, h6, c60, c61, hcl, hco, rfl⟩
      have hlm : (cl.map blD).length < 1000000 := by rw [List.length_map]; omega
      walk_at "es"
      refine lc_range1H ?_
      walk_at "es"
      refine .a ⟨d6, c6, 3, rfl, h6, by omega, by omega, by omega, by omega, fun d7 g h7 g0 g1 => ?_⟩
      obtain ⟨j, rfl⟩ := Int.eq_ofNat_of_zero_le g0
      walk_at "es"
      refine .a ⟨j, rfl, by omega, rfl, rfl, fun jj es G => ∃ (d8 : List Dt) (c8 : Int) (b : Bl), PoolIs c8 d8 ∧ 0 ≤ c8 ∧ c8 ≤ c6 + 1 + 10 * jj ∧ es = b.map Ln.dt ∧ b.length = jj ∧ (∀ l ∈ b, l.Ok) ∧ G = [.acc d8, .val (.int n), .val (.int m), .val (.tup (fl.map blD)), .acc (cl.map blD), .val (.int (i : Int)), .un, .un], ⟨d7, c6 + 1, [], h7, by omega, by omega, rfl, rfl, (fun _ h => nomatch h), rfl⟩, ?_, ?_⟩
      · rintro jj es G hjj ⟨d8, c8, b, h8, c80, c81, rfl, hbl, hbo, rfl⟩
        walk_at "es"
        refine .a ⟨d8, c8, rfl, h8, c80, by omega, fun d9 c9 l h9 c90 c91 hl => ?_⟩
        walk_at "es"
        refine .a ⟨d9, c9, b ++ [l], h9, c90, by omega, by rw [List.map_append]; rfl, by simp [hbl], fun y hy => ?_, rfl⟩
        rcases List.mem_append.mp hy with hy | hy
        · exact hbo y hy
        · rw [List.mem_singleton.mp hy]; exact hl
      · rintro es G ⟨d8, c8, b, h8, c80, c81, rfl, hbl, hbo, rfl⟩
        walk_at "es"
        refine .a ⟨d8, c8, cl ++ [b], _, h8, c80, by omega, by simp [hcl], fun y hy => ?_, by rw [List.map_append]; rfl⟩
        rcases List.mem_append.mp hy with hy | hy
        · exact hco y hy
        · rw [List.mem_singleton.mp hy]; exact ⟨by omega, hbo⟩
    · rintro G ⟨d6, c6, cl, s5, h6, c60, c61, hcl, hco, rfl⟩
      exact q d6 c6 cl s5 h6 c60 (by omega) (by omega) (by omega) hco
  show WS K [0] _ [.acc ds, .val (.int n), .val (.int m), .un, .un, .un, .un, .un] _
  walk_at "es"
  refine .a ⟨ds, c, 4, rfl, h0, by omega, by omega, by omega, by omega, fun d1 g h1 g0 g1 => ?_⟩
  by_cases hg : g = 1
  · subst hg
    walk_at "es"
    refine .a ⟨d1, c + 1, rfl, h1, by omega, by omega, fun d2 c2 l h2 c20 c21 hl => ?_⟩
    have hfo : ∀ b ∈ [[l]], Bok b := fun b hb => by rw [List.mem_singleton.mp hb]; exact ⟨by show 1 ≤ 3; omega, fun y hy => by rw [List.mem_singleton.mp hy]; exact hl⟩
    walk_at "es"
    exact mid d2 c2 [[l]] h2 c20 (by omega) (by show 1 ≤ 2; omega) hfo _ fun d3 c3 cl s5 h3 c30 c31 q1 q2 q3 => fin d3 c3 [[l]] cl s5 h3 c30 c31 (by show 1 ≤ 2; omega) hfo q1 q2 q3
  · walk_at "es"
    exact mid d1 (c + 1) [] h1 (by omega) (by omega) (by show 0 ≤ 2; omega) (fun _ h => nomatch h) _ fun d3 c3 cl s5 h3 c30 c31 q1 q2 q3 => fin d3 c3 [] cl s5 h3 c30 c31 (by show 0 ≤ 2; omega) (fun _ h => nomatch h) q1 q2 q3
end
end Lk83
namespace Lk83
open PySem L2 Ab
local macro_rules | `(tactic| walk_at "no") => `(tactic| first
  | with_reducible exact fun h => Bool.noConfusion (show true = false from h)
  | with_reducible exact fun h => Bool.noConfusion (show false = true from h)
  | exact fun h => absurd h (by decide)
  | exact fun h => absurd (of_decide_eq_true h) (by omega)
  | exact fun h => absurd (by omega) (of_decide_eq_false h)
  | exact fun h => absurd (by omega) (nd_t h)
  | exact fun h => absurd (nd_f h) (by omega)
  | fail "no")
local macro_rules | `(tactic| walk_at "kb") => `(tactic| first | exact kb_tt | exact kb_ll | exact kb_ii | exact kb_ib | exact kb_ss | exact kb_sb | exact kb_si | exact kb_tb | exact kb_ti | exact kb_ts | exact kb_tl | exact kb_lb | exact kb_li | exact kb_ls | exact kb_lt | exact kb_is | exact kb_it | exact kb_il | exact kb_st | exact kb_sl | exact kb_bb | exact kb_bi | exact kb_nb | exact kb_ni | exact kb_ns | exact kb_nt | exact kb_nl | exact kb_bs | exact kb_bt | exact kb_bl | fail "kb")
local macro_rules | `(tactic| walk_at "norm") => `(tactic| first
  | ((refine' norm_cons (rfl : _ = _ :: _) ?ea ?et); (case ea => first | with_reducible exact (rfl : Sl.val _ = _) | with_reducible exact (rfl : Sl.cel _ = _) | with_reducible exact (rfl : Sl.un = _) | with_reducible exact norm_v | with_reducible exact norm_n | with_reducible exact norm_o | exact norm_v | exact norm_n | exact norm_o | exact rfl | fail "norm"); (case et => walk_at "norm"))
  | exact (rfl : _ = ([] : List Sl))
  | fail "norm")
local macro_rules | `(tactic| walk_at "x") => `(tactic| first
  | ((with_reducible refine' norm_intro ?hn ?_); (case hn => walk_at "norm"))
  | ((with_reducible refine' we_var ?hh ?_); (case hh => exact rfl))
  | ((with_reducible refine' we_own ?hh ?_); (case hh => exact rfl))
  | with_reducible refine we_c ?_
  | with_reducible refine we_addG ?_
  | with_reducible refine addp_i ?_
  | with_reducible refine we_opI0 ?_
  | with_reducible refine we_opI ?_
  | with_reducible refine we_mulG ?_
  | ((with_reducible refine' mulp_r ?h1 ?_); (case h1 => first | decide | omega | fail "m"))
  | ((with_reducible refine' mulp_l ?h1 ?_); (case h1 => first | decide | omega | fail "m"))
  | with_reducible refine we_neg ?_
  | with_reducible refine we_ltG ?_
  | with_reducible refine ltp_i ?_
  | with_reducible refine we_eqG ?_
  | with_reducible refine we_neG ?_
  | with_reducible refine eqp_i ?_
  | with_reducible refine nep_i ?_
  | with_reducible refine we_ixG ?_
  | ((with_reducible refine' ixp ?h1 ?h2 ?_); (case h1 => exact rfl); (case h2 => exact rfl))
  | with_reducible refine we_lenG ?_
  | ((with_reducible refine' lenp ?hh ?_); (case hh => exact rfl))
  | with_reducible refine we_intG ?_
  | with_reducible refine intp_i ?_
  | with_reducible refine intp_b ?_
  | with_reducible refine we_abs ?_
  | with_reducible refine we_tup ?_
  | with_reducible refine we_lst ?_
  | with_reducible refine we_tuple ?_
  | with_reducible refine we_list ?_
  | with_reducible refine we_sum ?_
  | with_reducible refine we_max2 ?_
  | with_reducible refine we_min2 ?_
  | with_reducible refine wd_cons ?_
  | with_reducible refine wd_nil ?_
  | with_reducible refine wa_cons ?_
  | with_reducible refine wa_nil ?_
  | with_reducible refine we_callH ?_
  | with_reducible refine we_isiG ?_
  | ((with_reducible refine' isi_own ?h1 ?h2 ?_); (case h1 => exact rfl); (case h2 => walk_at "kb"))
  | ((with_reducible refine' isi_val ?h1 ?h2 ?_); (case h1 => exact rfl); (case h2 => walk_at "kb"))
  | ((with_reducible refine' isi_new ?h2 ?_); (case h2 => walk_at "kb"))
  | with_reducible refine we_chainI ?_
  | with_reducible refine we_andV ?_
  | with_reducible refine we_orV ?_
  | with_reducible refine we_notV ?_
  | with_reducible refine wt_test ?_
  | with_reducible refine wt_B ?_
  | with_reducible refine wt_yes ?_
  | with_reducible refine wt_and ?_
  | with_reducible refine wt_or ?_
  | with_reducible refine wt_not ?_
  | ((with_reducible refine' ws_retA ?hh ?_); (case hh => exact rfl))
  | with_reducible refine ws_ret ?_
  | with_reducible refine ws_if ?_
  | with_reducible refine ws_nil ?_
  | with_reducible refine ws_expr ?_
  | with_reducible refine ws_asgN rfl rfl ?_
  | with_reducible refine ws_setN ?_
  | with_reducible refine ws_asgG ?_
  | ((with_reducible refine' wg_tup ?hh ?_); (case hh => exact rfl))
  | with_reducible refine wgs_cons ?_
  | with_reducible refine wgs_nil ?_
  | with_reducible refine wg_nameN rfl rfl ?_
  | ((with_reducible refine' we_appendN ?hh ?_); (case hh => exact rfl))
  | ((with_reducible refine' we_reverseN ?hh ?_); (case hh => exact rfl))
  | ((with_reducible refine' ws_augN ?h1 ?h2 ?_); (case h1 => exact rfl); (case h2 => exact rfl))
  | (refine ⟨_, rfl, ⟨_, rfl⟩, ?_⟩)
  | (refine ⟨_, rfl, ?_⟩)
  | (refine ⟨_, _, _, rfl, rfl, rfl, ?_⟩)
  | (refine ⟨_, _, rfl, rfl, (Nat.le_of_ble_eq_true rfl : _ ≤ _), ?_⟩)
  | (refine ⟨_, _, rfl, rfl, ?_⟩)
  | (refine ⟨(Nat.le_of_ble_eq_true rfl : _ ≤ _), ?_⟩)
  | (refine ⟨(rfl : _ = true), ?_⟩)
  | ((refine' ⟨fun _ => ?_, fun hY => absurd hY ?k2⟩); (case k2 => walk_at "no"))
  | ((refine' ⟨fun hY => absurd hY ?k2, fun _ => ?_⟩); (case k2 => walk_at "no"))
  | (refine ⟨⟨(by omega), (by omega)⟩, ?_⟩)
  | (refine ⟨⟨(by decide), (by decide), (by decide)⟩, ?_⟩)
  | (refine ⟨(show (_ : Prop) from by first | decide | omega | fail "c"), ?_⟩)
  | fail "stop")
local macro_rules | `(tactic| walk_at "e") => `(tactic| first | with_reducible refine ws_seq ?_ | walk_at "x" | fail "stop")
local macro_rules | `(tactic| walk_at "xs") => `(tactic| repeat' walk_at "x")
local macro_rules | `(tactic| walk_at "es") => `(tactic| repeat' walk_at "e")
local macro_rules | `(tactic| walk_at "len") => `(tactic| ((intro as Post h); (repeat (first | (obtain ⟨e, _⟩ := h; exact (congrArg List.length e).trans rfl) | (obtain ⟨_, h⟩ := h)))))
local macro_rules | `(tactic| walk_at "x") => `(tactic| first
  | with_reducible refine we_isN ?_
  | with_reducible refine we_notN ?_
  | with_reducible refine we_slG ?_
  | with_reducible refine wo_none ?_
  | with_reducible refine wo_some ?_
  | ((with_reducible refine' ixp ?h1 ?h2 ?_); (case h1 => exact rfl); (case h2 => assumption))
  | ((with_reducible refine' ixp_s ?h1 ?h2 ?_); (case h1 => assumption); (case h2 => assumption))
  | ((with_reducible refine' lenp_s ?h1 ?_); (case h1 => assumption))
  | ((with_reducible refine' slp_s ?h1 ?_); (case h1 => assumption))
  | with_reducible refine we_join ?_
  | with_reducible refine we_gtS ?_
  | ((with_reducible refine' we_ktup ?h1 ?_); (case h1 => assumption))
  | fail "x3")
local macro_rules | `(tactic| walk_at "nd") => `(tactic| first
  | exact (rfl : _ = ([] : List Dt))
  | ((refine' normD_cons (rfl : _ = _ :: _) ?et); (case et => walk_at "nd"))
  | fail "nd")
local macro_rules | `(tactic| walk_at "x") => `(tactic| first
  | with_reducible refine we_sumG ?_
  | with_reducible refine eqp_st ?_
  | with_reducible refine nep_st ?_
  | ((with_reducible refine' eqp_sf ?h1 ?_); (case h1 => first | assumption | decide +kernel))
  | ((with_reducible refine' nep_sf ?h1 ?_); (case h1 => first | assumption | decide +kernel))
  | with_reducible refine we_inG ?_
  | with_reducible refine we_if ?_
  | ((with_reducible refine' we_clearN ?hh ?_); (case hh => exact rfl))
  | with_reducible refine we_notInG ?_
  | with_reducible refine we_smeth ?_
  | with_reducible refine we_makeD ?_
  | with_reducible refine we_makeK ?_
  | ((with_reducible refine' slp_tE ?h ?_); (case h => walk_at "nd"))
  | ((with_reducible refine' addp_tE ?hz ?h ?_); (case h => walk_at "nd"); (case hz => exact Nat.le_of_ble_eq_true rfl))
  | fail "x5")
local macro_rules | `(tactic| walk_at "tk") => `(tactic| refine .a (tk (by assumption) (by omega) (by omega) (by omega) fun _ _ _ _ _ => ?_))
theorem atI_last {α : Type} (l : List α) (x : α) : atI (l ++ [x]) (-1) = some x := by
  unfold atI ixN
  rw [if_neg (by omega), if_pos (by simp only [List.length_append, List.length_cons, List.length_nil]; omega)]
  show (l ++ [x])[((-1 : Int) + ((l ++ [x]).length : Int)).toNat]? = some x
  rw [show ((-1 : Int) + ((l ++ [x]).length : Int)).toNat = l.length by simp only [List.length_append, List.length_cons, List.length_nil]; omega]
  simp
theorem ends {α : Type} {l : List α} (h : 0 < l.length) : ∃ l0 x, l = l0 ++ [x] := by
  refine ⟨l.dropLast, l.getLast (fun e => by subst e; simp at h), (List.dropLast_concat_getLast _).symm⟩
theorem cut_snoc (l : List Dt) (x : Dt) : cutD (l ++ [x]) none (some (-1)) = l := by
  have := cut_last (f := id) (xs := l ++ [x])
  rw [List.map_id, List.dropLast_concat, List.map_id] at this
  exact this
theorem bent_dt (b0 : Bl) (dn x : Int) (ls0 : List Lt) (ch : Str) (sz : Int) (fc : Str) : blD (b0 ++ [⟨dn, ls0 ++ [⟨x, ch, sz, fc⟩]⟩]) = .tup (b0.map Ln.dt ++ [.tup [.int dn, .tup (ls0.map Lt.dt ++ [.tup [.int x, .str ch, .int sz, .str fc]])]]) := by
  unfold blD
  rw [List.map_append, List.map_cons, List.map_nil, Ln.dt, List.map_append]
  rfl
set_option hygiene false in
local macro_rules | `(tactic| walk_at "bend") => `(tactic| (refine slp_t ?_; rw [cb]; walk_at "es"; refine slp_t ?_; rw [cld]; walk_at "es"; refine addp_t (by simp only [List.length_map, List.length_cons, List.length_nil]; omega) ?_; walk_at "es"; refine addp_t (by simp only [List.length_map, List.length_cons, List.length_nil]; omega) ?_; rw [← bent_dt]))
section
variable {P : Program} {w : World} {K : PySem.W.Frag} {mg : Str → Option Value} {base : Heap}
def ap_bent : AP := fun as Post => ∃ (ds : List Dt) (c : Int) (b : Bl), as = [.acc ds, .val (blD b)] ∧ PoolIs c ds ∧ 0 ≤ c ∧ c ≤ 1000 ∧ Bok b ∧ ∀ ds' c' (b' : Bl), PoolIs c' ds' → 0 ≤ c' → c' ≤ c + 1 → Bok b' → Post (.val (blD b')) [.acc ds', .val (blD b)]
theorem ok_bent (T : Txt K mg) : FnOk P w K mg base CX0 2 T.f__law_bent T.fd__law_bent ["_law_pool_here", "_law_block"] (toSp K ap_bent) := by
  refine fn_ab [0] T.F__law_bent sc__law_bent (by rintro as Post ⟨ds, c, b, rfl, _⟩; rfl) rfl (fun cdv A outer s H E hr => ⟨_, tm__law_bent T (ok_take T) cdv A outer s H E hr, ?_⟩)
  rintro as Post ⟨ds, c, b, rfl, h0, c0, c1, hb, k⟩
  unfold t__law_bent
  show WS K [0] _ [.acc ds, .val (blD b), .un, .un, .un] _
  by_cases he : b.length = 0
  · have e : b = [] := List.eq_nil_of_length_eq_zero he
    subst e
    show WS K [0] _ [.acc ds, .val (.tup []), .un, .un, .un] _
    walk_at "es"
    exact k ds c [] h0 c0 (by omega) hb
  · obtain ⟨b0, l, rfl⟩ := ends (show 0 < b.length by omega)
    obtain ⟨hbl, hbo⟩ := hb
    have hl : l.Ok := hbo l (List.mem_append_right _ List.mem_cons_self)
    obtain ⟨dn, ls⟩ := l
    obtain ⟨l1, l2, l3⟩ := hl
    obtain ⟨ls0, t, rfl⟩ := ends l1
    have ht : t.Ok := l3 t (List.mem_append_right _ List.mem_cons_self)
    obtain ⟨x, ch, sz, fc⟩ := t
    have e1 := bent_dt b0 dn x ls0 ch sz fc
    have cb := cut_snoc (b0.map Ln.dt) (.tup [.int dn, .tup (ls0.map Lt.dt ++ [.tup [.int x, .str ch, .int sz, .str fc]])])
    have cld := cut_snoc (ls0.map Lt.dt) (.tup [.int x, .str ch, .int sz, .str fc])
    have hll : ls0.length ≤ 2 := by simp at l2; omega
    have hbb : b0.length ≤ 2 := by simp at hbl; omega
    have a1 := atI_last (b0.map Ln.dt) (.tup [.int dn, .tup (ls0.map Lt.dt ++ [.tup [.int x, .str ch, .int sz, .str fc]])])
    have a2 := atI_last (ls0.map Lt.dt) (.tup [.int x, .str ch, .int sz, .str fc])
    have mk : ∀ (dn' : Int) (t' : Lt), t'.Ok → Bok (b0 ++ [⟨dn', ls0 ++ [t']⟩]) := fun dn' t' q => ⟨by simpa using hbl, fun y hy => by
      rcases List.mem_append.mp hy with hy | hy
      · exact hbo y (List.mem_append_left _ hy)
      · rw [List.mem_singleton.mp hy]
        exact ⟨by simp, by simpa using l2, fun z hz => by
          rcases List.mem_append.mp hz with hz | hz
          · exact l3 z (List.mem_append_left _ hz)
          · rw [List.mem_singleton.mp hz]; exact q⟩⟩
    rw [e1] at k ⊢
    generalize hbd : b0.map Ln.dt ++ [Dt.tup [.int dn, .tup (ls0.map Lt.dt ++ [.tup [.int x, .str ch, .int sz, .str fc]])]] = bd at a1 cb k ⊢
    generalize hld : ls0.map Lt.dt ++ [Dt.tup [.int x, .str ch, .int sz, .str fc]] = ld at a1 a2 cld hbd ⊢
    have hbn : ¬ bd.length = 0 := by rw [← hbd]; simp
    walk_at "es"
    refine .a ⟨ds, c, 5, rfl, h0, by omega, by omega, by omega, by omega, fun d1 g h1 g0 g1 => ?_⟩
    obtain rfl | rfl | rfl | rfl | rfl : g = 0 ∨ g = 1 ∨ g = 2 ∨ g = 3 ∨ g = 4 := by omega
    · walk_at "es"
      refine slp_t ?_
      rw [cb]
      walk_at "es"
      refine addp_t (by simp only [List.length_map, List.length_cons, List.length_nil]; omega) ?_
      rw [← hld, ← bent_dt, hld]
      exact ⟨rfl, k d1 (c + 1) _ h1 (by omega) (by omega) (mk (dn + 1) ⟨x, ch, sz, fc⟩ ht)⟩
    · walk_at "es"
      walk_at "bend"
      exact ⟨rfl, k d1 (c + 1) _ h1 (by omega) (by omega) (mk dn ⟨x + 1, ch, sz, fc⟩ ht)⟩
    · walk_at "es"
      refine eqp_str ?_
      by_cases hc : ch = "a"
      · rw [decide_eq_true hc]
        walk_at "es"
        refine ixp_s (c := 98) (by decide +kernel) (by decide +kernel) ?_
        walk_at "es"
        walk_at "bend"
        exact ⟨rfl, k d1 (c + 1) _ h1 (by omega) (by omega) (mk dn ⟨x, ⟨#[98]⟩, sz, fc⟩ ⟨CS.one (by omega), ht.2⟩)⟩
      · rw [decide_eq_false hc]
        walk_at "es"
        refine ixp_s (c := 97) (by decide +kernel) (by decide +kernel) ?_
        walk_at "es"
        walk_at "bend"
        exact ⟨rfl, k d1 (c + 1) _ h1 (by omega) (by omega) (mk dn ⟨x, ⟨#[97]⟩, sz, fc⟩ ⟨CS.one (by omega), ht.2⟩)⟩
    · walk_at "es"
      walk_at "bend"
      exact ⟨rfl, k d1 (c + 1) _ h1 (by omega) (by omega) (mk dn ⟨x, ch, sz + 1, fc⟩ ht)⟩
    · walk_at "es"
      refine eqp_str ?_
      by_cases hc : fc = "plain"
      · rw [decide_eq_true hc]
        walk_at "es"
        walk_at "bend"
        exact ⟨rfl, k d1 (c + 1) _ h1 (by omega) (by omega) (mk dn ⟨x, ch, sz, "bold"⟩ ⟨ht.1, cs_bold⟩)⟩
      · rw [decide_eq_false hc]
        walk_at "es"
        walk_at "bend"
        exact ⟨rfl, k d1 (c + 1) _ h1 (by omega) (by omega) (mk dn ⟨x, ch, sz, "plain"⟩ ⟨ht.1, cs_plain⟩)⟩
end
end Lk83
namespace Lk83
open PySem L2 Ab
local macro_rules | `(tactic| walk_at "no") => `(tactic| first
  | with_reducible exact fun h => Bool.noConfusion (show true = false from h)
  | with_reducible exact fun h => Bool.noConfusion (show false = true from h)
  | exact fun h => absurd h (by decide)
  | exact fun h => absurd (of_decide_eq_true h) (by omega)
  | exact fun h => absurd (by omega) (of_decide_eq_false h)
  | exact fun h => absurd (by omega) (nd_t h)
  | exact fun h => absurd (nd_f h) (by omega)
  | fail "no")
local macro_rules | `(tactic| walk_at "kb") => `(tactic| first | exact kb_tt | exact kb_ll | exact kb_ii | exact kb_ib | exact kb_ss | exact kb_sb | exact kb_si | exact kb_tb | exact kb_ti | exact kb_ts | exact kb_tl | exact kb_lb | exact kb_li | exact kb_ls | exact kb_lt | exact kb_is | exact kb_it | exact kb_il | exact kb_st | exact kb_sl | exact kb_bb | exact kb_bi | exact kb_nb | exact kb_ni | exact kb_ns | exact kb_nt | exact kb_nl | exact kb_bs | exact kb_bt | exact kb_bl | fail "kb")
local macro_rules | `(tactic| walk_at "norm") => `(tactic| first
  | ((refine' norm_cons (rfl : _ = _ :: _) ?ea ?et); (case ea => first | with_reducible exact (rfl : Sl.val _ = _) | with_reducible exact (rfl : Sl.cel _ = _) | with_reducible exact (rfl : Sl.un = _) | with_reducible exact norm_v | with_reducible exact norm_n | with_reducible exact norm_o | exact norm_v | exact norm_n | exact norm_o | exact rfl | fail "norm"); (case et => walk_at "norm"))
  | exact (rfl : _ = ([] : List Sl))
  | fail "norm")
local macro_rules | `(tactic| walk_at "x") => `(tactic| first
  | ((with_reducible refine' norm_intro ?hn ?_); (case hn => walk_at "norm"))
  | ((with_reducible refine' we_var ?hh ?_); (case hh => exact rfl))
  | ((with_reducible refine' we_own ?hh ?_); (case hh => exact rfl))
  | with_reducible refine we_c ?_
  | with_reducible refine we_addG ?_
  | with_reducible refine addp_i ?_
  | with_reducible refine we_opI0 ?_
  | with_reducible refine we_opI ?_
  | with_reducible refine we_mulG ?_
  | ((with_reducible refine' mulp_r ?h1 ?_); (case h1 => first | decide | omega | fail "m"))
  | ((with_reducible refine' mulp_l ?h1 ?_); (case h1 => first | decide | omega | fail "m"))
  | with_reducible refine we_neg ?_
  | with_reducible refine we_ltG ?_
  | with_reducible refine ltp_i ?_
  | with_reducible refine we_eqG ?_
  | with_reducible refine we_neG ?_
  | with_reducible refine eqp_i ?_
  | with_reducible refine nep_i ?_
  | with_reducible refine we_ixG ?_
  | ((with_reducible refine' ixp ?h1 ?h2 ?_); (case h1 => exact rfl); (case h2 => exact rfl))
  | with_reducible refine we_lenG ?_
  | ((with_reducible refine' lenp ?hh ?_); (case hh => exact rfl))
  | with_reducible refine we_intG ?_
  | with_reducible refine intp_i ?_
  | with_reducible refine intp_b ?_
  | with_reducible refine we_abs ?_
  | with_reducible refine we_tup ?_
  | with_reducible refine we_lst ?_
  | with_reducible refine we_tuple ?_
  | with_reducible refine we_list ?_
  | with_reducible refine we_sum ?_
  | with_reducible refine we_max2 ?_
  | with_reducible refine we_min2 ?_
  | with_reducible refine wd_cons ?_
  | with_reducible refine wd_nil ?_
  | with_reducible refine wa_cons ?_
  | with_reducible refine wa_nil ?_
  | with_reducible refine we_callH ?_
  | with_reducible refine we_isiG ?_
  | ((with_reducible refine' isi_own ?h1 ?h2 ?_); (case h1 => exact rfl); (case h2 => walk_at "kb"))
  | ((with_reducible refine' isi_val ?h1 ?h2 ?_); (case h1 => exact rfl); (case h2 => walk_at "kb"))
  | ((with_reducible refine' isi_new ?h2 ?_); (case h2 => walk_at "kb"))
  | with_reducible refine we_chainI ?_
  | with_reducible refine we_andV ?_
  | with_reducible refine we_orV ?_
  | with_reducible refine we_notV ?_
  | with_reducible refine wt_test ?_
  | with_reducible refine wt_B ?_
  | with_reducible refine wt_yes ?_
  | with_reducible refine wt_and ?_
  | with_reducible refine wt_or ?_
  | with_reducible refine wt_not ?_
  | ((with_reducible refine' ws_retA ?hh ?_); (case hh => exact rfl))
  | with_reducible refine ws_ret ?_
  | with_reducible refine ws_if ?_
  | with_reducible refine ws_nil ?_
  | with_reducible refine ws_expr ?_
  | with_reducible refine ws_asgN rfl rfl ?_
  | with_reducible refine ws_setN ?_
  | with_reducible refine ws_asgG ?_
  | ((with_reducible refine' wg_tup ?hh ?_); (case hh => exact rfl))
  | with_reducible refine wgs_cons ?_
  | with_reducible refine wgs_nil ?_
  | with_reducible refine wg_nameN rfl rfl ?_
  | ((with_reducible refine' we_appendN ?hh ?_); (case hh => exact rfl))
  | ((with_reducible refine' we_reverseN ?hh ?_); (case hh => exact rfl))
  | ((with_reducible refine' ws_augN ?h1 ?h2 ?_); (case h1 => exact rfl); (case h2 => exact rfl))
  | (refine ⟨_, rfl, ⟨_, rfl⟩, ?_⟩)
  | (refine ⟨_, rfl, ?_⟩)
  | (refine ⟨_, _, _, rfl, rfl, rfl, ?_⟩)
  | (refine ⟨_, _, rfl, rfl, (Nat.le_of_ble_eq_true rfl : _ ≤ _), ?_⟩)
  | (refine ⟨_, _, rfl, rfl, ?_⟩)
  | (refine ⟨(Nat.le_of_ble_eq_true rfl : _ ≤ _), ?_⟩)
  | (refine ⟨(rfl : _ = true), ?_⟩)
  | ((refine' ⟨fun _ => ?_, fun hY => absurd hY ?k2⟩); (case k2 => walk_at "no"))
  | ((refine' ⟨fun hY => absurd hY ?k2, fun _ => ?_⟩); (case k2 => walk_at "no"))
  | (refine ⟨⟨(by omega), (by omega)⟩, ?_⟩)
  | (refine ⟨⟨(by decide), (by decide), (by decide)⟩, ?_⟩)
  | (refine ⟨(show (_ : Prop) from by first | decide | omega | fail "c"), ?_⟩)
  | fail "stop")
local macro_rules | `(tactic| walk_at "e") => `(tactic| first | with_reducible refine ws_seq ?_ | walk_at "x" | fail "stop")
local macro_rules | `(tactic| walk_at "xs") => `(tactic| repeat' walk_at "x")
local macro_rules | `(tactic| walk_at "es") => `(tactic| repeat' walk_at "e")
local macro_rules | `(tactic| walk_at "len") => `(tactic| ((intro as Post h); (repeat (first | (obtain ⟨e, _⟩ := h; exact (congrArg List.length e).trans rfl) | (obtain ⟨_, h⟩ := h)))))
local macro_rules | `(tactic| walk_at "x") => `(tactic| first
  | with_reducible refine we_isN ?_
  | with_reducible refine we_notN ?_
  | with_reducible refine we_slG ?_
  | with_reducible refine wo_none ?_
  | with_reducible refine wo_some ?_
  | ((with_reducible refine' ixp ?h1 ?h2 ?_); (case h1 => exact rfl); (case h2 => assumption))
  | ((with_reducible refine' ixp_s ?h1 ?h2 ?_); (case h1 => assumption); (case h2 => assumption))
  | ((with_reducible refine' lenp_s ?h1 ?_); (case h1 => assumption))
  | ((with_reducible refine' slp_s ?h1 ?_); (case h1 => assumption))
  | with_reducible refine we_join ?_
  | with_reducible refine we_gtS ?_
  | ((with_reducible refine' we_ktup ?h1 ?_); (case h1 => assumption))
  | fail "x3")
local macro_rules | `(tactic| walk_at "nd") => `(tactic| first
  | exact (rfl : _ = ([] : List Dt))
  | ((refine' normD_cons (rfl : _ = _ :: _) ?et); (case et => walk_at "nd"))
  | fail "nd")
local macro_rules | `(tactic| walk_at "x") => `(tactic| first
  | with_reducible refine we_sumG ?_
  | with_reducible refine eqp_st ?_
  | with_reducible refine nep_st ?_
  | ((with_reducible refine' eqp_sf ?h1 ?_); (case h1 => first | assumption | decide +kernel))
  | ((with_reducible refine' nep_sf ?h1 ?_); (case h1 => first | assumption | decide +kernel))
  | with_reducible refine we_inG ?_
  | with_reducible refine we_if ?_
  | ((with_reducible refine' we_clearN ?hh ?_); (case hh => exact rfl))
  | with_reducible refine we_notInG ?_
  | with_reducible refine we_smeth ?_
  | with_reducible refine we_makeD ?_
  | with_reducible refine we_makeK ?_
  | ((with_reducible refine' slp_tE ?h ?_); (case h => walk_at "nd"))
  | ((with_reducible refine' addp_tE ?hz ?h ?_); (case h => walk_at "nd"); (case hz => exact Nat.le_of_ble_eq_true rfl))
  | fail "x5")
local macro_rules | `(tactic| walk_at "tk") => `(tactic| refine .a (tk (by assumption) (by omega) (by omega) (by omega) fun _ _ _ _ _ => ?_))
def Pg.Ok3 (p : Pg) : Prop := p.fl.length ≤ 3 ∧ p.cl.length ≤ 2 ∧ p.nt.length ≤ 3 ∧ (∀ b ∈ p.fl, Bok b) ∧ (∀ b ∈ p.cl, Bok b) ∧ ∀ b ∈ p.nt, Bok b
theorem Pg.Ok.ok3 {p : Pg} (h : p.Ok) : p.Ok3 := ⟨Nat.le_succ_of_le h.1, h.2.1.2, Nat.le_succ_of_le h.2.2.1, h.2.2.2⟩
theorem ok3 {n : Int} {fl cl nt : List Bl} (h1 : fl.length ≤ 3) (h2 : cl.length ≤ 2) (h3 : nt.length ≤ 3) (h4 : ∀ b ∈ fl, Bok b) (h5 : ∀ b ∈ cl, Bok b) (h6 : ∀ b ∈ nt, Bok b) : Pg.Ok3 ⟨n, fl, cl, nt⟩ := ⟨h1, h2, h3, h4, h5, h6⟩
theorem all_snoc {α : Type} {Q : α → Prop} {l : List α} {x : α} (h : ∀ y ∈ l, Q y) (hx : Q x) : ∀ y ∈ l ++ [x], Q y := fun y hy => by
  rcases List.mem_append.mp hy with hy | hy
  · exact h y hy
  · rw [List.mem_singleton.mp hy]; exact hx
theorem bok_one {l : Ln} (h : l.Ok) : Bok [l] := ⟨by show 1 ≤ 3; omega, fun y hy => by rw [List.mem_singleton.mp hy]; exact h⟩
theorem bok_nil : Bok [] := ⟨by show 0 ≤ 3; omega, fun _ h => nomatch h⟩
section
variable {P : Program} {w : World} {K : PySem.W.Frag} {mg : Str → Option Value} {base : Heap}
def ap_turn : AP := fun as Post => ∃ (ds : List Dt) (c : Int) (p : Pg), as = [.acc ds, .val p.dt] ∧ PoolIs c ds ∧ 0 ≤ c ∧ c ≤ 500 ∧ p.Ok ∧ ∀ ds' c' (p' : Pg), PoolIs c' ds' → p'.Ok3 → p'.num = p.num → Post (.val p'.dt) [.acc ds', .val p.dt]
theorem ok_turn (T : Txt K mg) : FnOk P w K mg base CX0 3 T.f__law_turned T.fd__law_turned ["_law_pool_here", "_law_page_here"] (toSp K ap_turn) := by
  have G1 := ok_take (P := P) (w := w) (base := base) T
  have G2 := ok_line (P := P) (w := w) (base := base) T
  have G3 := ok_bent (P := P) (w := w) (base := base) T
  refine fn_ab [0] T.F__law_turned sc__law_turned (by rintro as Post ⟨ds, c, p, rfl, _⟩; rfl) rfl (fun cdv A outer s H E hr => ⟨_, tm__law_turned T G1 G2 G3 cdv A outer s H E hr, ?_⟩)
  rintro as Post ⟨ds, c, ⟨n, fl, cl, nt⟩, rfl, h0, c0, c1, hok, k⟩
  obtain ⟨f2, ⟨k0, k2⟩, n2, fo, co, no⟩ := id hok
  dsimp only at f2 k0 k2 n2 fo co no
  unfold t__law_turned
  show WS K [0] _ [.acc ds, .val (.tup [.int n, .tup (fl.map blD), .tup (cl.map blD), .tup (nt.map blD)]), .un, .un, .un] _
  have lf : (fl.map blD).length = fl.length := List.length_map ..
  have lc : (cl.map blD).length = cl.length := List.length_map ..
  have ln : (nt.map blD).length = nt.length := List.length_map ..
  obtain ⟨x0, hx0⟩ : ∃ x, cl[0]? = some x := ⟨_, List.getElem?_eq_getElem k0⟩
  have ac : atI (cl.map blD) 0 = some (blD x0) := atI_of rfl (by rw [List.getElem?_map, hx0]; rfl)
  have xo := co x0 (List.mem_of_getElem? hx0)
  have od : ∀ y ∈ cl.drop 1, Bok y := fun y hy => co y (List.mem_of_mem_drop hy)
  have ldr : ((cl.drop 1).map blD).length + 1 = cl.length := by rw [List.length_map, List.length_drop]; omega
  walk_at "es"
  refine .a ⟨ds, c, 10, rfl, h0, by omega, by omega, by omega, by omega, fun d1 g h1 g0 g1 => ?_⟩
  by_cases g3 : g = 3
  · subst g3
    walk_at "es"
    refine .a ⟨d1, c + 1, rfl, h1, by omega, by omega, fun d2 c2 l h2 c20 c21 hl => ?_⟩
    walk_at "es"
    refine addp_t (by simp only [List.length_cons, List.length_nil]; omega) ?_
    walk_at "es"
    rw [show fl.map blD ++ [Dt.tup [l.dt]] = (fl ++ [[l]]).map blD by rw [List.map_append]; rfl]
    exact k d2 c2 ⟨n, fl ++ [[l]], cl, nt⟩ h2 (ok3 (by simp; omega) k2 (by omega) (all_snoc fo (bok_one hl)) co no) rfl
  by_cases g4 : g = 4
  · subst g4
    walk_at "es"
    refine .a ⟨d1, c + 1, rfl, h1, by omega, by omega, fun d2 c2 l h2 c20 c21 hl => ?_⟩
    walk_at "es"
    refine addp_t (by simp only [List.length_cons, List.length_nil]; omega) ?_
    walk_at "es"
    rw [show nt.map blD ++ [Dt.tup [l.dt]] = (nt ++ [[l]]).map blD by rw [List.map_append]; rfl]
    exact k d2 c2 ⟨n, fl, cl, nt ++ [[l]]⟩ h2 (ok3 (by omega) k2 (by simp; omega) fo co (all_snoc no (bok_one hl))) rfl
  by_cases g5 : g = 5
  · subst g5
    walk_at "es"
    refine slp_t ?_
    rw [cut_last]
    walk_at "es"
    refine addp_t (by simp only [List.length_cons, List.length_nil, List.length_map, List.length_dropLast]; omega) ?_
    walk_at "es"
    rw [show cl.dropLast.map blD ++ [Dt.tup []] = (cl.dropLast ++ [[]]).map blD by rw [List.map_append]; rfl]
    exact k d1 _ ⟨n, fl, cl.dropLast ++ [[]], nt⟩ h1 (ok3 (by omega) (by simp; omega) (by omega) fo (all_snoc (fun y hy => co y (List.dropLast_subset _ hy)) bok_nil) no) rfl
  by_cases g6 : g = 6
  · subst g6
    walk_at "es"
    refine .a ⟨d1, c + 1, x0, rfl, h1, by omega, by omega, xo, fun d2 c2 b' h2 c20 c21 hb => ?_⟩
    walk_at "es"
    refine slp_t ?_
    rw [show (1 : Int) = ((1 : Nat) : Int) from rfl, cut_drop (m := 1) (by omega)]
    walk_at "es"
    refine addp_t (by simp only [List.length_cons, List.length_nil]; omega) ?_
    walk_at "es"
    exact k d2 c2 ⟨n, fl, b' :: cl.drop 1, nt⟩ h2 (ok3 (by omega) (by simp; omega) (by omega) fo (fun y hy => (List.mem_cons.mp hy).elim (fun e => e ▸ hb) (od y)) no) rfl
  by_cases g7 : g = 7 ∧ 0 < nt.length
  · obtain ⟨rfl, hn0⟩ := g7
    obtain ⟨y0, hy0⟩ : ∃ x, nt[0]? = some x := ⟨_, List.getElem?_eq_getElem hn0⟩
    have an : atI (nt.map blD) 0 = some (blD y0) := atI_of rfl (by rw [List.getElem?_map, hy0]; rfl)
    walk_at "es"
    refine .a ⟨d1, c + 1, y0, rfl, h1, by omega, by omega, no y0 (List.mem_of_getElem? hy0), fun d2 c2 b' h2 c20 c21 hb => ?_⟩
    walk_at "es"
    exact k d2 c2 ⟨n, fl, cl, [b']⟩ h2 (ok3 (by omega) k2 (by show 1 ≤ 3; omega) fo co (fun y hy => by rw [List.mem_singleton.mp hy]; exact hb)) rfl
  by_cases g8 : g = 8 ∧ 0 < fl.length
  · obtain ⟨rfl, hf0⟩ := g8
    obtain ⟨y0, hy0⟩ : ∃ x, fl[0]? = some x := ⟨_, List.getElem?_eq_getElem hf0⟩
    have an : atI (fl.map blD) 0 = some (blD y0) := atI_of rfl (by rw [List.getElem?_map, hy0]; rfl)
    walk_at "es"
    refine .a ⟨d1, c + 1, y0, rfl, h1, by omega, by omega, fo y0 (List.mem_of_getElem? hy0), fun d2 c2 b' h2 c20 c21 hb => ?_⟩
    walk_at "es"
    exact k d2 c2 ⟨n, [b'], cl, nt⟩ h2 (ok3 (by show 1 ≤ 3; omega) k2 (by omega) (fun y hy => by rw [List.mem_singleton.mp hy]; exact hb) co no) rfl
  by_cases g9 : g = 9
  · subst g9
    have ac9 : atI (cl.map blD) 0 = some (.tup (x0.map Ln.dt)) := ac
    clear ac
    walk_at "es"
    refine slp_t ?_
    rw [cut_last]
    walk_at "es"
    refine slp_t ?_
    rw [show (1 : Int) = ((1 : Nat) : Int) from rfl, cut_drop (m := 1) (by omega)]
    walk_at "es"
    refine addp_t (by simp only [List.length_cons, List.length_nil]; omega) ?_
    walk_at "es"
    exact k d1 _ ⟨n, fl, x0.dropLast :: cl.drop 1, nt⟩ h1 (ok3 (by omega) (by simp; omega) (by omega) fo (fun y hy => (List.mem_cons.mp hy).elim (fun e => e ▸ ⟨by have := xo.1; simp; omega, fun z hz => xo.2 z (List.dropLast_subset _ hz)⟩) (od y)) no) rfl
  by_cases e7 : g = 7
  · subst e7
    have hz : ¬ ((0 : Int) < ((nt.map blD).length : Int)) := fun h => g7 ⟨rfl, by omega⟩
    walk_at "es"
    exact k d1 _ ⟨n, fl, cl, nt⟩ h1 (Pg.Ok.ok3 hok) rfl
  by_cases e8 : g = 8
  · subst e8
    have hz : ¬ ((0 : Int) < ((fl.map blD).length : Int)) := fun h => g8 ⟨rfl, by omega⟩
    walk_at "es"
    exact k d1 _ ⟨n, fl, cl, nt⟩ h1 (Pg.Ok.ok3 hok) rfl
  · walk_at "es"
    exact k d1 _ ⟨n, fl, cl, nt⟩ h1 (Pg.Ok.ok3 hok) rfl
/-- the pages follow one another -/
def Row (a : Int) (A : List Pg) : Prop := ∀ (k : Nat) (p : Pg), A[k]? = some p → p.num = a + k
theorem row_snoc {a : Int} {A : List Pg} {p : Pg} (h : Row a A) (e : p.num = a + A.length) : Row a (A ++ [p]) := fun k q hq => by
  by_cases hk : k < A.length
  · rw [List.getElem?_append_left hk] at hq; exact h k q hq
  · rw [List.getElem?_append_right (by omega)] at hq
    have : k - A.length = 0 := by
      cases z : k - A.length with
      | zero => rfl
      | succ m => rw [z] at hq; simp at hq
    rw [this] at hq
    simp at hq
    subst hq
    rw [e, show k = A.length by omega]
def ap_sec : AP := fun as Post => ∃ (ns : List Int) (A : List Pg) (n m md cc : Int), as = [.val (.scr ns), .acc (A.map Pg.dt), .val (.int n), .val (.int m), .val (.int md), .val (.int cc)] ∧ A.length ≤ 5 ∧ (∀ p ∈ A, p.Ok) ∧ 0 ≤ m ∧ m ≤ 5 ∧ 1 ≤ cc ∧ cc ≤ 2 ∧ ∀ B : List Pg, B.length ≤ 5 → (∀ p ∈ B, p.Ok3) → Row n B → Post (.new (B.map Pg.dt)) as
theorem ok_sec (T : Txt K mg) : FnOk P w K mg base CX0 4 T.f__law_second T.fd__law_second ["_law_script", "_law_pages", "_law_number", "_law_many", "_law_mode", "_law_cols"] (toSp K ap_sec) := by
  have G1 := ok_pool (P := P) (w := w) (base := base) T
  have G2 := ok_turn (P := P) (w := w) (base := base) T
  have G3 := ok_page (P := P) (w := w) (base := base) T
  refine fn_ab [1] T.F__law_second sc__law_second (by rintro as Post ⟨ns, A, n, m, md, cc, rfl, _⟩; rfl) rfl (fun cdv A outer s H E hr => ⟨_, tm__law_second T G1 G2 G3 cdv A outer s H E hr, ?_⟩)
  rintro as Post ⟨ns, A, n, m, md, cc, rfl, hA, hAo, m0, m1, cc0, cc1, k⟩
  unfold t__law_second
  show WS K [1] _ [.val (.scr ns), .acc (A.map Pg.dt), .val (.int n), .val (.int m), .val (.int md), .val (.int cc), .un, .un, .un, .un, .un] _
  have lA : (A.map Pg.dt).length = A.length := List.length_map ..
  walk_at "es"
  refine for_range1 m (fun i G => ∃ (B : List Pg) (s7 s8 s9 : Sl), B.length = i ∧ (∀ p ∈ B, p.Ok3) ∧ Row n B ∧ G = [.val (.scr ns), .acc (A.map Pg.dt), .val (.int n), .val (.int m), .val (.int md), .val (.int cc), .acc (B.map Pg.dt), s7, s8, s9, .un]) ?_ ?_ ?_
  · walk_at "es"
    exact .a ⟨rfl, by omega, by omega, [], _, _, _, rfl, (fun _ h => nomatch h), (fun k p h => by simp at h), rfl⟩
  · rintro i G hi ⟨B, s7, s8, s9, hB, hBo, hr, rfl⟩
    have lB : (B.map Pg.dt).length < 1000000 := by rw [List.length_map]; omega
    walk_at "es"
    refine .a ⟨ns, 6 + i, rfl, by omega, by omega, fun ds h0 => ?_⟩
    walk_at "es"
    refine lc_accP A Pg.dt Pg.dt (fun p => decide (p.num = n + i)) rfl (by omega) rfl rfl (fun p hp => ?_) ?_
    · obtain ⟨a, fl, cl, nt⟩ := p
      show WT K _ [.val (.scr ns), .acc (A.map Pg.dt), .val (.int n), .val (.int m), .val (.int md), .val (.int cc), .acc (B.map Pg.dt), .val (.int (i : Int)), .acc ds, s9, .val (.tup [.int a, .tup (fl.map blD), .tup (cl.map blD), .tup (nt.map blD)])] _
      walk_at "es"
      refine ⟨fun h => ?_, fun h => .a ⟨h, rfl⟩⟩
      walk_at "es"
      exact .a ⟨h, rfl, rfl⟩
    · have hFo : ∀ p ∈ A.filter (fun p => decide (p.num = n + i)), p.Ok ∧ p.num = n + i := fun p hp => ⟨hAo p (List.mem_filter.mp hp).1, of_decide_eq_true (List.mem_filter.mp hp).2⟩
      generalize A.filter (fun p => decide (p.num = n + i)) = F at hFo ⊢
      have lF : (F.map Pg.dt).length = F.length := List.length_map ..
      have add : ∀ p', Pg.Ok3 p' → p'.num = n + i → (B ++ [p']).length = i + 1 ∧ (∀ p ∈ B ++ [p'], p.Ok3) ∧ Row n (B ++ [p']) ∧ B.map Pg.dt ++ [p'.dt] = (B ++ [p']).map Pg.dt := fun p' h1 h2 => ⟨by simp [hB], all_snoc hBo h1, row_snoc hr (by rw [h2, hB]), by rw [List.map_append]; rfl⟩
      by_cases hm0 : md = 0 ∧ 0 < F.length
      · obtain ⟨rfl, hF0⟩ := hm0
        obtain ⟨p0, hp0⟩ : ∃ x, F[0]? = some x := ⟨_, List.getElem?_eq_getElem hF0⟩
        obtain ⟨o1, o2⟩ := hFo p0 (List.mem_of_getElem? hp0)
        have aF : atI (F.map Pg.dt) 0 = some p0.dt := atI_of rfl (by rw [List.getElem?_map, hp0]; rfl)
        walk_at "es"
        refine .a ⟨ds, 0, p0, rfl, h0, by omega, by omega, o1, fun ds' c' p' h' q1 q2 => ?_⟩
        obtain ⟨a1, a2, a3, a4⟩ := add p' q1 (by rw [q2, o2])
        walk_at "es"
        exact .a ⟨B ++ [p'], _, _, _, a1, a2, a3, by rw [a4]⟩
      by_cases hm1 : md = 1 ∧ i < A.length
      · obtain ⟨rfl, hi1⟩ := hm1
        obtain ⟨⟨a, fl, cl, nt⟩, hp0⟩ : ∃ x, A[i]? = some x := ⟨_, List.getElem?_eq_getElem hi1⟩
        have o1 := hAo _ (List.mem_of_getElem? hp0)
        have aA : atI (A.map Pg.dt) (i : Int) = some (.tup [.int a, .tup (fl.map blD), .tup (cl.map blD), .tup (nt.map blD)]) := atI_of rfl (by rw [List.getElem?_map, hp0]; rfl)
        obtain ⟨a1, a2, a3, a4⟩ := add ⟨n + i, fl, cl, nt⟩ ⟨Nat.le_succ_of_le o1.1, o1.2.1.2, Nat.le_succ_of_le o1.2.2.1, o1.2.2.2⟩ rfl
        walk_at "es"
        exact .a ⟨B ++ [⟨n + i, fl, cl, nt⟩], _, _, _, a1, a2, a3, by rw [← a4]; rfl⟩
      · have go : ∀ (Γ : List Sl) (Q : Ps), True := fun _ _ => trivial
        by_cases e0 : md = 0
        · subst e0
          have hz : ¬ ((0 : Int) < ((F.map Pg.dt).length : Int)) := fun h => hm0 ⟨rfl, by omega⟩
          walk_at "es"
          refine .a ⟨ds, 0, n + i, cc, rfl, h0, by omega, by omega, cc0, cc1, fun ds' c' p' h' _ _ q1 q2 => ?_⟩
          obtain ⟨a1, a2, a3, a4⟩ := add p' q1.ok3 q2
          walk_at "es"
          exact .a ⟨B ++ [p'], _, _, _, a1, a2, a3, by rw [a4]⟩
        · by_cases e1 : md = 1
          · subst e1
            have hz : ¬ ((i : Int) < ((A.map Pg.dt).length : Int)) := fun h => hm1 ⟨rfl, by omega⟩
            walk_at "es"
            refine .a ⟨ds, 0, n + i, cc, rfl, h0, by omega, by omega, cc0, cc1, fun ds' c' p' h' _ _ q1 q2 => ?_⟩
            obtain ⟨a1, a2, a3, a4⟩ := add p' q1.ok3 q2
            walk_at "es"
            exact .a ⟨B ++ [p'], _, _, _, a1, a2, a3, by rw [a4]⟩
          · walk_at "es"
            refine .a ⟨ds, 0, n + i, cc, rfl, h0, by omega, by omega, cc0, cc1, fun ds' c' p' h' _ _ q1 q2 => ?_⟩
            obtain ⟨a1, a2, a3, a4⟩ := add p' q1.ok3 q2
            walk_at "es"
            exact .a ⟨B ++ [p'], _, _, _, a1, a2, a3, by rw [a4]⟩
  · rintro G ⟨B, s7, s8, s9, hB, hBo, hr, rfl⟩
    walk_at "es"
    exact k B (by omega) hBo hr
inductive Res where
  | unset (d : Dt)
  | pages (d : Dt) (A : List Pg)
def Res.dt : Res → Dt
  | .unset d => .tup [.str "unset", d]
  | .pages d A => .tup [.str "pages", d, .tup (A.map Pg.dt)]
def Res.pgs : Res → List Pg
  | .unset _ => []
  | .pages _ A => A
def ap_res : AP := fun as Post => ∃ (ds : List Dt) (c : Int) (A : List Pg) (u : Bool), as = [.acc ds, .acc (A.map Pg.dt), .val (.bl u)] ∧ PoolIs c ds ∧ 0 ≤ c ∧ c ≤ 500 ∧ A.length ≤ 1000 ∧ ∀ ds' c' (r : Res), PoolIs c' ds' → 0 ≤ c' → c' ≤ c + 10 → r.pgs = (if u then [] else A) → Post (.val r.dt) [.acc ds', .acc (A.map Pg.dt), .val (.bl u)]
theorem ok_res (T : Txt K mg) : FnOk P w K mg base CX0 2 T.f__law_result T.fd__law_result ["_law_pool_here", "_law_pages", "_law_unset"] (toSp K ap_res) := by
  refine fn_ab [0, 1] T.F__law_result sc__law_result (by rintro as Post ⟨ds, c, A, u, rfl, _⟩; rfl) rfl (fun cdv A outer s H E hr => ⟨_, tm__law_result T (ok_take T) cdv A outer s H E hr, ?_⟩)
  rintro as Post ⟨ds, c, A, u, rfl, h0, c0, c1, hA, k⟩
  unfold t__law_result
  show WS K [0, 1] _ [.acc ds, .acc (A.map Pg.dt), .val (.bl u), .un, .un] _
  walk_at "es"
  refine lc_range1H ?_
  walk_at "es"
  refine .a ⟨ds, c, 3, rfl, h0, by omega, by omega, by omega, by omega, fun d1 g h1 g0 g1 => ?_⟩
  obtain ⟨j, rfl⟩ := Int.eq_ofNat_of_zero_le g0
  walk_at "es"
  refine .a ⟨j, rfl, by omega, rfl, rfl, fun i es G => ∃ (d6 : List Dt), PoolIs (c + 1 + i) d6 ∧ G = [.acc d6, .acc (A.map Pg.dt), .val (.bl u), .un, .un], ⟨d1, by rw [show c + 1 + ((0 : Nat) : Int) = c + 1 by omega]; exact h1, rfl⟩, ?_, ?_⟩
  · rintro i es G hi ⟨d6, h6, rfl⟩
    walk_at "es"
    refine .a ⟨d6, c + 1 + i, 5, rfl, h6, by omega, by omega, by omega, by omega, fun d7 q h7 q0 q1 => ?_⟩
    walk_at "es"
    exact .a ⟨d7, by rw [show c + 1 + ((i + 1 : Nat) : Int) = c + 1 + i + 1 by omega]; exact h7, rfl⟩
  · rintro es G ⟨d6, h6, rfl⟩
    cases u with
    | true =>
      walk_at "es"
      refine .a ⟨d6, c + 1 + j, 60, rfl, h6, by omega, by omega, by omega, by omega, fun d7 q h7 q0 q1 => ?_⟩
      walk_at "es"
      exact k d7 _ (.unset _) h7 (by omega) (by omega) rfl
    | false =>
      walk_at "es"
      exact k d6 _ (.pages _ A) h6 (by omega) (by omega) rfl
end
end Lk83
namespace Lk83
open PySem L2 Ab
local macro_rules | `(tactic| walk_at "no") => `(tactic| first
  | with_reducible exact fun h => Bool.noConfusion (show true = false from h)
  | with_reducible exact fun h => Bool.noConfusion (show false = true from h)
  | exact fun h => absurd h (by decide)
  | exact fun h => absurd (of_decide_eq_true h) (by omega)
  | exact fun h => absurd (by omega) (of_decide_eq_false h)
  | exact fun h => absurd (by omega) (nd_t h)
  | exact fun h => absurd (nd_f h) (by omega)
  | fail "no")
local macro_rules | `(tactic| walk_at "kb") => `(tactic| first | exact kb_tt | exact kb_ll | exact kb_ii | exact kb_ib | exact kb_ss | exact kb_sb | exact kb_si | exact kb_tb | exact kb_ti | exact kb_ts | exact kb_tl | exact kb_lb | exact kb_li | exact kb_ls | exact kb_lt | exact kb_is | exact kb_it | exact kb_il | exact kb_st | exact kb_sl | exact kb_bb | exact kb_bi | exact kb_nb | exact kb_ni | exact kb_ns | exact kb_nt | exact kb_nl | exact kb_bs | exact kb_bt | exact kb_bl | fail "kb")
local macro_rules | `(tactic| walk_at "norm") => `(tactic| first
  | ((refine' norm_cons (rfl : _ = _ :: _) ?ea ?et); (case ea => first | with_reducible exact (rfl : Sl.val _ = _) | with_reducible exact (rfl : Sl.cel _ = _) | with_reducible exact (rfl : Sl.un = _) | with_reducible exact norm_v | with_reducible exact norm_n | with_reducible exact norm_o | exact norm_v | exact norm_n | exact norm_o | exact rfl | fail "norm"); (case et => walk_at "norm"))
  | exact (rfl : _ = ([] : List Sl))
  | fail "norm")
local macro_rules | `(tactic| walk_at "x") => `(tactic| first
  | ((with_reducible refine' norm_intro ?hn ?_); (case hn => walk_at "norm"))
  | ((with_reducible refine' we_var ?hh ?_); (case hh => exact rfl))
  | ((with_reducible refine' we_own ?hh ?_); (case hh => exact rfl))
  | with_reducible refine we_c ?_
  | with_reducible refine we_addG ?_
  | with_reducible refine addp_i ?_
  | with_reducible refine we_opI0 ?_
  | with_reducible refine we_opI ?_
  | with_reducible refine we_mulG ?_
  | ((with_reducible refine' mulp_r ?h1 ?_); (case h1 => first | decide | omega | fail "m"))
  | ((with_reducible refine' mulp_l ?h1 ?_); (case h1 => first | decide | omega | fail "m"))
  | with_reducible refine we_neg ?_
  | with_reducible refine we_ltG ?_
  | with_reducible refine ltp_i ?_
  | with_reducible refine we_eqG ?_
  | with_reducible refine we_neG ?_
  | with_reducible refine eqp_i ?_
  | with_reducible refine nep_i ?_
  | with_reducible refine we_ixG ?_
  | ((with_reducible refine' ixp ?h1 ?h2 ?_); (case h1 => exact rfl); (case h2 => exact rfl))
  | with_reducible refine we_lenG ?_
  | ((with_reducible refine' lenp ?hh ?_); (case hh => exact rfl))
  | with_reducible refine we_intG ?_
  | with_reducible refine intp_i ?_
  | with_reducible refine intp_b ?_
  | with_reducible refine we_abs ?_
  | with_reducible refine we_tup ?_
  | with_reducible refine we_lst ?_
  | with_reducible refine we_tuple ?_
  | with_reducible refine we_list ?_
  | with_reducible refine we_sum ?_
  | with_reducible refine we_max2 ?_
  | with_reducible refine we_min2 ?_
  | with_reducible refine wd_cons ?_
  | with_reducible refine wd_nil ?_
  | with_reducible refine wa_cons ?_
  | with_reducible refine wa_nil ?_
  | with_reducible refine we_callH ?_
  | with_reducible refine we_isiG ?_
  | ((with_reducible refine' isi_own ?h1 ?h2 ?_); (case h1 => exact rfl); (case h2 => walk_at "kb"))
  | ((with_reducible refine' isi_val ?h1 ?h2 ?_); (case h1 => exact rfl); (case h2 => walk_at "kb"))
  | ((with_reducible refine' isi_new ?h2 ?_); (case h2 => walk_at "kb"))
  | with_reducible refine we_chainI ?_
  | with_reducible refine we_andV ?_
  | with_reducible refine we_orV ?_
  | with_reducible refine we_notV ?_
  | with_reducible refine wt_test ?_
  | with_reducible refine wt_B ?_
  | with_reducible refine wt_yes ?_
  | with_reducible refine wt_and ?_
  | with_reducible refine wt_or ?_
  | with_reducible refine wt_not ?_
  | ((with_reducible refine' ws_retA ?hh ?_); (case hh => exact rfl))
  | with_reducible refine ws_ret ?_
  | with_reducible refine ws_if ?_
  | with_reducible refine ws_nil ?_
  | with_reducible refine ws_expr ?_
  | with_reducible refine ws_asgN rfl rfl ?_
  | with_reducible refine ws_setN ?_
  | with_reducible refine ws_asgG ?_
  | ((with_reducible refine' wg_tup ?hh ?_); (case hh => exact rfl))
  | with_reducible refine wgs_cons ?_
  | with_reducible refine wgs_nil ?_
  | with_reducible refine wg_nameN rfl rfl ?_
  | ((with_reducible refine' we_appendN ?hh ?_); (case hh => exact rfl))
  | ((with_reducible refine' we_reverseN ?hh ?_); (case hh => exact rfl))
  | ((with_reducible refine' ws_augN ?h1 ?h2 ?_); (case h1 => exact rfl); (case h2 => exact rfl))
  | (refine ⟨_, rfl, ⟨_, rfl⟩, ?_⟩)
  | (refine ⟨_, rfl, ?_⟩)
  | (refine ⟨_, _, _, rfl, rfl, rfl, ?_⟩)
  | (refine ⟨_, _, rfl, rfl, (Nat.le_of_ble_eq_true rfl : _ ≤ _), ?_⟩)
  | (refine ⟨_, _, rfl, rfl, ?_⟩)
  | (refine ⟨(Nat.le_of_ble_eq_true rfl : _ ≤ _), ?_⟩)
  | (refine ⟨(rfl : _ = true), ?_⟩)
  | ((refine' ⟨fun _ => ?_, fun hY => absurd hY ?k2⟩); (case k2 => walk_at "no"))
  | ((refine' ⟨fun hY => absurd hY ?k2, fun _ => ?_⟩); (case k2 => walk_at "no"))
  | (refine ⟨⟨(by omega), (by omega)⟩, ?_⟩)
  | (refine ⟨⟨(by decide), (by decide), (by decide)⟩, ?_⟩)
  | (refine ⟨(show (_ : Prop) from by first | decide | omega | fail "c"), ?_⟩)
  | fail "stop")
local macro_rules | `(tactic| walk_at "e") => `(tactic| first | with_reducible refine ws_seq ?_ | walk_at "x" | fail "stop")
local macro_rules | `(tactic| walk_at "xs") => `(tactic| repeat' walk_at "x")
local macro_rules | `(tactic| walk_at "es") => `(tactic| repeat' walk_at "e")
local macro_rules | `(tactic| walk_at "len") => `(tactic| ((intro as Post h); (repeat (first | (obtain ⟨e, _⟩ := h; exact (congrArg List.length e).trans rfl) | (obtain ⟨_, h⟩ := h)))))
local macro_rules | `(tactic| walk_at "x") => `(tactic| first
  | with_reducible refine we_isN ?_
  | with_reducible refine we_notN ?_
  | with_reducible refine we_slG ?_
  | with_reducible refine wo_none ?_
  | with_reducible refine wo_some ?_
  | ((with_reducible refine' ixp ?h1 ?h2 ?_); (case h1 => exact rfl); (case h2 => assumption))
  | ((with_reducible refine' ixp_s ?h1 ?h2 ?_); (case h1 => assumption); (case h2 => assumption))
  | ((with_reducible refine' lenp_s ?h1 ?_); (case h1 => assumption))
  | ((with_reducible refine' slp_s ?h1 ?_); (case h1 => assumption))
  | with_reducible refine we_join ?_
  | with_reducible refine we_gtS ?_
  | ((with_reducible refine' we_ktup ?h1 ?_); (case h1 => assumption))
  | fail "x3")
local macro_rules | `(tactic| walk_at "nd") => `(tactic| first
  | exact (rfl : _ = ([] : List Dt))
  | ((refine' normD_cons (rfl : _ = _ :: _) ?et); (case et => walk_at "nd"))
  | fail "nd")
local macro_rules | `(tactic| walk_at "x") => `(tactic| first
  | with_reducible refine we_sumG ?_
  | with_reducible refine eqp_st ?_
  | with_reducible refine nep_st ?_
  | ((with_reducible refine' eqp_sf ?h1 ?_); (case h1 => first | assumption | decide +kernel))
  | ((with_reducible refine' nep_sf ?h1 ?_); (case h1 => first | assumption | decide +kernel))
  | with_reducible refine we_inG ?_
  | with_reducible refine we_if ?_
  | ((with_reducible refine' we_clearN ?hh ?_); (case hh => exact rfl))
  | with_reducible refine we_notInG ?_
  | with_reducible refine we_smeth ?_
  | with_reducible refine we_makeD ?_
  | with_reducible refine we_makeK ?_
  | ((with_reducible refine' slp_tE ?h ?_); (case h => walk_at "nd"))
  | ((with_reducible refine' addp_tE ?hz ?h ?_); (case h => walk_at "nd"); (case hz => exact Nat.le_of_ble_eq_true rfl))
  | fail "x5")
local macro_rules | `(tactic| walk_at "tk") => `(tactic| refine .a (tk (by assumption) (by omega) (by omega) (by omega) fun _ _ _ _ _ => ?_))
def Lt.pd (l : Lt) : PD := .tup [.int l.x, .str l.ch, .int l.sz, .str l.fc]
def Ln.pd (l : Ln) : PD := .tup [.int l.down, .tup (l.ls.map Lt.pd)]
def blP (b : Bl) : PD := .tup (b.map Ln.pd)
def Pg.pd (p : Pg) : PD := .tup [.int p.num, .tup (p.fl.map blP), .tup (p.cl.map blP), .tup (p.nt.map blP)]
theorem map_pd {α : Type} {f : α → PD} {g : α → Dt} (h : ∀ x, (f x).dt = g x) (l : List α) : PD.dts (l.map f) = l.map g := by
  rw [PD.dts_map, List.map_map]
  exact List.map_congr_left fun x _ => h x
theorem Lt.pd_dt (l : Lt) : l.pd.dt = l.dt := by
  unfold Lt.pd Lt.dt
  simp only [PD.dt, PD.dts]
theorem Ln.pd_dt (l : Ln) : l.pd.dt = l.dt := by
  unfold Ln.pd Ln.dt
  simp only [PD.dt, PD.dts]
  rw [map_pd Lt.pd_dt]
theorem blP_dt (b : Bl) : (blP b).dt = blD b := by
  unfold blP blD
  rw [PD.dt, map_pd Ln.pd_dt]
theorem Pg.pd_dt (p : Pg) : p.pd.dt = p.dt := by
  unfold Pg.pd Pg.dt
  simp only [PD.dt, PD.dts]
  rw [map_pd blP_dt, map_pd blP_dt, map_pd blP_dt]
theorem Pg.pds (A : List Pg) : PD.dts (A.map Pg.pd) = A.map Pg.dt := map_pd Pg.pd_dt A
theorem tup_ok {α : Type} {f : α → PD} {l : List α} {n d : Nat} (hl : l.length ≤ 1000) (h : ∀ x ∈ l, (f x).ok ∧ (f x).dep ≤ d) : PD.ok (.tup (l.map f)) ∧ PD.dep (.tup (l.map f)) ≤ d + 1 := by
  rw [PD.ok, PD.dep]
  refine ⟨⟨by rw [List.length_map]; omega, PD.oks_iff.mpr fun y hy => ?_⟩, ?_⟩
  · obtain ⟨x, hx, rfl⟩ := List.mem_map.mp hy
    exact (h x hx).1
  · have : PD.deps (l.map f) ≤ d := PD.deps_le.mpr fun y hy => by
      obtain ⟨x, hx, rfl⟩ := List.mem_map.mp hy
      exact (h x hx).2
    omega
theorem Lt.pd_ok {l : Lt} (h : l.Ok) : l.pd.ok ∧ l.pd.dep ≤ 1 := by
  unfold Lt.pd
  rw [PD.ok, PD.dep]
  simp only [PD.oks, PD.ok, PD.deps, PD.dep, List.length_cons, List.length_nil]
  exact ⟨⟨by omega, trivial, h.1, trivial, h.2, trivial⟩, by omega⟩
theorem Ln.pd_ok {l : Ln} (h : l.Ok) : l.pd.ok ∧ l.pd.dep ≤ 3 := by
  obtain ⟨h1, h2⟩ := tup_ok (n := 0) (d := 1) (f := Lt.pd) (l := l.ls) (by have := h.2.1; omega) fun x hx => Lt.pd_ok (h.2.2 x hx)
  unfold Ln.pd
  rw [PD.ok, PD.dep]
  simp only [PD.oks, PD.deps, List.length_cons, List.length_nil]
  rw [PD.ok]
  refine ⟨⟨by omega, trivial, h1, trivial⟩, ?_⟩
  rw [PD.dep]
  omega
theorem blP_ok {b : Bl} (h : Bok b) : (blP b).ok ∧ (blP b).dep ≤ 4 := tup_ok (n := 0) (d := 3) (by have := h.1; omega) fun x hx => Ln.pd_ok (h.2 x hx)
theorem Pg.pd_ok {p : Pg} (h : p.Ok3) : p.pd.ok ∧ p.pd.dep ≤ 6 := by
  obtain ⟨h1, h2, h3, h4, h5, h6⟩ := h
  obtain ⟨a1, a2⟩ := tup_ok (n := 0) (d := 4) (f := blP) (l := p.fl) (by omega) fun x hx => blP_ok (h4 x hx)
  obtain ⟨b1, b2⟩ := tup_ok (n := 0) (d := 4) (f := blP) (l := p.cl) (by omega) fun x hx => blP_ok (h5 x hx)
  obtain ⟨c1, c2⟩ := tup_ok (n := 0) (d := 4) (f := blP) (l := p.nt) (by omega) fun x hx => blP_ok (h6 x hx)
  unfold Pg.pd
  rw [PD.ok, PD.dep]
  simp only [PD.oks, PD.deps, List.length_cons, List.length_nil]
  rw [PD.ok]
  refine ⟨⟨by omega, trivial, a1, b1, c1, trivial⟩, ?_⟩
  rw [PD.dep]
  omega
/-! ### plain -/
abbrev at_ (A : List Pg) (n : Int) : Option Pg := A.find? fun p => decide (p.num = n)
def Due (A B : List Pg) (n : Int) : Prop := (at_ A n).map Pg.pd ≠ (at_ B n).map Pg.pd
abbrev Nd (A : List Pg) : Prop := (A.map Pg.num).Nodup
theorem Row.nd {a : Int} {A : List Pg} (h : Row a A) : Nd A := by
  show List.Pairwise (· ≠ ·) _
  rw [List.pairwise_map, List.pairwise_iff_getElem]
  intro i j hi hj hij e
  have e1 := h i _ (List.getElem?_eq_getElem hi)
  have e2 := h j _ (List.getElem?_eq_getElem hj)
  omega
theorem nd_filter {n : Int} : ∀ {A : List Pg}, Nd A → A.filter (fun p => decide (p.num = n)) = (at_ A n).toList
  | [], _ => rfl
  | p :: r, h => by
    have h : (p.num :: r.map Pg.num).Nodup := h
    obtain ⟨h1, h2⟩ := List.nodup_cons.mp h
    by_cases e : p.num = n
    · rw [List.filter_cons_of_pos (by simpa using e)]
      have : r.filter (fun p => decide (p.num = n)) = [] := List.filter_eq_nil_iff.mpr fun q hq hz => h1 (by
        rw [e, ← of_decide_eq_true hz]
        exact List.mem_map_of_mem hq)
      rw [this]
      unfold at_
      rw [List.find?_cons_of_pos (by simpa using e)]
      rfl
    · rw [List.filter_cons_of_neg (by simpa using e), nd_filter h2]
      unfold at_
      rw [List.find?_cons_of_neg (by simpa using e)]
theorem at_mem {A : List Pg} {n : Int} {p : Pg} (h : at_ A n = some p) : p ∈ A ∧ p.num = n := ⟨List.mem_of_find?_eq_some h, by simpa using List.find?_some h⟩
theorem at_of {A : List Pg} {p : Pg} (hd : Nd A) (h : p ∈ A) : at_ A p.num = some p := by
  have e := nd_filter (n := p.num) hd
  have hm : p ∈ A.filter (fun q => decide (q.num = p.num)) := List.mem_filter.mpr ⟨h, by simp⟩
  rw [e] at hm
  cases z : at_ A p.num with
  | none => rw [z] at hm; cases hm
  | some q => rw [z] at hm; rw [List.mem_singleton.mp hm]
theorem srt_ext : ∀ {xs ys : List Int}, xs.Pairwise (· < ·) → ys.Pairwise (· < ·) → (∀ n, n ∈ xs ↔ n ∈ ys) → xs = ys
  | [], [], _, _, _ => rfl
  | [], y :: s, _, _, h => absurd ((h y).mpr List.mem_cons_self) (by simp)
  | x :: r, [], _, _, h => absurd ((h x).mp List.mem_cons_self) (by simp)
  | x :: r, y :: s, h1, h2, h => by
    obtain ⟨a1, a2⟩ := List.pairwise_cons.mp h1
    obtain ⟨b1, b2⟩ := List.pairwise_cons.mp h2
    have e : x = y := by
      have q1 := (h x).mp List.mem_cons_self
      have q2 := (h y).mpr List.mem_cons_self
      rcases List.mem_cons.mp q1 with q1 | q1
      · exact q1
      · rcases List.mem_cons.mp q2 with q2 | q2
        · exact q2.symm
        · have := a1 y q2; have := b1 x q1; omega
    subst e
    rw [srt_ext a2 b2 fun n => ⟨fun hn => ?_, fun hn => ?_⟩]
    · rcases List.mem_cons.mp ((h n).mp (List.mem_cons_of_mem _ hn)) with z | z
      · subst z; have := a1 n hn; omega
      · exact z
    · rcases List.mem_cons.mp ((h n).mpr (List.mem_cons_of_mem _ hn)) with z | z
      · subst z; have := b1 n hn; omega
      · exact z
def kvsOf (A : List Pg) : List (Key × Dt) := A.map fun p => (.inl p.num, p.dt)
theorem val_of (A : List Pg) (n : Int) : valD (kvsOf A) (.inl n) = (at_ A n).map Pg.dt := by
  unfold valD kvsOf at_
  rw [List.find?_map]
  rw [Option.map_map]
  congr 1
  congr 1
  funext p
  simp
theorem fold_of {acc : List (Key × Dt)} : ∀ {A : List Pg}, Nd A → (∀ p ∈ A, valD acc (.inl p.num) = none) → A.foldl (fun l p => putE l (.inl p.num) p.dt) acc = acc ++ kvsOf A
  | [], _, _ => by simp [kvsOf]
  | p :: r, h, hz => by
    have h : (p.num :: r.map Pg.num).Nodup := h
    obtain ⟨h1, h2⟩ := List.nodup_cons.mp h
    rw [List.foldl_cons, putE_new (hz p List.mem_cons_self), fold_of h2 fun q hq => ?_]
    · rw [List.append_assoc]; rfl
    · have hq0 := hz q (List.mem_cons_of_mem _ hq)
      unfold valD at hq0 ⊢
      rw [Option.map_eq_none_iff] at hq0 ⊢
      rw [List.find?_append, hq0]
      have hne : ¬ p.num = q.num := fun e => h1 (by rw [e]; exact List.mem_map_of_mem hq)
      simp [hne]
/-- in the old pages, as they say -/
def chB (A B : List Pg) : Key → Bool
  | .inl n => match at_ B n with
    | none => true
    | some q => match at_ A n with
      | none => true
      | some p => !(PD.eq q.pd p.pd)
  | .inr _ => false
def adB (A : List Pg) : Key → Bool
  | .inl n => (at_ A n).isNone
  | .inr _ => false
def chL (A B : List Pg) : List Int := (A.filter fun p => chB A B (.inl p.num)).map Pg.num
def adL (A B : List Pg) : List Int := (B.filter fun p => adB A (.inl p.num)).map Pg.num
theorem keys_of (A : List Pg) (f : Key → Bool) : ((kvsOf A).filter fun kv => f kv.1).map (fun kv => Dt.raw (kV kv.1)) = ((A.filter fun p => f (.inl p.num)).map Pg.num).map Dt.int := by
  unfold kvsOf
  rw [List.filter_map, List.map_map, List.map_map]
  rfl
theorem ch_mem {A B : List Pg} (hA : Nd A) {n : Int} : n ∈ chL A B ↔ ∃ p, at_ A n = some p ∧ Due A B n := by
  unfold chL
  rw [List.mem_map]
  constructor
  · rintro ⟨p, hp, rfl⟩
    obtain ⟨h1, h2⟩ := List.mem_filter.mp hp
    have ha := at_of hA h1
    refine ⟨p, ha, ?_⟩
    unfold Due
    unfold chB at h2
    rw [ha]
    cases hb : at_ B p.num with
    | none => simp
    | some q =>
      simp only [hb, ha] at h2
      simp only [Option.map_some]
      intro e
      rw [Option.some.inj e, (PD.eq_iff _ _).mpr rfl] at h2
      cases h2
  · rintro ⟨p, hp, hd⟩
    obtain ⟨h1, rfl⟩ := at_mem hp
    refine ⟨p, List.mem_filter.mpr ⟨h1, ?_⟩, rfl⟩
    unfold Due at hd
    unfold chB
    rw [hp] at hd
    cases hb : at_ B p.num with
    | none => simp only [hb]
    | some q =>
      simp only [hb, hp]
      rw [hb] at hd
      rw [PD.eq_false fun e => hd (by rw [Option.map_some, Option.map_some, e])]
      rfl
theorem ad_mem {A B : List Pg} (hB : Nd B) {n : Int} : n ∈ adL A B ↔ at_ A n = none ∧ Due A B n := by
  unfold adL
  rw [List.mem_map]
  constructor
  · rintro ⟨p, hp, rfl⟩
    obtain ⟨h1, h2⟩ := List.mem_filter.mp hp
    have hb := at_of hB h1
    have ha : at_ A p.num = none := Option.isNone_iff_eq_none.mp h2
    refine ⟨ha, ?_⟩
    unfold Due
    rw [ha, hb]
    simp
  · rintro ⟨ha, hd⟩
    unfold Due at hd
    rw [ha] at hd
    cases hb : at_ B n with
    | none => rw [hb] at hd; exact absurd rfl hd
    | some q =>
      obtain ⟨h1, rfl⟩ := at_mem hb
      exact ⟨q, List.mem_filter.mpr ⟨h1, by show (at_ A q.num).isNone = true; rw [ha]; rfl⟩, rfl⟩
theorem all_mem {A B : List Pg} (hA : Nd A) (hB : Nd B) {n : Int} : n ∈ chL A B ++ adL A B ↔ Due A B n := by
  rw [List.mem_append, ch_mem hA, ad_mem hB]
  constructor
  · rintro (⟨_, _, h⟩ | ⟨_, h⟩) <;> exact h
  · intro h
    cases ha : at_ A n with
    | none => exact .inr ⟨rfl, h⟩
    | some p => exact .inl ⟨p, rfl, h⟩
theorem all_nd {A B : List Pg} (hA : Nd A) (hB : Nd B) : (chL A B ++ adL A B).Nodup := by
  rw [List.nodup_append]
  refine ⟨?_, ?_, fun x hx y hy e => ?_⟩
  · exact List.Sublist.nodup (List.Sublist.map _ List.filter_sublist) hA
  · exact List.Sublist.nodup (List.Sublist.map _ List.filter_sublist) hB
  · subst e
    obtain ⟨p, h1, _⟩ := (ch_mem hA).mp hx
    obtain ⟨h2, _⟩ := (ad_mem hB).mp hy
    rw [h1] at h2; cases h2
end Lk83
namespace Lk83
open PySem L2 Ab
local macro_rules | `(tactic| walk_at "no") => `(tactic| first
  | with_reducible exact fun h => Bool.noConfusion (show true = false from h)
  | with_reducible exact fun h => Bool.noConfusion (show false = true from h)
  | exact fun h => absurd h (by decide)
  | exact fun h => absurd (of_decide_eq_true h) (by omega)
  | exact fun h => absurd (by omega) (of_decide_eq_false h)
  | exact fun h => absurd (by omega) (nd_t h)
  | exact fun h => absurd (nd_f h) (by omega)
  | fail "no")
local macro_rules | `(tactic| walk_at "kb") => `(tactic| first | exact kb_tt | exact kb_ll | exact kb_ii | exact kb_ib | exact kb_ss | exact kb_sb | exact kb_si | exact kb_tb | exact kb_ti | exact kb_ts | exact kb_tl | exact kb_lb | exact kb_li | exact kb_ls | exact kb_lt | exact kb_is | exact kb_it | exact kb_il | exact kb_st | exact kb_sl | exact kb_bb | exact kb_bi | exact kb_nb | exact kb_ni | exact kb_ns | exact kb_nt | exact kb_nl | exact kb_bs | exact kb_bt | exact kb_bl | fail "kb")
local macro_rules | `(tactic| walk_at "norm") => `(tactic| first
  | ((refine' norm_cons (rfl : _ = _ :: _) ?ea ?et); (case ea => first | with_reducible exact (rfl : Sl.val _ = _) | with_reducible exact (rfl : Sl.cel _ = _) | with_reducible exact (rfl : Sl.un = _) | with_reducible exact norm_v | with_reducible exact norm_n | with_reducible exact norm_o | exact norm_v | exact norm_n | exact norm_o | exact rfl | fail "norm"); (case et => walk_at "norm"))
  | exact (rfl : _ = ([] : List Sl))
  | fail "norm")
local macro_rules | `(tactic| walk_at "x") => `(tactic| first
  | ((with_reducible refine' norm_intro ?hn ?_); (case hn => walk_at "norm"))
  | ((with_reducible refine' we_var ?hh ?_); (case hh => exact rfl))
  | ((with_reducible refine' we_own ?hh ?_); (case hh => exact rfl))
  | with_reducible refine we_c ?_
  | with_reducible refine we_addG ?_
  | with_reducible refine addp_i ?_
  | with_reducible refine we_opI0 ?_
  | with_reducible refine we_opI ?_
  | with_reducible refine we_mulG ?_
  | ((with_reducible refine' mulp_r ?h1 ?_); (case h1 => first | decide | omega | fail "m"))
  | ((with_reducible refine' mulp_l ?h1 ?_); (case h1 => first | decide | omega | fail "m"))
  | with_reducible refine we_neg ?_
  | with_reducible refine we_ltG ?_
  | with_reducible refine ltp_i ?_
  | with_reducible refine we_eqG ?_
  | with_reducible refine we_neG ?_
  | with_reducible refine eqp_i ?_
  | with_reducible refine nep_i ?_
  | with_reducible refine we_ixG ?_
  | ((with_reducible refine' ixp ?h1 ?h2 ?_); (case h1 => exact rfl); (case h2 => exact rfl))
  | with_reducible refine we_lenG ?_
  | ((with_reducible refine' lenp ?hh ?_); (case hh => exact rfl))
  | with_reducible refine we_intG ?_
  | with_reducible refine intp_i ?_
  | with_reducible refine intp_b ?_
  | with_reducible refine we_abs ?_
  | with_reducible refine we_tup ?_
  | with_reducible refine we_lst ?_
  | with_reducible refine we_tuple ?_
  | with_reducible refine we_list ?_
  | with_reducible refine we_sum ?_
  | with_reducible refine we_max2 ?_
  | with_reducible refine we_min2 ?_
  | with_reducible refine wd_cons ?_
  | with_reducible refine wd_nil ?_
  | with_reducible refine wa_cons ?_
  | with_reducible refine wa_nil ?_
  | with_reducible refine we_callH ?_
  | with_reducible refine we_isiG ?_
  | ((with_reducible refine' isi_own ?h1 ?h2 ?_); (case h1 => exact rfl); (case h2 => walk_at "kb"))
  | ((with_reducible refine' isi_val ?h1 ?h2 ?_); (case h1 => exact rfl); (case h2 => walk_at "kb"))
  | ((with_reducible refine' isi_new ?h2 ?_); (case h2 => walk_at "kb"))
  | with_reducible refine we_chainI ?_
  | with_reducible refine we_andV ?_
  | with_reducible refine we_orV ?_
  | with_reducible refine we_notV ?_
  | with_reducible refine wt_test ?_
  | with_reducible refine wt_B ?_
  | with_reducible refine wt_yes ?_
  | with_reducible refine wt_and ?_
  | with_reducible refine wt_or ?_
  | with_reducible refine wt_not ?_
  | ((with_reducible refine' ws_retA ?hh ?_); (case hh => exact rfl))
  | with_reducible refine ws_ret ?_
  | with_reducible refine ws_if ?_
  | with_reducible refine ws_nil ?_
  | with_reducible refine ws_expr ?_
  | with_reducible refine ws_asgN rfl rfl ?_
  | with_reducible refine ws_setN ?_
  | with_reducible refine ws_asgG ?_
  | ((with_reducible refine' wg_tup ?hh ?_); (case hh => exact rfl))
  | with_reducible refine wgs_cons ?_
  | with_reducible refine wgs_nil ?_
  | with_reducible refine wg_nameN rfl rfl ?_
  | ((with_reducible refine' we_appendN ?hh ?_); (case hh => exact rfl))
  | ((with_reducible refine' we_reverseN ?hh ?_); (case hh => exact rfl))
  | ((with_reducible refine' ws_augN ?h1 ?h2 ?_); (case h1 => exact rfl); (case h2 => exact rfl))
  | (refine ⟨_, rfl, ⟨_, rfl⟩, ?_⟩)
  | (refine ⟨_, rfl, ?_⟩)
  | (refine ⟨_, _, _, rfl, rfl, rfl, ?_⟩)
  | (refine ⟨_, _, rfl, rfl, (Nat.le_of_ble_eq_true rfl : _ ≤ _), ?_⟩)
  | (refine ⟨_, _, rfl, rfl, ?_⟩)
  | (refine ⟨(Nat.le_of_ble_eq_true rfl : _ ≤ _), ?_⟩)
  | (refine ⟨(rfl : _ = true), ?_⟩)
  | ((refine' ⟨fun _ => ?_, fun hY => absurd hY ?k2⟩); (case k2 => walk_at "no"))
  | ((refine' ⟨fun hY => absurd hY ?k2, fun _ => ?_⟩); (case k2 => walk_at "no"))
  | (refine ⟨⟨(by omega), (by omega)⟩, ?_⟩)
  | (refine ⟨⟨(by decide), (by decide), (by decide)⟩, ?_⟩)
  | (refine ⟨(show (_ : Prop) from by first | decide | omega | fail "c"), ?_⟩)
  | fail "stop")
local macro_rules | `(tactic| walk_at "e") => `(tactic| first | with_reducible refine ws_seq ?_ | walk_at "x" | fail "stop")
local macro_rules | `(tactic| walk_at "xs") => `(tactic| repeat' walk_at "x")
local macro_rules | `(tactic| walk_at "es") => `(tactic| repeat' walk_at "e")
local macro_rules | `(tactic| walk_at "len") => `(tactic| ((intro as Post h); (repeat (first | (obtain ⟨e, _⟩ := h; exact (congrArg List.length e).trans rfl) | (obtain ⟨_, h⟩ := h)))))
local macro_rules | `(tactic| walk_at "x") => `(tactic| first
  | with_reducible refine we_isN ?_
  | with_reducible refine we_notN ?_
  | with_reducible refine we_slG ?_
  | with_reducible refine wo_none ?_
  | with_reducible refine wo_some ?_
  | ((with_reducible refine' ixp ?h1 ?h2 ?_); (case h1 => exact rfl); (case h2 => assumption))
  | ((with_reducible refine' ixp_s ?h1 ?h2 ?_); (case h1 => assumption); (case h2 => assumption))
  | ((with_reducible refine' lenp_s ?h1 ?_); (case h1 => assumption))
  | ((with_reducible refine' slp_s ?h1 ?_); (case h1 => assumption))
  | with_reducible refine we_join ?_
  | with_reducible refine we_gtS ?_
  | ((with_reducible refine' we_ktup ?h1 ?_); (case h1 => assumption))
  | fail "x3")
local macro_rules | `(tactic| walk_at "nd") => `(tactic| first
  | exact (rfl : _ = ([] : List Dt))
  | ((refine' normD_cons (rfl : _ = _ :: _) ?et); (case et => walk_at "nd"))
  | fail "nd")
local macro_rules | `(tactic| walk_at "x") => `(tactic| first
  | with_reducible refine we_sumG ?_
  | with_reducible refine eqp_st ?_
  | with_reducible refine nep_st ?_
  | ((with_reducible refine' eqp_sf ?h1 ?_); (case h1 => first | assumption | decide +kernel))
  | ((with_reducible refine' nep_sf ?h1 ?_); (case h1 => first | assumption | decide +kernel))
  | with_reducible refine we_inG ?_
  | with_reducible refine we_if ?_
  | ((with_reducible refine' we_clearN ?hh ?_); (case hh => exact rfl))
  | with_reducible refine we_notInG ?_
  | with_reducible refine we_smeth ?_
  | with_reducible refine we_makeD ?_
  | with_reducible refine we_makeK ?_
  | ((with_reducible refine' slp_tE ?h ?_); (case h => walk_at "nd"))
  | ((with_reducible refine' addp_tE ?hz ?h ?_); (case h => walk_at "nd"); (case hz => exact Nat.le_of_ble_eq_true rfl))
  | fail "x5")
local macro_rules | `(tactic| walk_at "tk") => `(tactic| refine .a (tk (by assumption) (by omega) (by omega) (by omega) fun _ _ _ _ _ => ?_))
section
variable {P : Program} {w : World} {K : PySem.W.Frag} {mg : Str → Option Value} {base : Heap}
def ap_pbn : AP := fun as Post => ∃ r : Res, as = [.val r.dt] ∧ Nd r.pgs ∧ r.pgs.length ≤ 1000 ∧ Post (.nw (.dK (kvsOf r.pgs))) as
theorem ok_pbn (T : Txt K mg) : FnOk P w K mg base CX0 1 T.f_pages_by_number T.fd_pages_by_number ["result"] (toSp K ap_pbn) := by
  refine fn_ab [] T.F_pages_by_number sc_pages_by_number (by rintro as Post ⟨r, rfl, _⟩; rfl) rfl (fun cdv A outer s H E hr => ⟨_, tm_pages_by_number T cdv A outer s H E hr, ?_⟩)
  rintro as Post ⟨r, rfl, hn, hl, k⟩
  unfold t_pages_by_number
  cases r with
  | unset d =>
    show WS K [] _ [.val (.tup [.str "unset", d]), .un] _
    walk_at "es"
    refine we_dnewK ?_
    exact ⟨rfl, k⟩
  | pages d A =>
    show WS K [] _ [.val (.tup [.str "pages", d, .tup (A.map Pg.dt)]), .un] _
    walk_at "es"
    refine we_dcT A Pg.dt (fun p => .inl p.num) Pg.dt rfl (by show A.length ≤ 1000000; exact Nat.le_trans hl (by decide)) ?_ (fun p hp => ?_) (fun p hp => ?_) ?_
    · walk_at "es"
      exact ⟨rfl, rfl⟩
    · obtain ⟨n, fl, cl, nt⟩ := p
      show WE K _ [.val (.tup [.str "pages", d, .tup (A.map Pg.dt)]), .val (.tup [.int n, .tup (fl.map blD), .tup (cl.map blD), .tup (nt.map blD)])] _
      walk_at "es"
      exact ⟨rfl, rfl⟩
    · show WE K _ [.val (.tup [.str "pages", d, .tup (A.map Pg.dt)]), .val p.dt] _
      walk_at "es"
      exact ⟨rfl, rfl⟩
    · have hf := fold_of (A := A) (acc := []) hn (fun _ _ => rfl)
      rw [List.nil_append] at hf
      rw [hf]
      exact ⟨rfl, k⟩
theorem kv_mem {A : List Pg} {k : Key} {dv : Dt} (hA : Nd A) (h : (k, dv) ∈ kvsOf A) : ∃ p ∈ A, k = .inl p.num ∧ dv = p.dt ∧ at_ A p.num = some p := by
  obtain ⟨p, hp, e⟩ := List.mem_map.mp h
  cases e
  exact ⟨p, hp, rfl, rfl, at_of hA hp⟩
def ap_chg : AP := fun as Post => ∃ r1 r2 : Res, as = [.val r1.dt, .val r2.dt] ∧ Nd r1.pgs ∧ Nd r2.pgs ∧ r1.pgs.length ≤ 5 ∧ r2.pgs.length ≤ 5 ∧ (∀ p ∈ r1.pgs, p.Ok3) ∧ (∀ p ∈ r2.pgs, p.Ok3) ∧
  ∀ ys : List Int, ys.length ≤ 10 → ys.Pairwise (· < ·) → (∀ n, n ∈ ys ↔ Due r1.pgs r2.pgs n) → Post (.new (ys.map Dt.int)) as
theorem ok_chg (T : Txt K mg) : FnOk P w K mg base CX0 2 T.f_changed_pages T.fd_changed_pages ["before", "after"] (toSp K ap_chg) := by
  refine fn_ab [] T.F_changed_pages sc_changed_pages (by rintro as Post ⟨r1, r2, rfl, _⟩; rfl) rfl (fun cdv A outer s H E hr => ⟨_, tm_changed_pages T (ok_pbn T) cdv A outer s H E hr, ?_⟩)
  rintro as Post ⟨r1, r2, rfl, n1, n2, l1, l2, o1, o2, k⟩
  unfold t_changed_pages
  show WS K [] _ [.val r1.dt, .val r2.dt, .un, .un, .un, .un, .un] _
  walk_at "es"
  refine .a ⟨r1, rfl, n1, by omega, ?_⟩
  walk_at "es"
  refine .a ⟨r2, rfl, n2, by omega, ?_⟩
  generalize r1.pgs = A at n1 l1 o1 k ⊢
  generalize r2.pgs = B at n2 l2 o2 k ⊢
  have kl : ∀ A : List Pg, (kvsOf A).length = A.length := fun A => List.length_map ..
  walk_at "es"
  refine ws_lockKeys (kvs := kvsOf A) rfl rfl rfl rfl (by rw [kl]; omega) (fun kv => chB A B kv.1) ?_ ?_
  · intro σ B0 H d us E hd hH hB hkv od k0 dv hm H' R keep hl hR
    obtain ⟨p, hp, rfl, rfl, hpa⟩ := kv_mem n1 hm
    obtain ⟨d2, o, q1, q2, q3, ws, rfl, q4⟩ := E.cel 3 _ rfl
    have hne : d2 ≠ d := fun z => by
      subst z
      exact absurd (E.sep 3 2 _ _ _ rfl rfl q1 hd) (by decide)
    have h2 : H' d2 = some (.dK ws) := keep d2 _ hne q2
    have hlen : 6 < σ.length := by rw [E.len]; show 6 < 7; omega
    have s6 : (σ.set 6 (some (kV (.inl p.num))))[6]? = some (some (kV (.inl p.num))) := List.getElem?_set_self hlen
    have s3 : (σ.set 6 (some (kV (.inl p.num))))[3]? = some (some (.ref d2)) := by rw [List.getElem?_set_ne (by decide)]; exact q1
    have s2 : (σ.set 6 (some (kV (.inl p.num))))[2]? = some (some (.ref d)) := by rw [List.getElem?_set_ne (by decide)]; exact hd
    have same : Same B0 H' := fun a u ha => keep a u (fun z => by subst z; rw [hB] at ha; cases ha) (E.bh a u ha)
    refine ⟨_, s6, _, s3, d2, _, rfl, .inl ⟨ws, .inl p.num, .inl h2, rfl, rfl⟩, _, rfl, ?_⟩
    have vb := val_of B p.num
    have va := val_of A p.num
    rw [hpa] at va
    obtain ⟨v1, f1, f2⟩ := hkv.valS va
    rcases q4.val (.inl p.num) with ⟨e1, e2⟩ | ⟨v2, dd2, e1, e2, hv2⟩
    · rw [e2] at vb
      rw [e1]
      refine Eq.mpr (if_pos rfl) ?_
      have hb : at_ B p.num = none := Option.map_eq_none_iff.mp vb.symm
      have hc : chB A B (.inl p.num) = true := by
        unfold chB
        simp only [hb]
      rw [show chB A B ((Sum.inl p.num : Key), p.dt).1 = true from hc] at hR
      exact hR
    · rw [e2] at vb
      obtain ⟨q, hq, rfl⟩ := Option.map_eq_some_iff.mp vb.symm
      rw [e1]
      refine Eq.mpr (if_neg (by simp)) ?_
      obtain ⟨a1, a2⟩ := Pg.pd_ok (o1 p hp)
      obtain ⟨b1, b2⟩ := Pg.pd_ok (o2 q (at_mem hq).1)
      obtain ⟨a3, a4⟩ := PD.py_ok _ a1
      obtain ⟨b3, b4⟩ := PD.py_ok _ b1
      have dp1 : Dp K H' v1 p.pd.py := dp_mono same (is_dp f2 (by rw [← Pg.pd_dt]; exact PD.py_dt _))
      have dp2 : Dp K H' v2 q.pd.py := dp_mono same (is_dp hv2 (by rw [← Pg.pd_dt]; exact PD.py_dt _))
      have hc : chB A B (.inl p.num) = !(PD.eq q.pd p.pd) := by
        unfold chB
        simp only [hq, hpa]
      rw [show chB A B ((Sum.inl p.num : Key), p.dt).1 = !(PD.eq q.pd p.pd) from hc] at hR
      exact ⟨.ref d2, s3, _, s6, d2, v2, rfl, .inl ⟨ws, .inl p.num, .inl h2, rfl, e1.symm⟩, .ref d, s2, _, s6, d, v1, rfl, .inl ⟨us, .inl p.num, .inr ⟨od, hl⟩, rfl, f1.symm⟩,
        .inr ⟨q.pd.py, p.pd.py, dp2, dp1, by unfold SeqAt.shaped; rw [b3, decide_eq_true (by omega)]; rfl, by unfold SeqAt.shaped; rw [a3, decide_eq_true (by omega)]; rfl, _, rfl, hR⟩⟩
  rw [keys_of A (chB A B)]
  walk_at "e"
  refine ws_lockKeys (kvs := kvsOf B) rfl rfl rfl rfl (by rw [kl]; omega) (fun kv => adB A kv.1) ?_ ?_
  · intro σ B0 H d us E hd hH hB hkv od k0 dv hm H' R keep hl hR
    obtain ⟨p, hp, rfl, rfl, hpa⟩ := kv_mem n2 hm
    obtain ⟨d2, o, q1, q2, q3, ws, rfl, q4⟩ := E.cel 2 _ rfl
    have hne : d2 ≠ d := fun z => by
      subst z
      exact absurd (E.sep 2 3 _ _ _ rfl rfl q1 hd) (by decide)
    have h2 : H' d2 = some (.dK ws) := keep d2 _ hne q2
    have hlen : 6 < σ.length := by rw [E.len]; show 6 < 7; omega
    have s6 : (σ.set 6 (some (kV (.inl p.num))))[6]? = some (some (kV (.inl p.num))) := List.getElem?_set_self hlen
    have s2 : (σ.set 6 (some (kV (.inl p.num))))[2]? = some (some (.ref d2)) := by rw [List.getElem?_set_ne (by decide)]; exact q1
    refine ⟨_, s6, _, s2, d2, _, rfl, .inl ⟨ws, .inl p.num, .inl h2, rfl, rfl⟩, _, rfl, ?_⟩
    have vb := val_of A p.num
    have e : (!(valV ws (.inl p.num : Key)).isSome) = adB A (.inl p.num) := by
      rw [q4.isS, vb]
      show _ = (at_ A p.num).isNone
      cases at_ A p.num <;> rfl
    rw [e]
    exact hR
  rw [keys_of B (adB A)]
  rw [show ((B.filter fun p => adB A (.inl p.num)).map Pg.num) = adL A B from rfl, show ((A.filter fun p => chB A B (.inl p.num)).map Pg.num) = chL A B from rfl]
  walk_at "es"
  refine we_sorted ?_
  show WE K _ [.val r1.dt, .val r2.dt, .cel (.dK (kvsOf A)), .cel (.dK (kvsOf B)), .acc ((chL A B).map Dt.int), .acc ((adL A B).map Dt.int), .un] _
  have lc : (chL A B).length ≤ 5 := by unfold chL; rw [List.length_map]; exact Nat.le_trans (List.length_filter_le _ _) l1
  have la : (adL A B).length ≤ 5 := by unfold adL; rw [List.length_map]; exact Nat.le_trans (List.length_filter_le _ _) l2
  walk_at "es"
  refine addp_l rfl rfl rfl rfl (by rw [List.length_map, List.length_map]; omega) ?_
  rw [← List.map_append]
  refine .a ⟨chL A B ++ adL A B, rfl, by rw [List.length_append]; omega, fun ys hp hs => ⟨rfl, k ys (by rw [hp.length_eq, List.length_append]; omega) ?_ fun n => ?_⟩⟩
  · have hd : ys.Nodup := hp.nodup_iff.mpr (all_nd n1 n2)
    exact (hs.and hd).imp fun ⟨q1, q2⟩ => by omega
  · rw [hp.mem_iff]
    exact all_mem n1 n2
def ap_due : AP := fun as Post => ∃ A B : List Pg, as = [.acc (A.map Pg.dt), .acc (B.map Pg.dt)] ∧ Nd A ∧ Nd B ∧ A.length ≤ 5 ∧ B.length ≤ 5 ∧ (∀ p ∈ A, p.Ok3) ∧ (∀ p ∈ B, p.Ok3) ∧ (∀ p ∈ A, 0 ≤ p.num ∧ p.num < 9100) ∧ (∀ p ∈ B, 0 ≤ p.num ∧ p.num < 9100) ∧
  ∀ ys : List Int, ys.Pairwise (· < ·) → (∀ n, n ∈ ys ↔ Due A B n) → Post (.new (ys.map Dt.int)) as
theorem filt_pd {A B : List Pg} (hA : Nd A) (hB : Nd B) (n : Int) : ((A.filter fun p => decide (p.num = n)).map Pg.pd = (B.filter fun p => decide (p.num = n)).map Pg.pd) ↔ ¬ Due A B n := by
  rw [nd_filter hA, nd_filter hB]
  unfold Due
  cases at_ A n <;> cases at_ B n <;> simp
theorem due_some {A B : List Pg} {n : Int} (h : Due A B n) : ∃ p ∈ A ++ B, p.num = n := by
  cases ha : at_ A n with
  | some p => exact ⟨p, List.mem_append_left _ (at_mem ha).1, (at_mem ha).2⟩
  | none =>
    cases hb : at_ B n with
    | some q => exact ⟨q, List.mem_append_right _ (at_mem hb).1, (at_mem hb).2⟩
    | none => exact absurd (by rw [ha, hb]) h
theorem ok_due (T : Txt K mg) : FnOk P w K mg base CX0 21 T.f__law_due T.fd__law_due ["_law_one", "_law_two"] (toSp K ap_due) := by
  have G1 := ok_same (P := P) (w := w) (base := base) T 18
  refine fn_ab [0, 1] T.F__law_due sc__law_due (by rintro as Post ⟨A, B, rfl, _⟩; rfl) rfl (fun cdv A outer s H E hr => ⟨_, tm__law_due T G1 cdv A outer s H E hr, ?_⟩)
  rintro as Post ⟨A, B, rfl, nA, nB, lA, lB, oA, oB, rA, rB, k⟩
  unfold t__law_due
  show WS K [0, 1] _ [.acc (A.map Pg.dt), .acc (B.map Pg.dt), .un, .un, .un, .un, .un, .un] _
  have mA : (A.map Pg.dt).length = A.length := List.length_map ..
  have mB : (B.map Pg.dt).length = B.length := List.length_map ..
  walk_at "es"
  refine for_lst ((A ++ B).map Pg.dt) (fun i G => ∃ (ch : List Int) (s3 s4 s5 : Sl), ch.length ≤ i ∧ (∀ n, n ∈ ch ↔ (∃ p ∈ (A ++ B).take i, p.num = n) ∧ Due A B n) ∧ G = [.acc (A.map Pg.dt), .acc (B.map Pg.dt), .acc (ch.map Dt.int), s3, s4, s5, .un, .un]) ?_ ?_ ?_
  · walk_at "es"
    refine addp_l rfl rfl rfl rfl (by omega) ?_
    rw [← List.map_append]
    exact .a ⟨rfl, [], _, _, _, Nat.le_refl _, fun n => by simp, rfl⟩
  · rintro i d G hd ⟨ch, s3, s4, s5, hcl, hch, rfl⟩
    rw [List.getElem?_map] at hd
    obtain ⟨p, hp, rfl⟩ := Option.map_eq_some_iff.mp hd
    have hi : i < (A ++ B).length := (List.getElem?_eq_some_iff.mp hp).1
    rw [List.length_append] at hi
    have hpm := List.mem_of_getElem? hp
    have hpt : (A ++ B).take (i + 1) = (A ++ B).take i ++ [p] := by rw [List.take_add_one, hp]; rfl
    obtain ⟨n, fl, cl, nt⟩ := p
    have ex : ∀ n', (∃ q ∈ (A ++ B).take (i + 1), q.num = n') ↔ (∃ q ∈ (A ++ B).take i, q.num = n') ∨ n' = n := fun n' => by
      rw [hpt]
      constructor
      · rintro ⟨q, hq, rfl⟩
        rcases List.mem_append.mp hq with hq | hq
        · exact .inl ⟨q, hq, rfl⟩
        · rw [List.mem_singleton.mp hq]; exact .inr rfl
      · rintro (⟨q, hq, rfl⟩ | rfl)
        · exact ⟨q, List.mem_append_left _ hq, rfl⟩
        · exact ⟨_, List.mem_append_right _ List.mem_cons_self, rfl⟩
    have okF : ∀ (C : List Pg), (∀ p ∈ C, p.Ok3) → C.length ≤ 5 → PD.oks ((C.filter fun p => decide (p.num = n)).map Pg.pd) ∧ PD.deps ((C.filter fun p => decide (p.num = n)).map Pg.pd) ≤ 6 ∧ ((C.filter fun p => decide (p.num = n)).map Pg.pd).length ≤ 5 := fun C hC hl => by
      refine ⟨PD.oks_iff.mpr fun y hy => ?_, PD.deps_le.mpr fun y hy => ?_, by rw [List.length_map]; exact Nat.le_trans (List.length_filter_le _ _) hl⟩
      · obtain ⟨q, hq, rfl⟩ := List.mem_map.mp hy
        exact (Pg.pd_ok (hC q (List.mem_filter.mp hq).1)).1
      · obtain ⟨q, hq, rfl⟩ := List.mem_map.mp hy
        exact (Pg.pd_ok (hC q (List.mem_filter.mp hq).1)).2
    obtain ⟨a1, a2, a3⟩ := okF A oA lA
    obtain ⟨b1, b2, b3⟩ := okF B oB lB
    have hs : SmP [.acc ((A.filter fun p => decide (p.num = n)).map Pg.dt), .acc ((B.filter fun p => decide (p.num = n)).map Pg.dt)] (PD.eqs ((A.filter fun p => decide (p.num = n)).map Pg.pd) ((B.filter fun p => decide (p.num = n)).map Pg.pd)) (max (PD.deps ((A.filter fun p => decide (p.num = n)).map Pg.pd)) (PD.deps ((B.filter fun p => decide (p.num = n)).map Pg.pd)) + 1) := by
      rw [← Pg.pds, ← Pg.pds]
      exact .lst _ _ a1 b1 (by omega) (by omega)
    rw [show (Pg.mk n fl cl nt).dt = .tup [.int n, .tup (fl.map blD), .tup (cl.map blD), .tup (nt.map blD)] from rfl]
    walk_at "es"
    refine lc_accP A Pg.dt Pg.dt (fun p => decide (p.num = n)) rfl (by omega) rfl rfl (fun p hp => ?_) ?_
    · obtain ⟨a, fl', cl', nt'⟩ := p
      show WT K _ [.acc (A.map Pg.dt), .acc (B.map Pg.dt), .acc (ch.map Dt.int), .val (.tup [.int n, .tup (fl.map blD), .tup (cl.map blD), .tup (nt.map blD)]), s4, s5, .un, .val (.tup [.int a, .tup (fl'.map blD), .tup (cl'.map blD), .tup (nt'.map blD)])] _
      walk_at "es"
      refine ⟨fun h => ?_, fun h => .a ⟨h, rfl⟩⟩
      walk_at "es"
      exact .a ⟨h, rfl, rfl⟩
    walk_at "es"
    refine lc_accP B Pg.dt Pg.dt (fun p => decide (p.num = n)) rfl (by omega) rfl rfl (fun p hp => ?_) ?_
    · obtain ⟨a, fl', cl', nt'⟩ := p
      show WT K _ [.acc (A.map Pg.dt), .acc (B.map Pg.dt), .acc (ch.map Dt.int), .val (.tup [.int n, .tup (fl.map blD), .tup (cl.map blD), .tup (nt.map blD)]), .acc ((A.filter fun p => decide (p.num = n)).map Pg.dt), s5, .un, .val (.tup [.int a, .tup (fl'.map blD), .tup (cl'.map blD), .tup (nt'.map blD)])] _
      walk_at "es"
      refine ⟨fun h => ?_, fun h => .a ⟨h, rfl⟩⟩
      walk_at "es"
      exact .a ⟨h, rfl, rfl⟩
    walk_at "es"
    refine .a ⟨_, _, hs, by omega, ?_⟩
    have hcm : (ch.map Dt.int).length < 1000000 := by rw [List.length_map]; omega
    by_cases hd : Due A B n
    · rw [PD.eqs_false fun e => (filt_pd nA nB n).mp e hd]
      walk_at "es"
      refine notInI (ns := ch) rfl ?_
      by_cases hin : n ∈ ch
      · rw [decide_eq_true hin]
        walk_at "es"
        refine .a ⟨ch, _, _, _, by omega, fun n' => ?_, rfl⟩
        rw [ex, hch]
        constructor
        · rintro ⟨h1, h2⟩; exact ⟨.inl h1, h2⟩
        · rintro ⟨h1 | rfl, h2⟩
          · exact ⟨h1, h2⟩
          · exact (hch _).mp hin
      · rw [decide_eq_false hin]
        walk_at "es"
        refine .a ⟨ch ++ [n], _, _, _, by simp; omega, fun n' => ?_, by rw [List.map_append]; rfl⟩
        rw [ex, List.mem_append, hch, List.mem_singleton]
        constructor
        · rintro (⟨h1, h2⟩ | rfl)
          · exact ⟨.inl h1, h2⟩
          · exact ⟨.inr rfl, hd⟩
        · rintro ⟨h1 | rfl, h2⟩
          · exact .inl ⟨h1, h2⟩
          · exact .inr rfl
    · rw [(PD.eqs_iff _ _).mpr ((filt_pd nA nB n).mpr hd)]
      walk_at "es"
      refine .a ⟨ch, _, _, _, by omega, fun n' => ?_, rfl⟩
      rw [ex, hch]
      constructor
      · rintro ⟨h1, h2⟩; exact ⟨.inl h1, h2⟩
      · rintro ⟨h1 | rfl, h2⟩
        · exact ⟨h1, h2⟩
        · exact absurd h2 hd
  · rintro G ⟨ch, s3, s4, s5, hcl, hch, rfl⟩
    rw [List.length_map] at hcl
    rw [List.length_map, List.take_length] at hch
    have hmem : ∀ n, n ∈ ch ↔ Due A B n := fun n => by
      rw [hch]
      exact ⟨fun h => h.2, fun h => ⟨due_some h, h⟩⟩
    have hrng : ∀ n, n ∈ ch → 0 ≤ n ∧ n < 9100 := fun n h => by
      obtain ⟨p, hp, rfl⟩ := ((hch n).mp h).1
      rcases List.mem_append.mp hp with hp | hp
      · exact rA p hp
      · exact rB p hp
    walk_at "es"
    refine lc_rngV 9100 (fun x => .int (x : Int)) (fun x => decide ((x : Int) ∈ ch)) ?_ (fun x hx => ?_) ?_
    · walk_at "es"
      exact .a ⟨rfl, by omega, rfl, rfl, rfl⟩
    · show WT K _ [.acc (A.map Pg.dt), .acc (B.map Pg.dt), .acc (ch.map Dt.int), s3, s4, s5, .val (.int (x : Int)), .un] _
      walk_at "es"
      refine inI (ns := ch) rfl ?_
      walk_at "es"
      refine ⟨fun h => ?_, fun h => .a ⟨h, rfl⟩⟩
      walk_at "es"
      exact .a ⟨h, rfl, rfl⟩
    · have e : ((List.range 9100).filter fun (x : Nat) => decide ((x : Int) ∈ ch)).map (fun x : Nat => Dt.int (x : Int)) = (((List.range 9100).filter fun (x : Nat) => decide ((x : Int) ∈ ch)).map fun x : Nat => (x : Int)).map Dt.int := by rw [List.map_map]; rfl
      rw [e]
      refine ⟨rfl, k _ ?_ fun n => ?_⟩
      · rw [List.pairwise_map]
        exact (List.pairwise_lt_range.filter _).imp fun h => by omega
      · rw [List.mem_map, ← hmem]
        constructor
        · rintro ⟨x, hx, rfl⟩
          exact of_decide_eq_true (List.mem_filter.mp hx).2
        · intro h
          obtain ⟨q1, q2⟩ := hrng n h
          refine ⟨n.toNat, List.mem_filter.mpr ⟨List.mem_range.mpr (by omega), decide_eq_true ?_⟩, by omega⟩
          rw [show ((n.toNat : Nat) : Int) = n by omega]
          exact h
end
end Lk83
namespace Lk83
open PySem L2 Ab
local macro_rules | `(tactic| walk_at "no") => `(tactic| first
  | with_reducible exact fun h => Bool.noConfusion (show true = false from h)
  | with_reducible exact fun h => Bool.noConfusion (show false = true from h)
  | exact fun h => absurd h (by decide)
  | exact fun h => absurd (of_decide_eq_true h) (by omega)
  | exact fun h => absurd (by omega) (of_decide_eq_false h)
  | exact fun h => absurd (by omega) (nd_t h)
  | exact fun h => absurd (nd_f h) (by omega)
  | fail "no")
local macro_rules | `(tactic| walk_at "kb") => `(tactic| first | exact kb_tt | exact kb_ll | exact kb_ii | exact kb_ib | exact kb_ss | exact kb_sb | exact kb_si | exact kb_tb | exact kb_ti | exact kb_ts | exact kb_tl | exact kb_lb | exact kb_li | exact kb_ls | exact kb_lt | exact kb_is | exact kb_it | exact kb_il | exact kb_st | exact kb_sl | exact kb_bb | exact kb_bi | exact kb_nb | exact kb_ni | exact kb_ns | exact kb_nt | exact kb_nl | exact kb_bs | exact kb_bt | exact kb_bl | fail "kb")
local macro_rules | `(tactic| walk_at "norm") => `(tactic| first
  | ((refine' norm_cons (rfl : _ = _ :: _) ?ea ?et); (case ea => first | with_reducible exact (rfl : Sl.val _ = _) | with_reducible exact (rfl : Sl.cel _ = _) | with_reducible exact (rfl : Sl.un = _) | with_reducible exact norm_v | with_reducible exact norm_n | with_reducible exact norm_o | exact norm_v | exact norm_n | exact norm_o | exact rfl | fail "norm"); (case et => walk_at "norm"))
  | exact (rfl : _ = ([] : List Sl))
  | fail "norm")
local macro_rules | `(tactic| walk_at "x") => `(tactic| first
  | ((with_reducible refine' norm_intro ?hn ?_); (case hn => walk_at "norm"))
  | ((with_reducible refine' we_var ?hh ?_); (case hh => exact rfl))
  | ((with_reducible refine' we_own ?hh ?_); (case hh => exact rfl))
  | with_reducible refine we_c ?_
  | with_reducible refine we_addG ?_
  | with_reducible refine addp_i ?_
  | with_reducible refine we_opI0 ?_
  | with_reducible refine we_opI ?_
  | with_reducible refine we_mulG ?_
  | ((with_reducible refine' mulp_r ?h1 ?_); (case h1 => first | decide | omega | fail "m"))
  | ((with_reducible refine' mulp_l ?h1 ?_); (case h1 => first | decide | omega | fail "m"))
  | with_reducible refine we_neg ?_
  | with_reducible refine we_ltG ?_
  | with_reducible refine ltp_i ?_
  | with_reducible refine we_eqG ?_
  | with_reducible refine we_neG ?_
  | with_reducible refine eqp_i ?_
  | with_reducible refine nep_i ?_
  | with_reducible refine we_ixG ?_
  | ((with_reducible refine' ixp ?h1 ?h2 ?_); (case h1 => exact rfl); (case h2 => exact rfl))
  | with_reducible refine we_lenG ?_
  | ((with_reducible refine' lenp ?hh ?_); (case hh => exact rfl))
  | with_reducible refine we_intG ?_
  | with_reducible refine intp_i ?_
  | with_reducible refine intp_b ?_
  | with_reducible refine we_abs ?_
  | with_reducible refine we_tup ?_
  | with_reducible refine we_lst ?_
  | with_reducible refine we_tuple ?_
  | with_reducible refine we_list ?_
  | with_reducible refine we_sum ?_
  | with_reducible refine we_max2 ?_
  | with_reducible refine we_min2 ?_
  | with_reducible refine wd_cons ?_
  | with_reducible refine wd_nil ?_
  | with_reducible refine wa_cons ?_
  | with_reducible refine wa_nil ?_
  | with_reducible refine we_callH ?_
  | with_reducible refine we_isiG ?_
  | ((with_reducible refine' isi_own ?h1 ?h2 ?_); (case h1 => exact rfl); (case h2 => walk_at "kb"))
  | ((with_reducible refine' isi_val ?h1 ?h2 ?_); (case h1 => exact rfl); (case h2 => walk_at "kb"))
  | ((with_reducible refine' isi_new ?h2 ?_); (case h2 => walk_at "kb"))
  | with_reducible refine we_chainI ?_
  | with_reducible refine we_andV ?_
  | with_reducible refine we_orV ?_
  | with_reducible refine we_notV ?_
  | with_reducible refine wt_test ?_
  | with_reducible refine wt_B ?_
  | with_reducible refine wt_yes ?_
  | with_reducible refine wt_and ?_
  | with_reducible refine wt_or ?_
  | with_reducible refine wt_not ?_
  | ((with_reducible refine' ws_retA ?hh ?_); (case hh => exact rfl))
  | with_reducible refine ws_ret ?_
  | with_reducible refine ws_if ?_
  | with_reducible refine ws_nil ?_
  | with_reducible refine ws_expr ?_
  | with_reducible refine ws_asgN rfl rfl ?_
  | with_reducible refine ws_setN ?_
  | with_reducible refine ws_asgG ?_
  | ((with_reducible refine' wg_tup ?hh ?_); (case hh => exact rfl))
  | with_reducible refine wgs_cons ?_
  | with_reducible refine wgs_nil ?_
  | with_reducible refine wg_nameN rfl rfl ?_
  | ((with_reducible refine' we_appendN ?hh ?_); (case hh => exact rfl))
  | ((with_reducible refine' we_reverseN ?hh ?_); (case hh => exact rfl))
  | ((with_reducible refine' ws_augN ?h1 ?h2 ?_); (case h1 => exact rfl); (case h2 => exact rfl))
  | (refine ⟨_, rfl, ⟨_, rfl⟩, ?_⟩)
  | (refine ⟨_, rfl, ?_⟩)
  | (refine ⟨_, _, _, rfl, rfl, rfl, ?_⟩)
  | (refine ⟨_, _, rfl, rfl, (Nat.le_of_ble_eq_true rfl : _ ≤ _), ?_⟩)
  | (refine ⟨_, _, rfl, rfl, ?_⟩)
  | (refine ⟨(Nat.le_of_ble_eq_true rfl : _ ≤ _), ?_⟩)
  | (refine ⟨(rfl : _ = true), ?_⟩)
  | ((refine' ⟨fun _ => ?_, fun hY => absurd hY ?k2⟩); (case k2 => walk_at "no"))
  | ((refine' ⟨fun hY => absurd hY ?k2, fun _ => ?_⟩); (case k2 => walk_at "no"))
  | (refine ⟨⟨(by omega), (by omega)⟩, ?_⟩)
  | (refine ⟨⟨(by decide), (by decide), (by decide)⟩, ?_⟩)
  | (refine ⟨(show (_ : Prop) from by first | decide | omega | fail "c"), ?_⟩)
  | fail "stop")
local macro_rules | `(tactic| walk_at "e") => `(tactic| first | with_reducible refine ws_seq ?_ | walk_at "x" | fail "stop")
local macro_rules | `(tactic| walk_at "xs") => `(tactic| repeat' walk_at "x")
local macro_rules | `(tactic| walk_at "es") => `(tactic| repeat' walk_at "e")
local macro_rules | `(tactic| walk_at "len") => `(tactic| ((intro as Post h); (repeat (first | (obtain ⟨e, _⟩ := h; exact (congrArg List.length e).trans rfl) | (obtain ⟨_, h⟩ := h)))))
local macro_rules | `(tactic| walk_at "x") => `(tactic| first
  | with_reducible refine we_isN ?_
  | with_reducible refine we_notN ?_
  | with_reducible refine we_slG ?_
  | with_reducible refine wo_none ?_
  | with_reducible refine wo_some ?_
  | ((with_reducible refine' ixp ?h1 ?h2 ?_); (case h1 => exact rfl); (case h2 => assumption))
  | ((with_reducible refine' ixp_s ?h1 ?h2 ?_); (case h1 => assumption); (case h2 => assumption))
  | ((with_reducible refine' lenp_s ?h1 ?_); (case h1 => assumption))
  | ((with_reducible refine' slp_s ?h1 ?_); (case h1 => assumption))
  | with_reducible refine we_join ?_
  | with_reducible refine we_gtS ?_
  | ((with_reducible refine' we_ktup ?h1 ?_); (case h1 => assumption))
  | fail "x3")
local macro_rules | `(tactic| walk_at "nd") => `(tactic| first
  | exact (rfl : _ = ([] : List Dt))
  | ((refine' normD_cons (rfl : _ = _ :: _) ?et); (case et => walk_at "nd"))
  | fail "nd")
local macro_rules | `(tactic| walk_at "x") => `(tactic| first
  | with_reducible refine we_sumG ?_
  | with_reducible refine eqp_st ?_
  | with_reducible refine nep_st ?_
  | ((with_reducible refine' eqp_sf ?h1 ?_); (case h1 => first | assumption | decide +kernel))
  | ((with_reducible refine' nep_sf ?h1 ?_); (case h1 => first | assumption | decide +kernel))
  | with_reducible refine we_inG ?_
  | with_reducible refine we_if ?_
  | ((with_reducible refine' we_clearN ?hh ?_); (case hh => exact rfl))
  | with_reducible refine we_notInG ?_
  | with_reducible refine we_smeth ?_
  | with_reducible refine we_makeD ?_
  | with_reducible refine we_makeK ?_
  | ((with_reducible refine' slp_tE ?h ?_); (case h => walk_at "nd"))
  | ((with_reducible refine' addp_tE ?hz ?h ?_); (case h => walk_at "nd"); (case hz => exact Nat.le_of_ble_eq_true rfl))
  | fail "x5")
local macro_rules | `(tactic| walk_at "tk") => `(tactic| refine .a (tk (by assumption) (by omega) (by omega) (by omega) fun _ _ _ _ _ => ?_))
theorem ints_pd (l : List Int) : PD.dts (l.map PD.int) = l.map Dt.int := map_pd (fun _ => by rw [PD.dt]) l
theorem sm_ints {ys zs : List Int} (e : ys = zs) (hl : ys.length ≤ 10) : SmP [.acc (ys.map Dt.int), .acc (zs.map Dt.int)] true 1 := by
  subst e
  have h := SmP.lst (ys.map PD.int) (ys.map PD.int) (PD.oks_iff.mpr fun y hy => by
    obtain ⟨x, _, rfl⟩ := List.mem_map.mp hy
    rw [PD.ok]; trivial) (PD.oks_iff.mpr fun y hy => by
    obtain ⟨x, _, rfl⟩ := List.mem_map.mp hy
    rw [PD.ok]; trivial) (by rw [List.length_map]; omega) (by rw [List.length_map]; omega)
  have hd : PD.deps (ys.map PD.int) = 0 := Nat.le_zero.mp (PD.deps_le.mpr fun y hy => by
    obtain ⟨x, _, rfl⟩ := List.mem_map.mp hy
    rw [PD.dep]; omega)
  rw [ints_pd, (PD.eqs_iff _ _).mpr rfl, hd] at h
  exact h
theorem ints_at {l : List Int} {g : Int} (h0 : 0 ≤ g) (h1 : g < l.length) : ∃ z ∈ l, atI (l.map Dt.int) g = some (.int z) := by
  obtain ⟨n, rfl⟩ := Int.eq_ofNat_of_zero_le h0
  obtain ⟨z, hz⟩ : ∃ z, l[n]? = some z := ⟨_, List.getElem?_eq_getElem (by omega)⟩
  exact ⟨z, List.mem_of_getElem? hz, atI_of rfl (by rw [List.getElem?_map, hz]; rfl)⟩
def ap_law : AP := fun as Post => ∃ ns, as = [.val (.scr ns)] ∧ Post (.val (.bl true)) [.val (.scr ns)]
theorem due_self (A : List Pg) (n : Int) : ¬ Due A A n := fun h => h rfl
theorem due_symm {A B : List Pg} {n : Int} : Due A B n ↔ Due B A n := ⟨fun h e => h e.symm, fun h e => h e.symm⟩
section
variable {P : Program} {w : World} {K : PySem.W.Frag} {mg : Str → Option Value} {base : Heap}
theorem ok_law (T : Txt K mg) : FnOk P w K mg base CX0 22 T.f_law T.fd_law ["_law_script"] (toSp K ap_law) := by
  have G1 := ok_pool (P := P) (w := w) (base := base) T
  have G2 := ok_take (P := P) (w := w) (base := base) T
  have G3 := ok_page (P := P) (w := w) (base := base) T
  have G4 := ok_sec (P := P) (w := w) (base := base) T
  have G5 := ok_res (P := P) (w := w) (base := base) T
  have G6 := ok_due (P := P) (w := w) (base := base) T
  have G7 := ok_same (P := P) (w := w) (base := base) T 18
  have G8 := ok_chg (P := P) (w := w) (base := base) T
  refine fn_ab [] T.F_law sc_law (by rintro as Post ⟨ns, rfl, _⟩; rfl) rfl (fun cdv A outer s H E hr => ⟨_, tm_law T G1 G2 G3 G4 G5 G6 G7 G8 cdv A outer s H E hr, ?_⟩)
  rintro as Post ⟨ns, rfl, fk⟩
  unfold t_law
  show WS K [] _ [.val (.scr ns), .un, .un, .un, .un, .un, .un, .un, .un, .un, .un, .un, .un, .un, .un] _
  walk_at "es"
  refine .a ⟨ns, 0, rfl, by omega, by omega, fun d0 h0 => ?_⟩
  walk_at "es"
  refine .a ⟨d0, 0, 9000, rfl, h0, by omega, by omega, by omega, by omega, fun d1 st h1 st0 st1 => ?_⟩
  walk_at "es"
  refine .a ⟨d1, 0 + 1, 6, rfl, h1, by omega, by omega, by omega, by omega, fun d2 mn h2 mn0 mn1 => ?_⟩
  obtain ⟨mn, rfl⟩ := Int.eq_ofNat_of_zero_le mn0
  walk_at "es"
  refine .a ⟨d2, 0 + 1 + 1, 5, rfl, h2, by omega, by omega, by omega, by omega, fun d3 g3 h3 g30 g31 => ?_⟩
  obtain ⟨sh, hsm, hsa⟩ := ints_at (l := [1, 0, 2, -1, -2]) g30 g31
  have hsb : -2 ≤ sh ∧ sh ≤ 2 := (show ∀ z ∈ ([1, 0, 2, -1, -2] : List Int), -2 ≤ z ∧ z ≤ 2 by decide) sh hsm
  walk_at "es"
  walk_at "es"
  refine .a ⟨d3, 0 + 1 + 1 + 1, 6, rfl, h3, by omega, by omega, by omega, by omega, fun d4 g4 h4 g40 g41 => ?_⟩
  obtain ⟨ot, hom, hoa⟩ := ints_at (l := [0, 3, 1, 4, 5, 2]) g40 g41
  have hob : 0 ≤ ot ∧ ot ≤ 5 := (show ∀ z ∈ ([0, 3, 1, 4, 5, 2] : List Int), 0 ≤ z ∧ z ≤ 5 by decide) ot hom
  walk_at "es"
  refine .a ⟨d4, 0 + 1 + 1 + 1 + 1, 3, rfl, h4, by omega, by omega, by omega, by omega, fun d5 md h5 md0 md1 => ?_⟩
  walk_at "es"
  refine .a ⟨d5, 0 + 1 + 1 + 1 + 1 + 1, 2, rfl, h5, by omega, by omega, by omega, by omega, fun d6 g6 h6 g60 g61 => ?_⟩
  walk_at "es"
  refine .a ⟨d6, 0 + 1 + 1 + 1 + 1 + 1 + 1, 8, rfl, h6, by omega, by omega, by omega, by omega, fun d7 u1 h7 u10 u11 => ?_⟩
  walk_at "es"
  refine .a ⟨d7, 0 + 1 + 1 + 1 + 1 + 1 + 1 + 1, 8, rfl, h7, by omega, by omega, by omega, by omega, fun d8 u2 h8 u20 u21 => ?_⟩
  generalize hc8 : (0 + 1 + 1 + 1 + 1 + 1 + 1 + 1 + 1 : Int) = c8 at h8
  walk_at "es"
  refine lc_range1H ?_
  walk_at "es"
  refine .a ⟨mn, rfl, by omega, rfl, rfl, fun i es G => ∃ A : List Pg, es = A.map Pg.dt ∧ A.length = i ∧ (∀ p ∈ A, p.Ok) ∧ Row (1 + st) A ∧ G = [.val (.scr ns), .cel (.lst d8), .val (.int (1 + st)), .val (.int mn), .val (.int sh), .val (.int ot), .val (.int md), .val (.int (2 - g6)), .acc [.bl (decide (u1 = 5)), .bl (decide (u2 = 5))], .un, .un, .un, .un, .un, .un], ⟨[], rfl, rfl, (fun _ h => nomatch h), (fun k p h => by simp at h), rfl⟩, ?_, ?_⟩
  · rintro i es G hi ⟨A, rfl, hl, ho, hr, rfl⟩
    walk_at "es"
    refine .a ⟨ns, 1 + i, rfl, by omega, by omega, fun ds h0 => ?_⟩
    walk_at "es"
    refine .a ⟨ds, 0, 1 + st + i, 2 - g6, rfl, h0, by omega, by omega, by omega, by omega, fun ds' c' p' _ _ _ q1 q2 => ?_⟩
    walk_at "es"
    exact .a ⟨A ++ [p'], by rw [List.map_append]; rfl, by simp [hl], all_snoc ho q1, row_snoc hr (by rw [q2, hl]), rfl⟩
  rintro es G ⟨A, rfl, hl, ho, hr, rfl⟩
  have hmx : ∃ n0 : Int, (if 1 + st + sh > 1 then 1 + st + sh else 1) = n0 ∧ 1 ≤ n0 ∧ n0 ≤ 9003 := ⟨_, rfl, by split <;> omega, by split <;> omega⟩
  obtain ⟨n0, hn0, n00, n01⟩ := hmx
  walk_at "es"
  rw [hn0]
  refine .a ⟨ns, A, n0, ot, md, 2 - g6, rfl, by omega, ho, by omega, by omega, by omega, by omega, fun B hbl hbo hbr => ?_⟩
  have hc80 : c8 = 8 := hc8.symm
  generalize decide (u1 = 5) = b1
  generalize decide (u2 = 5) = b2
  walk_at "es"
  refine .a ⟨d8, c8, A, b1, rfl, h8, by omega, by omega, by omega, fun d9 c9 r1 h9 c90 c91 e1 => ?_⟩
  walk_at "es"
  refine .a ⟨d9, c9, B, b2, rfl, h9, by omega, by omega, by omega, fun d10 c10 r2 h10 c100 c101 e2 => ?_⟩
  have q1 : Nd r1.pgs ∧ r1.pgs.length ≤ 5 ∧ (∀ p ∈ r1.pgs, p.Ok3) ∧ (∀ p ∈ r1.pgs, 0 ≤ p.num ∧ p.num < 9100) := by
    rw [e1]
    cases b1 with
    | true => exact ⟨(Row.nd (a := 0) fun k p h => by simp at h), Nat.zero_le _, (fun _ h => nomatch h), (fun _ h => nomatch h)⟩
    | false => exact ⟨hr.nd, by show A.length ≤ 5; omega, (fun p hp => (ho p hp).ok3), fun p hp => by
        obtain ⟨k, hk⟩ := List.mem_iff_getElem?.mp hp
        have := hr k p hk
        have hk2 : k < A.length := (List.getElem?_eq_some_iff.mp hk).1
        omega⟩
  have q2 : Nd r2.pgs ∧ r2.pgs.length ≤ 5 ∧ (∀ p ∈ r2.pgs, p.Ok3) ∧ (∀ p ∈ r2.pgs, 0 ≤ p.num ∧ p.num < 9100) := by
    rw [e2]
    cases b2 with
    | true => exact ⟨(Row.nd (a := 0) fun k p h => by simp at h), Nat.zero_le _, (fun _ h => nomatch h), (fun _ h => nomatch h)⟩
    | false => exact ⟨hbr.nd, hbl, hbo, fun p hp => by
        obtain ⟨k, hk⟩ := List.mem_iff_getElem?.mp hp
        have := hbr k p hk
        have hk2 : k < B.length := (List.getElem?_eq_some_iff.mp hk).1
        omega⟩
  obtain ⟨n1, l1, o1, r1r⟩ := q1
  obtain ⟨n2, l2, o2, r2r⟩ := q2
  cases b1 <;> cases b2
  all_goals walk_at "es"
  all_goals refine .a ⟨r1.pgs, r2.pgs, by rw [e1, e2]; rfl, n1, n2, l1, l2, o1, o2, r1r, r2r, fun ys hp hm => ?_⟩
  all_goals walk_at "es"
  all_goals refine .a ⟨r1, r2, rfl, n1, n2, l1, l2, o1, o2, fun zs zl zp zm => ?_⟩
  all_goals walk_at "es"
  all_goals refine .a ⟨_, _, sm_ints (srt_ext zp hp fun n => by rw [zm, hm]) zl, by omega, ?_⟩
  all_goals walk_at "es"
  all_goals refine .a ⟨r2, r1, rfl, n2, n1, l2, l1, o2, o1, fun zs zl zp zm => ?_⟩
  all_goals walk_at "es"
  all_goals refine .a ⟨_, _, sm_ints (srt_ext zp hp fun n => by rw [zm, hm, due_symm]) zl, by omega, ?_⟩
  all_goals walk_at "es"
  all_goals refine .a ⟨r1, r1, rfl, n1, n1, l1, l1, o1, o1, fun zs zl zp zm => ?_⟩
  all_goals walk_at "es"
  all_goals refine .a ⟨_, _, sm_ints (show zs = [] from List.eq_nil_iff_forall_not_mem.mpr fun n h => due_self r1.pgs n ((zm n).mp h)) zl, by omega, ?_⟩
  all_goals walk_at "es"
  all_goals refine .a ⟨r2, r2, rfl, n2, n2, l2, l2, o2, o2, fun zs zl zp zm => ?_⟩
  all_goals walk_at "es"
  all_goals refine .a ⟨_, _, sm_ints (show zs = [] from List.eq_nil_iff_forall_not_mem.mpr fun n h => due_self r2.pgs n ((zm n).mp h)) zl, by omega, ?_⟩
  all_goals walk_at "es"
  all_goals refine .a ⟨r1, r2, rfl, n1, n2, l1, l2, o1, o2, fun zs zl zp zm => ?_⟩
  all_goals walk_at "es"
  all_goals refine .a ⟨_, _, sm_ints (srt_ext zp hp fun n => by rw [zm, hm]) zl, by omega, ?_⟩
  all_goals walk_at "es"
  all_goals exact fk
end
theorem law_pre {ns : List Int} (hl : ns.length ≤ 63) {Post : Re → List Sl → Prop} (hp : ∀ as, Post (.val (.bl true)) as) : ap_law [.val (.scr ns)] Post := ⟨ns, rfl, hp _⟩
end Lk83
namespace Lk83
open PySem L2 Ab
theorem fin_mk {l : PySem.W.OpenLaw} {w : World} {K : PySem.W.Frag} {h : Heap} {mg : Str → Option Value} {fa : Addr} (X : K.In h) (G : h.Ns mainGlobals mg) (hfa : mg "law" = some (.ref fa))
    {f0 : Addr} {od0 an0 : Option Addr} {sl0 : Array (Option Value)} {oc0 kV0 dc0 pm0 cd0 ct0 : Value}
    (a0 : PySem.W.nsIn K mainGlobals "pages_by_number" = some (some (.ref f0))) (l0 : K.lookup f0 = some ⟨oc0, od0, .func (PySem.W.fnOf "pages_by_number" "pages_by_number" (defArgs s_pages_by_number) (defBody s_pages_by_number) (defScope s_pages_by_number) .none kV0 dc0 pm0 an0 cd0 ct0), sl0⟩) (c0 : PySem.W.codeIn K cd0 "pages_by_number" = true) (k0 : PySem.W.keepIn K (.ref f0) = true)
    {f1 : Addr} {od1 an1 : Option Addr} {sl1 : Array (Option Value)} {oc1 kV1 dc1 pm1 cd1 ct1 : Value}
    (a1 : PySem.W.nsIn K mainGlobals "changed_pages" = some (some (.ref f1))) (l1 : K.lookup f1 = some ⟨oc1, od1, .func (PySem.W.fnOf "changed_pages" "changed_pages" (defArgs s_changed_pages) (defBody s_changed_pages) (defScope s_changed_pages) .none kV1 dc1 pm1 an1 cd1 ct1), sl1⟩) (c1 : PySem.W.codeIn K cd1 "changed_pages" = true) (k1 : PySem.W.keepIn K (.ref f1) = true)
    {f2 : Addr} {od2 an2 : Option Addr} {sl2 : Array (Option Value)} {oc2 kV2 dc2 pm2 cd2 ct2 : Value}
    (a2 : PySem.W.nsIn K mainGlobals "_law_pool" = some (some (.ref f2))) (l2 : K.lookup f2 = some ⟨oc2, od2, .func (PySem.W.fnOf "_law_pool" "_law_pool" (defArgs s__law_pool) (defBody s__law_pool) (defScope s__law_pool) .none kV2 dc2 pm2 an2 cd2 ct2), sl2⟩) (c2 : PySem.W.codeIn K cd2 "_law_pool" = true) (k2 : PySem.W.keepIn K (.ref f2) = true)
    {f3 : Addr} {od3 an3 : Option Addr} {sl3 : Array (Option Value)} {oc3 kV3 dc3 pm3 cd3 ct3 : Value}
    (a3 : PySem.W.nsIn K mainGlobals "_law_take" = some (some (.ref f3))) (l3 : K.lookup f3 = some ⟨oc3, od3, .func (PySem.W.fnOf "_law_take" "_law_take" (defArgs s__law_take) (defBody s__law_take) (defScope s__law_take) .none kV3 dc3 pm3 an3 cd3 ct3), sl3⟩) (c3 : PySem.W.codeIn K cd3 "_law_take" = true) (k3 : PySem.W.keepIn K (.ref f3) = true)
    {f4 : Addr} {od4 an4 : Option Addr} {sl4 : Array (Option Value)} {oc4 kV4 dc4 pm4 cd4 ct4 : Value}
    (a4 : PySem.W.nsIn K mainGlobals "_law_same" = some (some (.ref f4))) (l4 : K.lookup f4 = some ⟨oc4, od4, .func (PySem.W.fnOf "_law_same" "_law_same" (defArgs s__law_same) (defBody s__law_same) (defScope s__law_same) .none kV4 dc4 pm4 an4 cd4 ct4), sl4⟩) (c4 : PySem.W.codeIn K cd4 "_law_same" = true) (k4 : PySem.W.keepIn K (.ref f4) = true)
    {f5 : Addr} {od5 an5 : Option Addr} {sl5 : Array (Option Value)} {oc5 kV5 dc5 pm5 cd5 ct5 : Value}
    (a5 : PySem.W.nsIn K mainGlobals "_law_line" = some (some (.ref f5))) (l5 : K.lookup f5 = some ⟨oc5, od5, .func (PySem.W.fnOf "_law_line" "_law_line" (defArgs s__law_line) (defBody s__law_line) (defScope s__law_line) .none kV5 dc5 pm5 an5 cd5 ct5), sl5⟩) (c5 : PySem.W.codeIn K cd5 "_law_line" = true) (k5 : PySem.W.keepIn K (.ref f5) = true)
    {f6 : Addr} {od6 an6 : Option Addr} {sl6 : Array (Option Value)} {oc6 kV6 dc6 pm6 cd6 ct6 : Value}
    (a6 : PySem.W.nsIn K mainGlobals "_law_page" = some (some (.ref f6))) (l6 : K.lookup f6 = some ⟨oc6, od6, .func (PySem.W.fnOf "_law_page" "_law_page" (defArgs s__law_page) (defBody s__law_page) (defScope s__law_page) .none kV6 dc6 pm6 an6 cd6 ct6), sl6⟩) (c6 : PySem.W.codeIn K cd6 "_law_page" = true) (k6 : PySem.W.keepIn K (.ref f6) = true)
    {f7 : Addr} {od7 an7 : Option Addr} {sl7 : Array (Option Value)} {oc7 kV7 dc7 pm7 cd7 ct7 : Value}
    (a7 : PySem.W.nsIn K mainGlobals "_law_bent" = some (some (.ref f7))) (l7 : K.lookup f7 = some ⟨oc7, od7, .func (PySem.W.fnOf "_law_bent" "_law_bent" (defArgs s__law_bent) (defBody s__law_bent) (defScope s__law_bent) .none kV7 dc7 pm7 an7 cd7 ct7), sl7⟩) (c7 : PySem.W.codeIn K cd7 "_law_bent" = true) (k7 : PySem.W.keepIn K (.ref f7) = true)
    {f8 : Addr} {od8 an8 : Option Addr} {sl8 : Array (Option Value)} {oc8 kV8 dc8 pm8 cd8 ct8 : Value}
    (a8 : PySem.W.nsIn K mainGlobals "_law_turned" = some (some (.ref f8))) (l8 : K.lookup f8 = some ⟨oc8, od8, .func (PySem.W.fnOf "_law_turned" "_law_turned" (defArgs s__law_turned) (defBody s__law_turned) (defScope s__law_turned) .none kV8 dc8 pm8 an8 cd8 ct8), sl8⟩) (c8 : PySem.W.codeIn K cd8 "_law_turned" = true) (k8 : PySem.W.keepIn K (.ref f8) = true)
    {f9 : Addr} {od9 an9 : Option Addr} {sl9 : Array (Option Value)} {oc9 kV9 dc9 pm9 cd9 ct9 : Value}
    (a9 : PySem.W.nsIn K mainGlobals "_law_second" = some (some (.ref f9))) (l9 : K.lookup f9 = some ⟨oc9, od9, .func (PySem.W.fnOf "_law_second" "_law_second" (defArgs s__law_second) (defBody s__law_second) (defScope s__law_second) .none kV9 dc9 pm9 an9 cd9 ct9), sl9⟩) (c9 : PySem.W.codeIn K cd9 "_law_second" = true) (k9 : PySem.W.keepIn K (.ref f9) = true)
    {f10 : Addr} {od10 an10 : Option Addr} {sl10 : Array (Option Value)} {oc10 kV10 dc10 pm10 cd10 ct10 : Value}
    (a10 : PySem.W.nsIn K mainGlobals "_law_result" = some (some (.ref f10))) (l10 : K.lookup f10 = some ⟨oc10, od10, .func (PySem.W.fnOf "_law_result" "_law_result" (defArgs s__law_result) (defBody s__law_result) (defScope s__law_result) .none kV10 dc10 pm10 an10 cd10 ct10), sl10⟩) (c10 : PySem.W.codeIn K cd10 "_law_result" = true) (k10 : PySem.W.keepIn K (.ref f10) = true)
    {f11 : Addr} {od11 an11 : Option Addr} {sl11 : Array (Option Value)} {oc11 kV11 dc11 pm11 cd11 ct11 : Value}
    (a11 : PySem.W.nsIn K mainGlobals "_law_due" = some (some (.ref f11))) (l11 : K.lookup f11 = some ⟨oc11, od11, .func (PySem.W.fnOf "_law_due" "_law_due" (defArgs s__law_due) (defBody s__law_due) (defScope s__law_due) .none kV11 dc11 pm11 an11 cd11 ct11), sl11⟩) (c11 : PySem.W.codeIn K cd11 "_law_due" = true) (k11 : PySem.W.keepIn K (.ref f11) = true)
    {f12 : Addr} {od12 an12 : Option Addr} {sl12 : Array (Option Value)} {oc12 kV12 dc12 pm12 cd12 ct12 : Value}
    (a12 : PySem.W.nsIn K mainGlobals "law" = some (some (.ref f12))) (l12 : K.lookup f12 = some ⟨oc12, od12, .func (PySem.W.fnOf "law" "law" (defArgs s_law) (defBody s_law) (defScope s_law) .none kV12 dc12 pm12 an12 cd12 ct12), sl12⟩) (c12 : PySem.W.codeIn K cd12 "law" = true) (k12 : PySem.W.keepIn K (.ref f12) = true)
    (z_abs : PySem.W.nsIn K mainGlobals "abs" = some none)
    (z_bool : PySem.W.nsIn K mainGlobals "bool" = some none)
    (z_int : PySem.W.nsIn K mainGlobals "int" = some none)
    (z_isinstance : PySem.W.nsIn K mainGlobals "isinstance" = some none)
    (z_len : PySem.W.nsIn K mainGlobals "len" = some none)
    (z_list : PySem.W.nsIn K mainGlobals "list" = some none)
    (z_max : PySem.W.nsIn K mainGlobals "max" = some none)
    (z_range : PySem.W.nsIn K mainGlobals "range" = some none)
    (z_sorted : PySem.W.nsIn K mainGlobals "sorted" = some none)
    (z_str : PySem.W.nsIn K mainGlobals "str" = some none)
    (z_tuple : PySem.W.nsIn K mainGlobals "tuple" = some none)
    : ∃ fd : FuncData, (∀ (s : Shared) (v : Value), BindsTo s fd ⟨[v], []⟩ [("_law_script", v)]) ∧ ∀ base : Heap, K.In base → base.Ns mainGlobals mg → FnOk l.prog w K mg base CX0 22 fa fd ["_law_script"] (toSp K ap_law) := by
  obtain ⟨T, e, hb⟩ := txt_mk X G a0 l0 c0 k0 a1 l1 c1 k1 a2 l2 c2 k2 a3 l3 c3 k3 a4 l4 c4 k4 a5 l5 c5 k5 a6 l6 c6 k6 a7 l7 c7 k7 a8 l8 c8 k8 a9 l9 c9 k9 a10 l10 c10 k10 a11 l11 c11 k11 a12 l12 c12 k12 z_abs z_bool z_int z_isinstance z_len z_list z_max z_range z_sorted z_str z_tuple
  have e2 : T.f_law = fa := by
    have := T.g_law
    rw [hfa] at this
    cases this
    rfl
  exact ⟨T.fd_law, hb, fun base _ _ => by rw [← e2]; exact ok_law T⟩
end Lk83
open PySem PySem.W PyProof.Rows
set_option maxRecDepth 100000 in
set_option maxHeartbeats 0 in
theorem PySem.Challenge.cw_stylepages_k83_changed_pages_holds : PySem.Challenge.rw_stylepages_k83_changed_pages.Holds := by
  w_on; o_law; k_head; (case hw => w_witness2)
  k_fill
  refine L2.walk_of (l := PySem.Challenge.rw_stylepages_k83_changed_pages) (n := 63) (k := 22) (x := "_law_script") (CX := fun _ => L2.CX0) (sp := fun w => Ab.toSp _ Lk83.ap_law) rfl (by decide) rfl ⟨rfl, by decide, by decide⟩ (fun w h Y => PySem.W.kIn_of Y) ?F (fun _ _ a ns hl _ hS => Ab.law_sp hS (fun Post hp => Lk83.law_pre hl hp)) (fun _ _ _ _ _ h => h)
  case F =>
    intro w mg fa h KX G hmg
    refine' Lk83.fin_mk KX G hmg ?a0 ?l0 ?c0 ?k0 ?a1 ?l1 ?c1 ?k1 ?a2 ?l2 ?c2 ?k2 ?a3 ?l3 ?c3 ?k3 ?a4 ?l4 ?c4 ?k4 ?a5 ?l5 ?c5 ?k5 ?a6 ?l6 ?c6 ?k6 ?a7 ?l7 ?c7 ?k7 ?a8 ?l8 ?c8 ?k8 ?a9 ?l9 ?c9 ?k9 ?a10 ?l10 ?c10 ?k10 ?a11 ?l11 ?c11 ?k11 ?a12 ?l12 ?c12 ?k12 ?z_abs ?z_bool ?z_int ?z_isinstance ?z_len ?z_list ?z_max ?z_range ?z_sorted ?z_str ?z_tuple
    (case a0 => k_is); (case l0 => k_is); (case c0 => k_is); (case k0 => k_is); (case a1 => k_is); (case l1 => k_is); (case c1 => k_is); (case k1 => k_is); (case a2 => k_is); (case l2 => k_is); (case c2 => k_is); (case k2 => k_is); (case a3 => k_is); (case l3 => k_is); (case c3 => k_is); (case k3 => k_is); (case a4 => k_is); (case l4 => k_is); (case c4 => k_is); (case k4 => k_is); (case a5 => k_is); (case l5 => k_is); (case c5 => k_is); (case k5 => k_is); (case a6 => k_is); (case l6 => k_is); (case c6 => k_is); (case k6 => k_is); (case a7 => k_is); (case l7 => k_is); (case c7 => k_is); (case k7 => k_is); (case a8 => k_is); (case l8 => k_is); (case c8 => k_is); (case k8 => k_is); (case a9 => k_is); (case l9 => k_is); (case c9 => k_is); (case k9 => k_is); (case a10 => k_is); (case l10 => k_is); (case c10 => k_is); (case k10 => k_is); (case a11 => k_is); (case l11 => k_is); (case c11 => k_is); (case k11 => k_is); (case a12 => k_is); (case l12 => k_is); (case c12 => k_is); (case k12 => k_is); (case z_abs => k_is); (case z_bool => k_is); (case z_int => k_is); (case z_isinstance => k_is); (case z_len => k_is); (case z_list => k_is); (case z_max => k_is); (case z_range => k_is); (case z_sorted => k_is); (case z_str => k_is); (case z_tuple => k_is)
