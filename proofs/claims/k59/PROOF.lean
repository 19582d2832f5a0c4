import PyProof.Rows.All
import Wide.All
import OpenK.AllK
import Wide.FinOn
import HandS.ForMost
import HandS.IsInst
import HandS.TupAny
import HandS.Wide
import HandS.Flow
import HandS.Exc
import HandS.ExcOwn
import HandS.TryOnly
import HandS.TryMany
import HandS.ExcIs
import HandS.ExcField
import HandS.WordsExc
import HandS.ExcInit
import KE.KDictKeyed
import KE.KTupSum
import HandS.MakeKwOnly
import HandS.ClsMeth
import HandS.TupMul
import KE.GoesEnum
import HandS.RaiseMore
import HandS.Conv
import KE.KDictDisplayH
import KE.SortData
import KE.DataMinMax
import HandS.SortKw
import HandS.TupLen
import HandS.ReCall
import HandS.More
import HandS.Rev
import HandS.Text
import KE.KDictLaws
import KE.KTops
import HandS.DictComp
import HandS.GenList
import HandS.Spec
import KE.KExcIs
import HandS.Style
import HandS.Nested
import KE.KExcSuper
import HandS.ExcValue
import PySem.Challenge.RW_stylepages_k59_whole_breaking_scales
set_option Elab.async false
set_option linter.all false
set_option maxRecDepth 100000
set_option maxHeartbeats 4000000
namespace Ab
open PySem L2

inductive Dt where
  | raw (v : V)
  | tup (ds : List Dt)
  | lst (ds : List Dt)
  | obj (C : Addr) (fs : List (Str × Dt))
  | scr (ns : List Int)
  | dK (kvs : List (Key × Dt))
  | dT (kvs : List (List Key × Dt))
  | exn (a : Addr) (d : Option Addr) (fs : List (Str × Dt))
  | err (C : Addr) (fs : List (Str × Dt))
  | dN (w : World) (kvs : List (NestedKey × Dt))
abbrev Dt.int (i : Int) : Dt := .raw (.int i)
abbrev Dt.bl (b : Bool) : Dt := .raw (.bl b)
abbrev Dt.str (s : Str) : Dt := .raw (.str s)
abbrev Dt.non : Dt := .raw .non

mutual
def dtN : NestedKey → Dt
  | .none => .raw .non
  | .num i => .raw (.int i)
  | .text x => .raw (.str x)
  | .tup ks => .tup (dtNs ks)
def dtNs : List NestedKey → List Dt
  | [] => []
  | k :: r => dtN k :: dtNs r
end
def DNOk (w : World) (a : Addr) (xs : List (NestedKey × Addr × V)) (h : Heap) : Prop :=
  xs.length ≤ sizeLine ∧ (a == sysModules) = false ∧ (∀ x ∈ xs, x.1.depth ≤ 8) ∧
  ∃ ys : List (NestedKey × Addr × Value), Paired (fun p q => p.1 = q.1 ∧ p.2.1 = q.2.1 ∧ RelV p.2.2 q.2.2) xs ys ∧
    ∃ o es ep, h.get? a = some o ∧ o.ExactDict ∧ o.data = .dict es ep ∧ es.toList = ys.map (fun y => (⟨y.1.hash w, .ref y.2.1, y.2.2⟩ : DictEntry)) ∧ (ys.map (·.1)).Nodup
def dNO (w : World) (a : Addr) (xs : List (NestedKey × Addr × V)) : HO := .ext (DNOk w a xs)

inductive Is (K : PySem.W.Frag) (B : Hp) : V → Dt → Prop where
  | raw (v : V) : Is K B v (.raw v)
  | tup {a : Addr} {xs : List V} {ds : List Dt} (h : SqT K B a xs) (hl : xs.length = ds.length) (hi : ∀ (i : Nat) v d, xs[i]? = some v → ds[i]? = some d → Is K B v d) : Is K B (.ref a) (.tup ds)
  | lst {a : Addr} {xs : List V} {ds : List Dt} (h : B a = some (.lst xs)) (hl : xs.length = ds.length) (hi : ∀ (i : Nat) v d, xs[i]? = some v → ds[i]? = some d → Is K B v d) : Is K B (.ref a) (.lst ds)
  | obj {a dx C : Addr} {fs : List (Str × V)} {gs : List (Str × Dt)} (h : B a = some (.ins C dx fs)) (hk : ∀ f : Str, (fs.lookup f).isSome = (gs.lookup f).isSome) (hi : ∀ (f : Str) v d, fs.lookup f = some v → gs.lookup f = some d → Is K B v d) : Is K B (.ref a) (.obj C gs)
  | scr {a : Addr} {ns : List Int} (h : SqL K B a (ns.map V.int)) : Is K B (.ref a) (.scr ns)
  | dK {a : Addr} {xs : List (Key × V)} {kvs : List (Key × Dt)} (h : B a = some (.dK xs)) (hk : xs.map (·.1) = kvs.map (·.1)) (hi : ∀ (i : Nat) v d, (xs.map (·.2))[i]? = some v → (kvs.map (·.2))[i]? = some d → Is K B v d) : Is K B (.ref a) (.dK kvs)
  | dT {a : Addr} {xs : List (List Key × V)} {kvs : List (List Key × Dt)} (h : B a = some (.dT xs)) (hk : xs.map (·.1) = kvs.map (·.1)) (hi : ∀ (i : Nat) v d, (xs.map (·.2))[i]? = some v → (kvs.map (·.2))[i]? = some d → Is K B v d) : Is K B (.ref a) (.dT kvs)
  | exn0 {a : Addr} : Is K B (.ref a) (.exn a none [])
  | exnD {a dd : Addr} {fs : List (Str × V)} {gs : List (Str × Dt)} (h : B dd = some (.xd fs)) (hk : ∀ f : Str, (fs.lookup f).isSome = (gs.lookup f).isSome) (hi : ∀ (f : Str) v d, fs.lookup f = some v → gs.lookup f = some d → Is K B v d) : Is K B (.ref a) (.exn a (some dd) gs)
  | err0 {a C : Addr} (h : B a = some (exo a C none)) : Is K B (.ref a) (.err C [])
  | errD {a dd C : Addr} {fs : List (Str × V)} {gs : List (Str × Dt)} (h : B a = some (exo a C (some dd))) (hd : B dd = some (exd dd fs)) (hk : ∀ f : Str, (fs.lookup f).isSome = (gs.lookup f).isSome) (hi : ∀ (f : Str) v d, fs.lookup f = some v → gs.lookup f = some d → Is K B v d) : Is K B (.ref a) (.err C gs)
  | dN {a : Addr} {w : World} {xs : List (NestedKey × Addr × V)} {kvs : List (NestedKey × Dt)} (h : B a = some (dNO w a xs)) (hk : xs.map (·.1) = kvs.map (·.1)) (hq : ∀ (i : Nat) x, xs[i]? = some x → Is K B (.ref x.2.1) (dtN x.1)) (hi : ∀ (i : Nat) v d, (xs.map (·.2.2))[i]? = some v → (kvs.map (·.2))[i]? = some d → Is K B v d) : Is K B (.ref a) (.dN w kvs)
structure IsA (K : PySem.W.Frag) (B : Hp) (vs : List V) (ds : List Dt) : Prop where
  len : vs.length = ds.length
  at_ : ∀ (i : Nat) v d, vs[i]? = some v → ds[i]? = some d → Is K B v d

section
variable {K : PySem.W.Frag} {B B' H H' : Hp} {v : V} {d : Dt} {vs : List V} {ds : List Dt}
theorem sqT_mono {a : Addr} {xs : List V} (e : Same B B') (h : SqT K B a xs) : SqT K B' a xs := by
  rcases h with (h | ⟨o, h⟩) | h
  · exact .inl (.inl (e _ _ h))
  · exact .inl (.inr ⟨o, e _ _ h⟩)
  · exact .inr h
theorem Is.mono (e : Same B B') (h : Is K B v d) : Is K B' v d := by
  induction h with
  | raw v => exact .raw v
  | tup h hl hi ih => exact .tup (sqT_mono e h) hl ih
  | lst h hl hi ih => exact .lst (e _ _ h) hl ih
  | obj h hk hi ih => exact .obj (e _ _ h) hk ih
  | scr h => exact .scr (e.seq h)
  | dK h hk hi ih => exact .dK (e _ _ h) hk ih
  | dT h hk hi ih => exact .dT (e _ _ h) hk ih
  | exn0 => exact .exn0
  | exnD h hk hi ih => exact .exnD (e _ _ h) hk ih
  | err0 h => exact .err0 (e _ _ h)
  | errD h hd hk hi ih => exact .errD (e _ _ h) (e _ _ hd) hk ih
  | dN h hk hq hi ihq ih => exact .dN (e _ _ h) hk ihq ih
theorem IsA.mono (e : Same B B') (h : IsA K B vs ds) : IsA K B' vs ds := ⟨h.len, fun i v d a b => (h.at_ i v d a b).mono e⟩
theorem Is.rawI (h : Is K B v (.raw u)) : v = u := by cases h; rfl
theorem IsA.nil : IsA K B [] [] := ⟨rfl, fun i v d a => by simp at a⟩
theorem IsA.snoc (h : IsA K B vs ds) (hv : Is K B v d) : IsA K B (vs ++ [v]) (ds ++ [d]) := by
  refine ⟨by simp [h.len], fun i w e a b => ?_⟩
  by_cases hi : i < vs.length
  · rw [List.getElem?_append_left hi] at a
    rw [List.getElem?_append_left (by rw [← h.len]; exact hi)] at b
    exact h.at_ i w e a b
  · rw [List.getElem?_append_right (by omega)] at a
    rw [List.getElem?_append_right (by rw [← h.len]; omega)] at b
    rw [← h.len] at b
    generalize i - vs.length = j at a b
    cases j with
    | zero => simp at a b; subst a b; exact hv
    | succ j => simp at a
theorem IsA.cons (hv : Is K B v d) (h : IsA K B vs ds) : IsA K B (v :: vs) (d :: ds) := by
  refine ⟨by simp [h.len], fun i w e a b => ?_⟩
  cases i with
  | zero => simp at a b; subst a b; exact hv
  | succ j => simp at a b; exact h.at_ j w e a b
theorem IsA.append {us : List V} {es : List Dt} (h : IsA K B vs ds) (h' : IsA K B us es) : IsA K B (vs ++ us) (ds ++ es) := by
  refine ⟨by simp [h.len, h'.len], fun i w e a b => ?_⟩
  by_cases hi : i < vs.length
  · rw [List.getElem?_append_left hi] at a
    rw [List.getElem?_append_left (by rw [← h.len]; exact hi)] at b
    exact h.at_ i w e a b
  · rw [List.getElem?_append_right (by omega)] at a
    rw [List.getElem?_append_right (by rw [← h.len]; omega)] at b
    rw [← h.len] at b
    exact h'.at_ _ w e a b
theorem IsA.get {i : Nat} (h : IsA K B vs ds) (e : ds[i]? = some d) : ∃ v, vs[i]? = some v ∧ Is K B v d := by
  have hi : i < ds.length := (List.getElem?_eq_some_iff.mp e).1
  have hv : i < vs.length := by rw [h.len]; exact hi
  exact ⟨vs[i], List.getElem?_eq_getElem hv, h.at_ i _ d (List.getElem?_eq_getElem hv) e⟩
theorem IsA.set {j : Nat} (h : IsA K B vs ds) (hv : Is K B v d) : IsA K B (vs.set j v) (ds.set j d) := by
  refine ⟨by simp [h.len], fun i w e a b => ?_⟩
  by_cases hij : j = i
  · subst hij
    have h1 : j < (vs.set j v).length := (List.getElem?_eq_some_iff.mp a).1
    rw [List.length_set] at h1
    rw [List.getElem?_set_self h1] at a
    rw [List.getElem?_set_self (by rw [← h.len]; exact h1)] at b
    cases a; cases b; exact hv
  · rw [List.getElem?_set_ne hij] at a b
    exact h.at_ i w e a b
theorem IsA.drop (n : Nat) (h : IsA K B vs ds) : IsA K B (vs.drop n) (ds.drop n) := by
  refine ⟨by simp [h.len], fun i w e a b => ?_⟩
  rw [List.getElem?_drop] at a b
  exact h.at_ _ w e a b
theorem IsA.take (n : Nat) (h : IsA K B vs ds) : IsA K B (vs.take n) (ds.take n) := by
  refine ⟨by simp [h.len], fun i w e a b => ?_⟩
  rw [List.getElem?_take] at a b
  split at a
  · rename_i hi
    rw [if_pos hi] at b
    exact h.at_ _ w e a b
  · cases a
theorem IsA.reverse (h : IsA K B vs ds) : IsA K B vs.reverse ds.reverse := by
  refine ⟨by simp [h.len], fun i w e a b => ?_⟩
  have hi : i < vs.length := by
    have := (List.getElem?_eq_some_iff.mp a).1
    simpa using this
  rw [List.getElem?_reverse hi] at a
  rw [List.getElem?_reverse (by rw [← h.len]; exact hi)] at b
  rw [← h.len] at b
  exact h.at_ _ w e a b
theorem IsA.eraseIdx (j : Nat) (h : IsA K B vs ds) : IsA K B (vs.eraseIdx j) (ds.eraseIdx j) := by
  refine ⟨by simp [List.length_eraseIdx, h.len], fun i w e a b => ?_⟩
  rw [List.getElem?_eraseIdx] at a b
  split at a
  · rename_i hi; rw [if_pos hi] at b; exact h.at_ _ w e a b
  · rename_i hi; rw [if_neg hi] at b; exact h.at_ _ w e a b
theorem Is.tupR (h : Is K B v (.tup ds)) : ∃ a xs, v = .ref a ∧ SqT K B a xs ∧ IsA K B xs ds := by
  cases h with
  | tup h hl hi => exact ⟨_, _, rfl, h, hl, hi⟩
theorem Is.lstR (h : Is K B v (.lst ds)) : ∃ a xs, v = .ref a ∧ B a = some (.lst xs) ∧ IsA K B xs ds := by
  cases h with
  | lst h hl hi => exact ⟨_, _, rfl, h, hl, hi⟩
theorem IsA.atI {i : Int} {d : Dt} (h : IsA K B vs ds) (e : L2.atI ds i = some d) : ∃ v, L2.atI vs i = some v ∧ Is K B v d := by
  unfold L2.atI at e ⊢
  rw [h.len]
  cases q : ixN ds.length i with
  | none => rw [q] at e; cases e
  | some j =>
    rw [q] at e
    exact h.get e
theorem IsA.raws : ∀ {xs : List V}, IsA K B xs (xs.map Dt.raw)
  | [] => .nil
  | x :: r => .cons (.raw x) IsA.raws
theorem IsA.rawsI : ∀ {us xs : List V}, IsA K B us (xs.map Dt.raw) → us = xs
  | [], [], _ => rfl
  | [], _ :: _, h => by have := h.len; simp at this
  | _ :: _, [], h => by have := h.len; simp at this
  | u :: us, x :: xs, h => by
    have h0 := h.at_ 0 u (.raw x) rfl rfl
    have ht : IsA K B us (xs.map Dt.raw) := ⟨by have := h.len; simpa using this, fun i v d a b => h.at_ (i + 1) v d (by simpa using a) (by simpa using b)⟩
    rw [h0.rawI, ht.rawsI]
end

inductive Cn where
  | lst (ds : List Dt)
  | dK (kvs : List (Key × Dt))
  | dT (kvs : List (List Key × Dt))
  | dN (w : World) (kvs : List (NestedKey × Dt))
def Cn.dt : Cn → Dt
  | .lst ds => .lst ds
  | .dK kvs => .dK kvs
  | .dT kvs => .dT kvs
  | .dN w kvs => .dN w kvs
structure IsKv {κ : Type} (K : PySem.W.Frag) (B : Hp) (xs : List (κ × V)) (kvs : List (κ × Dt)) : Prop where
  ks : xs.map (·.1) = kvs.map (·.1)
  vs : IsA K B (xs.map (·.2)) (kvs.map (·.2))
structure IsNv (K : PySem.W.Frag) (B : Hp) (xs : List (NestedKey × Addr × V)) (kvs : List (NestedKey × Dt)) : Prop where
  ks : xs.map (·.1) = kvs.map (·.1)
  qs : ∀ (i : Nat) x, xs[i]? = some x → Is K B (.ref x.2.1) (dtN x.1)
  vs : IsA K B (xs.map (·.2.2)) (kvs.map (·.2))
def CnIs (K : PySem.W.Frag) (B : Hp) (a : Addr) (o : HO) : Cn → Prop
  | .lst ds => ∃ vs, o = .lst vs ∧ IsA K B vs ds
  | .dK kvs => ∃ xs, o = .dK xs ∧ IsKv K B xs kvs
  | .dT kvs => ∃ xs, o = .dT xs ∧ IsKv K B xs kvs
  | .dN w kvs => ∃ xs, o = dNO w a xs ∧ IsNv K B xs kvs
theorem IsNv.mono {K : PySem.W.Frag} {B B' : Hp} {xs : List (NestedKey × Addr × V)} {kvs : List (NestedKey × Dt)} (e : Same B B') (h : IsNv K B xs kvs) : IsNv K B' xs kvs := ⟨h.ks, fun i x q => (h.qs i x q).mono e, h.vs.mono e⟩
theorem CnIs.mono {K : PySem.W.Frag} {B B' : Hp} {a : Addr} {o : HO} {c : Cn} (e : Same B B') (h : CnIs K B a o c) : CnIs K B' a o c := by
  cases c with
  | lst ds => obtain ⟨vs, e1, e2⟩ := h; exact ⟨vs, e1, e2.mono e⟩
  | dK kvs => obtain ⟨vs, e1, e2, e3⟩ := h; exact ⟨vs, e1, e2, e3.mono e⟩
  | dT kvs => obtain ⟨vs, e1, e2, e3⟩ := h; exact ⟨vs, e1, e2, e3.mono e⟩
  | dN w kvs => obtain ⟨vs, e1, e2⟩ := h; exact ⟨vs, e1, e2.mono e⟩
theorem CnIs.is {K : PySem.W.Frag} {B : Hp} {o : HO} {c : Cn} {a : Addr} (hb : B a = some o) (h : CnIs K B a o c) : Is K B (.ref a) c.dt := by
  cases c with
  | lst ds => obtain ⟨vs, rfl, e2⟩ := h; exact .lst hb e2.len e2.at_
  | dK kvs => obtain ⟨vs, rfl, e2, e3⟩ := h; exact .dK hb e2 e3.at_
  | dT kvs => obtain ⟨vs, rfl, e2, e3⟩ := h; exact .dT hb e2 e3.at_
  | dN w kvs => obtain ⟨vs, rfl, e2⟩ := h; exact .dN hb e2.ks e2.qs e2.vs.at_
inductive Sl where
  | un
  | val (d : Dt)
  | cel (c : Cn)
abbrev Sl.acc (ds : List Dt) : Sl := .cel (.lst ds)
def Own (σ : L2.St) (Γ : List Sl) (a : Addr) : Prop := ∃ (i : Nat) (c : Cn), Γ[i]? = some (.cel c) ∧ σ[i]? = some (some (.ref a))
structure Env (K : PySem.W.Frag) (B H : Hp) (σ : L2.St) (Γ : List Sl) : Prop where
  len : σ.length = Γ.length
  bh : Same B H
  val : ∀ (i : Nat) d, Γ[i]? = some (.val d) → ∃ v, σ[i]? = some (some v) ∧ Is K B v d
  cel : ∀ (i : Nat) c, Γ[i]? = some (.cel c) → ∃ l o, σ[i]? = some (some (.ref l)) ∧ H l = some o ∧ B l = none ∧ CnIs K B l o c
  sep : ∀ (i j : Nat) c d l, Γ[i]? = some (.cel c) → Γ[j]? = some (.cel d) → σ[i]? = some (some (.ref l)) → σ[j]? = some (some (.ref l)) → i = j
theorem Env.acc {K : PySem.W.Frag} {B H : Hp} {σ : L2.St} {Γ : List Sl} (E : Env K B H σ Γ) (i : Nat) (ds : List Dt) (h : Γ[i]? = some (.acc ds)) : ∃ l vs, σ[i]? = some (some (.ref l)) ∧ H l = some (.lst vs) ∧ B l = none ∧ IsA K B vs ds := by
  obtain ⟨l, o, e1, e2, e3, vs, rfl, e4⟩ := E.cel i _ h
  exact ⟨l, vs, e1, e2, e3, e4⟩
structure Mv (m : Addr → Prop) (B H B' H' : Hp) : Prop where
  kp : ∀ a o, ¬ m a → H a = some o → H' a = some o
  bb : Same B B'
  off : ∀ a, ¬ m a → H a ≠ none → B a = none → B' a = none
theorem Mv.refl (m : Addr → Prop) (B H : Hp) : Mv m B H B H := ⟨fun _ _ _ h => h, Same.refl B, fun _ _ _ h => h⟩
theorem Mv.trans {m m1 : Addr → Prop} {B H B1 H1 B2 H2 : Hp} (x : Mv m B H B1 H1) (hm : ∀ a, m1 a → m a ∨ H a = none) (y : Mv m1 B1 H1 B2 H2) : Mv m B H B2 H2 := by
  have nm : ∀ a, ¬ m a → H a ≠ none → ¬ m1 a := fun a na ha z => (hm a z).elim na ha
  refine ⟨fun a o na e => ?_, x.bb.trans y.bb, fun a na ha hb => ?_⟩
  · exact y.kp a o (nm a na (by rw [e]; exact fun z => nomatch z)) (x.kp a o na e)
  · refine y.off a (nm a na ha) ?_ (x.off a na ha hb)
    cases q : H a with
    | none => exact absurd q ha
    | some o => rw [x.kp a o na q]; exact fun z => nomatch z
theorem Mv.back {m : Addr → Prop} {B H B1 H1 : Hp} (x : Mv m B H B1 H1) {a : Addr} (h : H1 a = none) : m a ∨ H a = none := by
  by_cases hm : m a
  · exact .inl hm
  · refine .inr ?_
    cases q : H a with
    | none => rfl
    | some o => rw [x.kp a o hm q] at h; cases h
inductive Re where
  | val (d : Dt)
  | nw (c : Cn)
  | own (i : Nat)
abbrev Re.new (ds : List Dt) : Re := .nw (.lst ds)
def Re.dt? : Re → Option Dt
  | .val d => some d
  | .nw c => some c.dt
  | .own _ => none
def ReOk (K : PySem.W.Frag) (σ : L2.St) (m m' : Addr → Prop) (B' H H' : Hp) (v : V) : Re → Prop
  | .val d => Is K B' v d
  | .nw c => ∃ l o, v = .ref l ∧ (m l ∨ H l = none) ∧ ¬ m' l ∧ H' l = some o ∧ B' l = none ∧ CnIs K B' l o c
  | .own i => ∃ l, v = .ref l ∧ σ[i]? = some (some (.ref l))
structure Go (K : PySem.W.Frag) (σ : L2.St) (B H : Hp) (Γ : List Sl) (B' H' : Hp) (Γ' : List Sl) : Prop where
  mv : Mv (Own σ Γ) B H B' H'
  ac : ∀ (i : Nat) c, Γ'[i]? = some (.cel c) → ∃ d, Γ[i]? = some (.cel d)
  env : Env K B' H' σ Γ'
theorem Go.sub {K : PySem.W.Frag} {σ : L2.St} {B H B' H' : Hp} {Γ Γ' : List Sl} (g : Go K σ B H Γ B' H' Γ') : ∀ a, Own σ Γ' a → Own σ Γ a := fun a ⟨i, ds, h1, h2⟩ => by
  obtain ⟨es, h⟩ := g.ac i ds h1
  exact ⟨i, es, h, h2⟩
section
variable {K : PySem.W.Frag} {σ : L2.St} {B H B1 H1 B2 H2 : Hp} {Γ Γ1 Γ2 : List Sl} {v : V} {r : Re}
theorem Go.refl (E : Env K B H σ Γ) : Go K σ B H Γ B H Γ := ⟨Mv.refl _ _ _, fun _ ds h => ⟨ds, h⟩, E⟩
theorem Go.trans (x : Go K σ B H Γ B1 H1 Γ1) (y : Go K σ B1 H1 Γ1 B2 H2 Γ2) : Go K σ B H Γ B2 H2 Γ2 :=
  ⟨x.mv.trans (fun a h => .inl (x.sub a h)) y.mv, fun i ds h => by
    obtain ⟨es, h1⟩ := y.ac i ds h
    exact x.ac i es h1, y.env⟩
theorem Env.tracked (E : Env K B H σ Γ) {a : Addr} (h : Own σ Γ a) : ∃ o, H a = some o ∧ B a = none := by
  obtain ⟨i, ds, h1, h2⟩ := h
  obtain ⟨l, vs, e1, e2, e3, _⟩ := E.cel i ds h1
  rw [h2] at e1
  cases e1
  exact ⟨vs, e2, e3⟩
theorem ReOk.raw {m m' : Addr → Prop} (v : V) : ReOk K σ m m' B1 H H1 v (.val (.raw v)) := Is.raw v
theorem ReOk.step {m m1 m2 : Addr → Prop} (h : ReOk K σ m m1 B1 H H1 v r) (y : Mv m1 B1 H1 B2 H2) (hs : ∀ a, m2 a → m1 a) : ReOk K σ m m2 B2 H H2 v r := by
  cases r with
  | val d => exact Is.mono y.bb h
  | nw ds =>
    obtain ⟨l, vs, e, h1, h2, h3, h4, h5⟩ := h
    exact ⟨l, vs, e, h1, fun z => h2 (hs l z), y.kp l _ h2 h3, y.off l h2 (by rw [h3]; exact fun z => nomatch z) h4, h5.mono y.bb⟩
  | own i => exact h
theorem ReOk.earlier {m m1 m2 : Addr → Prop} (h : ReOk K σ m1 m2 B2 H1 H2 v r) (x : Mv m B H B1 H1) (hm : ∀ a, m1 a → m a ∨ H a = none) : ReOk K σ m m2 B2 H H2 v r := by
  cases r with
  | val d => exact h
  | nw ds =>
    obtain ⟨l, vs, e, h1, h2, h3⟩ := h
    refine ⟨l, vs, e, ?_, h2, h3⟩
    rcases h1 with h1 | h1
    · exact hm l h1
    · exact x.back h1
  | own i => exact h
theorem Env.laid (E : Env K B H σ Γ) {p : Addr} {o : HO} (hp : H p = none) : Env K (upd B p o) (upd H p o) σ Γ := by
  have hb : B p = none := by
    cases q : B p with
    | none => rfl
    | some u => rw [E.bh p u q] at hp; cases hp
  have sB : Same B (upd B p o) := fun a u e => by rw [upd_ne (ne_of_none e hb)]; exact e
  refine ⟨E.len, fun a u e => ?_, fun i d h => ?_, fun i ds h => ?_, E.sep⟩
  · by_cases ha : a = p
    · subst ha; rw [upd_same] at e ⊢; exact e
    · rw [upd_ne ha] at e ⊢; exact E.bh a u e
  · obtain ⟨v, e, q⟩ := E.val i d h
    exact ⟨v, e, q.mono sB⟩
  · obtain ⟨l, vs, e, e1, e2, q⟩ := E.cel i ds h
    have hl : l ≠ p := ne_of_none e1 hp
    exact ⟨l, vs, e, by rw [upd_ne hl]; exact e1, by rw [upd_ne hl]; exact e2, q.mono sB⟩
theorem Go.laid (E : Env K B H σ Γ) {p : Addr} {o : HO} (hp : H p = none) : Go K σ B H Γ (upd B p o) (upd H p o) Γ := by
  have hb : B p = none := by
    cases q : B p with
    | none => rfl
    | some u => rw [E.bh p u q] at hp; cases hp
  refine ⟨⟨fun a u _ e => by rw [upd_ne (ne_of_none e hp)]; exact e, fun a u e => by rw [upd_ne (ne_of_none e hb)]; exact e, fun a _ ha hb' => ?_⟩, fun _ ds h => ⟨ds, h⟩, E.laid hp⟩
  have : a ≠ p := fun z => by subst z; exact ha hp
  rw [upd_ne this]; exact hb'
theorem Env.beside (E : Env K B H σ Γ) {p : Addr} {o : HO} (hp : H p = none) : Env K B (upd H p o) σ Γ := by
  refine ⟨E.len, fun a u e => ?_, E.val, fun i ds h => ?_, E.sep⟩
  · have h := E.bh a u e
    rw [upd_ne (ne_of_none h hp)]; exact h
  · obtain ⟨l, vs, e, e1, e2, q⟩ := E.cel i ds h
    exact ⟨l, vs, e, by rw [upd_ne (ne_of_none e1 hp)]; exact e1, e2, q⟩
theorem Go.beside (E : Env K B H σ Γ) {p : Addr} {o : HO} (hp : H p = none) : Go K σ B H Γ B (upd H p o) Γ :=
  ⟨⟨fun a u _ e => by rw [upd_ne (ne_of_none e hp)]; exact e, Same.refl B, fun _ _ _ h => h⟩, fun _ ds h => ⟨ds, h⟩, E.beside hp⟩
theorem Env.base_none (E : Env K B H σ Γ) {p : Addr} (hp : H p = none) : B p = none := by
  cases q : B p with
  | none => rfl
  | some u => rw [E.bh p u q] at hp; cases hp
theorem Env.not_own (E : Env K B H σ Γ) {p : Addr} (hp : H p = none) : ¬ Own σ Γ p := fun z => by
  obtain ⟨vs, h, _⟩ := E.tracked z
  rw [hp] at h; cases h
end

def WE (K : PySem.W.Frag) (te : TE) (Γ : List Sl) (Post : Re → List Sl → Prop) : Prop := ∀ σ B H, Env K B H σ Γ → ∀ Q : VK,
  (∀ v B' H' r Γ', Go K σ B H Γ B' H' Γ' → ReOk K σ (Own σ Γ) (Own σ Γ') B' H H' v r → Post r Γ' → Q v H') → te σ H Q
def WT (K : PySem.W.Frag) (tt : TT) (Γ : List Sl) (Post : Bool → List Sl → Prop) : Prop := ∀ σ B H, Env K B H σ Γ → ∀ Q : Bool → Hp → Prop,
  (∀ b B' H' Γ', Go K σ B H Γ B' H' Γ' → Post b Γ' → Q b H') → tt σ H Q
def WD (K : PySem.W.Frag) (ta : TA) (Γ : List Sl) (Post : List Dt → List Sl → Prop) : Prop := ∀ σ B H, Env K B H σ Γ → ∀ Q : List V → Hp → Prop,
  (∀ vs B' H' ds Γ', Go K σ B H Γ B' H' Γ' → IsA K B' vs ds → Post ds Γ' → Q vs H') → ta σ H Q
section
variable {K : PySem.W.Frag} {Γ : List Sl} {Post : Re → List Sl → Prop} {ta tb tc te : TE} {t u : TT}
theorem we_mono {Post' : Re → List Sl → Prop} (h : WE K te Γ Post) (hp : ∀ r Γ', Post r Γ' → Post' r Γ') : WE K te Γ Post' := fun σ B H E Q q => h σ B H E Q fun v B' H' r Γ' g k p => q v B' H' r Γ' g k (hp r Γ' p)
theorem we_var {i : Nat} {d : Dt} (h : Γ[i]? = some (.val d)) (p : Post (.val d) Γ) : WE K (tVar i) Γ Post := fun σ B H E Q q => by
  obtain ⟨v, e, k⟩ := E.val i d h
  exact ⟨v, e, q v B H (.val d) Γ (.refl E) k p⟩
theorem we_c {v : V} (p : Post (.val (.raw v)) Γ) : WE K (tC v) Γ Post := fun σ B H E Q q => q v B H (.val (.raw v)) Γ (.refl E) (.raw v) p
theorem we_own {i : Nat} {ds : Cn} (h : Γ[i]? = some (.cel ds)) (p : Post (.own i) Γ) : WE K (tVar i) Γ Post := fun σ B H E Q q => by
  obtain ⟨l, vs, e, e1, e2, k⟩ := E.cel i ds h
  exact ⟨.ref l, e, q (.ref l) B H (.own i) Γ (.refl E) ⟨l, rfl, e⟩ p⟩
theorem go_frz {σ : L2.St} {B H : Hp} {i : Nat} {ds : Cn} (h : Γ[i]? = some (.cel ds)) (E : Env K B H σ Γ) : ∃ B', Go K σ B H Γ B' H (Γ.set i (.val ds.dt)) := by
  obtain ⟨l, vs, e, e1, e2, k⟩ := E.cel i ds h
  have hl : i < Γ.length := (List.getElem?_eq_some_iff.mp h).1
  have sB : Same B (upd B l vs) := fun a u e => by rw [upd_ne (ne_of_none e e2)]; exact e
  have sub : ∀ {j : Nat} {s : Sl}, (Γ.set i (.val ds.dt))[j]? = some s → j ≠ i → Γ[j]? = some s := fun {j s} hj hn => by
    rw [List.getElem?_set_ne (fun z => hn z.symm)] at hj
    exact hj
  have acc : ∀ {j : Nat} {es : Cn}, (Γ.set i (.val ds.dt))[j]? = some (.cel es) → j ≠ i := fun {j es} hj z => by
    subst z
    rw [List.getElem?_set_self hl] at hj
    cases hj
  refine ⟨upd B l vs, ⟨fun a o _ q => q, sB, fun a na ha hb => ?_⟩, fun j es h1 => ⟨es, sub h1 (acc h1)⟩, by rw [List.length_set]; exact E.len, fun a u q => ?_, fun j d hj => ?_, fun j es hj => ?_, fun j k ds es l h1 h2 => E.sep j k ds es l (sub h1 (acc h1)) (sub h2 (acc h2))⟩
  · have : a ≠ l := fun z => by
      subst z
      exact na ⟨i, ds, h, e⟩
    rw [upd_ne this]; exact hb
  · by_cases ha : a = l
    · subst ha; rw [upd_same] at q; cases q; exact e1
    · rw [upd_ne ha] at q; exact E.bh a u q
  · by_cases hji : j = i
    · subst hji
      rw [List.getElem?_set_self hl] at hj
      cases hj
      exact ⟨.ref l, e, (k.mono sB).is upd_same⟩
    · obtain ⟨w, q1, q2⟩ := E.val j d (sub hj hji)
      exact ⟨w, q1, q2.mono sB⟩
  · obtain ⟨c, us, q1, q2, q3, q4⟩ := E.cel j es (sub hj (acc hj))
    have hc : c ≠ l := fun z => by
      subst z
      exact acc hj (E.sep j i es ds c (sub hj (acc hj)) h q1 e)
    exact ⟨c, us, q1, q2, by rw [upd_ne hc]; exact q3, q4.mono sB⟩
theorem we_move {i : Nat} {ds : Cn} (h : Γ[i]? = some (.cel ds)) (p : Post (.nw ds) (Γ.set i .un)) : WE K (tVar i) Γ Post := fun σ B H E Q q => by
  obtain ⟨l, vs, e, e1, e2, k⟩ := E.cel i ds h
  have hl : i < Γ.length := (List.getElem?_eq_some_iff.mp h).1
  have ne : ∀ {j : Nat} {s : Sl}, (Γ.set i .un)[j]? = some s → s ≠ .un → j ≠ i := fun {j s} hj hs z => by
    subst z
    rw [List.getElem?_set_self hl] at hj
    cases hj; exact hs rfl
  have sub : ∀ {j : Nat} {s : Sl}, (Γ.set i .un)[j]? = some s → s ≠ .un → Γ[j]? = some s := fun {j s} hj hs => by
    have := ne hj hs
    rw [List.getElem?_set_ne (fun z => this z.symm)] at hj
    exact hj
  have E' : Env K B H σ (Γ.set i .un) := ⟨by rw [List.length_set]; exact E.len, E.bh, fun j d hj => E.val j d (sub hj (fun z => nomatch z)), fun j es hj => E.cel j es (sub hj (fun z => nomatch z)),
    fun j k ds es l h1 h2 => E.sep j k ds es l (sub h1 (fun z => nomatch z)) (sub h2 (fun z => nomatch z))⟩
  have sb : ∀ (j : Nat) es, (Γ.set i .un)[j]? = some (.cel es) → ∃ es', Γ[j]? = some (.cel es') := fun j es h1 => ⟨es, sub h1 (fun z => nomatch z)⟩
  refine ⟨.ref l, e, q (.ref l) B H (.nw ds) _ ⟨Mv.refl _ _ _, sb, E'⟩ ⟨l, vs, rfl, .inl ⟨i, ds, h, e⟩, ?_, e1, e2, k⟩ p⟩
  rintro ⟨j, es, h1, h2⟩
  exact ne h1 (fun z => nomatch z) (E.sep j i es ds l (sub h1 (fun z => nomatch z)) h h2 e)
theorem we_freeze (h : WE K te Γ fun r Γ1 => ∃ d, r.dt? = some d ∧ Post (.val d) Γ1) : WE K te Γ Post := fun σ B H E Q q => by
  refine h σ B H E Q fun v B1 H1 r Γ1 g k p => ?_
  obtain ⟨d, hd, p⟩ := p
  cases r with
  | own i => cases hd
  | val d =>
    cases hd
    exact q v B1 H1 (.val d) Γ1 g k p
  | nw ds =>
    cases hd
    obtain ⟨l, vs, rfl, h1, h2, h3, h4, h5⟩ := k
    have sB : Same B1 (upd B1 l vs) := fun a u e => by rw [upd_ne (ne_of_none e h4)]; exact e
    refine q (.ref l) (upd B1 l vs) H1 (.val ds.dt) Γ1 ⟨⟨g.mv.kp, g.mv.bb.trans sB, fun a na ha hb => ?_⟩, g.ac, ?_⟩ ?_ p
    · have hal : a ≠ l := fun z => by
        subst z
        exact h1.elim na ha
      rw [upd_ne hal]; exact g.mv.off a na ha hb
    · refine ⟨g.env.len, fun a u e => ?_, fun i d hi => ?_, fun i es hi => ?_, g.env.sep⟩
      · by_cases ha : a = l
        · subst ha; rw [upd_same] at e; cases e; exact h3
        · rw [upd_ne ha] at e; exact g.env.bh a u e
      · obtain ⟨w, e, k⟩ := g.env.val i d hi
        exact ⟨w, e, k.mono sB⟩
      · obtain ⟨c, us, e, e1, e2, k⟩ := g.env.cel i es hi
        have hc : c ≠ l := fun z => by
          subst z
          exact h2 ⟨i, es, hi, e⟩
        exact ⟨c, us, e, e1, by rw [upd_ne hc]; exact e2, k.mono sB⟩
    · exact (h5.mono sB).is upd_same
theorem we_opI {C : Int → Int → Prop} {g : Int → Int → V} (h : WE K ta Γ fun ra Γ1 => ∃ i, ra = .val (.int i) ∧ WE K tb Γ1 fun rb Γ2 => ∃ j, rb = .val (.int j) ∧ C i j ∧ Post (.val (.raw (g i j))) Γ2) : WE K (tOp (rI C g) ta tb) Γ Post := fun σ B H E Q q => by
  refine h σ B H E _ fun x B1 H1 ra Γ1 g1 k1 p1 => ?_
  obtain ⟨i, rfl, p1⟩ := p1
  refine p1 σ B1 H1 g1.env _ fun y B2 H2 rb Γ2 g2 k2 p2 => ?_
  obtain ⟨j, rfl, hc, p⟩ := p2
  cases Is.rawI k1
  cases Is.rawI k2
  exact ⟨i, j, rfl, rfl, hc, q _ B2 H2 _ Γ2 (g1.trans g2) (.raw _) p⟩
theorem we_opI0 {g : Int → Int → V} (h : WE K ta Γ fun ra Γ1 => ∃ i, ra = .val (.int i) ∧ WE K tb Γ1 fun rb Γ2 => ∃ j, rb = .val (.int j) ∧ Post (.val (.raw (g i j))) Γ2) : WE K (tOp (rI0 g) ta tb) Γ Post := fun σ B H E Q q => by
  refine h σ B H E _ fun x B1 H1 ra Γ1 g1 k1 p1 => ?_
  obtain ⟨i, rfl, p1⟩ := p1
  refine p1 σ B1 H1 g1.env _ fun y B2 H2 rb Γ2 g2 k2 p2 => ?_
  obtain ⟨j, rfl, p⟩ := p2
  cases Is.rawI k1
  cases Is.rawI k2
  exact ⟨i, j, rfl, rfl, q _ B2 H2 _ Γ2 (g1.trans g2) (.raw _) p⟩
theorem we_neg (h : WE K ta Γ fun ra Γ1 => ∃ i, ra = .val (.int i) ∧ Post (.val (.int (-i))) Γ1) : WE K (tUn (rU fun i => .int (-i)) ta) Γ Post := fun σ B H E Q q => by
  refine h σ B H E _ fun x B1 H1 ra Γ1 g1 k1 p1 => ?_
  obtain ⟨i, rfl, p⟩ := p1
  cases Is.rawI k1
  exact ⟨i, rfl, q _ B1 H1 _ Γ1 g1 (.raw _) p⟩
theorem wt_mono {P P' : Bool → List Sl → Prop} (h : WT K t Γ P) (hp : ∀ b Γ', P b Γ' → P' b Γ') : WT K t Γ P' := fun σ B H E Q q => h σ B H E Q fun b B' H' Γ' g p => q b B' H' Γ' g (hp b Γ' p)
theorem wt_test {P : Bool → List Sl → Prop} (h : WE K te Γ fun r Γ1 => ∃ b, r = .val (.bl b) ∧ P b Γ1) : WT K (tTest te) Γ P := fun σ B H E Q q => by
  refine h σ B H E _ fun x B1 H1 r Γ1 g k p => ?_
  obtain ⟨b, rfl, p⟩ := p
  cases Is.rawI k
  exact ⟨b, rfl, q b B1 H1 Γ1 g p⟩
theorem wt_B {P : Bool → List Sl → Prop} (h : WE K te Γ fun r Γ1 => ∃ b, r = .val (.bl b) ∧ P b Γ1) : WT K (tB te) Γ P := wt_test h
theorem wt_and {P : Bool → List Sl → Prop} (h : WT K t Γ fun b Γ1 => (b = true → WT K u Γ1 P) ∧ (b = false → P false Γ1)) : WT K (tAnd t u) Γ P := fun σ B H E Q q => by
  refine h σ B H E _ fun b B1 H1 Γ1 g p => ?_
  cases b with
  | true =>
    show u σ H1 Q
    exact p.1 rfl σ B1 H1 g.env Q fun b B' H' Γ' g' p' => q b B' H' Γ' (g.trans g') p'
  | false =>
    show Q false H1
    exact q false B1 H1 Γ1 g (p.2 rfl)
theorem wt_or {P : Bool → List Sl → Prop} (h : WT K t Γ fun b Γ1 => (b = false → WT K u Γ1 P) ∧ (b = true → P true Γ1)) : WT K (tOr t u) Γ P := fun σ B H E Q q => by
  refine h σ B H E _ fun b B1 H1 Γ1 g p => ?_
  cases b with
  | false =>
    show u σ H1 Q
    exact p.1 rfl σ B1 H1 g.env Q fun b B' H' Γ' g' p' => q b B' H' Γ' (g.trans g') p'
  | true =>
    show Q true H1
    exact q true B1 H1 Γ1 g (p.2 rfl)
theorem wt_not {P : Bool → List Sl → Prop} (h : WT K t Γ fun b Γ1 => P (!b) Γ1) : WT K (tNot t) Γ P := fun σ B H E Q q => h σ B H E _ fun b B1 H1 Γ1 g p => q (!b) B1 H1 Γ1 g p
theorem we_andV (h : WE K ta Γ fun ra Γ1 => ∃ b, ra = .val (.bl b) ∧ (b = true → WE K tb Γ1 Post) ∧ (b = false → Post (.val (.bl false)) Γ1)) : WE K (tAndV ta tb) Γ Post := fun σ B H E Q q => by
  refine h σ B H E _ fun x B1 H1 ra Γ1 g k p => ?_
  obtain ⟨b, rfl, p1, p2⟩ := p
  cases Is.rawI k
  refine ⟨b, rfl, ?_⟩
  cases b with
  | true =>
    show tb σ H1 Q
    exact p1 rfl σ B1 H1 g.env Q fun v B' H' r Γ' g' k' p' => q v B' H' r Γ' (g.trans g') (ReOk.earlier k' g.mv fun a h => .inl (g.sub a h)) p'
  | false =>
    show Q (.bl false) H1
    exact q _ B1 H1 _ Γ1 g (.raw _) (p2 rfl)
theorem we_orV (h : WE K ta Γ fun ra Γ1 => ∃ b, ra = .val (.bl b) ∧ (b = false → WE K tb Γ1 Post) ∧ (b = true → Post (.val (.bl true)) Γ1)) : WE K (tOrV ta tb) Γ Post := fun σ B H E Q q => by
  refine h σ B H E _ fun x B1 H1 ra Γ1 g k p => ?_
  obtain ⟨b, rfl, p1, p2⟩ := p
  cases Is.rawI k
  refine ⟨b, rfl, ?_⟩
  cases b with
  | false =>
    show tb σ H1 Q
    exact p1 rfl σ B1 H1 g.env Q fun v B' H' r Γ' g' k' p' => q v B' H' r Γ' (g.trans g') (ReOk.earlier k' g.mv fun a h => .inl (g.sub a h)) p'
  | true =>
    show Q (.bl true) H1
    exact q _ B1 H1 _ Γ1 g (.raw _) (p2 rfl)
theorem we_notV (h : WE K ta Γ fun ra Γ1 => ∃ b, ra = .val (.bl b) ∧ Post (.val (.bl (!b))) Γ1) : WE K (tNotV ta) Γ Post := fun σ B H E Q q => by
  refine h σ B H E _ fun x B1 H1 ra Γ1 g k p => ?_
  obtain ⟨b, rfl, p⟩ := p
  cases Is.rawI k
  exact ⟨b, rfl, q _ B1 H1 _ Γ1 g (.raw _) p⟩
theorem we_if (h : WT K t Γ fun b Γ1 => (b = true → WE K ta Γ1 Post) ∧ (b = false → WE K tb Γ1 Post)) : WE K (tIf t ta tb) Γ Post := fun σ B H E Q q => by
  refine h σ B H E _ fun b B1 H1 Γ1 g p => ?_
  cases b with
  | true =>
    show ta σ H1 Q
    exact p.1 rfl σ B1 H1 g.env Q fun v B' H' r Γ' g' k' p' => q v B' H' r Γ' (g.trans g') (ReOk.earlier k' g.mv fun a h => .inl (g.sub a h)) p'
  | false =>
    show tb σ H1 Q
    exact p.2 rfl σ B1 H1 g.env Q fun v B' H' r Γ' g' k' p' => q v B' H' r Γ' (g.trans g') (ReOk.earlier k' g.mv fun a h => .inl (g.sub a h)) p'
theorem wd_nil {P : List Dt → List Sl → Prop} (p : P [] Γ) : WD K tNil Γ P := fun σ B H E Q q => q [] B H [] Γ (.refl E) .nil p
theorem wd_cons {P : List Dt → List Sl → Prop} {tr : TA} (h : WE K te Γ fun r Γ1 => ∃ d, r.dt? = some d ∧ WD K tr Γ1 fun ds Γ2 => P (d :: ds) Γ2) : WD K (tCons te tr) Γ P := fun σ B H E Q q => by
  have h' : WE K te Γ fun r Γ1 => ∃ d, r = .val d ∧ WD K tr Γ1 fun ds Γ2 => P (d :: ds) Γ2 := we_freeze (we_mono h fun r Γ1 ⟨d, hd, k⟩ => ⟨d, hd, d, rfl, k⟩)
  refine h' σ B H E _ fun x B1 H1 ra Γ1 g1 k1 p1 => ?_
  obtain ⟨d, rfl, p1⟩ := p1
  refine p1 σ B1 H1 g1.env _ fun vs B2 H2 ds Γ2 g2 k2 p2 => ?_
  exact q (x :: vs) B2 H2 (d :: ds) Γ2 (g1.trans g2) (.cons (Is.mono g2.mv.bb k1) k2) p2
theorem we_tup {t : TA} (h : WD K t Γ fun ds Γ1 => ds.length ≤ 1000000 ∧ Post (.val (.tup ds)) Γ1) : WE K (tTup t) Γ Post := fun σ B H E Q q => by
  refine h σ B H E _ fun vs B1 H1 ds Γ1 g k p => ?_
  refine ⟨Nat.le_trans (by rw [k.len]; exact p.1) (by decide), fun a ha => ?_⟩
  have g2 := Go.laid (o := .tup vs) g.env ha
  have k2 := k.mono g2.mv.bb
  exact q (.ref a) _ _ (.val (.tup ds)) Γ1 (g.trans g2) (.tup (.inl (.inl upd_same)) k2.len k2.at_) p.2
theorem we_lst {t : TA} (h : WD K t Γ fun ds Γ1 => ds.length ≤ 1000000 ∧ Post (.new ds) Γ1) : WE K (tLst t) Γ Post := fun σ B H E Q q => by
  refine h σ B H E _ fun vs B1 H1 ds Γ1 g k p => ?_
  refine ⟨Nat.le_trans (by rw [k.len]; exact p.1) (by decide), fun a ha => ?_⟩
  have g2 := Go.beside (o := .lst vs) g.env ha
  refine q (.ref a) _ _ (.new ds) Γ1 (g.trans g2) ⟨a, _, rfl, g.mv.back ha, g.env.not_own ha, upd_same, g.env.base_none ha, vs, rfl, k⟩ p.2
end
end Ab

namespace Ab
open PySem L2
def RvOk (K : PySem.W.Frag) (σ : L2.St) (B H : Hp) (Γ : List Sl) (v : V) : Re → Prop
  | .val d => Is K B v d
  | .nw c => ∃ l o, v = .ref l ∧ ¬ Own σ Γ l ∧ H l = some o ∧ B l = none ∧ CnIs K B l o c
  | .own i => ∃ l, v = .ref l ∧ σ[i]? = some (some (.ref l))
def seqOf (Γ : List Sl) : Re → Option (List Dt)
  | .val (.tup ds) => some ds
  | .val (.lst ds) => some ds
  | .val (.scr ns) => some (ns.map Dt.int)
  | .val _ => none
  | .nw (.lst ds) => some ds
  | .nw _ => none
  | .own i => match Γ[i]? with
    | some (Sl.cel (.lst ds)) => some ds
    | _ => none
def lstOf (Γ : List Sl) : Re → Option (List Dt)
  | .val (.lst ds) => some ds
  | .val (.scr ns) => some (ns.map Dt.int)
  | .val _ => none
  | .nw (.lst ds) => some ds
  | .nw _ => none
  | .own i => match Γ[i]? with
    | some (Sl.cel (.lst ds)) => some ds
    | _ => none
def tyOf : Re → Option String
  | .val (.raw .non) => some "NoneType"
  | .val (.raw (.bl _)) => some "bool"
  | .val (.raw (.int _)) => some "int"
  | .val (.raw (.str _)) => some "str"
  | .val (.tup _) => some "tuple"
  | .val (.lst _) => some "list"
  | .val (.dK _) => some "dict"
  | .val (.dT _) => some "dict"
  | .nw (.lst _) => some "list"
  | .nw (.dK _) => some "dict"
  | .nw (.dT _) => some "dict"
  | .own _ => some "list"
  | _ => none
section
variable {K : PySem.W.Frag} {σ : L2.St} {B H B1 H1 B2 H2 : Hp} {Γ Γ1 Γ2 : List Sl} {v : V} {r : Re} {ds : List Dt} {m m' : Addr → Prop}
theorem ReOk.rv (h : ReOk K σ m (Own σ Γ) B H1 H v r) : RvOk K σ B H Γ v r := by
  cases r with
  | val d => exact h
  | nw ds => obtain ⟨l, vs, e, _, h2, h3⟩ := h; exact ⟨l, vs, e, h2, h3⟩
  | own i => exact h
theorem rv_lst (E : Env K B H σ Γ) (h : RvOk K σ B H Γ v r) (e : lstOf Γ r = some ds) : ∃ a vs, v = .ref a ∧ SqL K H a vs ∧ IsA K B vs ds := by
  cases r with
  | val d =>
    cases d with
    | lst es => cases e; obtain ⟨a, xs, rfl, h1, h2⟩ := Is.lstR h; exact ⟨a, xs, rfl, .inl (.inl (E.bh _ _ h1)), h2⟩
    | scr ns =>
      cases e
      cases h with
      | scr h => exact ⟨_, _, rfl, E.bh.seq h, by
          have := IsA.raws (K := K) (B := B) (xs := ns.map V.int)
          rwa [List.map_map] at this⟩
    | raw u => cases e
    | tup es => cases e
    | obj C fs => cases e
    | dK es => cases e
    | dT es => cases e
    | exn a d fs => cases e
    | err C fs => cases e
    | dN w es => cases e
  | nw c =>
    cases c with
    | lst es => cases e; obtain ⟨l, o, rfl, _, h1, _, vs, rfl, h2⟩ := h; exact ⟨l, vs, rfl, .inl (.inl h1), h2⟩
    | dK es => cases e
    | dT es => cases e
    | dN w es => cases e
  | own i =>
    obtain ⟨l, rfl, hl⟩ := h
    have e' : (match Γ[i]? with
      | some (Sl.cel (.lst ds)) => some ds
      | _ => none) = some ds := e
    split at e'
    · rename_i es hi
      cases e'
      obtain ⟨c, us, q1, q2, q3, q4⟩ := E.acc i _ hi
      rw [hl] at q1; cases q1
      exact ⟨l, us, rfl, .inl (.inl q2), q4⟩
    · cases e'
theorem rv_seq (E : Env K B H σ Γ) (h : RvOk K σ B H Γ v r) (e : seqOf Γ r = some ds) : ∃ a vs, v = .ref a ∧ (SqL K H a vs ∨ SqT K H a vs) ∧ IsA K B vs ds := by
  cases r with
  | val d =>
    cases d with
    | tup es => cases e; obtain ⟨a, xs, rfl, h1, h2⟩ := Is.tupR h; exact ⟨a, xs, rfl, .inr (sqT_mono E.bh h1), h2⟩
    | lst es => obtain ⟨a, xs, rfl, h1, h2⟩ := rv_lst E h e; exact ⟨a, xs, rfl, .inl h1, h2⟩
    | scr es => obtain ⟨a, xs, rfl, h1, h2⟩ := rv_lst E h e; exact ⟨a, xs, rfl, .inl h1, h2⟩
    | raw u => cases e
    | obj C fs => cases e
    | dK es => cases e
    | dT es => cases e
    | exn a d fs => cases e
    | err C fs => cases e
    | dN w es => cases e
  | nw c =>
    cases c with
    | lst es => obtain ⟨a, xs, rfl, h1, h2⟩ := rv_lst E h e; exact ⟨a, xs, rfl, .inl h1, h2⟩
    | dK es => cases e
    | dT es => cases e
    | dN w es => cases e
  | own i => obtain ⟨a, xs, rfl, h1, h2⟩ := rv_lst E h e; exact ⟨a, xs, rfl, .inl h1, h2⟩
theorem ty_sqT {a : Addr} {xs : List V} (h : SqT K H a xs) : TyX K H (.ref a) (.type "tuple") := by
  rcases h with (h | ⟨o, h⟩) | ⟨o, its, n, h1, h2, _⟩
  · exact .base (.tup h)
  · exact .fTuple h
  · exact .kTuple h1 h2
theorem rv_ty {T : String} (E : Env K B H σ Γ) (hi : ∀ i, r = .own i → ∃ ds, Γ[i]? = some (.acc ds)) (h : RvOk K σ B H Γ v r) (e : tyOf r = some T) : TyX K H v (.type T) := by
  cases r with
  | val d =>
    cases d with
    | raw u =>
      have hv : v = u := Is.rawI h
      subst hv
      cases v <;> first | (cases e; first | exact .base .non | exact .base (.bl _) | exact .base (.int _) | exact .base (.str _)) | cases e
    | tup es => cases e; obtain ⟨a, xs, rfl, h1, h2⟩ := Is.tupR h; exact ty_sqT (sqT_mono E.bh h1)
    | lst es => cases e; obtain ⟨a, xs, rfl, h1, h2⟩ := Is.lstR h; exact .base (.lst (E.bh _ _ h1))
    | scr es => cases e
    | obj C fs => cases e
    | dK es => cases e; cases h with | dK h1 _ _ => exact .base (.dK (E.bh _ _ h1))
    | dT es => cases e; cases h with | dT h1 _ _ => exact .base (.dT (E.bh _ _ h1))
    | exn a d fs => cases e
    | err C fs => cases e
    | dN w es => cases e
  | nw c =>
    cases c with
    | lst es => cases e; obtain ⟨l, o, rfl, _, h1, _, vs, rfl, h2⟩ := h; exact .base (.lst h1)
    | dK es => cases e; obtain ⟨l, o, rfl, _, h1, _, vs, rfl, h2⟩ := h; exact .base (.dK h1)
    | dT es => cases e; obtain ⟨l, o, rfl, _, h1, _, vs, rfl, h2⟩ := h; exact .base (.dT h1)
    | dN w es => cases e
  | own i =>
    cases e
    obtain ⟨l, rfl, hl⟩ := h
    obtain ⟨ds, hd⟩ := hi i rfl
    obtain ⟨c, us, q1, q2, _⟩ := E.acc i _ hd
    rw [hl] at q1; cases q1
    exact .base (.lst q2)
end
section
variable {K : PySem.W.Frag} {Γ : List Sl} {Post : Re → List Sl → Prop} {ta tb tc te : TE} {t u : TT}
theorem we_two' {r : R2} (h : WE K ta Γ fun ra Γ1 => WE K tb Γ1 fun rb Γ2 =>
      ∀ σ B H x y, Env K B H σ Γ2 → RvOk K σ B H Γ2 x ra → RvOk K σ B H Γ2 y rb → ∀ Q : VK, (∀ v B' H' z Γ', Go K σ B H Γ2 B' H' Γ' → ReOk K σ (Own σ Γ2) (Own σ Γ') B' H H' v z → Post z Γ' → Q v H') → r x y H Q) : WE K (tOp r ta tb) Γ Post := fun σ B H E Q q => by
  refine h σ B H E _ fun x B1 H1 ra Γ1 g1 k1 p1 => ?_
  refine p1 σ B1 H1 g1.env _ fun y B2 H2 rb Γ2 g2 k2 p2 => ?_
  exact p2 σ B2 H2 x y g2.env (ReOk.rv (ReOk.step k1 g2.mv g2.sub)) k2.rv Q fun v B' H' z Γ' g3 k3 p3 => q v B' H' z Γ' ((g1.trans g2).trans g3) (ReOk.earlier k3 (g1.trans g2).mv fun a h => .inl ((g1.trans g2).sub a h)) p3
theorem we_one' {r : V → Hp → VK → Prop} (h : WE K ta Γ fun ra Γ1 => ∀ σ B H x, Env K B H σ Γ1 → RvOk K σ B H Γ1 x ra → ∀ Q : VK, (∀ v B' H' z Γ', Go K σ B H Γ1 B' H' Γ' → ReOk K σ (Own σ Γ1) (Own σ Γ') B' H H' v z → Post z Γ' → Q v H') → r x H Q) :
    ∀ σ B H, Env K B H σ Γ → ∀ Q : VK, (∀ v B' H' r Γ', Go K σ B H Γ B' H' Γ' → ReOk K σ (Own σ Γ) (Own σ Γ') B' H H' v r → Post r Γ' → Q v H') → ta σ H (fun x H1 => r x H1 Q) := fun σ B H E Q q => by
  refine h σ B H E _ fun x B1 H1 ra Γ1 g1 k1 p1 => ?_
  exact p1 σ B1 H1 x g1.env k1.rv Q fun v B' H' z Γ' g3 k3 p3 => q v B' H' z Γ' (g1.trans g3) (ReOk.earlier k3 g1.mv fun a h => .inl (g1.sub a h)) p3
theorem we_cb1 {r : List V → Hp → VK → Prop} (h : WE K te Γ fun ra Γ1 => ∀ σ B H x, Env K B H σ Γ1 → RvOk K σ B H Γ1 x ra → ∀ Q : VK, (∀ v B' H' z Γ', Go K σ B H Γ1 B' H' Γ' → ReOk K σ (Own σ Γ1) (Own σ Γ') B' H H' v z → Post z Γ' → Q v H') → r [x] H Q) : WE K (tCB r (tCons te tNil)) Γ Post :=
  we_one' (r := fun x H Q => r [x] H Q) h
def rLenV (K : PySem.W.Frag) : List V → Hp → VK → Prop := fun xs H Q => ∃ x n, xs = [x] ∧ LenV K x H n ∧ Q (.int n) H
def rAbs : List V → Hp → VK → Prop := fun xs H Q => ∃ i, xs = [.int i] ∧ Q (.int (if i < 0 then -i else i)) H
theorem we_abs (h : WE K te Γ fun r Γ1 => ∃ i, r = .val (.int i) ∧ Post (.val (.int (if i < 0 then -i else i))) Γ1) : WE K (tCB rAbs (tCons te tNil)) Γ Post :=
  we_cb1 (we_mono h fun r Γ1 ⟨i, e, p⟩ => fun σ B H x E kx Q q => by
    subst e
    cases Is.rawI kx
    exact ⟨i, rfl, q _ B H _ Γ1 (.refl E) (.raw _) p⟩)
def rInt1 : List V → Hp → VK → Prop := fun xs H Q => (∃ i, xs = [.int i] ∧ Q (.int i) H) ∨ ∃ k, xs = [.bl k] ∧ Q (.int (if k then 1 else 0)) H
def rTupleOf (K : PySem.W.Frag) : List V → Hp → VK → Prop := fun xs H Q => ∃ p ys, xs = [.ref p] ∧ ((SqL K H p ys ∧ ∀ l, H l = none → Q (.ref l) (upd H l (.tup ys))) ∨ (SqT K H p ys ∧ Q (.ref p) H))
def rListOf (K : PySem.W.Frag) : List V → Hp → VK → Prop := fun xs H Q => ∃ p ys, xs = [.ref p] ∧ (SqL K H p ys ∨ SqT K H p ys) ∧ ∀ l, H l = none → Q (.ref l) (upd H l (.lst ys))
theorem re_laidT {σ : L2.St} {B H : Hp} {vs : List V} {ds : List Dt} {a : Addr} (E : Env K B H σ Γ) (k : IsA K B vs ds) (ha : H a = none) : ReOk K σ (Own σ Γ) (Own σ Γ) (upd B a (.tup vs)) H (upd H a (.tup vs)) (.ref a) (.val (.tup ds)) := by
  have k2 := k.mono (Go.laid (o := .tup vs) E ha).mv.bb
  exact Is.tup (.inl (.inl upd_same)) k2.len k2.at_
theorem re_newL {σ : L2.St} {B H : Hp} {vs : List V} {ds : List Dt} {a : Addr} (E : Env K B H σ Γ) (k : IsA K B vs ds) (ha : H a = none) : ReOk K σ (Own σ Γ) (Own σ Γ) B H (upd H a (.lst vs)) (.ref a) (.new ds) :=
  ⟨a, _, rfl, .inr ha, E.not_own ha, upd_same, E.base_none ha, vs, rfl, k⟩
theorem we_tuple (h : WE K te Γ fun r Γ1 => ∃ ds, seqOf Γ1 r = some ds ∧ Post (.val (.tup ds)) Γ1) : WE K (tCB (rTupleOf K) (tCons te tNil)) Γ Post :=
  we_cb1 (we_mono h fun r Γ1 ⟨ds, hs, p⟩ => fun σ B H x E kx Q q => by
    obtain ⟨a, vs, rfl, hq, ha⟩ := rv_seq E kx hs
    rcases hq with hq | hq
    · exact ⟨a, vs, rfl, .inl ⟨hq, fun l hl => q _ _ _ _ Γ1 (Go.laid E hl) (re_laidT E ha hl) p⟩⟩
    · cases r with
      | val d =>
        cases d with
        | tup es =>
          cases hs
          exact ⟨a, vs, rfl, .inr ⟨hq, q _ B H (.val (.tup ds)) Γ1 (.refl E) kx p⟩⟩
        | lst es =>
          obtain ⟨c, us, e, h1, h2⟩ := rv_lst (ds := ds) E kx hs
          cases e
          exact ⟨a, us, rfl, .inl ⟨h1, fun l hl => q _ _ _ _ Γ1 (Go.laid E hl) (re_laidT E h2 hl) p⟩⟩
        | raw u => cases hs
        | scr es =>
          obtain ⟨c, us, e, h1, h2⟩ := rv_lst (ds := ds) E kx hs
          cases e
          exact ⟨a, us, rfl, .inl ⟨h1, fun l hl => q _ _ _ _ Γ1 (Go.laid E hl) (re_laidT E h2 hl) p⟩⟩
        | obj C fs => cases hs
        | dK es => cases hs
        | dT es => cases hs
        | exn a d fs => cases hs
        | err C fs => cases hs
        | dN w es => cases hs
      | nw c =>
        cases c with
        | lst es =>
          obtain ⟨c, us, e, h1, h2⟩ := rv_lst (ds := ds) E kx hs
          cases e
          exact ⟨a, us, rfl, .inl ⟨h1, fun l hl => q _ _ _ _ Γ1 (Go.laid E hl) (re_laidT E h2 hl) p⟩⟩
        | dK es => cases hs
        | dT es => cases hs
        | dN w es => cases hs
      | own i =>
        obtain ⟨c, us, e, h1, h2⟩ := rv_lst (ds := ds) E kx hs
        cases e
        exact ⟨a, us, rfl, .inl ⟨h1, fun l hl => q _ _ _ _ Γ1 (Go.laid E hl) (re_laidT E h2 hl) p⟩⟩)
theorem we_list (h : WE K te Γ fun r Γ1 => ∃ ds, seqOf Γ1 r = some ds ∧ Post (.new ds) Γ1) : WE K (tCB (rListOf K) (tCons te tNil)) Γ Post :=
  we_cb1 (we_mono h fun r Γ1 ⟨ds, hs, p⟩ => fun σ B H x E kx Q q => by
    obtain ⟨a, vs, rfl, hq, ha⟩ := rv_seq E kx hs
    exact ⟨a, vs, rfl, hq, fun l hl => q _ _ _ _ Γ1 (Go.beside E hl) (re_newL E ha hl) p⟩)
theorem we_isi {c : String} (h : WE K te Γ fun r Γ1 => (∀ i, r = .own i → ∃ ds, Γ1[i]? = some (.acc ds)) ∧ ∃ T b, tyOf r = some T ∧ kitB T c = some b ∧ Post (.val (.bl b)) Γ1) : WE K (tCB (rIsi K) (tCons te (tCons (tC (.ty c)) tNil))) Γ Post :=
  we_one' (r := fun x H Q => rIsi K [x, .ty c] H Q) (we_mono h fun r Γ1 ⟨ho, T, b, ht, hk, p⟩ => fun σ B H x E kx Q q =>
    ⟨x, .ty c, .type T, .type c, b, rfl, .ty c, rv_ty E ho kx ht, kit_ty hk, q _ B H _ Γ1 (.refl E) (.raw _) p⟩)
def rMx2 : List V → Hp → VK → Prop := fun xs H Q => ∃ i j, xs = [.int i, .int j] ∧ Q (.int (if j > i then j else i)) H
def rMn2 : List V → Hp → VK → Prop := fun xs H Q => ∃ i j, xs = [.int i, .int j] ∧ Q (.int (if j < i then j else i)) H
theorem we_max2 (h : WE K ta Γ fun ra Γ1 => ∃ i, ra = .val (.int i) ∧ WE K tb Γ1 fun rb Γ2 => ∃ j, rb = .val (.int j) ∧ Post (.val (.int (if j > i then j else i))) Γ2) : WE K (tCB rMx2 (tCons ta (tCons tb tNil))) Γ Post :=
  we_two' (r := fun x y H Q => rMx2 [x, y] H Q) (we_mono h fun ra Γ1 ⟨i, ei, h1⟩ => we_mono h1 fun rb Γ2 ⟨j, ej, p⟩ => fun σ B H x y E kx ky Q q => by
    subst ei ej
    cases Is.rawI kx; cases Is.rawI ky
    exact ⟨i, j, rfl, q _ B H _ Γ2 (.refl E) (.raw _) p⟩)
theorem we_min2 (h : WE K ta Γ fun ra Γ1 => ∃ i, ra = .val (.int i) ∧ WE K tb Γ1 fun rb Γ2 => ∃ j, rb = .val (.int j) ∧ Post (.val (.int (if j < i then j else i))) Γ2) : WE K (tCB rMn2 (tCons ta (tCons tb tNil))) Γ Post :=
  we_two' (r := fun x y H Q => rMn2 [x, y] H Q) (we_mono h fun ra Γ1 ⟨i, ei, h1⟩ => we_mono h1 fun rb Γ2 ⟨j, ej, p⟩ => fun σ B H x y E kx ky Q q => by
    subst ei ej
    cases Is.rawI kx; cases Is.rawI ky
    exact ⟨i, j, rfl, q _ B H _ Γ2 (.refl E) (.raw _) p⟩)
theorem we_chainI {g g' : Int → Int → Bool} (h : WE K ta Γ fun ra Γ1 => ∃ i, ra = .val (.int i) ∧ WE K tb Γ1 fun rb Γ2 => ∃ j, rb = .val (.int j) ∧
      (g i j = true → WE K tc Γ2 fun rc Γ3 => ∃ k, rc = .val (.int k) ∧ Post (.val (.bl (g' j k))) Γ3) ∧ (g i j = false → Post (.val (.bl false)) Γ2)) :
    WE K (tChain (rI0 fun i j => .bl (g i j)) (rI0 fun i j => .bl (g' i j)) ta tb tc) Γ Post := fun σ B H E Q q => by
  refine h σ B H E _ fun x B1 H1 ra Γ1 g1 k1 p1 => ?_
  obtain ⟨i, rfl, p1⟩ := p1
  refine p1 σ B1 H1 g1.env _ fun y B2 H2 rb Γ2 g2 k2 p2 => ?_
  obtain ⟨j, rfl, p2, p3⟩ := p2
  cases Is.rawI k1; cases Is.rawI k2
  refine ⟨i, j, rfl, rfl, g i j, rfl, ?_⟩
  cases hg : g i j with
  | true =>
    show tc σ H2 fun w' H4 => rI0 (fun i j => .bl (g' i j)) (.int j) w' H4 Q
    refine p2 hg σ B2 H2 g2.env _ fun z B3 H3 rc Γ3 g3 k3 p3 => ?_
    obtain ⟨k, rfl, p⟩ := p3
    cases Is.rawI k3
    exact ⟨j, k, rfl, rfl, q _ B3 H3 _ Γ3 ((g1.trans g2).trans g3) (.raw _) p⟩
  | false =>
    show Q (.bl false) H2
    exact q _ B2 H2 _ Γ2 (g1.trans g2) (.raw _) (p3 hg)
theorem we_in {neg : Bool} (h : WE K ta Γ fun ra Γ1 => WE K tb Γ1 fun rb Γ2 => ∃ (x : V) (us : List V), ra = .val (.raw x) ∧ seqOf Γ2 rb = some (us.map Dt.raw) ∧ flatV x = true ∧ us.all flatV = true ∧ Post (.val (.bl (if neg then !inV x us else inV x us))) Γ2) : WE K (tOp (rIn K neg) ta tb) Γ Post :=
  we_two' (we_mono h fun ra Γ1 h1 => we_mono h1 fun rb Γ2 ⟨x, us, e, hs, hx, hu, p⟩ => fun σ B H y z E ky kz Q q => by
    subst e
    cases Is.rawI ky
    obtain ⟨a, vs, rfl, hq, ha⟩ := rv_seq E kz hs
    cases ha.rawsI
    exact ⟨a, _, rfl, hq, hx, hu, q _ B H _ Γ2 (.refl E) (.raw _) p⟩)
end
end Ab

namespace Ab
open PySem L2
structure GoS (K : PySem.W.Frag) (pin : List Nat) (σ : L2.St) (B H : Hp) (Γ : List Sl) (σ' : L2.St) (B' H' : Hp) (Γ' : List Sl) : Prop where
  mv : Mv (Own σ Γ) B H B' H'
  new : ∀ a, Own σ' Γ' a → Own σ Γ a ∨ H a = none
  env : Env K B' H' σ' Γ'
  pin : ∀ i, i ∈ pin → σ'[i]? = σ[i]?
structure Ex where
  W : WX
  q : Value → List (Str × Dt) → List Sl → Prop
def Ex.no : Ex := ⟨fun _ _ _ _ => True, fun _ _ _ => False⟩
inductive ExB (K : PySem.W.Frag) (B : Hp) : Option Addr → List (Str × Dt) → Prop where
  | none : ExB K B none []
  | some {dd : Addr} {fs : List (Str × V)} {gs : List (Str × Dt)} (h : B dd = some (.xd fs)) (hk : ∀ f : Str, (fs.lookup f).isSome = (gs.lookup f).isSome) (hi : ∀ (f : Str) v d, fs.lookup f = some v → gs.lookup f = some d → Is K B v d) (hne : gs ≠ []) : ExB K B (some dd) gs
structure Ps where
  nx : List Sl → Prop
  rt : Re → List Sl → Prop
  bk : List Sl → Prop := fun _ => False
  ct : List Sl → Prop := fun _ => False
  ex : Ex := Ex.no
def Re.free : Re → Bool
  | .own _ => false
  | _ => true
def WS (K : PySem.W.Frag) (pin : List Nat) (ts : TS) (Γ : List Sl) (P : Ps) : Prop := ∀ σ B H (D : Ends), Env K B H σ Γ →
  (∀ σ' B' H' Γ', GoS K pin σ B H Γ σ' B' H' Γ' → P.nx Γ' → D.nx σ' H') →
  (∀ v σ' B' H' r Γ', GoS K pin σ B H Γ σ' B' H' Γ' → ReOk K [] (Own σ Γ) (Own σ' Γ') B' H H' v r → P.rt r Γ' → D.rt v H') →
  (∀ σ' B' H' Γ', GoS K pin σ B H Γ σ' B' H' Γ' → P.bk Γ' → D.bk σ' H') →
  (∀ σ' B' H' Γ', GoS K pin σ B H Γ σ' B' H' Γ' → P.ct Γ' → D.ct σ' H') →
  (∀ cls d fs σ' B' H' Γ', GoS K pin σ B H Γ σ' B' H' Γ' → ExB K B' d fs → P.ex.q cls fs Γ' → P.ex.W cls d σ' H') → ts D σ H
def WG (K : PySem.W.Frag) (pin : List Nat) (g : TG) (d : Dt) (Γ : List Sl) (P : List Sl → Prop) : Prop := ∀ σ B H x, Env K B H σ Γ → Is K B x d → ∀ Q : L2.St → Hp → Prop,
  (∀ σ' Γ', GoS K pin σ B H Γ σ' B H Γ' → P Γ' → Q σ' H) → g x σ H Q
section
variable {K : PySem.W.Frag} {pin : List Nat} {σ σ1 σ2 : L2.St} {B H B1 H1 B2 H2 : Hp} {Γ Γ1 Γ2 : List Sl} {v : V} {r : Re} {P : Ps}
theorem GoS.refl (E : Env K B H σ Γ) : GoS K pin σ B H Γ σ B H Γ := ⟨Mv.refl _ _ _, fun _ h => .inl h, E, fun _ _ => rfl⟩
theorem GoS.trans (x : GoS K pin σ B H Γ σ1 B1 H1 Γ1) (y : GoS K pin σ1 B1 H1 Γ1 σ2 B2 H2 Γ2) : GoS K pin σ B H Γ σ2 B2 H2 Γ2 :=
  ⟨x.mv.trans x.new y.mv, fun a h => (y.new a h).elim (fun z => x.new a z) fun z => x.mv.back z, y.env, fun i hi => (y.pin i hi).trans (x.pin i hi)⟩
theorem Go.s (x : Go K σ B H Γ B1 H1 Γ1) : GoS K pin σ B H Γ σ B1 H1 Γ1 := ⟨x.mv, fun a h => .inl (x.sub a h), x.env, fun _ _ => rfl⟩
theorem ReOk.off {m m' : Addr → Prop} (h : ReOk K σ m m' B1 H H1 v r) (hf : r.free = true) : ReOk K [] m m' B1 H H1 v r := by
  cases r with
  | val d => exact h
  | nw ds => exact h
  | own i => cases hf
theorem Own.set_ne {i : Nat} {x : Option V} {s : Sl} {a : Addr} (h : Own (σ.set i x) (Γ.set i s) a) (hs : ∀ ds, s = .cel ds → x ≠ some (.ref a)) : Own σ Γ a := by
  obtain ⟨j, ds, h1, h2⟩ := h
  by_cases hij : i = j
  · subst hij
    have hi : i < Γ.length := by
      have := (List.getElem?_eq_some_iff.mp h1).1
      simpa using this
    have hi2 : i < σ.length := by
      have := (List.getElem?_eq_some_iff.mp h2).1
      simpa using this
    rw [List.getElem?_set_self hi] at h1
    rw [List.getElem?_set_self hi2] at h2
    exact absurd (Option.some.inj h2) (hs ds (Option.some.inj h1))
  · rw [List.getElem?_set_ne hij] at h1 h2
    exact ⟨j, ds, h1, h2⟩
def slOf : Re → Sl
  | .val d => .val d
  | .nw c => .cel c
  | .own _ => .un
theorem Env.setV (E : Env K B H σ Γ) {i : Nat} {d : Dt} (hi : i < Γ.length) (hv : Is K B v d) : Env K B H (σ.set i (some v)) (Γ.set i (.val d)) := by
  have hi2 : i < σ.length := by rw [E.len]; exact hi
  have nac : ∀ {j : Nat} {es : Cn}, (Γ.set i (.val d))[j]? = some (.cel es) → i ≠ j := fun {j es} h z => by
    subst z
    rw [List.getElem?_set_self hi] at h; cases h
  refine ⟨by simp [E.len], E.bh, fun j e h => ?_, fun j es h => ?_, fun j k ds es l h1 h2 h3 h4 => ?_⟩
  · by_cases hij : i = j
    · subst hij
      rw [List.getElem?_set_self hi] at h
      cases h
      exact ⟨v, List.getElem?_set_self hi2, hv⟩
    · rw [List.getElem?_set_ne hij] at h ⊢
      exact E.val j e h
  · have hij := nac h
    rw [List.getElem?_set_ne hij] at h ⊢
    exact E.cel j es h
  · have a1 := nac h1
    have a2 := nac h2
    rw [List.getElem?_set_ne a1] at h1 h3
    rw [List.getElem?_set_ne a2] at h2 h4
    exact E.sep j k ds es l h1 h2 h3 h4
theorem Env.setU (E : Env K B H σ Γ) {i : Nat} (x : Option V) (hi : i < Γ.length) : Env K B H (σ.set i x) (Γ.set i .un) := by
  have nac : ∀ {j : Nat} {s : Sl}, (Γ.set i .un)[j]? = some s → s ≠ .un → i ≠ j := fun {j s} h hs z => by
    subst z
    rw [List.getElem?_set_self hi] at h; cases h; exact hs rfl
  refine ⟨by simp [E.len], E.bh, fun j e h => ?_, fun j es h => ?_, fun j k ds es l h1 h2 h3 h4 => ?_⟩
  · have hij := nac h (fun z => nomatch z)
    rw [List.getElem?_set_ne hij] at h ⊢
    exact E.val j e h
  · have hij := nac h (fun z => nomatch z)
    rw [List.getElem?_set_ne hij] at h ⊢
    exact E.cel j es h
  · have a1 := nac h1 (fun z => nomatch z)
    have a2 := nac h2 (fun z => nomatch z)
    rw [List.getElem?_set_ne a1] at h1 h3
    rw [List.getElem?_set_ne a2] at h2 h4
    exact E.sep j k ds es l h1 h2 h3 h4
theorem Env.setA (E : Env K B H σ Γ) {i : Nat} {l : Addr} {vs : HO} {ds : Cn} (hi : i < Γ.length) (hn : ¬ Own σ Γ l) (hl : H l = some vs) (hb : B l = none) (ha : CnIs K B l vs ds) : Env K B H (σ.set i (some (.ref l))) (Γ.set i (.cel ds)) := by
  have hi2 : i < σ.length := by rw [E.len]; exact hi
  refine ⟨by simp [E.len], E.bh, fun j e h => ?_, fun j es h => ?_, fun j k ds' es l' h1 h2 h3 h4 => ?_⟩
  · by_cases hij : i = j
    · subst hij
      rw [List.getElem?_set_self hi] at h
      cases h
    · rw [List.getElem?_set_ne hij] at h ⊢
      exact E.val j e h
  · by_cases hij : i = j
    · subst hij
      rw [List.getElem?_set_self hi] at h
      cases h
      exact ⟨l, vs, List.getElem?_set_self hi2, hl, hb, ha⟩
    · rw [List.getElem?_set_ne hij] at h ⊢
      exact E.cel j es h
  · by_cases h1i : i = j
    · by_cases h2i : i = k
      · exact h1i.symm.trans h2i
      · subst h1i
        rw [List.getElem?_set_self hi2] at h3
        rw [List.getElem?_set_ne h2i] at h2 h4
        cases h3
        exact absurd ⟨k, es, h2, h4⟩ hn
    · by_cases h2i : i = k
      · subst h2i
        rw [List.getElem?_set_self hi2] at h4
        rw [List.getElem?_set_ne h1i] at h1 h3
        cases h4
        exact absurd ⟨j, ds', h1, h3⟩ hn
      · rw [List.getElem?_set_ne h1i] at h1 h3
        rw [List.getElem?_set_ne h2i] at h2 h4
        exact E.sep j k ds' es l' h1 h2 h3 h4
theorem pin_set {i : Nat} {x : Option V} (hp : pin.contains i = false) : ∀ j, j ∈ pin → (σ.set i x)[j]? = σ[j]? := fun j hj => by
  have : i ≠ j := fun z => by
    subst z
    have := List.contains_iff_mem.mpr hj
    rw [hp] at this; cases this
  exact List.getElem?_set_ne this
theorem goS_set (g : Go K σ B H Γ B1 H1 Γ1) (k : ReOk K σ (Own σ Γ) (Own σ Γ1) B1 H H1 v r) {i : Nat} (hp : pin.contains i = false) (hi : i < Γ1.length) : GoS K pin σ B H Γ (σ.set i (some v)) B1 H1 (Γ1.set i (slOf r)) := by
  cases r with
  | val d => exact ⟨g.mv, fun a h => .inl (g.sub a (h.set_ne fun ds z => nomatch z)), g.env.setV hi k, pin_set hp⟩
  | own j => exact ⟨g.mv, fun a h => .inl (g.sub a (h.set_ne fun ds z => nomatch z)), g.env.setU _ hi, pin_set hp⟩
  | nw ds =>
    obtain ⟨l, vs, rfl, h1, h2, h3, h4, h5⟩ := k
    refine ⟨g.mv, fun a h => ?_, g.env.setA hi h2 h3 h4 h5, pin_set hp⟩
    by_cases ha : a = l
    · subst ha; exact h1
    · exact .inl (g.sub a (h.set_ne fun ds _ z => ha (by cases z; rfl)))
end
section
variable {K : PySem.W.Frag} {pin : List Nat} {Γ : List Sl} {P : Ps} {te ta tb : TE} {tt : TT} {t u tb' : TS} {g : TG}
theorem ws_mono {P' : Ps} (h : WS K pin t Γ P) (h1 : ∀ G, P.nx G → P'.nx G) (h2 : ∀ r G, P.rt r G → P'.rt r G) (h3 : ∀ G, P.bk G → P'.bk G) (h4 : ∀ G, P.ct G → P'.ct G) (h5 : P'.ex = P.ex := by rfl) : WS K pin t Γ P' := fun σ B H D E n r b c xx =>
  h σ B H D E (fun σ' B' H' Γ' g p => n σ' B' H' Γ' g (h1 _ p)) (fun v σ' B' H' z Γ' g k p => r v σ' B' H' z Γ' g k (h2 _ _ p)) (fun σ' B' H' Γ' g p => b σ' B' H' Γ' g (h3 _ p)) (fun σ' B' H' Γ' g p => c σ' B' H' Γ' g (h4 _ p)) (h5 ▸ xx)
theorem ws_from {σ σ1 : L2.St} {B H B1 H1 : Hp} {Γ1 : List Sl} {D : Ends} (h : WS K pin t Γ1 P) (g : GoS K pin σ B H Γ σ1 B1 H1 Γ1)
    (n : ∀ σ' B' H' Γ', GoS K pin σ B H Γ σ' B' H' Γ' → P.nx Γ' → D.nx σ' H')
    (r : ∀ v σ' B' H' r Γ', GoS K pin σ B H Γ σ' B' H' Γ' → ReOk K [] (Own σ Γ) (Own σ' Γ') B' H H' v r → P.rt r Γ' → D.rt v H')
    (b : ∀ σ' B' H' Γ', GoS K pin σ B H Γ σ' B' H' Γ' → P.bk Γ' → D.bk σ' H')
    (c : ∀ σ' B' H' Γ', GoS K pin σ B H Γ σ' B' H' Γ' → P.ct Γ' → D.ct σ' H')
    (xx : ∀ cls d fs σ' B' H' Γ', GoS K pin σ B H Γ σ' B' H' Γ' → ExB K B' d fs → P.ex.q cls fs Γ' → P.ex.W cls d σ' H') : t D σ1 H1 :=
  h σ1 B1 H1 D g.env (fun σ' B' H' Γ' g' p => n σ' B' H' Γ' (g.trans g') p) (fun v σ' B' H' z Γ' g' k p => r v σ' B' H' z Γ' (g.trans g') (ReOk.earlier k g.mv g.new) p)
    (fun σ' B' H' Γ' g' p => b σ' B' H' Γ' (g.trans g') p) (fun σ' B' H' Γ' g' p => c σ' B' H' Γ' (g.trans g') p) (fun cls d fs σ' B' H' Γ' g' hx p => xx cls d fs σ' B' H' Γ' (g.trans g') hx p)
theorem ws_seq (h : WS K pin t Γ { P with nx := fun Γ1 => WS K pin u Γ1 P }) : WS K pin (tSeq t u) Γ P := fun σ B H D E n r b c xx =>
  h σ B H { D with nx := u D } E (fun σ' B' H' Γ' g p => ws_from (t := u) (D := D) p g n r b c xx) r b c xx
theorem ws_nil (p : P.nx Γ) : WS K pin tNext Γ P := fun σ B H D E n r b c xx => n σ B H Γ (.refl E) p
theorem ws_brk (p : P.bk Γ) : WS K pin tBreak Γ P := fun σ B H D E n r b c xx => b σ B H Γ (.refl E) p
theorem ws_expr (h : WE K te Γ fun _ Γ1 => P.nx Γ1) : WS K pin (tDrop te) Γ P := fun σ B H D E n r b c xx =>
  h σ B H E _ fun v B1 H1 z Γ1 g k p => n σ B1 H1 Γ1 g.s p
theorem ws_ret (h : WE K te Γ fun z Γ1 => z.free = true ∧ P.rt z Γ1) : WS K pin (tRet te) Γ P := fun σ B H D E n r b c xx =>
  h σ B H E _ fun v B1 H1 z Γ1 g k ⟨hf, p⟩ => r v σ B1 H1 z Γ1 g.s (k.off hf) p
theorem ws_retA {i : Nat} {ds : List Dt} (h : Γ[i]? = some (.acc ds)) (p : P.rt (.new ds) (Γ.set i .un)) : WS K pin (tRet (tVar i)) Γ P := ws_ret (we_move h ⟨rfl, p⟩)
theorem ws_if (h : WT K tt Γ fun b Γ1 => (b = true → WS K pin t Γ1 P) ∧ (b = false → WS K pin u Γ1 P)) : WS K pin (tIfS tt t u) Γ P := fun σ B H D E n r b c xx =>
  h σ B H E _ fun z B1 H1 Γ1 g p => by
    cases z with
    | true =>
      show t D σ H1
      exact ws_from (p.1 rfl) g.s n r b c xx
    | false =>
      show u D σ H1
      exact ws_from (p.2 rfl) g.s n r b c xx
theorem ws_asg {i : Nat} (hp : pin.contains i = false) (hi : decide (i < Γ.length) = true) (h : WE K te Γ fun z Γ1 => P.nx (Γ1.set i (slOf z))) : WS K pin (tAsg te (gName i)) Γ P := fun σ B H D E n r b c xx =>
  h σ B H E _ fun v B1 H1 z Γ1 g k p => n _ B1 H1 _ (goS_set g k hp (by rw [← g.env.len, E.len]; exact of_decide_eq_true hi)) p
theorem ws_asgG (h : WE K te Γ fun z Γ1 => ∃ d, z = .val d ∧ WG K pin g d Γ1 P.nx) : WS K pin (tAsg te g) Γ P := fun σ B H D E n r b c xx =>
  h σ B H E _ fun v B1 H1 z Γ1 g1 k p => by
    obtain ⟨d, rfl, p⟩ := p
    exact p σ B1 H1 v g1.env k _ fun σ' Γ' g2 p2 => n σ' B1 H1 Γ' (g1.s.trans g2) p2
theorem wg_name {i : Nat} {d : Dt} {Q : List Sl → Prop} (hp : pin.contains i = false) (hi : decide (i < Γ.length) = true) (p : Q (Γ.set i (.val d))) : WG K pin (gName i) d Γ Q := fun σ B H x E k R q =>
  q _ _ (goS_set (r := .val d) (.refl E) k hp (of_decide_eq_true hi)) p
def WGs (K : PySem.W.Frag) (pin : List Nat) (g : TGs) (ds : List Dt) (Γ : List Sl) (P : List Sl → Prop) : Prop := ∀ σ B H xs, Env K B H σ Γ → IsA K B xs ds → ∀ Q : L2.St → Hp → Prop,
  (∀ σ' Γ', GoS K pin σ B H Γ σ' B H Γ' → P Γ' → Q σ' H) → g xs σ H Q
theorem wgs_nil {Q : List Sl → Prop} (p : Q Γ) : WGs K pin gNil [] Γ Q := fun σ B H xs E k R q => by
  have : xs = [] := List.eq_nil_of_length_eq_zero (by rw [k.len]; rfl)
  exact ⟨this, q σ Γ (.refl E) p⟩
theorem wgs_cons {g1 : TG} {g2 : TGs} {d : Dt} {ds : List Dt} {Q : List Sl → Prop} (h : WG K pin g1 d Γ fun Γ1 => WGs K pin g2 ds Γ1 Q) : WGs K pin (gCons g1 g2) (d :: ds) Γ Q := fun σ B H xs E k R q => by
  cases xs with
  | nil => have := k.len; simp at this
  | cons x r =>
    refine ⟨x, r, rfl, h σ B H x E (k.at_ 0 x d rfl rfl) _ fun σ1 Γ1 e1 p1 => ?_⟩
    exact p1 σ1 B H r e1.env ⟨by have := k.len; simpa using this, fun i v d a b => k.at_ (i + 1) v d (by simpa using a) (by simpa using b)⟩ R fun σ2 Γ2 e2 p2 => q σ2 Γ2 (e1.trans e2) p2
theorem wg_tup {n : Nat} {g2 : TGs} {ds : List Dt} {Q : List Sl → Prop} (hn : ds.length = n) (h : WGs K pin g2 ds Γ Q) : WG K pin (gTup K n g2) (.tup ds) Γ Q := fun σ B H x E k R q => by
  obtain ⟨a, xs, rfl, h1, h2⟩ := Is.tupR k
  exact ⟨a, xs, rfl, sqT_mono E.bh h1, by rw [h2.len]; exact hn, h σ B H xs E h2 R q⟩
theorem ws_aug {i : Nat} {f : Int → Int → Int} {a : Int} (hx : Γ[i]? = some (.val (.int a))) (hp : pin.contains i = false) (h : WE K te Γ fun z Γ1 => ∃ b, z = .val (.int b) ∧ P.nx (Γ1.set i (.val (.int (f a b))))) : WS K pin (tAug i te (ipI f)) Γ P := fun σ B H D E n r b c xx => by
  obtain ⟨v, hv, hk⟩ := E.val i _ hx
  cases hk.rawI
  refine ⟨_, hv, h σ B H E _ fun y B1 H1 z Γ1 g k p => ?_⟩
  obtain ⟨b, rfl, p⟩ := p
  cases Is.rawI k
  exact ⟨a, b, rfl, rfl, n _ B1 H1 _ (goS_set (r := .val (.int (f a b))) g (Is.raw _) hp (by rw [← g.env.len, E.len]; exact (List.getElem?_eq_some_iff.mp hx).1)) p⟩
theorem Env.put {σ : L2.St} {B H : Hp} {i : Nat} {ds es : Cn} {l : Addr} {ys : HO} (E : Env K B H σ Γ) (h : Γ[i]? = some (.cel ds)) (hl : σ[i]? = some (some (.ref l))) (ha : CnIs K B l ys es) : Env K B (upd H l ys) σ (Γ.set i (.cel es)) := by
  have hi : i < Γ.length := (List.getElem?_eq_some_iff.mp h).1
  obtain ⟨l', vs, q1, q2, q3, q4⟩ := E.cel i ds h
  rw [hl] at q1; cases q1
  have up : ∀ {j : Nat} {es' : Cn}, (Γ.set i (.cel es))[j]? = some (.cel es') → ∃ ds', Γ[j]? = some (.cel ds') := fun {j es'} hj => by
    by_cases hij : i = j
    · subst hij; exact ⟨ds, h⟩
    · rw [List.getElem?_set_ne hij] at hj; exact ⟨es', hj⟩
  refine ⟨by simp [E.len], fun a u e => ?_, fun j e hj => ?_, fun j es' hj => ?_, fun j k ds' es' l' h1 h2 h3 h4 => ?_⟩
  · rw [upd_ne (ne_of_none e q3)]; exact E.bh a u e
  · by_cases hij : i = j
    · subst hij; rw [List.getElem?_set_self hi] at hj; cases hj
    · rw [List.getElem?_set_ne hij] at hj; exact E.val j e hj
  · by_cases hij : i = j
    · subst hij; rw [List.getElem?_set_self hi] at hj; cases hj
      exact ⟨l, ys, hl, upd_same, q3, ha⟩
    · rw [List.getElem?_set_ne hij] at hj
      obtain ⟨c, us, e1, e2, e3, e4⟩ := E.cel j es' hj
      have hc : c ≠ l := fun z => by
        subst z
        exact hij (E.sep i j ds es' c h hj hl e1)
      exact ⟨c, us, e1, by rw [upd_ne hc]; exact e2, e3, e4⟩
  · obtain ⟨d1, g1⟩ := up h1
    obtain ⟨d2, g2⟩ := up h2
    exact E.sep j k d1 d2 l' g1 g2 h3 h4
theorem Own.put {σ : L2.St} {i : Nat} {ds es : Cn} {a : Addr} (h : Γ[i]? = some (.cel ds)) (o : Own σ (Γ.set i (.cel es)) a) : Own σ Γ a := by
  obtain ⟨j, es', h1, h2⟩ := o
  by_cases hij : i = j
  · subst hij; exact ⟨i, ds, h, h2⟩
  · rw [List.getElem?_set_ne hij] at h1; exact ⟨j, es', h1, h2⟩
theorem Go.putC {σ : L2.St} {B H : Hp} {i : Nat} {ds es : Cn} {l : Addr} {ys : HO} (E : Env K B H σ Γ) (h : Γ[i]? = some (.cel ds)) (hl : σ[i]? = some (some (.ref l))) (ha : CnIs K B l ys es) : Go K σ B H Γ B (upd H l ys) (Γ.set i (.cel es)) :=
  ⟨⟨fun a o na e => by rw [upd_ne (fun z => na (by subst z; exact ⟨i, ds, h, hl⟩))]; exact e, Same.refl B, fun _ _ _ e => e⟩, fun j es' hj => by
    by_cases hij : i = j
    · subst hij; exact ⟨ds, h⟩
    · rw [List.getElem?_set_ne hij] at hj; exact ⟨es', hj⟩, E.put h hl ha⟩
theorem Go.put {σ : L2.St} {B H : Hp} {i : Nat} {ds es : List Dt} {l : Addr} {ys : List V} (E : Env K B H σ Γ) (h : Γ[i]? = some (.acc ds)) (hl : σ[i]? = some (some (.ref l))) (ha : IsA K B ys es) : Go K σ B H Γ B (upd H l (.lst ys)) (Γ.set i (.acc es)) :=
  Go.putC E h hl ⟨ys, rfl, ha⟩
theorem we_append {i : Nat} {ds0 : List Dt} {Post : Re → List Sl → Prop} (h0 : Γ[i]? = some (.acc ds0)) (h : WE K te Γ fun z Γ1 => ∃ d ds, z.dt? = some d ∧ Γ1[i]? = some (.acc ds) ∧ ds.length < 1000000 ∧ Post (.val .non) (Γ1.set i (.acc (ds ++ [d])))) :
    WE K (tBM K "list" rAppend (tVar i) (tCons te tNil)) Γ Post := fun σ B H E Q q => by
  obtain ⟨l, vs, e0, e1, e2, k0⟩ := E.acc i ds0 h0
  refine ⟨.ref l, e0, .inl ⟨rfl, vs, .inl (.inl e1)⟩, ?_⟩
  have h' : WE K te Γ fun z Γ1 => ∃ d ds, z = .val d ∧ Γ1[i]? = some (.acc ds) ∧ ds.length < 1000000 ∧ Post (.val .non) (Γ1.set i (.acc (ds ++ [d]))) := we_freeze (we_mono h fun z Γ1 ⟨d, ds, hd, r⟩ => ⟨d, hd, d, ds, rfl, r⟩)
  refine h' σ B H E _ fun y B1 H1 z Γ1 g k p => ?_
  obtain ⟨d, ds, rfl, hi, hz, p⟩ := p
  obtain ⟨l', us, f0, f1, f2, k1⟩ := g.env.acc i ds hi
  rw [e0] at f0; cases f0
  refine ⟨l, us, y, rfl, rfl, f1, Nat.lt_trans (by rw [k1.len]; exact hz) (by decide), ?_⟩
  have g2 := Go.put g.env hi e0 (k1.snoc k)
  exact q .non B1 _ (.val .non) _ (g.trans g2) (Is.raw _) p
theorem ws_setA {i : Nat} {tj : TE} (h : WE K te Γ fun z Γ1 => ∃ d, z = .val d ∧ (∃ ds1, Γ1[i]? = some (.acc ds1)) ∧ WE K tj Γ1 fun y Γ2 => ∃ ds k j, y = .val (.int k) ∧ Γ2[i]? = some (.acc ds) ∧ ixN ds.length k = some j ∧ P.nx (Γ2.set i (.acc (ds.set j d)))) :
    WS K pin (tAsg te (gSub (tVar i) tj rSetL)) Γ P := fun σ B H D E n r b c xx => by
  refine h σ B H E _ fun v B1 H1 z Γ1 g1 k1 p1 => ?_
  obtain ⟨d, rfl, ⟨ds1, h1⟩, p1⟩ := p1
  obtain ⟨l, vs, e0, e1, e2, k0⟩ := g1.env.acc i ds1 h1
  refine ⟨.ref l, e0, p1 σ B1 H1 g1.env _ fun y B2 H2 w Γ2 g2 k2 p2 => ?_⟩
  obtain ⟨ds, k, j, rfl, hi, hj, p⟩ := p2
  cases Is.rawI k2
  obtain ⟨l', us, f0, f1, f2, k3⟩ := g2.env.acc i ds hi
  rw [e0] at f0; cases f0
  refine ⟨l, us, k, j, rfl, rfl, f1, by rw [k3.len]; exact hj, ?_⟩
  exact n _ B2 _ _ ((g1.trans g2).trans (Go.put g2.env hi e0 (k3.set (Is.mono g2.mv.bb k1)))).s p
theorem we_reverse {i : Nat} {ds : List Dt} {Post : Re → List Sl → Prop} (h0 : Γ[i]? = some (.acc ds)) (p : Post (.val .non) (Γ.set i (.acc ds.reverse))) : WE K (tBM0 K "list" rReverse (tVar i)) Γ Post := fun σ B H E Q q => by
  obtain ⟨l, vs, e0, e1, e2, k0⟩ := E.acc i ds h0
  exact ⟨.ref l, e0, .inl ⟨rfl, vs, .inl (.inl e1)⟩, l, vs, rfl, rfl, e1, q .non B _ (.val .non) _ (Go.put E h0 e0 k0.reverse) (Is.raw _) p⟩
theorem ws_for1 {t1 : TA} (h : WD K t1 Γ fun ds Γ1 => ∃ n : Int, ds = [.int n] ∧ -(2 ^ 62) ≤ n ∧ n < 2 ^ 62 ∧ ∃ Inv : Nat → List Sl → Prop, Inv 0 Γ1 ∧
      (∀ (i : Nat) Γ', (i : Int) < n → Inv i Γ' → WG K pin g (.int i) Γ' fun Γ2 => WS K pin tb' Γ2 ⟨Inv (i + 1), P.rt, P.nx, Inv (i + 1), P.ex⟩) ∧ ∀ Γ', Inv n.toNat Γ' → P.nx Γ') : WS K pin (tFor (iRng1 t1) g tb') Γ P := fun σ B H D E n r b c xx => by
  refine h σ B H E _ fun vs B1 H1 ds Γ1 g1 k p => ?_
  obtain ⟨m, rfl, hlo, hhi, Inv, i0, turn, done⟩ := p
  have ev : vs = [.int m] := IsA.rawsI (xs := [.int m]) k
  refine ⟨m, ev, hlo, hhi, ?_⟩
  refine for_range (lo := 0) (n := m.toNat) (fun i σ' H' => ∃ B' Γ', GoS K pin σ B H Γ σ' B' H' Γ' ∧ Inv i Γ') ⟨B1, Γ1, g1.s, i0⟩ ?_ ?_
  · rintro i σ' H' hi ⟨B', Γ', g2, inv⟩
    have e0 : (0 : Int) + (i : Int) = (i : Int) := Int.zero_add _
    rw [e0]
    refine turn i Γ' (by omega) inv σ' B' H' _ g2.env (.raw _) _ fun σ2 Γ2 g3 w => ?_
    exact ws_from w (g2.trans g3) (fun σ3 B3 H3 Γ3 g4 p => ⟨B3, Γ3, g4, p⟩) r (fun σ3 B3 H3 Γ3 g4 p => n σ3 B3 H3 Γ3 g4 p) (fun σ3 B3 H3 Γ3 g4 p => ⟨B3, Γ3, g4, p⟩) xx
  · rintro σ' H' ⟨B', Γ', g2, inv⟩
    exact n σ' B' H' Γ' g2 (done Γ' inv)
theorem ws_for2 {t1 : TA} (h : WD K t1 Γ fun ds Γ1 => ∃ lo m : Int, ds = [.int lo, .int m] ∧ (-(2 ^ 62) ≤ lo ∧ lo < 2 ^ 62 ∧ -(2 ^ 62) ≤ m ∧ m < 2 ^ 62) ∧ ∃ Inv : Nat → List Sl → Prop, Inv 0 Γ1 ∧
      (∀ (i : Nat) Γ', lo + (i : Int) < m → Inv i Γ' → WG K pin g (.int (lo + i)) Γ' fun Γ2 => WS K pin tb' Γ2 ⟨Inv (i + 1), P.rt, P.nx, Inv (i + 1), P.ex⟩) ∧ ∀ Γ', Inv (m - lo).toNat Γ' → P.nx Γ') : WS K pin (tFor (iRng2 t1) g tb') Γ P := fun σ B H D E n r b c xx => by
  refine h σ B H E _ fun vs B1 H1 ds Γ1 g1 k p => ?_
  obtain ⟨lo, m, rfl, hb, Inv, i0, turn, done⟩ := p
  have ev : vs = [.int lo, .int m] := IsA.rawsI (xs := [.int lo, .int m]) k
  refine ⟨lo, m, ev, hb, ?_⟩
  refine for_range (lo := lo) (n := (m - lo).toNat) (fun i σ' H' => ∃ B' Γ', GoS K pin σ B H Γ σ' B' H' Γ' ∧ Inv i Γ') ⟨B1, Γ1, g1.s, i0⟩ ?_ ?_
  · rintro i σ' H' hi ⟨B', Γ', g2, inv⟩
    refine turn i Γ' (by omega) inv σ' B' H' _ g2.env (.raw _) _ fun σ2 Γ2 g3 w => ?_
    exact ws_from w (g2.trans g3) (fun σ3 B3 H3 Γ3 g4 p => ⟨B3, Γ3, g4, p⟩) r (fun σ3 B3 H3 Γ3 g4 p => n σ3 B3 H3 Γ3 g4 p) (fun σ3 B3 H3 Γ3 g4 p => ⟨B3, Γ3, g4, p⟩) xx
  · rintro σ' H' ⟨B', Γ', g2, inv⟩
    exact n σ' B' H' Γ' g2 (done Γ' inv)
theorem ws_forT (h : WE K te Γ fun z Γ1 => ∃ ds, z = .val (.tup ds) ∧ ∃ Inv : Nat → List Sl → Prop, Inv 0 Γ1 ∧
      (∀ (i : Nat) d Γ', ds[i]? = some d → Inv i Γ' → WG K pin g d Γ' fun Γ2 => WS K pin tb' Γ2 ⟨Inv (i + 1), P.rt, P.nx, Inv (i + 1), P.ex⟩) ∧ ∀ Γ', Inv ds.length Γ' → P.nx Γ') : WS K pin (tFor (iTup K te) g tb') Γ P := fun σ B H D E n r b c xx => by
  refine h σ B H E _ fun v B1 H1 z Γ1 g1 k p => ?_
  obtain ⟨ds, rfl, Inv, i0, turn, done⟩ := p
  obtain ⟨a, xs, rfl, ha, hx⟩ := Is.tupR k
  refine ⟨a, rfl, ⟨xs, sqT_mono g1.env.bh ha⟩, for_tup (xs := xs) (fun i σ' H' => ∃ B' Γ', Same B1 B' ∧ GoS K pin σ B H Γ σ' B' H' Γ' ∧ Inv i Γ') ⟨B1, Γ1, Same.refl _, g1.s, i0⟩ ?_ ?_ ?_⟩
  · rintro i σ' H' _ ⟨B', Γ', sb, g2, _⟩
    exact sqT_mono (sb.trans g2.env.bh) ha
  · rintro i x σ' H' hi ⟨B', Γ', sb, g2, inv⟩
    have hlt : i < ds.length := by rw [← hx.len]; exact (List.getElem?_eq_some_iff.mp hi).1
    refine turn i ds[i] Γ' (List.getElem?_eq_getElem hlt) inv σ' B' H' x g2.env ((hx.at_ i x _ hi (List.getElem?_eq_getElem hlt)).mono sb) _ fun σ2 Γ2 g3 w => ?_
    have g23 := g2.trans g3
    refine w σ2 B' H' _ g23.env (fun σ3 B3 H3 Γ3 g4 p => ⟨B3, Γ3, sb.trans g4.mv.bb, g23.trans g4, p⟩) (fun v σ3 B3 H3 z Γ3 g4 k4 p => r v σ3 B3 H3 z Γ3 (g23.trans g4) (ReOk.earlier k4 g23.mv g23.new) p)
      (fun σ3 B3 H3 Γ3 g4 p => n σ3 B3 H3 Γ3 (g23.trans g4) p) (fun σ3 B3 H3 Γ3 g4 p => ⟨B3, Γ3, sb.trans g4.mv.bb, g23.trans g4, p⟩) (fun cls d fs σ3 B3 H3 Γ3 g4 hx p => xx cls d fs σ3 B3 H3 Γ3 (g23.trans g4) hx p)
  · rintro σ' H' ⟨B', Γ', sb, g2, inv⟩
    rw [hx.len] at inv
    exact n σ' B' H' Γ' g2 (done Γ' inv)
theorem ws_forL (h : WE K te Γ fun z Γ1 => ∃ d ds, z.dt? = some d ∧ d = .lst ds ∧ ∃ Inv : Nat → List Sl → Prop, Inv 0 Γ1 ∧
      (∀ (i : Nat) d Γ', ds[i]? = some d → Inv i Γ' → WG K pin g d Γ' fun Γ2 => WS K pin tb' Γ2 ⟨Inv (i + 1), P.rt, P.nx, Inv (i + 1), P.ex⟩) ∧ ∀ Γ', Inv ds.length Γ' → P.nx Γ') : WS K pin (tFor (iList K te) g tb') Γ P := fun σ B H D E n r b c xx => by
  have h' : WE K te Γ fun z Γ1 => ∃ ds, z = .val (.lst ds) ∧ ∃ Inv : Nat → List Sl → Prop, Inv 0 Γ1 ∧
      (∀ (i : Nat) d Γ', ds[i]? = some d → Inv i Γ' → WG K pin g d Γ' fun Γ2 => WS K pin tb' Γ2 ⟨Inv (i + 1), P.rt, P.nx, Inv (i + 1), P.ex⟩) ∧ ∀ Γ', Inv ds.length Γ' → P.nx Γ' :=
    we_freeze (we_mono h fun z Γ1 ⟨d, ds, hd, e, r⟩ => ⟨d, hd, ds, by rw [e], r⟩)
  refine h' σ B H E _ fun v B1 H1 z Γ1 g1 k p => ?_
  obtain ⟨ds, rfl, Inv, i0, turn, done⟩ := p
  obtain ⟨a, xs, rfl, ha, hx⟩ := Is.lstR k
  refine ⟨a, rfl, ⟨xs, .inl (.inl (g1.env.bh _ _ ha))⟩, for_list (xs := xs) (fun i σ' H' => ∃ B' Γ', Same B1 B' ∧ GoS K pin σ B H Γ σ' B' H' Γ' ∧ Inv i Γ') ⟨B1, Γ1, Same.refl _, g1.s, i0⟩ ?_ ?_ ?_⟩
  · rintro i σ' H' _ ⟨B', Γ', sb, g2, _⟩
    exact .inl (.inl ((sb.trans g2.env.bh) _ _ ha))
  · rintro i x σ' H' hi ⟨B', Γ', sb, g2, inv⟩
    have hlt : i < ds.length := by rw [← hx.len]; exact (List.getElem?_eq_some_iff.mp hi).1
    refine turn i ds[i] Γ' (List.getElem?_eq_getElem hlt) inv σ' B' H' x g2.env ((hx.at_ i x _ hi (List.getElem?_eq_getElem hlt)).mono sb) _ fun σ2 Γ2 g3 w => ?_
    have g23 := g2.trans g3
    refine w σ2 B' H' _ g23.env (fun σ3 B3 H3 Γ3 g4 p => ⟨B3, Γ3, sb.trans g4.mv.bb, g23.trans g4, p⟩) (fun v σ3 B3 H3 z Γ3 g4 k4 p => r v σ3 B3 H3 z Γ3 (g23.trans g4) (ReOk.earlier k4 g23.mv g23.new) p)
      (fun σ3 B3 H3 Γ3 g4 p => n σ3 B3 H3 Γ3 (g23.trans g4) p) (fun σ3 B3 H3 Γ3 g4 p => ⟨B3, Γ3, sb.trans g4.mv.bb, g23.trans g4, p⟩) (fun cls d fs σ3 B3 H3 Γ3 g4 hx p => xx cls d fs σ3 B3 H3 Γ3 (g23.trans g4) hx p)
  · rintro σ' H' ⟨B', Γ', sb, g2, inv⟩
    rw [hx.len] at inv
    exact n σ' B' H' Γ' g2 (done Γ' inv)
theorem ws_forA {k : Nat} {ds : List Dt} (h0 : Γ[k]? = some (.acc ds)) (Inv : Nat → List Sl → Prop) (i0 : Inv 0 Γ) (hk : ∀ i Γ', Inv i Γ' → Γ'[k]? = some (.acc ds))
      (turn : ∀ (i : Nat) d Γ', ds[i]? = some d → Inv i Γ' → WG K (k :: pin) g d Γ' fun Γ2 => WS K (k :: pin) tb' Γ2 ⟨Inv (i + 1), P.rt, P.nx, Inv (i + 1), P.ex⟩) (done : ∀ Γ', Inv ds.length Γ' → P.nx Γ') : WS K pin (tFor (iList K (tVar k)) g tb') Γ P := fun σ B H D E n r b c xx => by
  obtain ⟨l, xs, e0, e1, e2, hx⟩ := E.acc k ds h0
  have off : ∀ {σ' B' H' Γ'}, GoS K (k :: pin) σ B H Γ σ' B' H' Γ' → GoS K pin σ B H Γ σ' B' H' Γ' := fun g => ⟨g.mv, g.new, g.env, fun i hi => g.pin i (List.mem_cons_of_mem _ hi)⟩
  have items : ∀ {i σ' B' H' Γ'}, GoS K (k :: pin) σ B H Γ σ' B' H' Γ' → Inv i Γ' → ∃ ys, H' l = some (.lst ys) ∧ IsA K B' ys ds := fun {i σ' B' H' Γ'} g inv => by
    obtain ⟨c, ys, q1, q2, q3, q4⟩ := g.env.acc k ds (hk i Γ' inv)
    rw [g.pin k (List.mem_cons_self), e0] at q1
    cases q1
    exact ⟨ys, q2, q4⟩
  refine ⟨.ref l, e0, l, rfl, ⟨xs, .inl (.inl e1)⟩, fun i m σ' H' => m = ds.length - i ∧ i ≤ ds.length ∧ ∃ B' Γ', GoS K (k :: pin) σ B H Γ σ' B' H' Γ' ∧ Inv i Γ', ⟨ds.length, by simp, Nat.zero_le _, B, Γ, .refl E, i0⟩, ?_⟩
  rintro i m σ' H' ⟨rfl, hi, B', Γ', g2, inv⟩
  obtain ⟨ys, hy, hya⟩ := items g2 inv
  by_cases hlt : i < ds.length
  · obtain ⟨x, hx1, hx2⟩ := hya.get (List.getElem?_eq_getElem hlt)
    refine .inr ⟨⟨ys, x, .inl (.inl hy), hx1⟩, fun σ2 H2 => ∃ B' Γ', GoS K (k :: pin) σ B H Γ σ2 B' H2 Γ' ∧ Inv (i + 1) Γ', fun σ2 H2 ⟨B2, Γ2, q⟩ => ⟨ds.length - (i + 1), by omega, rfl, hlt, B2, Γ2, q⟩, fun x' H2 hyl => ?_⟩
    obtain ⟨e, hyl⟩ := hyl
    subst e
    have ex : x' = x := by
      have := hyl ys (.inl (.inl hy))
      rw [hx1] at this; cases this; rfl
    subst ex
    refine turn i ds[i] Γ' (List.getElem?_eq_getElem hlt) inv σ' B' _ x' g2.env hx2 _ fun σ2 Γ2 g3 w => ?_
    have g23 := g2.trans g3
    exact w σ2 B' _ _ g23.env (fun σ3 B3 H3 Γ3 g4 p => ⟨B3, Γ3, g23.trans g4, p⟩) (fun v σ3 B3 H3 z Γ3 g4 k4 p => r v σ3 B3 H3 z Γ3 (off (g23.trans g4)) (ReOk.earlier k4 g23.mv g23.new) p)
      (fun σ3 B3 H3 Γ3 g4 p => n σ3 B3 H3 Γ3 (off (g23.trans g4)) p) (fun σ3 B3 H3 Γ3 g4 p => ⟨B3, Γ3, g23.trans g4, p⟩) (fun cls d fs σ3 B3 H3 Γ3 g4 hx p => xx cls d fs σ3 B3 H3 Γ3 (off (g23.trans g4)) hx p)
  · have e : i = ds.length := by omega
    subst e
    exact .inl ⟨⟨ys, .inl (.inl hy), by rw [hya.len]; exact Nat.le_refl _⟩, n σ' B' H' Γ' (off g2) (done Γ' inv)⟩
theorem ws_while (Inv : Nat → List Sl → Prop) (m0 : Nat) (i0 : Inv m0 Γ)
      (turn : ∀ m Γ', Inv m Γ' → WT K tt Γ' fun z Γ1 => (z = true → WS K pin tb' Γ1 ⟨fun G => ∃ m', m' < m ∧ Inv m' G, P.rt, P.nx, fun G => ∃ m', m' < m ∧ Inv m' G, P.ex⟩) ∧ (z = false → P.nx Γ1)) : WS K pin (tWhile tt tb') Γ P := fun σ B H D E n r b c xx => by
  refine ⟨fun m σ' H' => ∃ B' Γ', GoS K pin σ B H Γ σ' B' H' Γ' ∧ Inv m Γ', ⟨m0, B, Γ, .refl E, i0⟩, ?_⟩
  rintro m σ' H' ⟨B', Γ', g, inv⟩
  refine turn m Γ' inv σ' B' H' g.env _ fun z B1 H1 Γ1 g1 p => ?_
  have gg := g.trans g1.s
  cases z with
  | true =>
    refine (show ∃ N : L2.St → Hp → Prop, _ from ⟨fun σ2 H2 => ∃ B2 Γ2, GoS K pin σ B H Γ σ2 B2 H2 Γ2 ∧ ∃ m', m' < m ∧ Inv m' Γ2, fun σ2 H2 ⟨B2, Γ2, g2, m', hm, inv'⟩ => ⟨m', hm, B2, Γ2, g2, inv'⟩, ?_⟩)
    exact ws_from (p.1 rfl) gg (fun σ3 B3 H3 Γ3 g4 p => ⟨B3, Γ3, g4, p⟩) r (fun σ3 B3 H3 Γ3 g4 p => n σ3 B3 H3 Γ3 g4 p) (fun σ3 B3 H3 Γ3 g4 p => ⟨B3, Γ3, g4, p⟩) xx
  | false => exact n σ' B1 H1 Γ1 gg (p.2 rfl)
end
end Ab

namespace Ab
open PySem L2
abbrev AP := List Sl → (Re → List Sl → Prop) → Prop
def toSp (K : PySem.W.Frag) (ap : AP) : Sp := fun vs H Q _ => ∃ B as Post, Env K B H (vs.map some) as ∧ ap as Post ∧
  ∀ v B' H' r as', Go K (vs.map some) B H as B' H' as' → ReOk K [] (Own (vs.map some) as) (Own (vs.map some) as') B' H H' v r → Post r as' → Q v H'
def exitSl (pin : List Nat) (Γ : List Sl) (i : Nat) : Sl → Sl
  | .val d => .val d
  | .un => .un
  | .cel _ => if pin.contains i then (Γ[i]?).getD .un else .un
def exitFrom (pin : List Nat) (Γ : List Sl) : Nat → List Sl → List Sl
  | _, [] => []
  | k, s :: r => exitSl pin Γ k s :: exitFrom pin Γ (k + 1) r
def exitArgs (pin : List Nat) (Γ as : List Sl) : List Sl := exitFrom pin Γ 0 as
theorem exitFrom_get (pin : List Nat) (Γ : List Sl) : ∀ (as : List Sl) (k i : Nat), (exitFrom pin Γ k as)[i]? = (as[i]?).map (exitSl pin Γ (k + i))
  | [], k, i => by simp [exitFrom]
  | s :: r, k, 0 => by simp [exitFrom]
  | s :: r, k, i + 1 => by
    rw [exitFrom]
    simp only [List.getElem?_cons_succ]
    rw [exitFrom_get pin Γ r (k + 1) i]
    rw [show k + 1 + i = k + (i + 1) by omega]
theorem exitArgs_get {pin : List Nat} {Γ as : List Sl} {i : Nat} {s : Sl} (h : (exitArgs pin Γ as)[i]? = some s) : ∃ s0, as[i]? = some s0 ∧ s = exitSl pin Γ i s0 := by
  unfold exitArgs at h
  rw [exitFrom_get] at h
  cases q : as[i]? with
  | none => rw [q] at h; cases h
  | some s0 =>
    rw [q] at h
    simp at h
    exact ⟨s0, rfl, h.symm⟩
theorem exitFrom_len (pin : List Nat) (Γ : List Sl) : ∀ (as : List Sl) (k : Nat), (exitFrom pin Γ k as).length = as.length
  | [], _ => rfl
  | s :: r, k => by rw [exitFrom, List.length_cons, List.length_cons, exitFrom_len pin Γ r (k + 1)]
section
variable {K : PySem.W.Frag}
theorem start_get {N : List Str} {vs : List V} {i : Nat} (h : i < vs.length) : (L2.start N vs)[i]? = (vs.map some)[i]? := by
  unfold L2.start
  rw [List.getElem?_append_left (by rw [List.length_map]; exact h)]
theorem env_start {B H : Hp} {N : List Str} {vs : List V} {as : List Sl} (E : Env K B H (vs.map some) as) (hn : as.length ≤ N.length) : Env K B H (L2.start N vs) (as ++ List.replicate (N.length - as.length) .un) := by
  have hl : vs.length = as.length := by have := E.len; simpa using this
  have lt : ∀ {i : Nat} {s : Sl}, (as ++ List.replicate (N.length - as.length) Sl.un)[i]? = some s → s ≠ .un → i < as.length ∧ as[i]? = some s := fun {i s} h hs => by
    by_cases hi : i < as.length
    · rw [List.getElem?_append_left hi] at h; exact ⟨hi, h⟩
    · rw [List.getElem?_append_right (by omega)] at h
      have := List.mem_of_getElem? h
      rw [List.mem_replicate] at this
      exact absurd this.2 hs
  refine ⟨?_, E.bh, fun i d h => ?_, fun i ds h => ?_, fun i j ds es l h1 h2 h3 h4 => ?_⟩
  · unfold L2.start
    rw [List.length_append, List.length_map, List.length_replicate, List.length_append, List.length_replicate, hl]
  · obtain ⟨hi, h⟩ := lt h (fun z => nomatch z)
    rw [start_get (by omega)]
    exact E.val i d h
  · obtain ⟨hi, h⟩ := lt h (fun z => nomatch z)
    rw [start_get (by omega)]
    exact E.cel i ds h
  · obtain ⟨hi, h1⟩ := lt h1 (fun z => nomatch z)
    obtain ⟨hj, h2⟩ := lt h2 (fun z => nomatch z)
    rw [start_get (by omega)] at h3 h4
    exact E.sep i j ds es l h1 h2 h3 h4
theorem own_start {N : List Str} {vs : List V} {as : List Sl} (hl : vs.length = as.length) {a : Addr} : Own (L2.start N vs) (as ++ List.replicate (N.length - as.length) .un) a ↔ Own (vs.map some) as a := by
  constructor
  · rintro ⟨i, ds, h1, h2⟩
    by_cases hi : i < as.length
    · rw [List.getElem?_append_left hi] at h1
      rw [start_get (by omega)] at h2
      exact ⟨i, ds, h1, h2⟩
    · rw [List.getElem?_append_right (by omega)] at h1
      have := List.mem_of_getElem? h1
      rw [List.mem_replicate] at this
      cases this.2
  · rintro ⟨i, ds, h1, h2⟩
    have hi : i < as.length := (List.getElem?_eq_some_iff.mp h1).1
    refine ⟨i, ds, ?_, ?_⟩
    · rw [List.getElem?_append_left hi]; exact h1
    · rw [start_get (by omega)]; exact h2
variable {P : Program} {w : World} {mg : Str → Option Value} {base : Heap}
theorem exit_go {N : List Str} {vs : List V} {as : List Sl} {B H B' H' : Hp} {pin : List Nat} {σ' : L2.St} {Γ' : List Sl} (E1 : Env K B H (vs.map some) as) (hl : vs.length = as.length)
    (g : GoS K pin (L2.start N vs) B H (as ++ List.replicate (N.length - as.length) .un) σ' B' H' Γ') : Go K (vs.map some) B H as B' H' (exitArgs pin Γ' as) ∧
      ∀ v r, ReOk K [] (Own (L2.start N vs) (as ++ List.replicate (N.length - as.length) .un)) (Own σ' Γ') B' H H' v r → ReOk K [] (Own (vs.map some) as) (Own (vs.map some) (exitArgs pin Γ' as)) B' H H' v r := by
  have hpinv : ∀ i, i < vs.length → i ∈ pin → σ'[i]? = (vs.map some)[i]? := fun i hi hp => by rw [g.pin i hp, start_get hi]
  have acc : ∀ {i : Nat} {ds : Cn}, (exitArgs pin Γ' as)[i]? = some (.cel ds) → i ∈ pin ∧ Γ'[i]? = some (.cel ds) ∧ ∃ ds0, as[i]? = some (.cel ds0) := fun {i ds} h => by
    obtain ⟨s0, h0, e⟩ := exitArgs_get h
    cases s0 with
    | un => cases e
    | val d => cases e
    | cel es =>
      unfold exitSl at e
      simp only at e
      split at e
      · rename_i hc
        refine ⟨List.contains_iff_mem.mp hc, ?_, es, h0⟩
        cases q : Γ'[i]? with
        | none => rw [q] at e; cases e
        | some s => rw [q] at e; simp at e; rw [← e]
      · cases e
  have own' : ∀ {a}, Own (vs.map some) (exitArgs pin Γ' as) a → Own σ' Γ' a := fun {a} ⟨i, ds, h1, h2⟩ => by
    obtain ⟨hp, h3, _, _⟩ := acc h1
    have hi : i < vs.length := by
      have := (List.getElem?_eq_some_iff.mp h2).1
      simpa using this
    exact ⟨i, ds, h3, by rw [hpinv i hi hp]; exact h2⟩
  have E' : Env K B' H' (vs.map some) (exitArgs pin Γ' as) := by
    refine ⟨by unfold exitArgs; rw [exitFrom_len, List.length_map, hl], g.env.bh, fun i d h => ?_, fun i ds h => ?_, fun i j ds es l h1 h2 h3 h4 => ?_⟩
    · obtain ⟨s0, h0, e⟩ := exitArgs_get h
      cases s0 with
      | un => cases e
      | val d' =>
        cases e
        obtain ⟨v, e1, e2⟩ := E1.val i d h0
        exact ⟨v, e1, e2.mono g.mv.bb⟩
      | cel es =>
        unfold exitSl at e
        simp only at e
        split at e
        · rename_i hc
          have hp := List.contains_iff_mem.mp hc
          have hi : i < vs.length := by rw [hl]; exact (List.getElem?_eq_some_iff.mp h0).1
          cases q : Γ'[i]? with
          | none => rw [q] at e; cases e
          | some s =>
            rw [q] at e
            simp at e
            subst e
            rw [← hpinv i hi hp]
            exact g.env.val i d q
        · cases e
    · obtain ⟨hp, h3, _, h4⟩ := acc h
      have hi : i < vs.length := by rw [hl]; exact (List.getElem?_eq_some_iff.mp h4).1
      rw [← hpinv i hi hp]
      exact g.env.cel i ds h3
    · obtain ⟨hp, g1, _, _⟩ := acc h1
      obtain ⟨hp2, g2, _, _⟩ := acc h2
      have hi : i < vs.length := by have := (List.getElem?_eq_some_iff.mp h3).1; simpa using this
      have hj : j < vs.length := by have := (List.getElem?_eq_some_iff.mp h4).1; simpa using this
      exact g.env.sep i j ds es l g1 g2 (by rw [hpinv i hi hp]; exact h3) (by rw [hpinv j hj hp2]; exact h4)
  have hm : ∀ a, Own (L2.start N vs) (as ++ List.replicate (N.length - as.length) .un) a ↔ Own (vs.map some) as a := fun a => own_start hl
  refine ⟨⟨⟨fun a o na e => g.mv.kp a o (fun z => na ((hm a).mp z)) e, g.mv.bb, fun a na ha hb => g.mv.off a (fun z => na ((hm a).mp z)) ha hb⟩, fun i ds h1 => ?_, E'⟩, fun v r kk => ?_⟩
  · obtain ⟨_, _, ds0, h3⟩ := acc h1
    exact ⟨ds0, h3⟩
  · cases r with
    | val d => exact kk
    | own i => exact kk
    | nw ds =>
      obtain ⟨l, us, e, h1, h2, h3⟩ := kk
      exact ⟨l, us, e, h1.imp (fun z => (hm l).mp z) id, fun z => h2 (own' z), h3⟩
theorem fn_ab {x qual : Str} {st : Stmt} {f : Addr} {fd : FuncData} {N ps : List Str} {k : Nat} {ap : AP} (pin : List Nat) (F : Fun K x qual st f fd) (S : FnScope N ps (defScope st))
    (hlen : ∀ as Post, ap as Post → as.length = ps.length) (hN : decide (ps.length ≤ N.length) = true)
    (body : ∀ (cdv : Value) (A : Around) (outer : List PySem.Env) (s : Shared) (H : Hp) (E : XK), Room k (A.deeper (PyProof.Rows.envOfC qual (defScope st) s.heap.objs.size f cdv)) →
      ∃ t, PSs (cxOf CX0 P w K mg base N qual (defScope st) f cdv A outer s H E).nox (defBody st) t ∧
        ∀ as Post, ap as Post → WS K pin t (as ++ List.replicate (N.length - as.length) .un) ⟨fun G => Post (.val .non) (exitArgs pin G as), fun r G => Post r (exitArgs pin G as), fun _ => False, fun _ => False, .no⟩) :
    FnOk P w K mg base CX0 (k + 1) f fd ps (toSp K ap) := by
  refine F.ok S (fun vs H Q E h => ?_) (fun cdv A outer s H vs Q E hr h => ?_)
  · obtain ⟨B, as, Post, E1, ha, _⟩ := h
    have := E1.len
    rw [List.length_map] at this
    rw [this]; exact hlen as Post ha
  · obtain ⟨B, as, Post, E1, ha, q⟩ := h
    obtain ⟨t, ht, hw⟩ := body cdv A outer s H E hr
    refine ⟨t, ht, ?_⟩
    have hl : vs.length = as.length := by have := E1.len; simpa using this
    have hps : as.length ≤ N.length := by rw [hlen as Post ha]; exact of_decide_eq_true hN
    have E0 := env_start E1 hps
    have fin : ∀ v σ' B' H' r Γ', GoS K pin (L2.start N vs) B H (as ++ List.replicate (N.length - as.length) .un) σ' B' H' Γ' → ReOk K [] (Own (L2.start N vs) (as ++ List.replicate (N.length - as.length) .un)) (Own σ' Γ') B' H H' v r → Post r (exitArgs pin Γ' as) → Q v H' := by
      intro v σ' B' H' r Γ' g kk p
      obtain ⟨g', kr⟩ := exit_go E1 hl g
      exact q v B' H' r _ g' (kr v r kk) p
    exact hw as Post ha (L2.start N vs) B H _ E0 (fun σ' B' H' Γ' g p => fin .non σ' B' H' (.val .non) Γ' g (Is.raw _) p) (fun v σ' B' H' r Γ' g kk p => fin v σ' B' H' r Γ' g kk p) (fun _ _ _ _ _ p => p.elim) (fun _ _ _ _ _ p => p.elim) (fun _ _ _ _ _ _ _ _ _ p => (show False from p).elim)
end
structure AsOk (K : PySem.W.Frag) (σ : L2.St) (m m' : Addr → Prop) (B' H H' : Hp) (vs : List V) (rs : List Re) : Prop where
  len : vs.length = rs.length
  at_ : ∀ (i : Nat) v r, vs[i]? = some v → rs[i]? = some r → ReOk K σ m m' B' H H' v r
  sep : ∀ (i j : Nat) ds es l, rs[i]? = some (.nw ds) → rs[j]? = some (.nw es) → vs[i]? = some (.ref l) → vs[j]? = some (.ref l) → i = j
def WA (K : PySem.W.Frag) (ta : TA) (Γ : List Sl) (Post : List Re → List Sl → Prop) : Prop := ∀ σ B H, Env K B H σ Γ → ∀ Q : List V → Hp → Prop,
  (∀ vs B' H' rs Γ', Go K σ B H Γ B' H' Γ' → AsOk K σ (Own σ Γ) (Own σ Γ') B' H H' vs rs → Post rs Γ' → Q vs H') → ta σ H Q
section
variable {K : PySem.W.Frag} {Γ : List Sl} {te : TE} {tr : TA}
theorem wa_nil {P : List Re → List Sl → Prop} (p : P [] Γ) : WA K tNil Γ P := fun σ B H E Q q => q [] B H [] Γ (.refl E) ⟨rfl, fun i v r a => by simp at a, fun i j ds es l a => by simp at a⟩ p
theorem wa_cons {P : List Re → List Sl → Prop} (h : WE K te Γ fun r Γ1 => WA K tr Γ1 fun rs Γ2 => P (r :: rs) Γ2) : WA K (tCons te tr) Γ P := fun σ B H E Q q => by
  refine h σ B H E _ fun x B1 H1 r Γ1 g1 k1 p1 => ?_
  refine p1 σ B1 H1 g1.env _ fun vs B2 H2 rs Γ2 g2 k2 p2 => ?_
  have k1' := ReOk.step k1 g2.mv g2.sub
  refine q (x :: vs) B2 H2 (r :: rs) Γ2 (g1.trans g2) ⟨by simp [k2.len], fun i v z a b => ?_, fun i j ds es l a b c d => ?_⟩ p2
  · cases i with
    | zero => simp at a b; subst a b; exact k1'
    | succ i => simp at a b; exact ReOk.earlier (k2.at_ i v z a b) g1.mv fun a h => .inl (g1.sub a h)
  · -- two new lists are apart
    have apart : ∀ (j : Nat) es, r = .nw ds → rs[j]? = some (.nw es) → x = .ref l → vs[j]? = some (.ref l) → False := fun j es hr hj hx hv => by
      subst hr
      obtain ⟨l1, us, e, _, n1, t1, _⟩ := k1
      rw [hx] at e; cases e
      obtain ⟨l2, us2, e2, f2, _⟩ := k2.at_ j _ _ hv hj
      cases e2
      rcases f2 with f2 | f2
      · exact n1 f2
      · rw [t1] at f2; cases f2
    cases i with
    | zero =>
      cases j with
      | zero => rfl
      | succ j => simp at a b c d; exact (apart j es a b c d).elim
    | succ i =>
      cases j with
      | zero =>
        simp at a b c d
        have : ∀ es', r = .nw es' → False := fun es' hr => by
          subst hr
          obtain ⟨l1, us, e, _, n1, t1, _⟩ := k1
          rw [d] at e; cases e
          obtain ⟨l2, us2, e2, f2, _⟩ := k2.at_ i _ _ c a
          cases e2
          rcases f2 with f2 | f2
          · exact n1 f2
          · rw [t1] at f2; cases f2
        exact (this es b).elim
      | succ j =>
        simp at a b c d
        rw [k2.sep i j ds es l a b c d]
end
def argSl (Γ : List Sl) : Re → Sl
  | .val d => .val d
  | .nw ds => .cel ds
  | .own i => match Γ[i]? with
    | some (.cel ds) => .cel ds
    | _ => .un
def putBack : List Re → List Sl → List Sl → List Sl
  | .own i :: rs, s :: as, Γ => putBack rs as (Γ.set i s)
  | _ :: rs, _ :: as, Γ => putBack rs as Γ
  | _, _, Γ => Γ
def ownsOf : List Re → List Nat
  | .own i :: rs => i :: ownsOf rs
  | _ :: rs => ownsOf rs
  | [] => []
def nodupB : List Nat → Bool
  | [] => true
  | x :: r => !r.contains x && nodupB r
theorem ownsOf_mem {i : Nat} : ∀ {rs : List Re}, i ∈ ownsOf rs ↔ ∃ j : Nat, rs[j]? = some (.own i)
  | [] => by simp [ownsOf]
  | r :: rs => by
    have ih := ownsOf_mem (i := i) (rs := rs)
    have split : (∃ j : Nat, (r :: rs)[j]? = some (.own i)) ↔ r = .own i ∨ ∃ j : Nat, rs[j]? = some (.own i) := by
      constructor
      · rintro ⟨j, h⟩
        cases j with
        | zero => simp at h; exact .inl h
        | succ j => simp at h; exact .inr ⟨j, h⟩
      · rintro (h | ⟨j, h⟩)
        · exact ⟨0, by simp [h]⟩
        · exact ⟨j + 1, by simp [h]⟩
    rw [split]
    cases r with
    | own k => simp only [ownsOf, List.mem_cons, ih, Re.own.injEq]; constructor <;> rintro (h | h) <;> first | exact .inl h.symm | exact .inr h
    | val d => simp [ownsOf, ih]
    | nw ds => simp [ownsOf, ih]
theorem putBack_len : ∀ (rs : List Re) (as Γ : List Sl), (putBack rs as Γ).length = Γ.length
  | [], _, _ => by simp [putBack]
  | .own i :: rs, [], Γ => by simp [putBack]
  | .own i :: rs, s :: as, Γ => by rw [putBack, putBack_len]; simp
  | .val d :: rs, [], Γ => by simp [putBack]
  | .val d :: rs, s :: as, Γ => by rw [putBack, putBack_len]; simp
  | .nw d :: rs, [], Γ => by simp [putBack]
  | .nw d :: rs, s :: as, Γ => by rw [putBack, putBack_len]; simp
theorem putBack_other {i : Nat} : ∀ (rs : List Re) (as Γ : List Sl), i ∉ ownsOf rs → (putBack rs as Γ)[i]? = Γ[i]?
  | [], _, _, _ => by simp [putBack]
  | .own k :: rs, [], Γ, _ => by simp [putBack]
  | .own k :: rs, s :: as, Γ, h => by
    rw [ownsOf, List.mem_cons, not_or] at h
    rw [putBack, putBack_other rs as _ h.2, List.getElem?_set_ne (fun z => h.1 z.symm)]
  | .val d :: rs, [], Γ, _ => by simp [putBack]
  | .val d :: rs, s :: as, Γ, h => by rw [putBack]; exact putBack_other rs as _ h; all_goals simp
  | .nw d :: rs, [], Γ, _ => by simp [putBack]
  | .nw d :: rs, s :: as, Γ, h => by rw [putBack]; exact putBack_other rs as _ h; all_goals simp
theorem putBack_own {i : Nat} : ∀ (rs : List Re) (as Γ : List Sl) (j : Nat), nodupB (ownsOf rs) = true → rs[j]? = some (.own i) → j < as.length → i < Γ.length → (putBack rs as Γ)[i]? = as[j]?
  | [], _, _, _, _, h, _, _ => by simp at h
  | r :: rs, [], Γ, j, _, _, hj, _ => by simp at hj
  | .own k :: rs, s :: as, Γ, 0, nd, h, _, hi => by
    simp at h
    subst h
    rw [ownsOf, nodupB, Bool.and_eq_true] at nd
    have : k ∉ ownsOf rs := fun z => by
      have := List.contains_iff_mem.mpr z
      rw [this] at nd; exact absurd nd.1 (by decide)
    rw [putBack, putBack_other rs as _ this, List.getElem?_set_self hi]; rfl
  | .own k :: rs, s :: as, Γ, j + 1, nd, h, hj, hi => by
    simp at h hj
    rw [ownsOf, nodupB, Bool.and_eq_true] at nd
    rw [putBack, putBack_own rs as _ j nd.2 h hj (by simpa using hi)]; simp
  | .val d :: rs, s :: as, Γ, 0, nd, h, _, hi => by simp at h
  | .val d :: rs, s :: as, Γ, j + 1, nd, h, hj, hi => by
    simp at h hj
    rw [putBack, putBack_own rs as _ j nd h hj hi]; simp
    all_goals simp
  | .nw d :: rs, s :: as, Γ, 0, nd, h, _, hi => by simp at h
  | .nw d :: rs, s :: as, Γ, j + 1, nd, h, hj, hi => by
    simp at h hj
    rw [putBack, putBack_own rs as _ j nd h hj hi]; simp
    all_goals simp
theorem nodupB_ix {rs : List Re} {i : Nat} : ∀ {j k : Nat}, nodupB (ownsOf rs) = true → rs[j]? = some (.own i) → rs[k]? = some (.own i) → j = k := by
  induction rs with
  | nil => intro j k _ h; simp at h
  | cons r rs ih =>
    intro j k nd h1 h2
    have tail : nodupB (ownsOf rs) = true := by
      cases r with
      | own i => rw [ownsOf, nodupB, Bool.and_eq_true] at nd; exact nd.2
      | val d => exact nd
      | nw d => exact nd
    have head : r = .own i → ∀ n : Nat, rs[n]? = some (.own i) → False := fun e n hn => by
      subst e
      rw [ownsOf, nodupB, Bool.and_eq_true] at nd
      have : i ∈ ownsOf rs := ownsOf_mem.mpr ⟨n, hn⟩
      rw [List.contains_iff_mem.mpr this] at nd
      exact absurd nd.1 (by decide)
    cases j with
    | zero =>
      cases k with
      | zero => rfl
      | succ k => simp at h1 h2; exact (head h1 k h2).elim
    | succ j =>
      cases k with
      | zero => simp at h1 h2; exact (head h2 j h1).elim
      | succ k => simp at h1 h2; rw [ih tail h1 h2]
theorem call_go {K : PySem.W.Frag} {σ : L2.St} {B H B1 H1 : Hp} {Γ Γ1 : List Sl} {vs : List V} {rs : List Re} (E : Env K B H σ Γ) (g1 : Go K σ B H Γ B1 H1 Γ1) (k1 : AsOk K σ (Own σ Γ) (Own σ Γ1) B1 H H1 vs rs)
    (nd : nodupB (ownsOf rs) = true) : Env K B1 H1 (vs.map some) (rs.map (argSl Γ1)) ∧ ∀ B2 H2 as', Go K (vs.map some) B1 H1 (rs.map (argSl Γ1)) B2 H2 as' → Go K σ B H Γ B2 H2 (putBack rs as' Γ1) ∧
      ∀ v r, ReOk K [] (Own (vs.map some) (rs.map (argSl Γ1))) (Own (vs.map some) as') B2 H1 H2 v r → ReOk K σ (Own σ Γ) (Own σ (putBack rs as' Γ1)) B2 H H2 v r := by
  have hl := k1.len
  have aget : ∀ {i : Nat} {s : Sl}, (rs.map (argSl Γ1))[i]? = some s → ∃ r, rs[i]? = some r ∧ s = argSl Γ1 r := fun {i s} h => by
    rw [List.getElem?_map] at h
    cases q : rs[i]? with
    | none => rw [q] at h; cases h
    | some r => rw [q] at h; simp at h; exact ⟨r, rfl, h.symm⟩
  have vget : ∀ {i : Nat} {r : Re}, rs[i]? = some r → ∃ v, vs[i]? = some v ∧ (vs.map some)[i]? = some (some v) ∧ ReOk K σ (Own σ Γ) (Own σ Γ1) B1 H H1 v r := fun {i r} h => by
    have hi : i < vs.length := by rw [hl]; exact (List.getElem?_eq_some_iff.mp h).1
    refine ⟨vs[i], List.getElem?_eq_getElem hi, by rw [List.getElem?_map, List.getElem?_eq_getElem hi]; rfl, k1.at_ i _ _ (List.getElem?_eq_getElem hi) h⟩
  -- an owned argument: new or a slot's
  have accArg : ∀ {i : Nat} {ds : Cn}, (rs.map (argSl Γ1))[i]? = some (.cel ds) → (rs[i]? = some (.nw ds)) ∨ ∃ k, rs[i]? = some (.own k) ∧ Γ1[k]? = some (.cel ds) := fun {i ds} h => by
    obtain ⟨r, h1, h2⟩ := aget h
    cases r with
    | val d => cases h2
    | nw es => cases h2; exact .inl h1
    | own k =>
      have h2' : Sl.cel ds = (match Γ1[k]? with
        | some (.cel ds) => .cel ds
        | _ => .un) := h2
      split at h2'
      · rename_i es he
        cases h2'
        exact .inr ⟨k, h1, he⟩
      · cases h2'
  -- who is owned on the callee's side
  have ownArg : ∀ {a}, Own (vs.map some) (rs.map (argSl Γ1)) a → ((∃ (i : Nat) (ds : Cn), rs[i]? = some (Re.nw ds) ∧ vs[i]? = some (V.ref a)) ∨ ∃ (i k : Nat) (ds : Cn), rs[i]? = some (Re.own k) ∧ Γ1[k]? = some (.cel ds) ∧ vs[i]? = some (.ref a) ∧ σ[k]? = some (some (.ref a))) := fun {a} ⟨i, ds, h1, h2⟩ => by
    rw [List.getElem?_map] at h2
    cases hv : vs[i]? with
    | none => rw [hv] at h2; cases h2
    | some v =>
      rw [hv] at h2
      simp at h2
      subst h2
      rcases accArg h1 with h | ⟨k, h, hk⟩
      · exact .inl ⟨i, ds, h, hv⟩
      · obtain ⟨v', e1, _, l, e2, e3⟩ := vget h
        rw [hv] at e1; cases e1; cases e2
        exact .inr ⟨i, k, ds, h, hk, hv, e3⟩
  have newOff : ∀ {i : Nat} {ds a}, rs[i]? = some (.nw ds) → vs[i]? = some (.ref a) → (Own σ Γ a ∨ H a = none) ∧ ¬ Own σ Γ1 a := fun {i ds a} h1 h2 => by
    obtain ⟨v', e1, _, l, us, e2, e3, e4, _⟩ := vget h1
    rw [h2] at e1; cases e1; cases e2
    exact ⟨e3, e4⟩
  have ownBack : ∀ {a}, Own (vs.map some) (rs.map (argSl Γ1)) a → Own σ Γ a ∨ H a = none := fun {a} o => by
    rcases ownArg o with ⟨i, ds, h1, h2⟩ | ⟨i, k, ds, h1, h2, h3, h4⟩
    · exact (newOff h1 h2).1
    · exact .inl (g1.sub a ⟨k, ds, h2, h4⟩)
  have E2 : Env K B1 H1 (vs.map some) (rs.map (argSl Γ1)) := by
    refine ⟨by simp [hl], g1.env.bh, fun i d h => ?_, fun i ds h => ?_, fun i j ds es l h1 h2 h3 h4 => ?_⟩
    · obtain ⟨r, h1, h2⟩ := aget h
      cases r with
      | val d' => cases h2; obtain ⟨v, _, e1, e2⟩ := vget h1; exact ⟨v, e1, e2⟩
      | nw es => cases h2
      | own k =>
        have h2' : Sl.val d = (match Γ1[k]? with
          | some (.cel ds) => .cel ds
          | _ => .un) := h2
        split at h2' <;> cases h2'
    · rcases accArg h with h1 | ⟨k, h1, hk⟩
      · obtain ⟨v, _, e1, l, us, e2, _, _, e3, e4, e5⟩ := vget h1
        subst e2
        exact ⟨l, us, e1, e3, e4, e5⟩
      · obtain ⟨v, _, e1, l, e2, e3⟩ := vget h1
        subst e2
        obtain ⟨c, us, f1, f2, f3, f4⟩ := g1.env.cel k ds hk
        rw [e3] at f1; cases f1
        exact ⟨l, us, e1, f2, f3, f4⟩
    · have v3 : vs[i]? = some (.ref l) := by
        rw [List.getElem?_map] at h3
        cases q : vs[i]? with
        | none => rw [q] at h3; cases h3
        | some v => rw [q] at h3; simp at h3; rw [h3]
      have v4 : vs[j]? = some (.ref l) := by
        rw [List.getElem?_map] at h4
        cases q : vs[j]? with
        | none => rw [q] at h4; cases h4
        | some v => rw [q] at h4; simp at h4; rw [h4]
      rcases accArg h1 with a1 | ⟨k, a1, b1⟩
      · rcases accArg h2 with a2 | ⟨k2, a2, b2⟩
        · exact k1.sep i j ds es l a1 a2 v3 v4
        · obtain ⟨v', e1, _, l2, e2, e3⟩ := vget a2
          rw [v4] at e1; cases e1; cases e2
          exact absurd ⟨k2, es, b2, e3⟩ (newOff a1 v3).2
      · obtain ⟨v', e1, _, l2, e2, e3⟩ := vget a1
        rw [v3] at e1; cases e1; cases e2
        rcases accArg h2 with a2 | ⟨k2, a2, b2⟩
        · exact absurd ⟨k, ds, b1, e3⟩ (newOff a2 v4).2
        · obtain ⟨v', f1, _, l2, f2, f3⟩ := vget a2
          rw [v4] at f1; cases f1; cases f2
          have := g1.env.sep k k2 ds es l b1 b2 e3 f3
          subst this
          exact nodupB_ix nd a1 a2
  refine ⟨E2, fun B2 H2 as' g2 => ?_⟩
  have hal : as'.length = rs.length := by
    have := g2.env.len
    rw [List.length_map] at this
    omega
  -- slot i of the caller afterwards
  have slot : ∀ {i : Nat} {s : Sl}, (putBack rs as' Γ1)[i]? = some s → (∃ j : Nat, rs[j]? = some (.own i) ∧ as'[j]? = some s ∧ ∃ v, (vs.map some)[j]? = some (some v) ∧ σ[i]? = some (some v)) ∨ (i ∉ ownsOf rs ∧ Γ1[i]? = some s) := fun {i s} h => by
    by_cases hi : i ∈ ownsOf rs
    · obtain ⟨j, hj⟩ := ownsOf_mem.mp hi
      have hil : i < Γ1.length := by
        have := (List.getElem?_eq_some_iff.mp h).1
        rw [putBack_len] at this; exact this
      rw [putBack_own rs as' Γ1 j nd hj (by rw [hal]; exact (List.getElem?_eq_some_iff.mp hj).1) hil] at h
      obtain ⟨v, _, e1, l, e2, e3⟩ := vget hj
      exact .inl ⟨j, hj, h, v, e1, by rw [e2]; exact e3⟩
    · rw [putBack_other rs as' Γ1 hi] at h
      exact .inr ⟨hi, h⟩
  -- a slot's list that was not handed over
  have kept : ∀ {i : Nat} {ds : Cn} {l : Addr}, i ∉ ownsOf rs → Γ1[i]? = some (.cel ds) → σ[i]? = some (some (.ref l)) → ¬ Own (vs.map some) (rs.map (argSl Γ1)) l := fun {i ds l} hi h1 h2 o => by
    rcases ownArg o with ⟨j, es, a1, a2⟩ | ⟨j, k, es, a1, a2, a3, a4⟩
    · exact (newOff a1 a2).2 ⟨i, ds, h1, h2⟩
    · have := g1.env.sep i k ds es l h1 a2 h2 a4
      subst this
      exact hi (ownsOf_mem.mpr ⟨j, a1⟩)
  have ac2 : ∀ (i : Nat) ds, (putBack rs as' Γ1)[i]? = some (.cel ds) → ∃ es, Γ1[i]? = some (.cel es) := fun i ds h1 => by
    rcases slot h1 with ⟨j, hj, ha, v, e1, e2⟩ | ⟨_, h⟩
    · obtain ⟨es, h⟩ := g2.ac j ds ha
      rcases accArg h with h | ⟨k, h, hk⟩
      · rw [hj] at h; cases h
      · rw [hj] at h; cases h; exact ⟨es, hk⟩
    · exact ⟨ds, h⟩
  have kOff : ∀ {a}, ¬ Own σ Γ a → H a ≠ none → ¬ Own (vs.map some) (rs.map (argSl Γ1)) a := fun {a} na ha o => (ownBack o).elim na ha
  have E3 : Env K B2 H2 σ (putBack rs as' Γ1) := by
    refine ⟨by rw [putBack_len]; exact g1.env.len, g2.env.bh, fun i d h => ?_, fun i ds h => ?_, fun i j ds es l h1 h2 h3 h4 => ?_⟩
    · rcases slot h with ⟨j, hj, ha, v, e1, e2⟩ | ⟨hi, h⟩
      · obtain ⟨v', f1, f2⟩ := g2.env.val j d ha
        rw [e1] at f1; cases f1
        exact ⟨v, e2, f2⟩
      · obtain ⟨v, f1, f2⟩ := g1.env.val i d h
        exact ⟨v, f1, f2.mono g2.mv.bb⟩
    · rcases slot h with ⟨j, hj, ha, v, e1, e2⟩ | ⟨hi, h⟩
      · obtain ⟨l, us, f1, f2⟩ := g2.env.cel j ds ha
        rw [e1] at f1; cases f1
        exact ⟨l, us, e2, f2⟩
      · obtain ⟨l, us, f1, f2, f3, f4⟩ := g1.env.cel i ds h
        have nk := kept hi h f1
        exact ⟨l, us, f1, g2.mv.kp l _ nk f2, g2.mv.off l nk (by rw [f2]; exact fun z => nomatch z) f3, f4.mono g2.mv.bb⟩
    · obtain ⟨d1, b1⟩ := ac2 i ds h1
      obtain ⟨d2, b2⟩ := ac2 j es h2
      exact g1.env.sep i j d1 d2 l b1 b2 h3 h4
  refine ⟨⟨⟨fun a o na e => ?_, g1.mv.bb.trans g2.mv.bb, fun a na ha hb => ?_⟩, fun i ds h => ?_, E3⟩, fun v r k2 => ?_⟩
  · exact g2.mv.kp a o (kOff na (by rw [e]; exact fun z => nomatch z)) (g1.mv.kp a o na e)
  · refine g2.mv.off a (kOff na ha) ?_ (g1.mv.off a na ha hb)
    cases q : H a with
    | none => exact absurd q ha
    | some o => rw [g1.mv.kp a o na q]; exact fun z => nomatch z
  · obtain ⟨es, h1⟩ := ac2 i ds h
    exact g1.ac i es h1
  · cases r with
    | val d => exact k2
    | own i => obtain ⟨l, _, e⟩ := k2; simp at e
    | nw ds =>
      obtain ⟨l, us, e, f1, f2, f3, f4, f5⟩ := k2
      refine ⟨l, us, e, ?_, ?_, f3, f4, f5⟩
      · rcases f1 with f1 | f1
        · exact ownBack f1
        · exact g1.mv.back f1
      · rintro ⟨i, es, h1, h2⟩
        rcases slot h1 with ⟨j, hj, ha, w, e1, e2⟩ | ⟨hi, h⟩
        · rw [h2] at e2; cases e2
          exact f2 ⟨j, es, ha, e1⟩
        · have nk := kept hi h h2
          rcases f1 with f1 | f1
          · exact nk f1
          · obtain ⟨us', t1, _⟩ := g1.env.tracked ⟨i, es, h, h2⟩
            rw [t1] at f1; cases f1
theorem call_core {K : PySem.W.Frag} {σ : L2.St} {B H B1 H1 : Hp} {Γ Γ1 : List Sl} {vs : List V} {rs : List Re} {Post : Re → List Sl → Prop} {ap : AP} {E0 : XK} {Q : VK} (E : Env K B H σ Γ) (g1 : Go K σ B H Γ B1 H1 Γ1) (k1 : AsOk K σ (Own σ Γ) (Own σ Γ1) B1 H H1 vs rs)
    (nd : nodupB (ownsOf rs) = true) (hap : ap (rs.map (argSl Γ1)) fun r as' => Post r (putBack rs as' Γ1)) (q : ∀ v B' H' r Γ', Go K σ B H Γ B' H' Γ' → ReOk K σ (Own σ Γ) (Own σ Γ') B' H H' v r → Post r Γ' → Q v H') : toSp K ap vs H1 Q E0 := by
  obtain ⟨E2, kk⟩ := call_go E g1 k1 nd
  refine ⟨B1, rs.map (argSl Γ1), _, E2, hap, fun v B2 H2 r as' g2 k2 p => ?_⟩
  obtain ⟨g, kr⟩ := kk B2 H2 as' g2
  exact q v B2 H2 r _ g (kr v r k2) p
theorem we_call {K : PySem.W.Frag} {Γ : List Sl} {Post : Re → List Sl → Prop} {ap : AP} {E0 : XK} {ta : TA} (h : WA K ta Γ fun rs Γ1 => nodupB (ownsOf rs) = true ∧ ap (rs.map (argSl Γ1)) fun r as' => Post r (putBack rs as' Γ1)) : WE K (tCall (toSp K ap) [] E0 ta) Γ Post := fun σ B H E Q q => by
  refine h σ B H E _ fun vs B1 H1 rs Γ1 g1 k1 p1 => ?_
  rw [List.append_nil]
  exact call_core E g1 k1 p1.1 p1.2 q
end Ab

namespace Ab
open PySem L2
def keepV : Option Sl → Sl
  | some (.val d) => .val d
  | _ => .un
section
variable {K : PySem.W.Frag} {σ : L2.St} {B H : Hp} {Γ : List Sl}
theorem keepV_acc {o : Option Sl} {ds : Cn} (h : keepV o = .cel ds) : False := by
  unfold keepV at h
  split at h <;> cases h
theorem Env.updOff {D : Addr} {o : HO} (E : Env K B H σ Γ) (hb : B D = none) (hn : ¬ Own σ Γ D) : Env K B (upd H D o) σ Γ := by
  refine ⟨E.len, fun a u e => ?_, E.val, fun i ds h => ?_, E.sep⟩
  · rw [upd_ne (ne_of_none e hb)]; exact E.bh a u e
  · obtain ⟨l, vs, e, e1, e2, q⟩ := E.cel i ds h
    have : l ≠ D := fun z => by subst z; exact hn ⟨i, ds, h, e⟩
    exact ⟨l, vs, e, by rw [upd_ne this]; exact e1, e2, q⟩
theorem env_back {j : Nat} {x : Option V} {Γ0 : List Sl} {B0 H0 : Hp} (E0 : Env K B0 H0 σ Γ0) (bb : Same B0 B) (E : Env K B H (σ.set j x) Γ) (hj : j < Γ.length) : Env K B H σ (Γ.set j (keepV Γ0[j]?)) := by
  have ne : ∀ {k : Nat} {ds : Cn}, (Γ.set j (keepV Γ0[j]?))[k]? = some (.cel ds) → j ≠ k := fun {k ds} h z => by
    subst z
    rw [List.getElem?_set_self hj] at h
    exact keepV_acc (Option.some.inj h)
  refine ⟨?_, E.bh, fun k d h => ?_, fun k ds h => ?_, fun i k ds es l h1 h2 h3 h4 => ?_⟩
  · have := E.len
    rw [List.length_set] at this ⊢
    exact this
  · by_cases hk : j = k
    · subst hk
      rw [List.getElem?_set_self hj] at h
      cases q : Γ0[j]? with
      | none => rw [q] at h; cases h
      | some s =>
        rw [q] at h
        cases s with
        | un => cases h
        | cel ds => cases h
        | val d' =>
          cases h
          obtain ⟨v, e1, e2⟩ := E0.val j d q
          exact ⟨v, e1, e2.mono bb⟩
    · rw [List.getElem?_set_ne hk] at h
      obtain ⟨v, e1, e2⟩ := E.val k d h
      rw [List.getElem?_set_ne hk] at e1
      exact ⟨v, e1, e2⟩
  · have hk := ne h
    rw [List.getElem?_set_ne hk] at h
    obtain ⟨l, vs, e1, e2⟩ := E.cel k ds h
    rw [List.getElem?_set_ne hk] at e1
    exact ⟨l, vs, e1, e2⟩
  · have a1 := ne h1
    have a2 := ne h2
    rw [List.getElem?_set_ne a1] at h1
    rw [List.getElem?_set_ne a2] at h2
    exact E.sep i k ds es l h1 h2 (by rw [List.getElem?_set_ne a1]; exact h3) (by rw [List.getElem?_set_ne a2]; exact h4)
theorem own_back {j : Nat} {x : Option V} {s : Sl} {a : Addr} (hs : ∀ ds, s ≠ .cel ds) (h : Own σ (Γ.set j s) a) : Own (σ.set j x) Γ a := by
  obtain ⟨k, ds, h1, h2⟩ := h
  by_cases hk : j = k
  · subst hk
    have hj : j < Γ.length := by
      have := (List.getElem?_eq_some_iff.mp h1).1
      simpa using this
    rw [List.getElem?_set_self hj] at h1
    exact absurd (Option.some.inj h1) (hs ds)
  · rw [List.getElem?_set_ne hk] at h1
    exact ⟨k, ds, h1, by rw [List.getElem?_set_ne hk]; exact h2⟩
theorem Mv.iff {m m1 : Addr → Prop} {B' H' : Hp} (h : ∀ a, m1 a → m a) (x : Mv m1 B H B' H') : Mv m B H B' H' := ⟨fun a o na e => x.kp a o (fun z => na (h a z)) e, x.bb, fun a na ha hb => x.off a (fun z => na (h a z)) ha hb⟩
structure LcSt (K : PySem.W.Frag) (σ : L2.St) (B H : Hp) (Γ : List Sl) (j : Nat) (D : Addr) (Inv : Nat → List Dt → List Sl → Prop) (i : Nat) (H' : Hp) (B' : Hp) (Γ' : List Sl) (vs : List V) (es : List Dt) : Prop where
  mv : Mv (Own σ Γ) B H B' H'
  ac : ∀ (k : Nat) ds, Γ'[k]? = some (.cel ds) → ∃ es, Γ[k]? = some (.cel es)
  env : Env K B' H' σ Γ'
  hD : H' D = some (.lst vs)
  bD : B' D = none
  oD : ¬ Own σ Γ' D
  its : IsA K B' vs es
  len : es.length ≤ i
  inv : Inv i es Γ'
theorem lc_run {j n : Nat} {J : It} {dt : Nat → Dt} {tt : TT} {te : TE} {Post : Re → List Sl → Prop} {Q : VK} (E : Env K B H σ Γ) (hj : j < Γ.length) (hja : ∀ ds, Γ[j]? ≠ some (.cel ds)) (hn : n ≤ 1000000)
    (Inv : Nat → List Dt → List Sl → Prop)
    (go : ∀ i B' H' es Γ', i < n → Same B B' → Env K B' H' σ Γ' → Inv i es Γ' → J.go i H') (yl : ∀ i H' x H'' B' es Γ', i < n → Same B B' → Env K B' H' σ Γ' → Inv i es Γ' → J.yld i H' x H'' → H'' = H' ∧ Is K B' x (dt i)) (stop : ∀ B' H' es Γ', Same B B' → Env K B' H' σ Γ' → Inv n es Γ' → J.stop n H')
    (i0 : Inv 0 [] Γ)
    (turn : ∀ i es Γ', i < n → Inv i es Γ' → WT K tt (Γ'.set j (.val (dt i))) fun b Γ2 => (b = true → WE K te Γ2 fun r Γ3 => ∃ d, r.dt? = some d ∧ Inv (i + 1) (es ++ [d]) (Γ3.set j (keepV Γ[j]?))) ∧ (b = false → Inv (i + 1) es (Γ2.set j (keepV Γ[j]?))))
    (done : ∀ es Γ', Inv n es Γ' → Post (.new es) Γ') (q : ∀ v B' H' r Γ', Go K σ B H Γ B' H' Γ' → ReOk K σ (Own σ Γ) (Own σ Γ') B' H H' v r → Post r Γ' → Q v H') :
    ∀ D, H D = none → ∃ W : Nat → Nat → Hp → Prop, (∃ m, W 0 m (upd H D (.lst []))) ∧ ∀ i m H, W i m H →
      (J.stop i H ∧ Q (.ref D) H) ∨ (J.go i H ∧ ∃ Nx : Hp → Prop, (∀ H', Nx H' → ∃ m', m' < m ∧ W (i + 1) m' H') ∧ ∀ x H', J.yld i H x H' → gName j x (wipe σ [j]) H' fun σ2 H2 => wipe σ2 [j] = wipe σ [j] ∧ tt σ2 H2 fun b H3 =>
        if b = true then te σ2 H3 fun y H4 => ∃ acc, H4 D = some (.lst acc) ∧ acc.length < sizeLine ∧ Nx (upd H4 D (.lst (acc ++ [y]))) else Nx H3) := by
  intro D hD
  have hjs : j < σ.length := by rw [E.len]; exact hj
  refine ⟨fun i m H' => m = n - i ∧ i ≤ n ∧ ∃ B' Γ' vs es, LcSt K σ B H Γ j D Inv i H' B' Γ' vs es, ⟨n, by simp, Nat.zero_le _, B, Γ, [], [], ⟨(Go.beside E hD).mv, fun k ds h => ⟨ds, h⟩, E.beside hD, upd_same, E.base_none hD, E.not_own hD, .nil, Nat.le_refl _, i0⟩⟩, ?_⟩
  rintro i m H' ⟨rfl, hi, B', Γ', vs, es, S⟩
  by_cases hlt : i < n
  · refine .inr ⟨go i B' H' es Γ' hlt S.mv.bb S.env S.inv, fun H2 => ∃ B' Γ' vs es, LcSt K σ B H Γ j D Inv (i + 1) H2 B' Γ' vs es, fun H2 ⟨B2, Γ2, vs2, es2, S2⟩ => ⟨n - (i + 1), by omega, rfl, hlt, B2, Γ2, vs2, es2, S2⟩, fun x H2 hy => ?_⟩
    obtain ⟨e, hx⟩ := yl i H' x H2 B' es Γ' hlt S.mv.bb S.env S.inv hy
    subst e
    have hj' : j < Γ'.length := by rw [← S.env.len]; exact hjs
    have es2 : (wipe σ [j]).set j (some x) = σ.set j (some x) := by
      show (σ.set j none).set j (some x) = _
      rw [List.set_set]
    show wipe ((wipe σ [j]).set j (some x)) [j] = wipe σ [j] ∧ _
    rw [es2]
    refine ⟨by show (σ.set j (some x)).set j none = σ.set j none; rw [List.set_set], ?_⟩
    have E2 := S.env.setV hj' hx
    -- owners within and without
    have ow1 : ∀ a, Own (σ.set j (some x)) (Γ'.set j (.val (dt i))) a → Own σ Γ' a := fun a h => h.set_ne fun ds z => nomatch z
    have nA : ¬ Own (σ.set j (some x)) (Γ'.set j (.val (dt i))) D := fun z => S.oD (ow1 D z)
    have tD : H2 D ≠ none := by rw [S.hD]; exact fun z => nomatch z
    -- what a turn comes to
    have fin : ∀ {B3 H3 : Hp} {Γ3 : List Sl}, Go K (σ.set j (some x)) B' H2 (Γ'.set j (.val (dt i))) B3 H3 Γ3 →
        Mv (Own σ Γ) B H B3 H3 ∧ (∀ (k : Nat) ds, (Γ3.set j (keepV Γ[j]?))[k]? = some (.cel ds) → ∃ es, Γ[k]? = some (.cel es)) ∧ Env K B3 H3 σ (Γ3.set j (keepV Γ[j]?)) ∧ H3 D = some (.lst vs) ∧ B3 D = none ∧ ¬ Own σ (Γ3.set j (keepV Γ[j]?)) D ∧ IsA K B3 vs es := by
      intro B3 H3 Γ3 g
      have hj3 : j < Γ3.length := by
        have h1 := g.env.len
        rw [List.length_set] at h1
        omega
      have subO : ∀ a, Own σ (Γ3.set j (keepV Γ[j]?)) a → Own (σ.set j (some x)) Γ3 a := fun a h => own_back (fun ds z => keepV_acc z) h
      refine ⟨S.mv.trans (m1 := Own σ Γ') (fun a ⟨k, ds, h1, h2⟩ => .inl (by obtain ⟨es, h⟩ := S.ac k ds h1; exact ⟨k, es, h, h2⟩)) (g.mv.iff ow1), fun k ds h => ?_, env_back E (S.mv.bb.trans g.mv.bb) g.env hj3, g.mv.kp D _ nA S.hD, g.mv.off D nA tD S.bD, fun z => nA (g.sub D (subO D z)), S.its.mono g.mv.bb⟩
      by_cases hk : j = k
      · subst hk
        rw [List.getElem?_set_self hj3] at h
        exact (keepV_acc (Option.some.inj h)).elim
      · rw [List.getElem?_set_ne hk] at h
        obtain ⟨es', h1⟩ := g.ac k ds h
        rw [List.getElem?_set_ne hk] at h1
        exact S.ac k es' h1
    refine turn i es Γ' hlt S.inv (σ.set j (some x)) B' H2 E2 _ fun b B3 H3 Γ3 g3 p => ?_
    cases b with
    | true =>
      show te (σ.set j (some x)) H3 _
      have p1 : WE K te Γ3 fun r Γ4 => ∃ d, r = .val d ∧ Inv (i + 1) (es ++ [d]) (Γ4.set j (keepV Γ[j]?)) := we_freeze (we_mono (p.1 rfl) fun r Γ4 ⟨d, hd, k⟩ => ⟨d, hd, d, rfl, k⟩)
      refine p1 (σ.set j (some x)) B3 H3 g3.env _ fun y B4 H4 r Γ4 g4 k4 p4 => ?_
      obtain ⟨d, rfl, inv⟩ := p4
      obtain ⟨f1, f2, f3, f4, f5, f6, f7⟩ := fin (g3.trans g4)
      refine ⟨vs, f4, ?_, B4, Γ4.set j (keepV Γ[j]?), vs ++ [y], es ++ [d], ?_⟩
      · rw [S.its.len]
        have := S.len
        exact Nat.lt_of_le_of_lt this (Nat.lt_of_lt_of_le hlt (Nat.le_trans hn (by decide)))
      · refine ⟨⟨fun a o na e => ?_, f1.bb, f1.off⟩, f2, f3.updOff f5 f6, upd_same, f5, f6, f7.snoc k4, by rw [List.length_append]; have := S.len; simp; omega, inv⟩
        rw [upd_ne (ne_of_none e hD)]
        exact f1.kp a o na e
    | false =>
      show ∃ B' Γ' vs es, _
      obtain ⟨f1, f2, f3, f4, f5, f6, f7⟩ := fin g3
      exact ⟨B3, Γ3.set j (keepV Γ[j]?), vs, es, ⟨f1, f2, f3, f4, f5, f6, f7, Nat.le_trans S.len (Nat.le_succ i), p.2 rfl⟩⟩
  · have e : i = n := by omega
    subst e
    exact .inl ⟨stop B' H' es Γ' S.mv.bb S.env S.inv, q (.ref D) B' H' (.new es) Γ' ⟨S.mv, S.ac, S.env⟩ ⟨D, _, rfl, .inr hD, S.oD, S.hD, S.bD, vs, rfl, S.its⟩ (done es Γ' S.inv)⟩
end
section
variable {K : PySem.W.Frag} {Γ : List Sl} {Post : Re → List Sl → Prop} {te tl : TE} {tt : TT} {j : Nat}
def notAcc : Option Sl → Bool
  | some (.cel _) => false
  | _ => true
theorem notAcc_ne {o : Option Sl} (h : notAcc o = true) (ds : Cn) : o ≠ some (.cel ds) := fun z => by subst z; cases h
theorem we_lc1 {t1 : TA} (h : WD K t1 Γ fun ds Γ1 => ∃ n : Nat, ds = [.int n] ∧ n ≤ 1000000 ∧ decide (j < Γ1.length) = true ∧ notAcc Γ1[j]? = true ∧ ∃ Inv : Nat → List Dt → List Sl → Prop, Inv 0 [] Γ1 ∧
      (∀ i es Γ', i < n → Inv i es Γ' → WT K tt (Γ'.set j (.val (.int i))) fun b Γ2 => (b = true → WE K te Γ2 fun r Γ3 => ∃ d, r.dt? = some d ∧ Inv (i + 1) (es ++ [d]) (Γ3.set j (keepV Γ1[j]?))) ∧ (b = false → Inv (i + 1) es (Γ2.set j (keepV Γ1[j]?)))) ∧
      ∀ es Γ', Inv n es Γ' → Post (.new es) Γ') : WE K (tLc (iRng1 t1) (gName j) tt te [j]) Γ Post := fun σ B H E Q q => by
  refine h σ B H E _ fun vs B1 H1 ds Γ1 g1 k p => ?_
  obtain ⟨n, rfl, hn, hj, hja, Inv, i0, turn, done⟩ := p
  have ev : vs = [.int n] := IsA.rawsI (xs := [.int n]) k
  refine ⟨n, ev, by omega, by omega, ?_⟩
  have e0 : ((n : Int)).toNat = n := by omega
  rw [e0]
  refine lc_run (n := n) (dt := fun i => .int i) (J := Itr 0 n) g1.env (of_decide_eq_true hj) (notAcc_ne hja) hn Inv (fun i B' H' _ _ hi _ _ _ => hi) (fun i H' x H'' B' _ _ hi _ _ _ hy => ?_) (fun B' H' _ _ _ _ _ => Nat.le_refl _) i0 turn done fun v B2 H2 r Γ2 g2 k2 p2 => q v B2 H2 r Γ2 (g1.trans g2) (ReOk.earlier k2 g1.mv fun a h => .inl (g1.sub a h)) p2
  obtain ⟨e1, e2⟩ := hy
  subst e1 e2
  rw [Int.zero_add]
  exact ⟨rfl, .raw _⟩
theorem we_lcT (h : WE K tl Γ fun z Γ1 => ∃ ds, z = .val (.tup ds) ∧ ds.length ≤ 1000000 ∧ decide (j < Γ1.length) = true ∧ notAcc Γ1[j]? = true ∧ ∃ Inv : Nat → List Dt → List Sl → Prop, Inv 0 [] Γ1 ∧
      (∀ (i : Nat) d es Γ', ds[i]? = some d → Inv i es Γ' → WT K tt (Γ'.set j (.val d)) fun b Γ2 => (b = true → WE K te Γ2 fun r Γ3 => ∃ d, r.dt? = some d ∧ Inv (i + 1) (es ++ [d]) (Γ3.set j (keepV Γ1[j]?))) ∧ (b = false → Inv (i + 1) es (Γ2.set j (keepV Γ1[j]?)))) ∧
      ∀ es Γ', Inv ds.length es Γ' → Post (.new es) Γ') : WE K (tLc (iTup K tl) (gName j) tt te [j]) Γ Post := fun σ B H E Q q => by
  refine h σ B H E _ fun v B1 H1 z Γ1 g1 k p => ?_
  obtain ⟨ds, rfl, hn, hj, hja, Inv, i0, turn, done⟩ := p
  obtain ⟨a, xs, rfl, ha, hx⟩ := Is.tupR k
  refine ⟨a, rfl, ⟨xs, sqT_mono g1.env.bh ha⟩, ?_⟩
  have at_ : ∀ i, i < ds.length → ds[i]? = some (ds.getD i .non) := fun i hi => by rw [List.getD_eq_getElem?_getD, List.getElem?_eq_getElem hi]; rfl
  refine lc_run (n := ds.length) (dt := fun i => ds.getD i .non) (J := Itt K a) g1.env (of_decide_eq_true hj) (notAcc_ne hja) hn Inv (fun i B' H' _ _ hi b1 b2 _ => ?_) (fun i H' x H'' B' _ _ hi b1 b2 _ hy => ?_) (fun B' H' _ _ b1 b2 _ => ?_) i0 (fun i es Γ' hi' => turn i _ es Γ' (at_ i hi')) done fun v B2 H2 r Γ2 g2 k2 p2 => q v B2 H2 r Γ2 (g1.trans g2) (ReOk.earlier k2 g1.mv fun a h => .inl (g1.sub a h)) p2
  · obtain ⟨x, h1, _⟩ := hx.get (at_ i hi)
    exact ⟨xs, x, sqT_mono (b1.trans b2.bh) ha, h1⟩
  · obtain ⟨e1, e2⟩ := hy
    subst e1
    exact ⟨rfl, (hx.at_ i x _ (e2 xs (sqT_mono (b1.trans b2.bh) ha)) (at_ i hi)).mono b1⟩
  · exact ⟨xs, sqT_mono (b1.trans b2.bh) ha, by rw [hx.len]; exact Nat.le_refl _⟩
theorem we_lcL (h : WE K tl Γ fun z Γ1 => ∃ d ds, z.dt? = some d ∧ d = .lst ds ∧ ds.length ≤ 1000000 ∧ decide (j < Γ1.length) = true ∧ notAcc Γ1[j]? = true ∧ ∃ Inv : Nat → List Dt → List Sl → Prop, Inv 0 [] Γ1 ∧
      (∀ (i : Nat) d es Γ', ds[i]? = some d → Inv i es Γ' → WT K tt (Γ'.set j (.val d)) fun b Γ2 => (b = true → WE K te Γ2 fun r Γ3 => ∃ d, r.dt? = some d ∧ Inv (i + 1) (es ++ [d]) (Γ3.set j (keepV Γ1[j]?))) ∧ (b = false → Inv (i + 1) es (Γ2.set j (keepV Γ1[j]?)))) ∧
      ∀ es Γ', Inv ds.length es Γ' → Post (.new es) Γ') : WE K (tLc (iList K tl) (gName j) tt te [j]) Γ Post := fun σ B H E Q q => by
  have h' := we_freeze (Post := fun z Γ1 => ∃ ds, z = .val (.lst ds) ∧ ds.length ≤ 1000000 ∧ decide (j < Γ1.length) = true ∧ notAcc Γ1[j]? = true ∧ ∃ Inv : Nat → List Dt → List Sl → Prop, Inv 0 [] Γ1 ∧
      (∀ (i : Nat) d es Γ', ds[i]? = some d → Inv i es Γ' → WT K tt (Γ'.set j (.val d)) fun b Γ2 => (b = true → WE K te Γ2 fun r Γ3 => ∃ d, r.dt? = some d ∧ Inv (i + 1) (es ++ [d]) (Γ3.set j (keepV Γ1[j]?))) ∧ (b = false → Inv (i + 1) es (Γ2.set j (keepV Γ1[j]?)))) ∧
      ∀ es Γ', Inv ds.length es Γ' → Post (.new es) Γ') (we_mono h fun z Γ1 ⟨d, ds, hd, e, r⟩ => ⟨d, hd, ds, by rw [e], r⟩)
  refine h' σ B H E _ fun v B1 H1 z Γ1 g1 k p => ?_
  obtain ⟨ds, rfl, hn, hj, hja, Inv, i0, turn, done⟩ := p
  obtain ⟨a, xs, rfl, ha, hx⟩ := Is.lstR k
  refine ⟨a, rfl, ⟨xs, .inl (.inl (g1.env.bh _ _ ha))⟩, ?_⟩
  have at_ : ∀ i, i < ds.length → ds[i]? = some (ds.getD i .non) := fun i hi => by rw [List.getD_eq_getElem?_getD, List.getElem?_eq_getElem hi]; rfl
  refine lc_run (n := ds.length) (dt := fun i => ds.getD i .non) (J := Itl K a) g1.env (of_decide_eq_true hj) (notAcc_ne hja) hn Inv (fun i B' H' _ _ hi b1 b2 _ => ?_) (fun i H' x H'' B' _ _ hi b1 b2 _ hy => ?_) (fun B' H' _ _ b1 b2 _ => ?_) i0 (fun i es Γ' hi' => turn i _ es Γ' (at_ i hi')) done fun v B2 H2 r Γ2 g2 k2 p2 => q v B2 H2 r Γ2 (g1.trans g2) (ReOk.earlier k2 g1.mv fun a h => .inl (g1.sub a h)) p2
  · obtain ⟨x, h1, _⟩ := hx.get (at_ i hi)
    exact ⟨xs, x, .inl (.inl ((b1.trans b2.bh) _ _ ha)), h1⟩
  · obtain ⟨e1, e2⟩ := hy
    subst e1
    exact ⟨rfl, (hx.at_ i x _ (e2 xs (.inl (.inl ((b1.trans b2.bh) _ _ ha)))) (at_ i hi)).mono b1⟩
  · exact ⟨xs, .inl (.inl ((b1.trans b2.bh) _ _ ha)), by rw [hx.len]; exact Nat.le_refl _⟩
end
mutual
def Dt.py : Dt → Option PyData
  | .raw .non => some .none
  | .raw (.bl b) => some (.bool b)
  | .raw (.int i) => some (.int i)
  | .raw (.str s) => some (.str s)
  | .raw _ => none
  | .tup ds => (pyAll ds).map .tuple
  | .lst ds => (pyAll ds).map .list
  | .obj _ _ => none
  | .scr ns => none
  | .dK _ => none
  | .dT _ => none
  | .exn _ _ _ => none
  | .err _ _ => none
  | .dN _ _ => none
def pyAll : List Dt → Option (List PyData)
  | [] => some []
  | d :: ds => match Dt.py d, pyAll ds with
    | some p, some ps => some (p :: ps)
    | _, _ => none
end
section
variable {K : PySem.W.Frag} {B H : Hp}
theorem pyAll_dp : ∀ {ds : List Dt} {ps : List PyData} {vs : List V}, (∀ d p v, d ∈ ds → Dt.py d = some p → Is K B v d → Dp K B v p) → pyAll ds = some ps → IsA K B vs ds → DpAll K B vs ps
  | [], ps, vs, _, e, h => by
    rw [pyAll] at e
    cases e
    have : vs = [] := List.eq_nil_of_length_eq_zero (by rw [h.len]; rfl)
    subst this; exact .nil
  | d :: ds, ps, vs, f, e, h => by
    rw [pyAll] at e
    split at e
    · rename_i p qs h1 h2
      cases e
      cases vs with
      | nil => have := h.len; simp at this
      | cons v vs =>
        refine .cons (f d p v (List.mem_cons_self) h1 (h.at_ 0 v d rfl rfl)) (pyAll_dp (fun d p v hd => f d p v (List.mem_cons_of_mem _ hd)) h2 ⟨by have := h.len; simpa using this, fun i v d a b => h.at_ (i + 1) v d (by simpa using a) (by simpa using b)⟩)
    · cases e
theorem is_dp {v : V} {d : Dt} (h : Is K B v d) : ∀ {p : PyData}, d.py = some p → Dp K B v p := by
  induction h with
  | raw v =>
    intro p e
    cases v <;> (simp only [Dt.py] at e; cases e) <;> constructor
  | @tup a xs ds h hl hi ih =>
    intro p e
    rw [Dt.py] at e
    cases q : pyAll ds with
    | none => rw [q] at e; cases e
    | some ps =>
      rw [q] at e
      cases e
      refine .tup h ?_
      clear h
      induction ds generalizing xs ps with
      | nil =>
        rw [pyAll] at q; cases q
        have : xs = [] := List.eq_nil_of_length_eq_zero (by rw [hl]; rfl)
        subst this; exact .nil
      | cons d ds ihd =>
        rw [pyAll] at q
        split at q
        · rename_i p1 qs h1 h2
          cases q
          cases xs with
          | nil => simp at hl
          | cons x xs =>
            exact .cons (ih 0 x d rfl rfl h1) (ihd (by simpa using hl) (fun i v d a b => hi (i + 1) v d (by simpa using a) (by simpa using b)) (fun i v d a b => ih (i + 1) v d (by simpa using a) (by simpa using b)) qs h2)
        · cases q
  | @lst a xs ds h hl hi ih =>
    intro p e
    rw [Dt.py] at e
    cases q : pyAll ds with
    | none => rw [q] at e; cases e
    | some ps =>
      rw [q] at e
      cases e
      refine .lst (.inl (.inl h)) ?_
      clear h
      induction ds generalizing xs ps with
      | nil =>
        rw [pyAll] at q; cases q
        have : xs = [] := List.eq_nil_of_length_eq_zero (by rw [hl]; rfl)
        subst this; exact .nil
      | cons d ds ihd =>
        rw [pyAll] at q
        split at q
        · rename_i p1 qs h1 h2
          cases q
          cases xs with
          | nil => simp at hl
          | cons x xs =>
            exact .cons (ih 0 x d rfl rfl h1) (ihd (by simpa using hl) (fun i v d a b => hi (i + 1) v d (by simpa using a) (by simpa using b)) (fun i v d a b => ih (i + 1) v d (by simpa using a) (by simpa using b)) qs h2)
        · cases q
  | obj h hk hi ih => intro p e; rw [Dt.py] at e; cases e
  | dK h hk hi ih => intro p e; rw [Dt.py] at e; cases e
  | dT h hk hi ih => intro p e; rw [Dt.py] at e; cases e
  | exn0 => intro p e; rw [Dt.py] at e; cases e
  | exnD h hk hi ih => intro p e; rw [Dt.py] at e; cases e
  | err0 h => intro p e; rw [Dt.py] at e; cases e
  | errD h hd hk hi ih => intro p e; rw [Dt.py] at e; cases e
  | dN h hk hq hi ihq ih => intro p e; rw [Dt.py] at e; cases e
  | scr h => intro p e; rw [Dt.py] at e; cases e
mutual
theorem dp_mono {B' : Hp} (s : Same B B') {v : V} : ∀ {p : PyData}, Dp K B v p → Dp K B' v p
  | _, .non => .non
  | _, .bl b => .bl b
  | _, .int i => .int i
  | _, .str x => .str x
  | _, .lst h hs => .lst (s.seq h) (dpAll_mono s hs)
  | _, .tup h hs => .tup (sqT_mono s h) (dpAll_mono s hs)
theorem dpAll_mono {B' : Hp} (s : Same B B') : ∀ {vs : List V} {ps : List PyData}, DpAll K B vs ps → DpAll K B' vs ps
  | _, _, .nil => .nil
  | _, _, .cons h hs => .cons (dp_mono s h) (dpAll_mono s hs)
end
end
def Re.py (Γ : List Sl) : Re → Option PyData
  | .val d => d.py
  | .nw (.lst ds) => (pyAll ds).map .list
  | .nw _ => none
  | .own i => match Γ[i]? with
    | some (Sl.cel (.lst ds)) => (pyAll ds).map .list
    | _ => none
section
variable {K : PySem.W.Frag} {Γ : List Sl} {Post : Re → List Sl → Prop} {ta tb : TE}
theorem rv_dp {σ : L2.St} {B H : Hp} {v : V} {r : Re} {p : PyData} (E : Env K B H σ Γ) (h : RvOk K σ B H Γ v r) (e : r.py Γ = some p) : Dp K H v p := by
  have lst : ∀ {ds : List Dt}, lstOf Γ r = some ds → (pyAll ds).map PyData.list = some p → Dp K H v p := fun {ds} h1 h2 => by
    obtain ⟨a, vs, rfl, hq, ha⟩ := rv_lst E h h1
    cases q : pyAll ds with
    | none => rw [q] at h2; cases h2
    | some ps =>
      rw [q] at h2
      cases h2
      exact .lst hq (dpAll_mono E.bh (pyAll_dp (fun d p v _ e k => is_dp k e) q ha))
  cases r with
  | val d => exact dp_mono E.bh (is_dp h e)
  | nw c =>
    cases c with
    | lst ds => exact lst rfl e
    | dK es => cases e
    | dT es => cases e
    | dN w es => cases e
  | own i =>
    have e' : (match Γ[i]? with
      | some (Sl.cel (.lst ds)) => (pyAll ds).map PyData.list
      | _ => none) = some p := e
    split at e'
    · rename_i ds hi
      exact lst (by show (match Γ[i]? with | some (Sl.cel (.lst ds)) => some ds | _ => none) = some ds; rw [hi]) e'
    · cases e'
end
end Ab

namespace Ab
open PySem L2
abbrev rSubI : R2 := rI0 fun i j => .int (i - j)
def CDiv64 (i j : Int) : Prop := 0 < j ∧ j < 18446744073709551616
abbrev rDivI : R2 := rI CDiv64 fun i j => .int (i / j)
theorem op_fdivW {X : Cx} : OpR X (binaryOp .FloorDiv) rDivI := opI fun i j _ _ _ _ _ hc q => by
  have h1 : (0 : Int) < j := hc.1
  have h2 : j < 18446744073709551616 := hc.2
  refine PyProof.Rows.floordiv_int (by omega) (by rw [Int.fdiv_eq_ediv_of_nonneg i (by omega)]; exact q) (.inl (PyProof.noPylong_of_log2 ?_))
  have h3 : j.natAbs < 2 ^ 64 := by omega
  have h4 : j.natAbs.log2 < 64 := (Nat.log2_lt (by omega)).mpr h3
  omega
abbrev rModI : R2 := rI (fun _ j => 0 < j) fun i j => .int (i % j)
abbrev rPowI : R2 := rI CPow fun i j => .int (i ^ j.toNat)
abbrev rLtI : R2 := rI0 fun i j => .bl (decide (i < j))
abbrev rLeI : R2 := rI0 fun i j => .bl (decide (i ≤ j))
abbrev rGtI : R2 := rI0 fun i j => .bl (decide (j < i))
abbrev rGeI : R2 := rI0 fun i j => .bl (decide (j ≤ i))
abbrev rNegI : V → Hp → VK → Prop := rU fun i => .int (-i)
def rAddG (K : PySem.W.Frag) : R2 := fun x y H Q => rI0 (fun i j => .int (i + j)) x y H Q ∨ (∃ i j, x = .str i ∧ y = .str j ∧ i.length + j.length ≤ sizeLine ∧ Q (.str (i ++ j)) H) ∨ rCatA K x y H Q ∨ rCat x y H Q
def rMulG (K : PySem.W.Frag) : R2 := fun x y H Q => rI CMul (fun i j => .int (i * j)) x y H Q ∨ rI CMulW (fun i j => .int (i * j)) x y H Q
def rEqG (K : PySem.W.Frag) : R2 := fun x y H Q => rEq x y H Q ∨ rEqD K x y H Q
def rNeG (K : PySem.W.Frag) : R2 := fun x y H Q => rNe x y H Q ∨ rNeD K x y H Q
def rLtG (K : PySem.W.Frag) : R2 := fun x y H Q => rI0 (fun i j => .bl (decide (i < j))) x y H Q ∨ (∃ i j, x = .str i ∧ y = .str j ∧ Q (.bl (decide (i.cps.toList < j.cps.toList))) H) ∨ rLtT K x y H Q
def rInG (K : PySem.W.Frag) : R2 := fun x y H Q => rIn K false x y H Q ∨ ∃ (c : Nat) (z : Str), x = .str ⟨#[c]⟩ ∧ y = .str z ∧ Q (.bl (decide (c ∈ z.cps.toList))) H
def rSlG (K : PySem.W.Frag) : V → Option Int → Option Int → Hp → VK → Prop := fun x lo hi H Q => rSlL K x lo hi H Q ∨ rSlA K x lo hi H Q ∨ rSlS x lo hi H Q
section
variable {X : Cx}
theorem op_addG : OpR X (binaryOp .Add) (rAddG X.K) := op_add.or (op_add_str.or (op_catA.or op_cat))
theorem op_mulG : OpR X (binaryOp .Mult) (rMulG X.K) := op_mul.or op_mulW
theorem op_eqG (hu : X.A.units + 64 < cLine) : OpR X (compareOp .Eq) (rEqG X.K) := op_eq.or (op_eqD hu)
theorem op_neG (hu : X.A.units + 64 < cLine) : OpR X (compareOp .NotEq) (rNeG X.K) := op_ne.or (op_neD hu)
theorem op_ltG (hu : X.A.units < cLine) : OpR X (compareOp .Lt) (rLtG X.K) := op_lt.or (op_lt_str.or (op_ltT hu))
theorem op_inG : OpR X (compareOp .In) (rInG X.K) := op_in_seq.or op_in_sign
theorem sl_G : SlR X (rSlG X.K) := sl_list.or (sl_tupA.or sl_str)
end
def Re.isScr : Re → Bool
  | .val (.scr _) => true
  | _ => false
def AddP (ra rb : Re) (Γ : List Sl) (Post : Re → List Sl → Prop) : Prop :=
  (∃ i j, ra = .val (.int i) ∧ rb = .val (.int j) ∧ Post (.val (.int (i + j))) Γ) ∨ (∃ s t : Str, ra = .val (.str s) ∧ rb = .val (.str t) ∧ s.length + t.length ≤ 1000000 ∧ Post (.val (.str (s ++ t))) Γ) ∨
  (∃ ds es, ra = .val (.tup ds) ∧ rb = .val (.tup es) ∧ ds.length + es.length ≤ 1000000 ∧ Post (.val (.tup (ds ++ es))) Γ) ∨ (∃ ds es, lstOf Γ ra = some ds ∧ lstOf Γ rb = some es ∧ ra.isScr = false ∧ rb.isScr = false ∧ ds.length + es.length ≤ 1000000 ∧ Post (.new (ds ++ es)) Γ)
def EqP (neg : Bool) (ra rb : Re) (Γ : List Sl) (Post : Re → List Sl → Prop) : Prop :=
  (∃ x y : V, ra = .val (.raw x) ∧ rb = .val (.raw y) ∧ scal x y = true ∧ Post (.val (.bl (neg ^^ decide (x = y)))) Γ) ∨
  (∃ p q : PyData, ra.py Γ = some p ∧ rb.py Γ = some q ∧ SeqAt.shaped p = true ∧ SeqAt.shaped q = true ∧ Post (.val (.bl (neg ^^ PyData.eqv p q))) Γ)
def MulP (ra rb : Re) (Γ : List Sl) (Post : Re → List Sl → Prop) : Prop := ∃ i j, ra = .val (.int i) ∧ rb = .val (.int j) ∧ (CMul i j ∨ CMulW i j) ∧ Post (.val (.int (i * j))) Γ
def IxP (ra rb : Re) (Γ : List Sl) (Post : Re → List Sl → Prop) : Prop :=
  (∃ ds k d, seqOf Γ ra = some ds ∧ rb = .val (.int k) ∧ atI ds k = some d ∧ Post (.val d) Γ) ∨ (∃ z k c, ra = .val (.str z) ∧ rb = .val (.int k) ∧ z.length ≤ 1000000 ∧ atI z.cps.toList k = some c ∧ Post (.val (.str ⟨#[c]⟩)) Γ)
def LenP (r : Re) (Γ : List Sl) (Post : Re → List Sl → Prop) : Prop := (∃ ds, seqOf Γ r = some ds ∧ Post (.val (.int ds.length)) Γ) ∨ (∃ z : Str, r = .val (.str z) ∧ z.length ≤ 1000000 ∧ Post (.val (.int z.length)) Γ)
def IntP (r : Re) (Γ : List Sl) (Post : Re → List Sl → Prop) : Prop := (∃ i, r = .val (.int i) ∧ Post (.val (.int i)) Γ) ∨ (∃ b, r = .val (.bl b) ∧ Post (.val (.int (if b then 1 else 0))) Γ)
section
variable {K : PySem.W.Frag} {Γ : List Sl} {Post : Re → List Sl → Prop} {ta tb tc te : TE}
theorem rv_lstH {σ : L2.St} {B H : Hp} {v : V} {r : Re} {ds : List Dt} (E : Env K B H σ Γ) (h : RvOk K σ B H Γ v r) (e : lstOf Γ r = some ds) (hs : r.isScr = false) : ∃ a vs, v = .ref a ∧ H a = some (.lst vs) ∧ IsA K B vs ds := by
  cases r with
  | val d =>
    cases d with
    | lst es => cases e; obtain ⟨a, xs, rfl, h1, h2⟩ := Is.lstR h; exact ⟨a, xs, rfl, E.bh _ _ h1, h2⟩
    | raw u => cases e
    | tup es => cases e
    | obj C fs => cases e
    | dK es => cases e
    | dT es => cases e
    | exn a d fs => cases e
    | err C fs => cases e
    | dN w es => cases e
    | scr ns => cases hs
  | nw c =>
    cases c with
    | lst es => cases e; obtain ⟨l, o, rfl, _, h1, _, vs, rfl, h2⟩ := h; exact ⟨l, vs, rfl, h1, h2⟩
    | dK es => cases e
    | dT es => cases e
    | dN w es => cases e
  | own i =>
    obtain ⟨l, rfl, hl⟩ := h
    have e' : (match Γ[i]? with
      | some (Sl.cel (.lst ds)) => some ds
      | _ => none) = some ds := e
    split at e'
    · rename_i es hi
      cases e'
      obtain ⟨c, us, q1, q2, q3, q4⟩ := E.acc i _ hi
      rw [hl] at q1; cases q1
      exact ⟨l, us, rfl, q2, q4⟩
    · cases e'
theorem we_addG (h : WE K ta Γ fun ra Γ1 => WE K tb Γ1 fun rb Γ2 => AddP ra rb Γ2 Post) : WE K (tOp (rAddG K) ta tb) Γ Post :=
  we_two' (we_mono h fun ra Γ1 h1 => we_mono h1 fun rb Γ2 hp => fun σ B H x y E kx ky Q q => by
    rcases hp with ⟨i, j, rfl, rfl, p⟩ | ⟨s, t, rfl, rfl, hz, p⟩ | ⟨ds, es, rfl, rfl, hz, p⟩ | ⟨ds, es, h1, h2, s1, s2, hz, p⟩
    · cases Is.rawI kx; cases Is.rawI ky
      exact .inl ⟨i, j, rfl, rfl, q _ B H _ Γ2 (.refl E) (.raw _) p⟩
    · cases Is.rawI kx; cases Is.rawI ky
      exact .inr (.inl ⟨s, t, rfl, rfl, Nat.le_trans hz (by decide), q _ B H _ Γ2 (.refl E) (.raw _) p⟩)
    · obtain ⟨a, xs, rfl, h1, h2⟩ := Is.tupR kx
      obtain ⟨b, ys, rfl, g1, g2⟩ := Is.tupR ky
      refine .inr (.inr (.inl ⟨a, b, xs, ys, rfl, rfl, sqT_mono E.bh h1, sqT_mono E.bh g1, Nat.le_trans (by rw [h2.len, g2.len]; exact hz) (by decide), fun e => ?_, fun e1 e => ?_, fun _ _ l hl => ?_⟩))
      · have : ds = [] := List.eq_nil_of_length_eq_zero (by rw [← h2.len, e]; rfl)
        subst this
        exact q _ B H (.val _) Γ2 (.refl E) (show Is K B _ _ from ky) p
      · have : es = [] := List.eq_nil_of_length_eq_zero (by rw [← g2.len, e]; rfl)
        subst this
        rw [List.append_nil] at p
        exact q _ B H (.val _) Γ2 (.refl E) (show Is K B _ _ from kx) p
      · exact q _ _ _ _ Γ2 (Go.laid E hl) (re_laidT E (h2.append g2) hl) p
    · obtain ⟨a, xs, rfl, a1, a2⟩ := rv_lstH E kx h1 s1
      obtain ⟨b, ys, rfl, b1, b2⟩ := rv_lstH E ky h2 s2
      exact .inr (.inr (.inr ⟨a, b, xs, ys, rfl, rfl, a1, b1, Nat.le_trans (by rw [a2.len, b2.len]; exact hz) (by decide), fun l hl => q _ _ _ _ Γ2 (Go.beside E hl) (re_newL E (a2.append b2) hl) p⟩)))
theorem we_mulG (h : WE K ta Γ fun ra Γ1 => WE K tb Γ1 fun rb Γ2 => MulP ra rb Γ2 Post) : WE K (tOp (rMulG K) ta tb) Γ Post :=
  we_two' (we_mono h fun ra Γ1 h1 => we_mono h1 fun rb Γ2 hp => fun σ B H x y E kx ky Q q => by
    obtain ⟨i, j, rfl, rfl, hc, p⟩ := hp
    cases Is.rawI kx; cases Is.rawI ky
    have fin := q _ B H _ Γ2 (.refl E) (.raw _) p
    rcases hc with hc | hc
    · exact .inl ⟨i, j, rfl, rfl, hc, fin⟩
    · exact .inr ⟨i, j, rfl, rfl, hc, fin⟩)
theorem we_eqG (h : WE K ta Γ fun ra Γ1 => WE K tb Γ1 fun rb Γ2 => EqP false ra rb Γ2 Post) : WE K (tOp (rEqG K) ta tb) Γ Post :=
  we_two' (we_mono h fun ra Γ1 h1 => we_mono h1 fun rb Γ2 hp => fun σ B H x y E kx ky Q q => by
    rcases hp with ⟨u, w, rfl, rfl, hs, p⟩ | ⟨a, b, e1, e2, s1, s2, p⟩
    · cases Is.rawI kx; cases Is.rawI ky
      rw [Bool.false_xor] at p
      exact .inl ⟨hs, q _ B H _ Γ2 (.refl E) (.raw _) p⟩
    · rw [Bool.false_xor] at p
      exact .inr ⟨a, b, rv_dp E kx e1, rv_dp E ky e2, s1, s2, q _ B H _ Γ2 (.refl E) (.raw _) p⟩)
theorem we_neG (h : WE K ta Γ fun ra Γ1 => WE K tb Γ1 fun rb Γ2 => EqP true ra rb Γ2 Post) : WE K (tOp (rNeG K) ta tb) Γ Post :=
  we_two' (we_mono h fun ra Γ1 h1 => we_mono h1 fun rb Γ2 hp => fun σ B H x y E kx ky Q q => by
    rcases hp with ⟨u, w, rfl, rfl, hs, p⟩ | ⟨a, b, e1, e2, s1, s2, p⟩
    · cases Is.rawI kx; cases Is.rawI ky
      rw [Bool.true_xor] at p
      exact .inl ⟨hs, q _ B H _ Γ2 (.refl E) (.raw _) p⟩
    · rw [Bool.true_xor] at p
      exact .inr ⟨a, b, rv_dp E kx e1, rv_dp E ky e2, s1, s2, q _ B H _ Γ2 (.refl E) (.raw _) p⟩)
theorem we_ixG (h : WE K ta Γ fun ra Γ1 => WE K tb Γ1 fun rb Γ2 => IxP ra rb Γ2 Post) : WE K (tOp (rIx K) ta tb) Γ Post :=
  we_two' (we_mono h fun ra Γ1 h1 => we_mono h1 fun rb Γ2 hp => fun σ B H x y E kx ky Q q => by
    rcases hp with ⟨ds, k, d, hs, rfl, hd, p⟩ | ⟨z, k, c, rfl, rfl, hz, hd, p⟩
    · cases Is.rawI ky
      obtain ⟨a, vs, rfl, hq, ha⟩ := rv_seq E kx hs
      obtain ⟨v, hv, hi⟩ := ha.atI hd
      have fin := q v B H (.val d) Γ2 (.refl E) hi p
      rcases hq with hq | hq
      · exact .inl ⟨a, vs, k, v, rfl, rfl, hq, hv, fin⟩
      · exact .inr (.inl ⟨a, vs, k, v, rfl, rfl, hq, hv, fin⟩)
    · cases Is.rawI ky
      cases Is.rawI kx
      exact .inr (.inr ⟨z, k, c, rfl, rfl, Nat.le_trans hz (by decide), hd, q _ B H _ Γ2 (.refl E) (.raw _) p⟩))
theorem we_lenG (h : WE K te Γ fun r Γ1 => LenP r Γ1 Post) : WE K (tCB (rLenV K) (tCons te tNil)) Γ Post :=
  we_cb1 (we_mono h fun r Γ1 hp => fun σ B H x E kx Q q => by
    rcases hp with ⟨ds, hs, p⟩ | ⟨z, rfl, hz, p⟩
    · obtain ⟨a, vs, rfl, hq, ha⟩ := rv_seq E kx hs
      have e : (ds.length : Int) = (vs.length : Int) := by rw [ha.len]
      rw [e] at p
      refine ⟨_, vs.length, rfl, ?_, q _ B H _ Γ1 (.refl E) (.raw _) p⟩
      rcases hq with hq | hq
      · exact .inl ⟨vs, hq, rfl⟩
      · exact .inr ⟨vs, hq, rfl⟩
    · cases Is.rawI kx
      exact ⟨_, z.length, rfl, ⟨Nat.le_trans hz (by decide), rfl⟩, q _ B H _ Γ1 (.refl E) (.raw _) p⟩)
theorem we_intG (h : WE K te Γ fun r Γ1 => IntP r Γ1 Post) : WE K (tCB rInt1 (tCons te tNil)) Γ Post :=
  we_cb1 (we_mono h fun r Γ1 hp => fun σ B H x E kx Q q => by
    rcases hp with ⟨i, rfl, p⟩ | ⟨b, rfl, p⟩
    · cases Is.rawI kx; exact .inl ⟨i, rfl, q _ B H _ Γ1 (.refl E) (.raw _) p⟩
    · cases Is.rawI kx; exact .inr ⟨b, rfl, q _ B H _ Γ1 (.refl E) (.raw _) p⟩)
def WO (K : PySem.W.Frag) (to : TO) (Γ : List Sl) (Post : Option Int → List Sl → Prop) : Prop := ∀ σ B H, Env K B H σ Γ → ∀ Q : Option Int → Hp → Prop, (∀ o B' H' Γ', Go K σ B H Γ B' H' Γ' → Post o Γ' → Q o H') → to σ H Q
theorem wo_none {P : Option Int → List Sl → Prop} (p : P none Γ) : WO K tNoPart Γ P := fun σ B H E Q q => q none B H Γ (.refl E) p
theorem wo_some {P : Option Int → List Sl → Prop} (h : WE K te Γ fun r Γ1 => ∃ i, r = .val (.int i) ∧ P (some i) Γ1) : WO K (tPart te) Γ P := fun σ B H E Q q => by
  refine h σ B H E _ fun v B1 H1 r Γ1 g k ⟨i, e, p⟩ => ?_
  subst e
  cases Is.rawI k
  exact ⟨i, rfl, q _ B1 H1 Γ1 g p⟩
def cutD (xs : List Dt) (lo hi : Option Int) : List Dt := (xs.drop (HT.sIx xs.length 0 lo)).take (HT.sIx xs.length xs.length hi - HT.sIx xs.length 0 lo)
def SlP (ra : Re) (lo hi : Option Int) (Γ : List Sl) (Post : Re → List Sl → Prop) : Prop :=
  (∃ ds, lstOf Γ ra = some ds ∧ Post (.new (cutD ds lo hi)) Γ) ∨ (∃ ds, ra = .val (.tup ds) ∧ Post (.val (.tup (cutD ds lo hi))) Γ) ∨ (∃ z : Str, ra = .val (.str z) ∧ z.length ≤ 1000000 ∧ Post (.val (.str (cutS z lo hi))) Γ)
theorem cut_is {B : Hp} {vs : List V} {ds : List Dt} (lo hi : Option Int) (h : IsA K B vs ds) : IsA K B (cutV vs lo hi) (cutD ds lo hi) := by
  unfold cutV cutD
  rw [h.len]
  exact (h.drop _).take _
theorem cut_whole {ds : List Dt} {lo hi : Option Int} (h : HT.sIx ds.length 0 lo = 0 ∧ HT.sIx ds.length ds.length hi = ds.length) : cutD ds lo hi = ds := by
  unfold cutD
  rw [h.1, h.2, List.drop_zero, Nat.sub_zero, List.take_length]
theorem we_slG {tl th : TO} (h : WE K ta Γ fun ra Γ1 => WO K tl Γ1 fun lo Γ2 => WO K th Γ2 fun hi Γ3 => SlP ra lo hi Γ3 Post) : WE K (tSl (rSlG K) ta tl th) Γ Post := fun σ B H E Q q => by
  refine h σ B H E _ fun x B1 H1 ra Γ1 g1 k1 p1 => ?_
  refine p1 σ B1 H1 g1.env _ fun lo B2 H2 Γ2 g2 p2 => ?_
  refine p2 σ B2 H2 g2.env _ fun hi B3 H3 Γ3 g3 p3 => ?_
  have g23 := g2.trans g3
  have kx := ReOk.rv (ReOk.step k1 g23.mv g23.sub)
  have g := g1.trans g23
  have fin : ∀ v B' H' z Γ', Go K σ B3 H3 Γ3 B' H' Γ' → ReOk K σ (Own σ Γ3) (Own σ Γ') B' H3 H' v z → Post z Γ' → Q v H' := fun v B' H' z Γ' g4 k4 p4 => q v B' H' z Γ' (g.trans g4) (ReOk.earlier k4 g.mv fun a h => .inl (g.sub a h)) p4
  rcases p3 with ⟨ds, hs, p⟩ | ⟨ds, rfl, p⟩ | ⟨z, rfl, hz, p⟩
  · obtain ⟨a, vs, rfl, hq, ha⟩ := rv_lst g3.env kx hs
    exact .inl ⟨a, vs, rfl, hq, fun l hl => fin _ _ _ _ Γ3 (Go.beside g3.env hl) (re_newL g3.env (cut_is lo hi ha) hl) p⟩
  · obtain ⟨a, vs, rfl, hq, ha⟩ := Is.tupR kx
    refine .inr (.inl ⟨a, vs, rfl, sqT_mono g3.env.bh hq, fun hw => ?_, fun _ l hl => fin _ _ _ _ Γ3 (Go.laid g3.env hl) (re_laidT g3.env (cut_is lo hi ha) hl) p⟩)
    rw [ha.len] at hw
    rw [cut_whole hw] at p
    exact fin _ B3 H3 (.val _) Γ3 (.refl g3.env) (show Is K B3 _ _ from kx) p
  · cases Is.rawI kx
    exact .inr (.inr ⟨z, rfl, Nat.le_trans hz (by decide), fin _ B3 H3 _ Γ3 (.refl g3.env) (.raw _) p⟩)
def InP (neg : Bool) (ra rb : Re) (Γ : List Sl) (Post : Re → List Sl → Prop) : Prop :=
  (∃ (x : V) (us : List V), ra = .val (.raw x) ∧ seqOf Γ rb = some (us.map Dt.raw) ∧ flatV x = true ∧ us.all flatV = true ∧ Post (.val (.bl (if neg then !inV x us else inV x us))) Γ)
theorem we_inG (h : WE K ta Γ fun ra Γ1 => WE K tb Γ1 fun rb Γ2 => InP false ra rb Γ2 Post ∨ ∃ (c : Nat) (z : Str), ra = .val (.str ⟨#[c]⟩) ∧ rb = .val (.str z) ∧ Post (.val (.bl (decide (c ∈ z.cps.toList)))) Γ2) : WE K (tOp (rInG K) ta tb) Γ Post :=
  we_two' (we_mono h fun ra Γ1 h1 => we_mono h1 fun rb Γ2 hp => fun σ B H y z E ky kz Q q => by
    rcases hp with ⟨x, us, rfl, hs, hx, hu, p⟩ | ⟨c, s, rfl, rfl, p⟩
    · cases Is.rawI ky
      obtain ⟨a, vs, rfl, hq, ha⟩ := rv_seq E kz hs
      cases ha.rawsI
      exact .inl ⟨a, _, rfl, hq, hx, hu, q _ B H _ Γ2 (.refl E) (.raw _) p⟩
    · cases Is.rawI ky; cases Is.rawI kz
      exact .inr ⟨c, s, rfl, rfl, q _ B H _ Γ2 (.refl E) (.raw _) p⟩)
theorem we_notInG (h : WE K ta Γ fun ra Γ1 => WE K tb Γ1 fun rb Γ2 => InP true ra rb Γ2 Post) : WE K (tOp (rIn K true) ta tb) Γ Post := we_in h
end
def LtP (ra rb : Re) (Γ : List Sl) (Post : Re → List Sl → Prop) : Prop :=
  (∃ i j, ra = .val (.int i) ∧ rb = .val (.int j) ∧ Post (.val (.bl (decide (i < j)))) Γ) ∨ (∃ s t : Str, ra = .val (.str s) ∧ rb = .val (.str t) ∧ Post (.val (.bl (decide (s.cps.toList < t.cps.toList)))) Γ) ∨
  (∃ ns ms : List Int, ra = .val (.tup (ns.map Dt.int)) ∧ rb = .val (.tup (ms.map Dt.int)) ∧ Post (.val (.bl (HT.lexLt ns ms))) Γ)
theorem we_ltG {K : PySem.W.Frag} {Γ : List Sl} {Post : Re → List Sl → Prop} {ta tb : TE} (h : WE K ta Γ fun ra Γ1 => WE K tb Γ1 fun rb Γ2 => LtP ra rb Γ2 Post) : WE K (tOp (rLtG K) ta tb) Γ Post :=
  we_two' (we_mono h fun ra Γ1 h1 => we_mono h1 fun rb Γ2 hp => fun σ B H x y E kx ky Q q => by
    rcases hp with ⟨i, j, rfl, rfl, p⟩ | ⟨s, t, rfl, rfl, p⟩ | ⟨ns, ms, rfl, rfl, p⟩
    · cases Is.rawI kx; cases Is.rawI ky
      exact .inl ⟨i, j, rfl, rfl, q _ B H _ Γ2 (.refl E) (.raw _) p⟩
    · cases Is.rawI kx; cases Is.rawI ky
      exact .inr (.inl ⟨s, t, rfl, rfl, q _ B H _ Γ2 (.refl E) (.raw _) p⟩)
    · obtain ⟨a, xs, rfl, h1, h2⟩ := Is.tupR kx
      obtain ⟨b, ys, rfl, g1, g2⟩ := Is.tupR ky
      have e1 : xs = ns.map V.int := IsA.rawsI (xs := ns.map V.int) (by rw [List.map_map]; exact h2)
      have e2 : ys = ms.map V.int := IsA.rawsI (xs := ms.map V.int) (by rw [List.map_map]; exact g2)
      subst e1 e2
      exact .inr (.inr ⟨a, b, ns, ms, rfl, rfl, sqT_mono E.bh h1, sqT_mono E.bh g1, q _ B H _ Γ2 (.refl E) (.raw _) p⟩))
theorem fn_never {P : Program} {w : World} {K : PySem.W.Frag} {mg : Str → Option Value} {base : Heap} {x qual : Str} {st : Stmt} {f : Addr} {fd : FuncData} {N ps : List Str} {k : Nat} (F : Fun K x qual st f fd) (S : FnScope N ps (defScope st)) :
    FnOk P w K mg base CX0 (k + 1) f fd ps (toSp K fun _ _ => False) := by
  refine F.ok S (fun vs H Q E h => ?_) (fun cdv A outer s H vs Q E hr h => ?_)
  · obtain ⟨_, _, _, _, z, _⟩ := h; exact z.elim
  · obtain ⟨_, _, _, _, z, _⟩ := h; exact z.elim
theorem law_sp {K : PySem.W.Frag} {ap : AP} {H : Hp} {a : Addr} {ns : List Int} {E : XK} (hS : SqL K H a (ns.map V.int)) (h : ∀ Post : Re → List Sl → Prop, (∀ as, Post (.val (.bl true)) as) → ap [.val (.scr ns)] Post) : toSp K ap [.ref a] H (fun v _ => v = .bl true) E := by
  refine ⟨H, [.val (.scr ns)], fun r _ => r = .val (.bl true), ⟨rfl, Same.refl H, fun i d hi => ?_, fun i ds hi => ?_, fun i j ds es l hi => ?_⟩, h _ (fun _ => rfl), fun v B' H' r as' g k p => ?_⟩
  · cases i with
    | zero => simp at hi; subst hi; exact ⟨.ref a, rfl, .scr hS⟩
    | succ i => simp at hi
  · cases i with
    | zero => simp at hi
    | succ i => simp at hi
  · cases i with
    | zero => simp at hi
    | succ i => simp at hi
  · subst p; exact Is.rawI k
theorem bi_int : bootBuiltins "int" = some (.type "int") := by decide +kernel
theorem bi_bool : bootBuiltins "bool" = some (.type "bool") := by decide +kernel
theorem bi_str : bootBuiltins "str" = some (.type "str") := by decide +kernel
theorem bi_list : bootBuiltins "list" = some (.type "list") := by decide +kernel
theorem bi_tuple : bootBuiltins "tuple" = some (.type "tuple") := by decide +kernel
theorem bi_len : bootBuiltins "len" = some (.builtin "len") := by decide +kernel
theorem bi_abs : bootBuiltins "abs" = some (.builtin "abs") := by decide +kernel
theorem bi_min : bootBuiltins "min" = some (.builtin "min") := by decide +kernel
theorem bi_max : bootBuiltins "max" = some (.builtin "max") := by decide +kernel
theorem bi_sum : bootBuiltins "sum" = some (.builtin "sum") := by decide +kernel
theorem bi_isinstance : bootBuiltins "isinstance" = some (.builtin "isinstance") := by decide +kernel
end Ab

namespace Ab
open PySem L2
section
variable {Γ : List Sl} {Post : Re → List Sl → Prop}
theorem addp_i {i j : Int} (p : Post (.val (.int (i + j))) Γ) : AddP (.val (.int i)) (.val (.int j)) Γ Post := .inl ⟨i, j, rfl, rfl, p⟩
theorem addp_s {s t : Str} (hz : s.length + t.length ≤ 1000000) (p : Post (.val (.str (s ++ t))) Γ) : AddP (.val (.str s)) (.val (.str t)) Γ Post := .inr (.inl ⟨s, t, rfl, rfl, hz, p⟩)
theorem addp_t {ds es : List Dt} (hz : ds.length + es.length ≤ 1000000) (p : Post (.val (.tup (ds ++ es))) Γ) : AddP (.val (.tup ds)) (.val (.tup es)) Γ Post := .inr (.inr (.inl ⟨ds, es, rfl, rfl, hz, p⟩))
theorem addp_l {ra rb : Re} {ds es : List Dt} (h1 : lstOf Γ ra = some ds) (h2 : lstOf Γ rb = some es) (s1 : ra.isScr = false) (s2 : rb.isScr = false) (hz : ds.length + es.length ≤ 1000000) (p : Post (.new (ds ++ es)) Γ) : AddP ra rb Γ Post := .inr (.inr (.inr ⟨ds, es, h1, h2, s1, s2, hz, p⟩))
theorem mulp_l {i j : Int} (hc : -(2 ^ 64) < i ∧ i < 2 ^ 64) (p : Post (.val (.int (i * j))) Γ) : MulP (.val (.int i)) (.val (.int j)) Γ Post := ⟨i, j, rfl, rfl, .inl (.inl hc), p⟩
theorem mulp_r {i j : Int} (hc : -(2 ^ 64) < j ∧ j < 2 ^ 64) (p : Post (.val (.int (i * j))) Γ) : MulP (.val (.int i)) (.val (.int j)) Γ Post := ⟨i, j, rfl, rfl, .inl (.inr hc), p⟩
theorem eqp_s {neg : Bool} {x y : V} (hs : scal x y = true) (p : Post (.val (.bl (neg ^^ decide (x = y)))) Γ) : EqP neg (.val (.raw x)) (.val (.raw y)) Γ Post := .inl ⟨x, y, rfl, rfl, hs, p⟩
theorem dec_i {i j : Int} : decide (V.int i = V.int j) = decide (i = j) := by
  by_cases h : i = j
  · subst h; simp
  · have : ¬ V.int i = V.int j := fun z => h (V.int.inj z)
    rw [decide_eq_false this, decide_eq_false h]
theorem eqp_i {i j : Int} (p : Post (.val (.bl (decide (i = j)))) Γ) : EqP false (.val (.int i)) (.val (.int j)) Γ Post := eqp_s rfl (by rw [dec_i, Bool.false_xor]; exact p)
theorem nep_i {i j : Int} (p : Post (.val (.bl (!decide (i = j)))) Γ) : EqP true (.val (.int i)) (.val (.int j)) Γ Post := eqp_s rfl (by rw [dec_i, Bool.true_xor]; exact p)
theorem intp_i {i : Int} (p : Post (.val (.int i)) Γ) : IntP (.val (.int i)) Γ Post := .inl ⟨i, rfl, p⟩
theorem intp_b {b : Bool} (p : Post (.val (.int (if b then 1 else 0))) Γ) : IntP (.val (.bl b)) Γ Post := .inr ⟨b, rfl, p⟩
theorem ltp_i {i j : Int} (p : Post (.val (.bl (decide (i < j)))) Γ) : LtP (.val (.int i)) (.val (.int j)) Γ Post := .inl ⟨i, j, rfl, rfl, p⟩
theorem ixp {ra : Re} {ds : List Dt} {k : Int} {d : Dt} (h1 : seqOf Γ ra = some ds) (h2 : atI ds k = some d) (p : Post (.val d) Γ) : IxP ra (.val (.int k)) Γ Post := .inl ⟨ds, k, d, h1, rfl, h2, p⟩
theorem ixp_s {z : Str} {k : Int} {c : Nat} (hz : z.length ≤ 1000000) (h2 : atI z.cps.toList k = some c) (p : Post (.val (.str ⟨#[c]⟩)) Γ) : IxP (.val (.str z)) (.val (.int k)) Γ Post := .inr ⟨z, k, c, rfl, rfl, hz, h2, p⟩
theorem lenp {r : Re} {ds : List Dt} (h : seqOf Γ r = some ds) (p : Post (.val (.int ds.length)) Γ) : LenP r Γ Post := .inl ⟨ds, h, p⟩
theorem lenp_s {z : Str} (hz : z.length ≤ 1000000) (p : Post (.val (.int z.length)) Γ) : LenP (.val (.str z)) Γ Post := .inr ⟨z, rfl, hz, p⟩
theorem slp_t {ds : List Dt} {lo hi : Option Int} (p : Post (.val (.tup (cutD ds lo hi))) Γ) : SlP (.val (.tup ds)) lo hi Γ Post := .inr (.inl ⟨ds, rfl, p⟩)
theorem slp_s {z : Str} {lo hi : Option Int} (hz : z.length ≤ 1000000) (p : Post (.val (.str (cutS z lo hi))) Γ) : SlP (.val (.str z)) lo hi Γ Post := .inr (.inr ⟨z, rfl, hz, p⟩)
theorem atI_of {α : Type} {xs : List α} {k : Int} {j : Nat} {x : α} (e : k = (j : Int)) (h : xs[j]? = some x) : atI xs k = some x := by
  subst e
  have hj : j < xs.length := (List.getElem?_eq_some_iff.mp h).1
  unfold atI ixN
  rw [if_pos (by omega), if_pos (by omega)]
  simpa using h
end
section
variable {K : PySem.W.Frag} {Γ : List Sl} {Post : Re → List Sl → Prop} {te : TE}
def IsiP (c : String) (r : Re) (Γ : List Sl) (Post : Re → List Sl → Prop) : Prop := (∀ i, r = .own i → ∃ ds, Γ[i]? = some (.acc ds)) ∧ ∃ T b, tyOf r = some T ∧ kitB T c = some b ∧ Post (.val (.bl b)) Γ
theorem we_isiG {c : String} (h : WE K te Γ fun r Γ1 => IsiP c r Γ1 Post) : WE K (tCB (rIsi K) (tCons te (tCons (tC (.ty c)) tNil))) Γ Post := we_isi h
theorem isi_own {i : Nat} {ds : List Dt} {c : String} {b : Bool} (h : Γ[i]? = some (.acc ds)) (hk : kitB "list" c = some b) (p : Post (.val (.bl b)) Γ) : IsiP c (.own i) Γ Post :=
  ⟨fun j e => by cases e; exact ⟨ds, h⟩, "list", b, rfl, hk, p⟩
theorem isi_val {d : Dt} {T c : String} {b : Bool} (ht : tyOf (.val d) = some T) (hk : kitB T c = some b) (p : Post (.val (.bl b)) Γ) : IsiP c (.val d) Γ Post :=
  ⟨(fun j e => nomatch e), T, b, ht, hk, p⟩
theorem isi_new {ds : List Dt} {c : String} {b : Bool} (hk : kitB "list" c = some b) (p : Post (.val (.bl b)) Γ) : IsiP c (.new ds) Γ Post :=
  ⟨(fun j e => nomatch e), "list", b, rfl, hk, p⟩
theorem kb_tt : kitB "tuple" "tuple" = some true := by decide +kernel
theorem kb_ll : kitB "list" "list" = some true := by decide +kernel
theorem kb_ii : kitB "int" "int" = some true := by decide +kernel
theorem kb_ib : kitB "int" "bool" = some false := by decide +kernel
theorem kb_bb : kitB "bool" "bool" = some true := by decide +kernel
theorem kb_bi : kitB "bool" "int" = some true := by decide +kernel
theorem kb_ss : kitB "str" "str" = some true := by decide +kernel
theorem kb_sb : kitB "str" "bool" = some false := by decide +kernel
theorem kb_si : kitB "str" "int" = some false := by decide +kernel
theorem kb_tb : kitB "tuple" "bool" = some false := by decide +kernel
theorem kb_ti : kitB "tuple" "int" = some false := by decide +kernel
theorem kb_ts : kitB "tuple" "str" = some false := by decide +kernel
theorem kb_tl : kitB "tuple" "list" = some false := by decide +kernel
theorem kb_lb : kitB "list" "bool" = some false := by decide +kernel
theorem kb_li : kitB "list" "int" = some false := by decide +kernel
theorem kb_ls : kitB "list" "str" = some false := by decide +kernel
theorem kb_lt : kitB "list" "tuple" = some false := by decide +kernel
theorem kb_is : kitB "int" "str" = some false := by decide +kernel
theorem kb_it : kitB "int" "tuple" = some false := by decide +kernel
theorem kb_il : kitB "int" "list" = some false := by decide +kernel
theorem kb_st : kitB "str" "tuple" = some false := by decide +kernel
theorem kb_sl : kitB "str" "list" = some false := by decide +kernel
theorem kb_nb : kitB "NoneType" "bool" = some false := by decide +kernel
theorem kb_ni : kitB "NoneType" "int" = some false := by decide +kernel
theorem kb_ns : kitB "NoneType" "str" = some false := by decide +kernel
theorem kb_nt : kitB "NoneType" "tuple" = some false := by decide +kernel
theorem kb_nl : kitB "NoneType" "list" = some false := by decide +kernel
theorem kb_bs : kitB "bool" "str" = some false := by decide +kernel
theorem kb_bt : kitB "bool" "tuple" = some false := by decide +kernel
theorem kb_bl : kitB "bool" "list" = some false := by decide +kernel
end
inductive Hold (p : Prop) : Prop where
  | a (h : p)
  | b (h : p) (_ : True)
theorem Hold.get {p : Prop} (h : Hold p) : p := by
  cases h with
  | a h => exact h
  | b h _ => exact h
theorem ws_cut {K : PySem.W.Frag} {pin : List Nat} {Γ : List Sl} {P : Ps} {t u : TS} (M : List Sl → Prop) (h : WS K pin t Γ { P with nx := fun G => Hold (M G) }) (k : ∀ G, M G → WS K pin u G P) : WS K pin (tSeq t u) Γ P := ws_seq (ws_mono h (fun G hG => k G hG.get) (fun _ _ h => h) (fun _ h => h) (fun _ h => h))
section
variable {K : PySem.W.Frag} {pin : List Nat} {Γ : List Sl} {P : Ps} {te tl : TE} {tt : TT} {tb : TS} {g : TG} {j : Nat} {Post : Re → List Sl → Prop}
theorem for_range1 {t1 : TA} (n : Int) (Inv : Nat → List Sl → Prop) (h : WD K t1 Γ fun ds Γ1 => Hold (ds = [.int n] ∧ -(2 ^ 62) ≤ n ∧ n < 2 ^ 62 ∧ Inv 0 Γ1))
    (turn : ∀ (i : Nat) G, (i : Int) < n → Inv i G → WG K pin g (.int i) G fun G2 => WS K pin tb G2 ⟨fun G => Hold (Inv (i + 1) G), P.rt, P.nx, fun G => Hold (Inv (i + 1) G), P.ex⟩) (done : ∀ G, Inv n.toNat G → P.nx G) : WS K pin (tFor (iRng1 t1) g tb) Γ P :=
  ws_for1 fun σ B H E Q q => h σ B H E Q fun vs B' H' ds Γ' g k p => q vs B' H' ds Γ' g k (by
    obtain ⟨e, h1, h2, h3⟩ := p.get
    exact ⟨n, e, h1, h2, fun i G => Hold (Inv i G), .a h3, fun i G hi hG => turn i G hi hG.get, fun G hG => done G hG.get⟩)
theorem for_range2 {t1 : TA} (lo m : Int) (Inv : Nat → List Sl → Prop) (h : WD K t1 Γ fun ds Γ1 => Hold (ds = [.int lo, .int m] ∧ (-(2 ^ 62) ≤ lo ∧ lo < 2 ^ 62 ∧ -(2 ^ 62) ≤ m ∧ m < 2 ^ 62) ∧ Inv 0 Γ1))
    (turn : ∀ (i : Nat) G, lo + (i : Int) < m → Inv i G → WG K pin g (.int (lo + i)) G fun G2 => WS K pin tb G2 ⟨fun G => Hold (Inv (i + 1) G), P.rt, P.nx, fun G => Hold (Inv (i + 1) G), P.ex⟩) (done : ∀ G, Inv (m - lo).toNat G → P.nx G) : WS K pin (tFor (iRng2 t1) g tb) Γ P :=
  ws_for2 fun σ B H E Q q => h σ B H E Q fun vs B' H' ds Γ' g k p => q vs B' H' ds Γ' g k (by
    obtain ⟨e, h1, h3⟩ := p.get
    exact ⟨lo, m, e, h1, fun i G => Hold (Inv i G), .a h3, fun i G hi hG => turn i G hi hG.get, fun G hG => done G hG.get⟩)
theorem for_tuple (ds : List Dt) (Inv : Nat → List Sl → Prop) (h : WE K te Γ fun z Γ1 => Hold (z = .val (.tup ds) ∧ Inv 0 Γ1))
    (turn : ∀ (i : Nat) d G, ds[i]? = some d → Inv i G → WG K pin g d G fun G2 => WS K pin tb G2 ⟨fun G => Hold (Inv (i + 1) G), P.rt, P.nx, fun G => Hold (Inv (i + 1) G), P.ex⟩) (done : ∀ G, Inv ds.length G → P.nx G) : WS K pin (tFor (iTup K te) g tb) Γ P :=
  ws_forT (we_mono h fun z Γ1 p => by
    obtain ⟨e, h3⟩ := p.get
    exact ⟨ds, e, fun i G => Hold (Inv i G), .a h3, fun i d G hd hG => turn i d G hd hG.get, fun G hG => done G hG.get⟩)
theorem for_lst (ds : List Dt) (Inv : Nat → List Sl → Prop) (h : WE K te Γ fun z Γ1 => Hold (z.dt? = some (.lst ds) ∧ Inv 0 Γ1))
    (turn : ∀ (i : Nat) d G, ds[i]? = some d → Inv i G → WG K pin g d G fun G2 => WS K pin tb G2 ⟨fun G => Hold (Inv (i + 1) G), P.rt, P.nx, fun G => Hold (Inv (i + 1) G), P.ex⟩) (done : ∀ G, Inv ds.length G → P.nx G) : WS K pin (tFor (iList K te) g tb) Γ P :=
  ws_forL (we_mono h fun z Γ1 p => by
    obtain ⟨e, h3⟩ := p.get
    exact ⟨_, ds, e, rfl, fun i G => Hold (Inv i G), .a h3, fun i d G hd hG => turn i d G hd hG.get, fun G hG => done G hG.get⟩)
theorem for_acc {k : Nat} (ds : List Dt) (Inv : Nat → List Sl → Prop) (h0 : Γ[k]? = some (.acc ds)) (i0 : Inv 0 Γ) (hk : ∀ i G, Inv i G → G[k]? = some (.acc ds))
    (turn : ∀ (i : Nat) d G, ds[i]? = some d → Inv i G → WG K (k :: pin) g d G fun G2 => WS K (k :: pin) tb G2 ⟨fun G => Hold (Inv (i + 1) G), P.rt, P.nx, fun G => Hold (Inv (i + 1) G), P.ex⟩) (done : ∀ G, Inv ds.length G → P.nx G) : WS K pin (tFor (iList K (tVar k)) g tb) Γ P :=
  ws_forA h0 (fun i G => Hold (Inv i G)) (.a i0) (fun i G hG => hk i G hG.get) (fun i d G hd hG => turn i d G hd hG.get) fun G hG => done G hG.get
theorem while_ab (Inv : Nat → List Sl → Prop) (m0 : Nat) (i0 : Inv m0 Γ)
    (turn : ∀ m G, Inv m G → WT K tt G fun z G1 => (z = true → WS K pin tb G1 ⟨fun G => Hold (∃ m', m' < m ∧ Inv m' G), P.rt, P.nx, fun G => Hold (∃ m', m' < m ∧ Inv m' G), P.ex⟩) ∧ (z = false → P.nx G1)) : WS K pin (tWhile tt tb) Γ P :=
  ws_while Inv m0 i0 fun m G hG => wt_mono (turn m G hG) fun b G1 ⟨h1, h2⟩ => ⟨fun e => ws_mono (h1 e) (fun G h => h.get) (fun _ _ h => h) (fun _ h => h) (fun G h => h.get), h2⟩
theorem lc_range1 {t1 : TA} (n : Nat) (Inv : Nat → List Dt → List Sl → Prop) (h : WD K t1 Γ fun ds Γ1 => Hold (ds = [.int n] ∧ n ≤ 1000000 ∧ decide (j < Γ1.length) = true ∧ notAcc Γ1[j]? = true ∧ keepV Γ1[j]? = keepV Γ[j]? ∧ Inv 0 [] Γ1))
    (turn : ∀ i es G, i < n → Inv i es G → WT K tt (G.set j (.val (.int i))) fun b G2 => (b = true → WE K te G2 fun r G3 => ∃ d, r.dt? = some d ∧ Hold (Inv (i + 1) (es ++ [d]) (G3.set j (keepV Γ[j]?)))) ∧ (b = false → Hold (Inv (i + 1) es (G2.set j (keepV Γ[j]?)))))
    (done : ∀ es G, Inv n es G → Post (.new es) G) : WE K (tLc (iRng1 t1) (gName j) tt te [j]) Γ Post :=
  we_lc1 fun σ B H E Q q => h σ B H E Q fun vs B' H' ds Γ1 g k p => q vs B' H' ds Γ1 g k (by
    obtain ⟨e, h1, h2, h3, h4, h5⟩ := p.get
    refine ⟨n, e, h1, h2, h3, fun i es G => Hold (Inv i es G), .a h5, fun i es G hi hG => ?_, fun es G hG => done es G hG.get⟩
    rw [h4]
    exact turn i es G hi hG.get)
theorem lc_tuple (ds : List Dt) (Inv : Nat → List Dt → List Sl → Prop) (h : WE K tl Γ fun z Γ1 => Hold (z = .val (.tup ds) ∧ ds.length ≤ 1000000 ∧ decide (j < Γ1.length) = true ∧ notAcc Γ1[j]? = true ∧ keepV Γ1[j]? = keepV Γ[j]? ∧ Inv 0 [] Γ1))
    (turn : ∀ (i : Nat) d es G, ds[i]? = some d → Inv i es G → WT K tt (G.set j (.val d)) fun b G2 => (b = true → WE K te G2 fun r G3 => ∃ d, r.dt? = some d ∧ Hold (Inv (i + 1) (es ++ [d]) (G3.set j (keepV Γ[j]?)))) ∧ (b = false → Hold (Inv (i + 1) es (G2.set j (keepV Γ[j]?)))))
    (done : ∀ es G, Inv ds.length es G → Post (.new es) G) : WE K (tLc (iTup K tl) (gName j) tt te [j]) Γ Post :=
  we_lcT (we_mono h fun z Γ1 p => by
    obtain ⟨e, h1, h2, h3, h4, h5⟩ := p.get
    refine ⟨ds, e, h1, h2, h3, fun i es G => Hold (Inv i es G), .a h5, fun i d es G hi hG => ?_, fun es G hG => done es G hG.get⟩
    rw [h4]
    exact turn i d es G hi hG.get)
theorem lc_lstH (h : WE K tl Γ fun z Γ1 => Hold (∃ ds, z.dt? = some (.lst ds) ∧ ds.length ≤ 1000000 ∧ decide (j < Γ1.length) = true ∧ notAcc Γ1[j]? = true ∧ ∃ Inv : Nat → List Dt → List Sl → Prop, Inv 0 [] Γ1 ∧
      (∀ (i : Nat) d es Γ', ds[i]? = some d → Inv i es Γ' → WT K tt (Γ'.set j (.val d)) fun b Γ2 => (b = true → WE K te Γ2 fun r Γ3 => ∃ d, r.dt? = some d ∧ Hold (Inv (i + 1) (es ++ [d]) (Γ3.set j (keepV Γ1[j]?)))) ∧ (b = false → Hold (Inv (i + 1) es (Γ2.set j (keepV Γ1[j]?))))) ∧
      ∀ es Γ', Inv ds.length es Γ' → Post (.new es) Γ')) : WE K (tLc (iList K tl) (gName j) tt te [j]) Γ Post :=
  we_lcL (we_mono h fun z Γ1 p => by
    obtain ⟨ds, e, h1, h2, h3, Inv, i0, turn, done⟩ := p.get
    exact ⟨_, ds, e, rfl, h1, h2, h3, fun i es G => Hold (Inv i es G), .a i0, fun i d es G hi hG => turn i d es G hi hG.get, fun es G hG => done es G hG.get⟩)
theorem for_range1H {t1 : TA} (h : WD K t1 Γ fun ds Γ1 => Hold (∃ n : Int, ds = [.int n] ∧ -(2 ^ 62) ≤ n ∧ n < 2 ^ 62 ∧ ∃ Inv : Nat → List Sl → Prop, Inv 0 Γ1 ∧
      (∀ (i : Nat) Γ', (i : Int) < n → Inv i Γ' → WG K pin g (.int i) Γ' fun Γ2 => WS K pin tb Γ2 ⟨fun G => Hold (Inv (i + 1) G), P.rt, P.nx, fun G => Hold (Inv (i + 1) G), P.ex⟩) ∧ ∀ Γ', Inv n.toNat Γ' → P.nx Γ')) : WS K pin (tFor (iRng1 t1) g tb) Γ P :=
  ws_for1 fun σ B H E Q q => h σ B H E Q fun vs B' H' ds Γ' g k p => q vs B' H' ds Γ' g k (by
    obtain ⟨n, e, h1, h2, Inv, i0, turn, done⟩ := p.get
    exact ⟨n, e, h1, h2, fun i G => Hold (Inv i G), .a i0, fun i G hi hG => turn i G hi hG.get, fun G hG => done G hG.get⟩)
theorem wt_yes {Q : Bool → List Sl → Prop} (p : Q true Γ) : WT K tYes Γ Q := fun σ B H E R q => q true B H Γ (.refl E) p
end
theorem we_sum {K : PySem.W.Frag} {Γ : List Sl} {Post : Re → List Sl → Prop} {te : TE} (h : WE K te Γ fun r Γ1 => Hold (∃ ns : List Int, lstOf Γ1 r = some (ns.map Dt.int) ∧ Post (.val (.int ns.sum)) Γ1)) : WE K (tCB (rSum K) (tCons te tNil)) Γ Post :=
  we_cb1 (we_mono h fun r Γ1 hp => fun σ B H x E kx Q q => by
    obtain ⟨ns, hs, p⟩ := hp.get
    obtain ⟨a, vs, rfl, hq, ha⟩ := rv_lst E kx hs
    have e : vs = ns.map V.int := IsA.rawsI (xs := ns.map V.int) (by rw [List.map_map]; exact ha)
    subst e
    exact ⟨a, ns, rfl, hq, q _ B H _ Γ1 (.refl E) (.raw _) p⟩)
def NormP (Γ : List Sl) (Q : List Sl → Prop) : Prop := Q Γ
theorem norm_intro {Γ Γ' : List Sl} {Q : List Sl → Prop} (e : Γ = Γ') (h : Q Γ') : NormP Γ Q := by
  subst e
  exact h
theorem norm_cons {a a' : Sl} {Γ Γt Γt' : List Sl} (e : Γ = a :: Γt) (ea : a = a') (et : Γt = Γt') : Γ = a' :: Γt' := by
  subst ea et
  exact e
theorem norm_v {d : Dt} : slOf (.val d) = .val d := rfl
theorem norm_n {ds : List Dt} : slOf (.new ds) = .acc ds := rfl
theorem norm_o {i : Nat} : slOf (.own i) = .un := rfl
theorem ws_asgN {K : PySem.W.Frag} {pin : List Nat} {Γ : List Sl} {P : Ps} {te : TE} {i : Nat} (hp : pin.contains i = false) (hi : decide (i < Γ.length) = true) (h : WE K te Γ fun z Γ1 => NormP (Γ1.set i (slOf z)) P.nx) : WS K pin (tAsg te (gName i)) Γ P := ws_asg hp hi h
theorem wg_nameN {K : PySem.W.Frag} {pin : List Nat} {Γ : List Sl} {i : Nat} {d : Dt} {Q : List Sl → Prop} (hp : pin.contains i = false) (hi : decide (i < Γ.length) = true) (p : NormP (Γ.set i (.val d)) Q) : WG K pin (gName i) d Γ Q := wg_name hp hi p
theorem we_appendN {K : PySem.W.Frag} {Γ : List Sl} {te : TE} {i : Nat} {ds0 : List Dt} {Post : Re → List Sl → Prop} (h0 : Γ[i]? = some (.acc ds0)) (h : WE K te Γ fun z Γ1 => ∃ d ds, z.dt? = some d ∧ Γ1[i]? = some (.acc ds) ∧ ds.length < 1000000 ∧ NormP (Γ1.set i (.acc (ds ++ [d]))) (Post (.val .non))) :
    WE K (tBM K "list" rAppend (tVar i) (tCons te tNil)) Γ Post := we_append h0 h
theorem ws_setN {K : PySem.W.Frag} {pin : List Nat} {Γ : List Sl} {P : Ps} {te tj : TE} {i : Nat} (h : WE K te Γ fun z Γ1 => ∃ d, z = .val d ∧ (∃ ds1, Γ1[i]? = some (.acc ds1)) ∧ WE K tj Γ1 fun y Γ2 => ∃ ds k j, y = .val (.int k) ∧ Γ2[i]? = some (.acc ds) ∧ ixN ds.length k = some j ∧ NormP (Γ2.set i (.acc (ds.set j d))) P.nx) :
    WS K pin (tAsg te (gSub (tVar i) tj rSetL)) Γ P := ws_setA h
theorem we_reverseN {K : PySem.W.Frag} {Γ : List Sl} {i : Nat} {ds : List Dt} {Post : Re → List Sl → Prop} (h0 : Γ[i]? = some (.acc ds)) (p : NormP (Γ.set i (.acc ds.reverse)) (Post (.val .non))) : WE K (tBM0 K "list" rReverse (tVar i)) Γ Post := we_reverse h0 p
theorem ws_augN {K : PySem.W.Frag} {pin : List Nat} {Γ : List Sl} {P : Ps} {te : TE} {i : Nat} {f : Int → Int → Int} {a : Int} (hx : Γ[i]? = some (.val (.int a))) (hp : pin.contains i = false) (h : WE K te Γ fun z Γ1 => ∃ b, z = .val (.int b) ∧ NormP (Γ1.set i (.val (.int (f a b)))) P.nx) : WS K pin (tAug i te (ipI f)) Γ P := ws_aug hx hp h
theorem we_callH {K : PySem.W.Frag} {Γ : List Sl} {Post : Re → List Sl → Prop} {ap : AP} {E0 : XK} {ta : TA} (h : WA K ta Γ fun rs Γ1 => nodupB (ownsOf rs) = true ∧ Hold (ap (rs.map (argSl Γ1)) fun r as' => NormP (putBack rs as' Γ1) (Post r))) : WE K (tCall (toSp K ap) [] E0 ta) Γ Post :=
  we_call fun σ B H E Q q => h σ B H E Q fun vs B' H' rs Γ1 g k p => q vs B' H' rs Γ1 g k ⟨p.1, p.2.get⟩
theorem nd_t {c : Prop} [Decidable c] (h : (!decide c) = true) : ¬ c := by
  intro hc
  rw [decide_eq_true hc] at h
  cases h
theorem nd_f {c : Prop} [Decidable c] (h : (!decide c) = false) : c := by
  by_cases hc : c
  · exact hc
  · rw [decide_eq_false hc] at h; cases h
theorem len_map {α β : Type} (f : α → β) (xs : List α) : ((xs.map f).length : Int) = (xs.length : Int) := by rw [List.length_map]
theorem at_map {α β : Type} {f : α → β} {xs : List α} {k : Int} (h0 : 0 ≤ k) (h1 : k < xs.length) (d : α) : atI (xs.map f) k = some (f (xs.getD k.toNat d)) := by
  refine atI_of (j := k.toNat) (by omega) ?_
  rw [List.getElem?_map, List.getD_eq_getElem?_getD, List.getElem?_eq_getElem (by omega)]
  rfl
mutual
def plain : Dt → Bool
  | .raw .non => true
  | .raw (.int _) => true
  | .raw (.str s) => PyData.canLay0 (.str s)
  | .raw _ => false
  | .tup ds => plainAll ds
  | .lst ds => plainAll ds
  | .obj _ _ => false
  | .scr _ => false
  | .dK _ => false
  | .dT _ => false
  | .exn _ _ _ => false
  | .err _ _ => false
  | .dN _ _ => false
def plainAll : List Dt → Bool
  | [] => true
  | d :: ds => plain d && plainAll ds
end
end Ab

namespace Ab
open PySem L2
local macro_rules | `(tactic| walk_at "no") => `(tactic| first
  | exact fun h => Bool.noConfusion (show true = false from h)
  | exact fun h => Bool.noConfusion (show false = true from h)
  | exact fun h => absurd (of_decide_eq_true h) (by omega)
  | exact fun h => absurd (by omega) (of_decide_eq_false h)
  | exact fun h => absurd (by omega) (nd_t h)
  | exact fun h => absurd (nd_f h) (by omega)
  | fail "no")
local macro_rules | `(tactic| walk_at "kb") => `(tactic| first | exact kb_tt | exact kb_ll | exact kb_ii | exact kb_ib | exact kb_ss | exact kb_sb | exact kb_si | exact kb_tb | exact kb_ti | exact kb_ts | exact kb_tl | exact kb_lb | exact kb_li | exact kb_ls | exact kb_lt | exact kb_is | exact kb_it | exact kb_il | exact kb_st | exact kb_sl | exact kb_bb | exact kb_bi | exact kb_nb | exact kb_ni | exact kb_ns | exact kb_nt | exact kb_nl | exact kb_bs | exact kb_bt | exact kb_bl | fail "kb")
local macro_rules | `(tactic| walk_at "norm") => `(tactic| first
  | exact (rfl : _ = ([] : List Sl))
  | ((refine' norm_cons (rfl : _ = _ :: _) ?ea ?et); (case ea => first | exact norm_v | exact norm_n | exact norm_o | exact rfl | fail "norm"); (case et => walk_at "norm"))
  | fail "norm")
local macro_rules | `(tactic| walk_at "x") => `(tactic| first
  | ((with_reducible refine' norm_intro ?hn ?_); (case hn => walk_at "norm"))
  | ((with_reducible refine' we_var ?hh ?_); (case hh => exact rfl))
  | ((with_reducible refine' we_own ?hh ?_); (case hh => exact rfl))
  | with_reducible refine we_c ?_
  | with_reducible refine we_addG ?_
  | with_reducible refine addp_i ?_
  | with_reducible refine we_opI0 ?_
  | with_reducible refine we_opI ?_
  | with_reducible refine we_mulG ?_
  | ((with_reducible refine' mulp_r ?h1 ?_); (case h1 => first | decide | omega | fail "m"))
  | ((with_reducible refine' mulp_l ?h1 ?_); (case h1 => first | decide | omega | fail "m"))
  | with_reducible refine we_neg ?_
  | with_reducible refine we_ltG ?_
  | with_reducible refine ltp_i ?_
  | with_reducible refine we_eqG ?_
  | with_reducible refine we_neG ?_
  | with_reducible refine eqp_i ?_
  | with_reducible refine nep_i ?_
  | with_reducible refine we_ixG ?_
  | ((with_reducible refine' ixp ?h1 ?h2 ?_); (case h1 => exact rfl); (case h2 => exact rfl))
  | with_reducible refine we_lenG ?_
  | ((with_reducible refine' lenp ?hh ?_); (case hh => exact rfl))
  | with_reducible refine we_intG ?_
  | with_reducible refine intp_i ?_
  | with_reducible refine intp_b ?_
  | with_reducible refine we_abs ?_
  | with_reducible refine we_tup ?_
  | with_reducible refine we_lst ?_
  | with_reducible refine we_tuple ?_
  | with_reducible refine we_list ?_
  | with_reducible refine we_sum ?_
  | with_reducible refine we_max2 ?_
  | with_reducible refine we_min2 ?_
  | with_reducible refine wd_cons ?_
  | with_reducible refine wd_nil ?_
  | with_reducible refine wa_cons ?_
  | with_reducible refine wa_nil ?_
  | with_reducible refine we_callH ?_
  | with_reducible refine we_isiG ?_
  | ((with_reducible refine' isi_own ?h1 ?h2 ?_); (case h1 => exact rfl); (case h2 => walk_at "kb"))
  | ((with_reducible refine' isi_val ?h1 ?h2 ?_); (case h1 => exact rfl); (case h2 => walk_at "kb"))
  | ((with_reducible refine' isi_new ?h2 ?_); (case h2 => walk_at "kb"))
  | with_reducible refine we_chainI ?_
  | with_reducible refine we_andV ?_
  | with_reducible refine we_orV ?_
  | with_reducible refine we_notV ?_
  | with_reducible refine wt_test ?_
  | with_reducible refine wt_B ?_
  | with_reducible refine wt_yes ?_
  | with_reducible refine wt_and ?_
  | with_reducible refine wt_or ?_
  | with_reducible refine wt_not ?_
  | ((with_reducible refine' ws_retA ?hh ?_); (case hh => exact rfl))
  | with_reducible refine ws_ret ?_
  | with_reducible refine ws_if ?_
  | with_reducible refine ws_nil ?_
  | with_reducible refine ws_expr ?_
  | with_reducible refine ws_asgN rfl rfl ?_
  | with_reducible refine ws_setN ?_
  | with_reducible refine ws_asgG ?_
  | ((with_reducible refine' wg_tup ?hh ?_); (case hh => exact rfl))
  | with_reducible refine wgs_cons ?_
  | with_reducible refine wgs_nil ?_
  | with_reducible refine wg_nameN rfl rfl ?_
  | ((with_reducible refine' we_appendN ?hh ?_); (case hh => exact rfl))
  | ((with_reducible refine' we_reverseN ?hh ?_); (case hh => exact rfl))
  | ((with_reducible refine' ws_augN ?h1 ?h2 ?_); (case h1 => exact rfl); (case h2 => exact rfl))
  | (refine ⟨_, rfl, ⟨_, rfl⟩, ?_⟩)
  | (refine ⟨_, rfl, ?_⟩)
  | (refine ⟨_, _, _, rfl, rfl, rfl, ?_⟩)
  | (refine ⟨_, _, rfl, rfl, (Nat.le_of_ble_eq_true rfl : _ ≤ _), ?_⟩)
  | (refine ⟨_, _, rfl, rfl, ?_⟩)
  | (refine ⟨(Nat.le_of_ble_eq_true rfl : _ ≤ _), ?_⟩)
  | (refine ⟨(rfl : _ = true), ?_⟩)
  | ((refine' ⟨fun _ => ?_, fun hY => absurd hY ?k2⟩); (case k2 => walk_at "no"))
  | ((refine' ⟨fun hY => absurd hY ?k2, fun _ => ?_⟩); (case k2 => walk_at "no"))
  | (refine ⟨⟨(by omega), (by omega)⟩, ?_⟩)
  | (refine ⟨⟨(by decide), (by decide), (by decide)⟩, ?_⟩)
  | (refine ⟨(by first | decide | omega | fail "c"), ?_⟩)
  | fail "stop")
local macro_rules | `(tactic| walk_at "e") => `(tactic| first | with_reducible refine ws_seq ?_ | walk_at "x" | fail "stop")
local macro_rules | `(tactic| walk_at "xs") => `(tactic| repeat' walk_at "x")
local macro_rules | `(tactic| walk_at "es") => `(tactic| repeat' walk_at "e")
def PoolIs (c : Int) (ds : List Dt) : Prop := ∃ cell flag seed : Int, ds = [.int cell, .int c, .int flag, .int seed, .int 3] ∧ 0 ≤ cell ∧ 0 ≤ seed ∧ seed < 2147483647
def ap_pool : AP := fun as Post => ∃ (ns : List Int) (k : Int), as = [.val (.scr ns), .val (.int k)] ∧ 0 ≤ k ∧ k < 1000000 ∧ ∀ ds, PoolIs 0 ds → Post (.new ds) as
def ap_take : AP := fun as Post => ∃ ds c n, as = [.acc ds, .val (.int n)] ∧ PoolIs c ds ∧ 0 ≤ c ∧ c < 1000000000 ∧ 0 < n ∧ n < 18446744073709551616 ∧ ∀ ds' g, PoolIs (c + 1) ds' → 0 ≤ g → g < n → Post (.val (.int g)) [.acc ds', .val (.int n)]
def tPool (K : PySem.W.Frag) : TS :=
    (tSeq (tAsg (tC (.int 0)) (gName 2))
    (tSeq (tIfS (tTest (tOp (rLtG K) (tVar 1) (tCB (rLenV K) (tCons (tVar 0) tNil)))) (tAsg (tCB rAbs (tCons (tCB rInt1 (tCons (tOp (rIx K) (tVar 0) (tVar 1)) tNil)) tNil)) (gName 2)) tNext)
    (tRet (tLst (tCons (tVar 2) (tCons (tC (.int 0)) (tCons (tCB rInt1 (tCons (tOp rGeI (tVar 2) (tOp rPowI (tC (.int 10)) (tC (.int 18)))) tNil)) (tCons (tOp rModI (tCB rInt1 (tCons (tOp (rAddG K) (tVar 2) (tOp (rMulG K) (tVar 1) (tC (.int 7919)))) tNil)) (tC (.int 2147483647))) (tCons (tC (.int 3)) tNil)))))))))
def tTakeA (K : PySem.W.Frag) : TS :=
    (tSeq (tAsg (tOp (rAddG K) (tOp (rIx K) (tVar 0) (tC (.int 1))) (tC (.int 1))) (gSub (tVar 0) (tC (.int 1)) rSetL))
    (tSeq (tIfS (tTest (tOp (rEqG K) (tOp (rIx K) (tVar 0) (tC (.int 2))) (tC (.int 1)))) (tSeq (tAsg (tOp rModI (tCB rInt1 (tCons (tOp (rIx K) (tVar 0) (tC (.int 0))) tNil)) (tVar 1)) (gName 2))
    (tSeq (tAsg (tOp rDivI (tOp (rIx K) (tVar 0) (tC (.int 0))) (tVar 1)) (gSub (tVar 0) (tC (.int 0)) rSetL))
    (tRet (tVar 2)))) tNext)
    (tSeq (tAsg (tOp rModI (tCB rInt1 (tCons (tOp (rAddG K) (tOp (rAddG K) (tOp (rMulG K) (tOp (rIx K) (tVar 0) (tC (.int 3))) (tC (.int 48271))) (tOp (rMulG K) (tOp (rIx K) (tVar 0) (tC (.int 1))) (tC (.int 69621)))) (tC (.int 11))) tNil)) (tC (.int 2147483647))) (gName 3))
    (tSeq (tAsg (tOp rModI (tCB rInt1 (tCons (tOp (rAddG K) (tOp (rAddG K) (tOp (rMulG K) (tVar 3) (tC (.int 16807))) (tOp rDivI (tVar 3) (tC (.int 65536)))) (tOp (rMulG K) (tOp (rMulG K) (tOp (rIx K) (tVar 0) (tC (.int 1))) (tOp (rIx K) (tVar 0) (tC (.int 1)))) (tC (.int 40692)))) tNil)) (tC (.int 2147483399))) (gName 4))
    (tRet (tOp rModI (tCB rInt1 (tCons (tOp rDivI (tVar 4) (tOp (rAddG K) (tOp (rIx K) (tVar 0) (tC (.int 1))) (tC (.int 6)))) tNil)) (tVar 1)))))))
theorem run_tPool {K : PySem.W.Frag} (as : List Sl) (Post : Re → List Sl → Prop) (h : ap_pool as Post) : WS K [] (tPool K) (as ++ List.replicate (3 - as.length) .un) ⟨fun G => Post (.val .non) (exitArgs [] G as), fun r G => Post r (exitArgs [] G as), fun _ => False, fun _ => False, .no⟩ := by
  obtain ⟨ns, k, rfl, h0, hk, p⟩ := h
  unfold tPool
  show WS K [] _ [.val (.scr ns), .val (.int k), .un] _
  walk_at "e"; walk_at "e"; walk_at "e"
  refine ws_cut (fun G => ∃ c : Int, 0 ≤ c ∧ G = [.val (.scr ns), .val (.int k), .val (.int c)]) ?_ ?_
  · walk_at "es"
    refine ⟨fun h1 => ?_, fun h1 => ?_⟩
    · have h1' := of_decide_eq_true h1
      rw [len_map] at h1'
      walk_at "es"
      refine ixp rfl (at_map h0 h1' 0) ?_
      walk_at "es"
      refine .a ⟨_, ?_, rfl⟩
      split <;> omega
    · walk_at "es"
      exact .a ⟨0, Int.le_refl _, rfl⟩
  · rintro G ⟨c, hc, rfl⟩
    walk_at "es"
    exact p _ ⟨_, _, _, rfl, hc, Int.emod_nonneg _ (by decide), Int.emod_lt_of_pos _ (by decide)⟩
theorem run_tTakeA {K : PySem.W.Frag} (as : List Sl) (Post : Re → List Sl → Prop) (h : ap_take as Post) : WS K [0] (tTakeA K) (as ++ List.replicate (5 - as.length) .un) ⟨fun G => Post (.val .non) (exitArgs [0] G as), fun r G => Post r (exitArgs [0] G as), fun _ => False, fun _ => False, .no⟩ := by
  obtain ⟨ds, c, n, rfl, ⟨cell, flag, seed, rfl, hc, hs, hs2⟩, hc0, hc1, hn, hn2, p⟩ := h
  unfold tTakeA
  show WS K [0] _ [.acc _, .val (.int n), .un, .un, .un] _
  walk_at "es"
  refine ⟨fun h1 => ?_, fun h1 => ?_⟩
  · walk_at "es"
    exact p _ _ ⟨_, _, _, rfl, Int.ediv_nonneg hc (by omega), hs, hs2⟩ (Int.emod_nonneg _ (by omega)) (Int.emod_lt_of_pos _ hn)
  · walk_at "es"
    exact p _ _ ⟨_, _, _, rfl, hc, hs, hs2⟩ (Int.emod_nonneg _ (by omega)) (Int.emod_lt_of_pos _ hn)
end Ab

namespace Ab
open PySem L2
local macro_rules | `(tactic| walk_at "no") => `(tactic| first
  | exact fun h => Bool.noConfusion (show true = false from h)
  | exact fun h => Bool.noConfusion (show false = true from h)
  | exact fun h => absurd (of_decide_eq_true h) (by omega)
  | exact fun h => absurd (by omega) (of_decide_eq_false h)
  | exact fun h => absurd (by omega) (nd_t h)
  | exact fun h => absurd (nd_f h) (by omega)
  | fail "no")
local macro_rules | `(tactic| walk_at "kb") => `(tactic| first | exact kb_tt | exact kb_ll | exact kb_ii | exact kb_ib | exact kb_ss | exact kb_sb | exact kb_si | exact kb_tb | exact kb_ti | exact kb_ts | exact kb_tl | exact kb_lb | exact kb_li | exact kb_ls | exact kb_lt | exact kb_is | exact kb_it | exact kb_il | exact kb_st | exact kb_sl | exact kb_bb | exact kb_bi | exact kb_nb | exact kb_ni | exact kb_ns | exact kb_nt | exact kb_nl | exact kb_bs | exact kb_bt | exact kb_bl | fail "kb")
local macro_rules | `(tactic| walk_at "norm") => `(tactic| first
  | exact (rfl : _ = ([] : List Sl))
  | ((refine' norm_cons (rfl : _ = _ :: _) ?ea ?et); (case ea => first | exact norm_v | exact norm_n | exact norm_o | exact rfl | fail "norm"); (case et => walk_at "norm"))
  | fail "norm")
local macro_rules | `(tactic| walk_at "e") => `(tactic| first
  | ((with_reducible refine' norm_intro ?hn ?_); (case hn => walk_at "norm"))
  | ((with_reducible refine' we_var ?hh ?_); (case hh => exact rfl))
  | ((with_reducible refine' we_own ?hh ?_); (case hh => exact rfl))
  | with_reducible refine we_c ?_
  | with_reducible refine we_addG ?_
  | with_reducible refine addp_i ?_
  | with_reducible refine we_opI0 ?_
  | with_reducible refine we_opI ?_
  | with_reducible refine we_mulG ?_
  | ((with_reducible refine' mulp_r ?h1 ?_); (case h1 => first | decide | omega | fail "m"))
  | ((with_reducible refine' mulp_l ?h1 ?_); (case h1 => first | decide | omega | fail "m"))
  | with_reducible refine we_neg ?_
  | with_reducible refine we_ltG ?_
  | with_reducible refine ltp_i ?_
  | with_reducible refine we_eqG ?_
  | with_reducible refine we_neG ?_
  | with_reducible refine eqp_i ?_
  | with_reducible refine nep_i ?_
  | with_reducible refine we_ixG ?_
  | ((with_reducible refine' ixp ?h1 ?h2 ?_); (case h1 => exact rfl); (case h2 => exact rfl))
  | with_reducible refine we_lenG ?_
  | ((with_reducible refine' lenp ?hh ?_); (case hh => exact rfl))
  | with_reducible refine we_intG ?_
  | with_reducible refine intp_i ?_
  | with_reducible refine intp_b ?_
  | with_reducible refine we_abs ?_
  | with_reducible refine we_tup ?_
  | with_reducible refine we_lst ?_
  | with_reducible refine we_tuple ?_
  | with_reducible refine we_list ?_
  | with_reducible refine we_sum ?_
  | with_reducible refine we_max2 ?_
  | with_reducible refine we_min2 ?_
  | with_reducible refine wd_cons ?_
  | with_reducible refine wd_nil ?_
  | with_reducible refine wa_cons ?_
  | with_reducible refine wa_nil ?_
  | with_reducible refine we_callH ?_
  | with_reducible refine we_isiG ?_
  | ((with_reducible refine' isi_own ?h1 ?h2 ?_); (case h1 => exact rfl); (case h2 => walk_at "kb"))
  | ((with_reducible refine' isi_val ?h1 ?h2 ?_); (case h1 => exact rfl); (case h2 => walk_at "kb"))
  | ((with_reducible refine' isi_new ?h2 ?_); (case h2 => walk_at "kb"))
  | with_reducible refine we_chainI ?_
  | with_reducible refine we_andV ?_
  | with_reducible refine we_orV ?_
  | with_reducible refine we_notV ?_
  | with_reducible refine wt_test ?_
  | with_reducible refine wt_B ?_
  | with_reducible refine wt_yes ?_
  | with_reducible refine wt_and ?_
  | with_reducible refine wt_or ?_
  | with_reducible refine wt_not ?_
  | with_reducible refine ws_seq ?_
  | ((with_reducible refine' ws_retA ?hh ?_); (case hh => exact rfl))
  | with_reducible refine ws_ret ?_
  | with_reducible refine ws_if ?_
  | with_reducible refine ws_nil ?_
  | with_reducible refine ws_expr ?_
  | with_reducible refine ws_asgN rfl rfl ?_
  | with_reducible refine ws_setN ?_
  | with_reducible refine ws_asgG ?_
  | ((with_reducible refine' wg_tup ?hh ?_); (case hh => exact rfl))
  | with_reducible refine wgs_cons ?_
  | with_reducible refine wgs_nil ?_
  | with_reducible refine wg_nameN rfl rfl ?_
  | ((with_reducible refine' we_appendN ?hh ?_); (case hh => exact rfl))
  | ((with_reducible refine' we_reverseN ?hh ?_); (case hh => exact rfl))
  | ((with_reducible refine' ws_augN ?h1 ?h2 ?_); (case h1 => exact rfl); (case h2 => exact rfl))
  | (refine ⟨_, rfl, ⟨_, rfl⟩, ?_⟩)
  | (refine ⟨_, rfl, ?_⟩)
  | (refine ⟨_, _, _, rfl, rfl, rfl, ?_⟩)
  | (refine ⟨_, _, rfl, rfl, (Nat.le_of_ble_eq_true rfl : _ ≤ _), ?_⟩)
  | (refine ⟨_, _, rfl, rfl, ?_⟩)
  | (refine ⟨(Nat.le_of_ble_eq_true rfl : _ ≤ _), ?_⟩)
  | (refine ⟨(rfl : _ = true), ?_⟩)
  | ((refine' ⟨fun _ => ?_, fun hY => absurd hY ?k2⟩); (case k2 => walk_at "no"))
  | ((refine' ⟨fun hY => absurd hY ?k2, fun _ => ?_⟩); (case k2 => walk_at "no"))
  | (refine ⟨⟨(by omega), (by omega)⟩, ?_⟩)
  | (refine ⟨⟨(by decide), (by decide), (by decide)⟩, ?_⟩)
  | (refine ⟨(by first | decide | omega | fail "c"), ?_⟩)
  | fail "stop")
local macro_rules | `(tactic| walk_at "es") => `(tactic| repeat' walk_at "e")
def isNonR : Re → Bool
  | .val (.raw v) => decide (v = .non)
  | _ => false
theorem we_isN {K : PySem.W.Frag} {Γ : List Sl} {Post : Re → List Sl → Prop} {ta : TE} (h : WE K ta Γ fun r Γ1 => Post (.val (.bl (isNonR r))) Γ1) : WE K (tIsN ta) Γ Post := fun σ B H E Q q => by
  refine h σ B H E _ fun x B1 H1 r Γ1 g k p => ?_
  have e : decide (x = V.non) = isNonR r := by
    cases r with
    | val d =>
      cases d with
      | raw v => cases Is.rawI k; rfl
      | tup ds => obtain ⟨a, xs, rfl, _⟩ := Is.tupR k; rfl
      | lst ds => obtain ⟨a, xs, rfl, _⟩ := Is.lstR k; rfl
      | obj C fs => cases k; rfl
      | scr ns => cases k; rfl
      | dK es => cases k; rfl
      | dT es => cases k; rfl
      | exn a d fs => cases k <;> rfl
      | err C fs => cases k <;> rfl
      | dN w es => cases k; rfl
    | nw ds => obtain ⟨l, vs, rfl, _⟩ := k; rfl
    | own i => obtain ⟨l, rfl, _⟩ := k; rfl
  rw [e]
  exact q _ B1 H1 _ Γ1 g (.raw _) p
theorem we_notN {K : PySem.W.Frag} {Γ : List Sl} {Post : Re → List Sl → Prop} {ta : TE} (h : WE K ta Γ fun r Γ1 => Post (.val (.bl (!isNonR r))) Γ1) : WE K (tNotN ta) Γ Post := fun σ B H E Q q => by
  refine h σ B H E _ fun x B1 H1 r Γ1 g k p => ?_
  have e : decide (x = V.non) = isNonR r := by
    cases r with
    | val d =>
      cases d with
      | raw v => cases Is.rawI k; rfl
      | tup ds => obtain ⟨a, xs, rfl, _⟩ := Is.tupR k; rfl
      | lst ds => obtain ⟨a, xs, rfl, _⟩ := Is.lstR k; rfl
      | obj C fs => cases k; rfl
      | scr ns => cases k; rfl
      | dK es => cases k; rfl
      | dT es => cases k; rfl
      | exn a d fs => cases k <;> rfl
      | err C fs => cases k <;> rfl
      | dN w es => cases k; rfl
    | nw ds => obtain ⟨l, vs, rfl, _⟩ := k; rfl
    | own i => obtain ⟨l, rfl, _⟩ := k; rfl
  rw [e]
  exact q _ B1 H1 _ Γ1 g (.raw _) p
local macro_rules | `(tactic| walk_at "e") => `(tactic| first | with_reducible refine we_isN ?_ | with_reducible refine we_notN ?_ | fail "is")
mutual
def okD : Dt → Bool
  | .raw .non => true
  | .raw (.bl _) => true
  | .raw (.int _) => true
  | .raw (.str _) => true
  | .raw _ => false
  | .tup ds => decide (ds.length ≤ 1000000) && okAll ds
  | .lst ds => decide (ds.length ≤ 1000000) && okAll ds
  | .obj _ _ => false
  | .scr _ => false
  | .dK _ => false
  | .dT _ => false
  | .exn _ _ _ => false
  | .err _ _ => false
  | .dN _ _ => false
def okAll : List Dt → Bool
  | [] => true
  | d :: ds => okD d && okAll ds
end
mutual
def depD : Dt → Nat
  | .raw _ => 0
  | .tup ds => depAll ds + 1
  | .lst ds => depAll ds + 1
  | .obj _ _ => 0
  | .scr _ => 0
  | .dK _ => 0
  | .dT _ => 0
  | .exn _ _ _ => 0
  | .err _ _ => 0
  | .dN _ _ => 0
def depAll : List Dt → Nat
  | [] => 0
  | d :: ds => max (depD d) (depAll ds)
end
theorem okAll_at : ∀ {ds : List Dt} {i : Nat} {d : Dt}, okAll ds = true → ds[i]? = some d → okD d = true
  | [], _, _, _, h => by simp at h
  | x :: r, 0, d, h, e => by
    rw [okAll, Bool.and_eq_true] at h
    simp at e; subst e; exact h.1
  | x :: r, i + 1, d, h, e => by
    rw [okAll, Bool.and_eq_true] at h
    exact okAll_at h.2 (by simpa using e)
theorem depAll_at : ∀ {ds : List Dt} {i : Nat} {d : Dt}, ds[i]? = some d → depD d ≤ depAll ds
  | [], _, _, h => by simp at h
  | x :: r, 0, d, e => by
    simp at e; subst e; rw [depAll]; omega
  | x :: r, i + 1, d, e => by
    have := depAll_at (ds := r) (i := i) (d := d) (by simpa using e)
    rw [depAll]; omega
def slDt : Sl → Option Dt
  | .val d => some d
  | .cel (.lst ds) => some (.lst ds)
  | .cel _ => none
  | .un => none
def ap_same (n : Nat) : AP := fun as Post => ∃ s0 s1 d, as = [s0, s1] ∧ slDt s0 = some d ∧ slDt s1 = some d ∧ okD d = true ∧ depD d ≤ n ∧ Post (.val (.bl true)) [s0, s1]
theorem len_same {n : Nat} (as : List Sl) (Post : Re → List Sl → Prop) (h : ap_same n as Post) : as.length = 2 := by obtain ⟨s0, s1, d, rfl, _⟩ := h; rfl
def tSame (K : PySem.W.Frag) (ap__law_same : AP) : TS :=
    (tSeq (tIfS (tOr (tB (tCB (rIsi K) (tCons (tVar 0) (tCons (tC (.ty "bool")) tNil)))) (tB (tCB (rIsi K) (tCons (tVar 1) (tCons (tC (.ty "bool")) tNil))))) (tRet (tAndV (tCB (rIsi K) (tCons (tVar 0) (tCons (tC (.ty "bool")) tNil))) (tAndV (tCB (rIsi K) (tCons (tVar 1) (tCons (tC (.ty "bool")) tNil))) (tOp (rEqG K) (tVar 0) (tVar 1))))) tNext)
    (tSeq (tIfS (tAnd (tB (tCB (rIsi K) (tCons (tVar 0) (tCons (tC (.ty "int")) tNil)))) (tB (tCB (rIsi K) (tCons (tVar 1) (tCons (tC (.ty "int")) tNil))))) (tRet (tOp (rEqG K) (tVar 0) (tVar 1))) tNext)
    (tSeq (tIfS (tAnd (tB (tCB (rIsi K) (tCons (tVar 0) (tCons (tC (.ty "str")) tNil)))) (tB (tCB (rIsi K) (tCons (tVar 1) (tCons (tC (.ty "str")) tNil))))) (tRet (tOp (rEqG K) (tVar 0) (tVar 1))) tNext)
    (tSeq (tAsg (tAndV (tCB (rIsi K) (tCons (tVar 0) (tCons (tC (.ty "tuple")) tNil))) (tCB (rIsi K) (tCons (tVar 1) (tCons (tC (.ty "tuple")) tNil)))) (gName 2))
    (tSeq (tIfS (tOr (tB (tVar 2)) (tAnd (tB (tCB (rIsi K) (tCons (tVar 0) (tCons (tC (.ty "list")) tNil)))) (tB (tCB (rIsi K) (tCons (tVar 1) (tCons (tC (.ty "list")) tNil)))))) (tSeq (tIfS (tTest (tOp (rNeG K) (tCB (rLenV K) (tCons (tVar 0) tNil)) (tCB (rLenV K) (tCons (tVar 1) tNil)))) (tRet (tC (.bl false))) tNext)
    (tSeq (tFor (iRng1 (tCons (tCB (rLenV K) (tCons (tVar 0) tNil)) tNil)) (gName 3) (tIfS (tNot (tB (tCall (toSp K ap__law_same) [] E0 (tCons (tOp (rIx K) (tVar 0) (tVar 3)) (tCons (tOp (rIx K) (tVar 1) (tVar 3)) tNil))))) (tRet (tC (.bl false))) tNext))
    (tRet (tC (.bl true))))) tNext)
    (tRet (tAndV (tIsN (tVar 0)) (tIsN (tVar 1)))))))))
def SameIn (n : Nat) (ap : AP) : Prop := ∀ d Post, okD d = true → depD d < n → Post (.val (.bl true)) [.val d, .val d] → ap [.val d, .val d] Post
theorem run_tSame {K : PySem.W.Frag} {n : Nat} {ap : AP} (hap : SameIn n ap) (as : List Sl) (Post : Re → List Sl → Prop) (h : ap_same n as Post) : WS K [0, 1] (tSame K ap) (as ++ List.replicate (4 - as.length) .un) ⟨fun G => Post (.val .non) (exitArgs [0, 1] G as), fun r G => Post r (exitArgs [0, 1] G as), fun _ => False, fun _ => False, .no⟩ := by
  obtain ⟨s0, s1, d, rfl, h0, h1, ok, dp, p⟩ := h
  unfold tSame
  show WS K [0, 1] _ [s0, s1, .un, .un] _
  have acc0 : ∀ {s : Sl} {d : Dt}, slDt s = some d → s = .val d ∨ ∃ ds, d = .lst ds ∧ s = .acc ds := fun {s d} h => by
    cases s with
    | un => cases h
    | val e => cases h; exact .inl rfl
    | cel c =>
      cases c with
      | lst es => cases h; exact .inr ⟨es, rfl, rfl⟩
      | dK es => cases h
      | dT es => cases h
      | dN w es => cases h
  have scal : ∀ v : V, d = .raw v → s0 = .val (.raw v) ∧ s1 = .val (.raw v) := fun v e => by
    subst e
    rcases acc0 h0 with rfl | ⟨ds, e, _⟩
    · rcases acc0 h1 with rfl | ⟨ds, e, _⟩
      · exact ⟨rfl, rfl⟩
      · cases e
    · cases e
  cases d with
  | obj C fs => simp [okD] at ok
  | dK fs => simp [okD] at ok
  | dT fs => simp [okD] at ok
  | exn a d fs => simp [okD] at ok
  | err C fs => simp [okD] at ok
  | dN w es => simp [okD] at ok
  | scr ns => simp [okD] at ok
  | raw v =>
    obtain ⟨rfl, rfl⟩ := scal v rfl
    cases v with
    | non => walk_at "es"; exact p
    | bl b =>
      walk_at "es"
      refine eqp_s rfl ?_
      rw [decide_eq_true rfl]
      exact ⟨rfl, p⟩
    | int i =>
      walk_at "es"
      rw [decide_eq_true rfl]
      exact p
    | str x =>
      walk_at "es"
      refine eqp_s rfl ?_
      rw [decide_eq_true rfl]
      exact ⟨rfl, p⟩
    | byt b => simp [okD] at ok
    | flt b => simp [okD] at ok
    | ref a => simp [okD] at ok
    | ty t => simp [okD] at ok
  | tup ds =>
    rw [okD, Bool.and_eq_true, decide_eq_true_eq] at ok
    obtain ⟨hlen, ok⟩ := ok
    rw [depD] at dp
    have e0 : s0 = .val (.tup ds) := by
      rcases acc0 h0 with rfl | ⟨_, e, _⟩
      · rfl
      · cases e
    have e1 : s1 = .val (.tup ds) := by
      rcases acc0 h1 with rfl | ⟨_, e, _⟩
      · rfl
      · cases e
    subst e0 e1
    walk_at "es"
    refine for_range1 ds.length (fun i G => ∃ s3, G = [.val (.tup ds), .val (.tup ds), .val (.bl true), s3]) ?_ ?_ ?_
    · walk_at "es"
      exact .a ⟨rfl, by omega, by omega, _, rfl⟩
    · rintro i G hi ⟨s3, rfl⟩
      have hi' : i < ds.length := by omega
      have g := List.getElem?_eq_getElem hi'
      walk_at "es"
      refine ixp rfl (atI_of (j := i) rfl g) ?_
      walk_at "es"
      refine ixp rfl (atI_of (j := i) rfl g) ?_
      walk_at "es"
      refine .a (hap _ _ (okAll_at ok g) (by have := depAll_at g; omega) ?_)
      walk_at "es"
      exact .a ⟨_, rfl⟩
    · rintro G ⟨s3, rfl⟩
      walk_at "es"
      exact p
  | lst ds =>
    rw [okD, Bool.and_eq_true, decide_eq_true_eq] at ok
    obtain ⟨hlen, ok⟩ := ok
    rw [depD] at dp
    have e0 : s0 = .val (.lst ds) ∨ s0 = .acc ds := by
      rcases acc0 h0 with rfl | ⟨_, e, rfl⟩
      · exact .inl rfl
      · cases e; exact .inr rfl
    have e1 : s1 = .val (.lst ds) ∨ s1 = .acc ds := by
      rcases acc0 h1 with rfl | ⟨_, e, rfl⟩
      · exact .inl rfl
      · cases e; exact .inr rfl
    rcases e0 with rfl | rfl <;> rcases e1 with rfl | rfl
    · walk_at "es"
      refine for_range1 ds.length (fun i G => ∃ s3, G = [.val (.lst ds), .val (.lst ds), .val (.bl false), s3]) ?_ ?_ ?_
      · walk_at "es"
        exact .a ⟨rfl, by omega, by omega, _, rfl⟩
      · rintro i G hi ⟨s3, rfl⟩
        have hi' : i < ds.length := by omega
        have g := List.getElem?_eq_getElem hi'
        walk_at "es"
        refine ixp rfl (atI_of (j := i) rfl g) ?_
        walk_at "es"
        refine ixp rfl (atI_of (j := i) rfl g) ?_
        walk_at "es"
        refine .a (hap _ _ (okAll_at ok g) (by have := depAll_at g; omega) ?_)
        walk_at "es"
        exact .a ⟨_, rfl⟩
      · rintro G ⟨s3, rfl⟩
        walk_at "es"
        exact p
    · walk_at "es"
      refine for_range1 ds.length (fun i G => ∃ s3, G = [.val (.lst ds), .acc ds, .val (.bl false), s3]) ?_ ?_ ?_
      · walk_at "es"
        exact .a ⟨rfl, by omega, by omega, _, rfl⟩
      · rintro i G hi ⟨s3, rfl⟩
        have hi' : i < ds.length := by omega
        have g := List.getElem?_eq_getElem hi'
        walk_at "es"
        refine ixp rfl (atI_of (j := i) rfl g) ?_
        walk_at "es"
        refine ixp rfl (atI_of (j := i) rfl g) ?_
        walk_at "es"
        refine .a (hap _ _ (okAll_at ok g) (by have := depAll_at g; omega) ?_)
        walk_at "es"
        exact .a ⟨_, rfl⟩
      · rintro G ⟨s3, rfl⟩
        walk_at "es"
        exact p
    · walk_at "es"
      refine for_range1 ds.length (fun i G => ∃ s3, G = [.acc ds, .val (.lst ds), .val (.bl false), s3]) ?_ ?_ ?_
      · walk_at "es"
        exact .a ⟨rfl, by omega, by omega, _, rfl⟩
      · rintro i G hi ⟨s3, rfl⟩
        have hi' : i < ds.length := by omega
        have g := List.getElem?_eq_getElem hi'
        walk_at "es"
        refine ixp rfl (atI_of (j := i) rfl g) ?_
        walk_at "es"
        refine ixp rfl (atI_of (j := i) rfl g) ?_
        walk_at "es"
        refine .a (hap _ _ (okAll_at ok g) (by have := depAll_at g; omega) ?_)
        walk_at "es"
        exact .a ⟨_, rfl⟩
      · rintro G ⟨s3, rfl⟩
        walk_at "es"
        exact p
    · walk_at "es"
      refine for_range1 ds.length (fun i G => ∃ s3, G = [.acc ds, .acc ds, .val (.bl false), s3]) ?_ ?_ ?_
      · walk_at "es"
        exact .a ⟨rfl, by omega, by omega, _, rfl⟩
      · rintro i G hi ⟨s3, rfl⟩
        have hi' : i < ds.length := by omega
        have g := List.getElem?_eq_getElem hi'
        walk_at "es"
        refine ixp rfl (atI_of (j := i) rfl g) ?_
        walk_at "es"
        refine ixp rfl (atI_of (j := i) rfl g) ?_
        walk_at "es"
        refine .a (hap _ _ (okAll_at ok g) (by have := depAll_at g; omega) ?_)
        walk_at "es"
        exact .a ⟨_, rfl⟩
      · rintro G ⟨s3, rfl⟩
        walk_at "es"
        exact p
end Ab

set_option maxHeartbeats 2000000
namespace Ab
open PySem L2
def rJoin (K : PySem.W.Frag) : V → List V → Hp → VK → Prop := fun x xs H Q => ∃ a p, ∃ ys : List Str, x = .str a ∧ xs = [.ref p] ∧ (SqL K H p (ys.map V.str) ∨ SqT K H p (ys.map V.str)) ∧
  (ys.map (·.length)).sum + ys.length * a.length ≤ 16777216 ∧ Q (.str (Txt.join a ys)) H
theorem rawsI_str {K : PySem.W.Frag} {B : Hp} {vs : List V} {ys : List Str} (h : IsA K B vs (ys.map Dt.str)) : vs = ys.map V.str := by
  have : ys.map Dt.str = (ys.map V.str).map Dt.raw := by rw [List.map_map]; rfl
  rw [this] at h
  exact h.rawsI
theorem we_join {K : PySem.W.Frag} {Γ : List Sl} {Post : Re → List Sl → Prop} {to te : TE} (h : WE K to Γ fun r Γ1 => ∃ a : Str, r = .val (.str a) ∧ WE K te Γ1 fun z Γ2 => Hold (∃ ys : List Str, lstOf Γ2 z = some (ys.map Dt.str) ∧ (ys.map (·.length)).sum + ys.length * a.length ≤ 16777216 ∧ Post (.val (.str (Txt.join a ys))) Γ2)) :
    WE K (tM1 (rJoin K) to te) Γ Post := fun σ B H E Q q => by
  refine h σ B H E _ fun x B1 H1 r Γ1 g1 k1 p1 => ?_
  obtain ⟨a, rfl, p1⟩ := p1
  cases Is.rawI k1
  refine ⟨⟨a, rfl⟩, ?_⟩
  refine p1 σ B1 H1 g1.env _ fun y B2 H2 z Γ2 g2 k2 p2 => ?_
  obtain ⟨ys, hl, hz, p⟩ := p2.get
  obtain ⟨b, vs, rfl, hq, ha⟩ := rv_lst g2.env k2.rv hl
  rw [rawsI_str ha] at hq
  exact ⟨a, b, ys, rfl, rfl, .inl hq, hz, q _ B2 H2 _ Γ2 (g1.trans g2) (.raw _) p⟩
def rGtS : R2 := fun x y H Q => ∃ i j : Str, x = .str i ∧ y = .str j ∧ Q (.bl (decide (j.cps.toList < i.cps.toList))) H
theorem we_gtS {K : PySem.W.Frag} {Γ : List Sl} {Post : Re → List Sl → Prop} {ta tb : TE} (h : WE K ta Γ fun ra Γ1 => WE K tb Γ1 fun rb Γ2 => ∃ s t : Str, ra = .val (.str s) ∧ rb = .val (.str t) ∧ Post (.val (.bl (decide (t.cps.toList < s.cps.toList)))) Γ2) : WE K (tOp rGtS ta tb) Γ Post :=
  we_two' (we_mono h fun ra Γ1 h1 => we_mono h1 fun rb Γ2 hp => fun σ B H x y E kx ky Q q => by
    obtain ⟨s, t, rfl, rfl, p⟩ := hp
    cases Is.rawI kx; cases Is.rawI ky
    exact ⟨s, t, rfl, rfl, q _ B H _ Γ2 (.refl E) (.raw _) p⟩)
def KTup (K : PySem.W.Frag) (a : Addr) (xs : List V) : Prop := ∃ (o : Obj) (its : Array Value) (n : Nat), K.lookup a = some o ∧ o.cls = .type "tuple" ∧ o.data = .seq its n ∧ its.size ≤ sizeLine ∧ Vals xs its.toList
theorem we_ktup {K : PySem.W.Frag} {Γ : List Sl} {Post : Re → List Sl → Prop} {c : Addr} {xs : List V} (h : KTup K c xs) (p : Post (.val (.tup (xs.map Dt.raw))) Γ) : WE K (tC (.ref c)) Γ Post := fun σ B H E Q q => by
  have ha : IsA K B xs (xs.map Dt.raw) := IsA.raws
  exact q _ B H (.val _) Γ (.refl E) (Is.tup (.inr h) ha.len ha.at_) p
end Ab

namespace Ab
open PySem L2
section
variable {K : PySem.W.Frag} {B H : Hp} {v : V} {C : Addr} {gs : List (Str × Dt)}
theorem Is.objR (h : Is K B v (.obj C gs)) : ∃ a dx fs, v = .ref a ∧ B a = some (.ins C dx fs) ∧ (∀ f : Str, (fs.lookup f).isSome = (gs.lookup f).isSome) ∧ ∀ (f : Str) w d, fs.lookup f = some w → gs.lookup f = some d → Is K B w d := by
  cases h with
  | obj h hk hi => exact ⟨_, _, _, rfl, h, hk, hi⟩
theorem lk_none {f : Str} {fs : List (Str × V)} (hk : (fs.lookup f).isSome = (gs.lookup f).isSome) (h : gs.lookup f = none) : fs.lookup f = none := by
  rw [h] at hk
  cases q : fs.lookup f with
  | none => rfl
  | some w => rw [q] at hk; cases hk
theorem lk_some {f : Str} {fs : List (Str × V)} {d : Dt} (hk : (fs.lookup f).isSome = (gs.lookup f).isSome) (h : gs.lookup f = some d) : ∃ w, fs.lookup f = some w := by
  rw [h] at hk
  cases q : fs.lookup f with
  | none => rw [q] at hk; cases hk
  | some w => exact ⟨w, rfl⟩
end
section
variable {K : PySem.W.Frag} {Γ : List Sl} {Post : Re → List Sl → Prop} {ta tb te : TE}
theorem asOk_val {σ : L2.St} {m m' : Addr → Prop} {B' H H' : Hp} {vs : List V} {ds : List Dt} (h : IsA K B' vs ds) : AsOk K σ m m' B' H H' vs (ds.map Re.val) := by
  refine ⟨by rw [h.len, List.length_map], fun i v r a b => ?_, fun i j es fs l a => ?_⟩
  · rw [List.getElem?_map] at b
    cases q : ds[i]? with
    | none => rw [q] at b; cases b
    | some d => rw [q] at b; cases b; exact h.at_ i v d a q
  · rw [List.getElem?_map] at a
    cases q : ds[i]? with
    | none => rw [q] at a; cases a
    | some d => rw [q] at a; cases a
theorem owns_vals : ∀ ds : List Dt, ownsOf (ds.map Re.val) = []
  | [] => rfl
  | d :: r => by show ownsOf (Re.val d :: r.map Re.val) = []; exact owns_vals r
theorem back_vals : ∀ (ds : List Dt) (as G : List Sl), putBack (ds.map Re.val) as G = G
  | [], as, G => by cases as <;> rfl
  | d :: r, [], G => rfl
  | d :: r, s :: t, G => back_vals r t G
theorem args_vals {Γ : List Sl} (ds : List Dt) : (ds.map Re.val).map (argSl Γ) = ds.map Sl.val := by rw [List.map_map]; rfl
theorem we_meth {m : Str} {C : Addr} {ap : AP} {E0 : XK} {t : TA} (h : WE K ta Γ fun r Γ1 => ∃ gs, r = .val (.obj C gs) ∧ gs.lookup m = none ∧ WD K t Γ1 fun ds Γ2 => Hold (ap (.val (.obj C gs) :: ds.map Sl.val) fun r as' => Post r Γ2)) : WE K (tMeth C m (toSp K ap) [] E0 ta t) Γ Post := fun σ B H E Q q => by
  refine h σ B H E _ fun x B1 H1 r Γ1 g1 k1 p1 => ?_
  obtain ⟨gs, rfl, hl, p1⟩ := p1
  obtain ⟨a, dx, fs, rfl, hb, hk, hi⟩ := Is.objR k1
  refine ⟨a, dx, fs, rfl, g1.env.bh _ _ hb, lk_none (hk m) hl, ?_⟩
  refine p1 σ B1 H1 g1.env _ fun vs B2 H2 ds Γ2 g2 k2 p2 => ?_
  rw [List.append_nil]
  have k3 : IsA K B2 (V.ref a :: vs) (.obj C gs :: ds) := .cons (Is.mono g2.mv.bb k1) k2
  refine call_core E (g1.trans g2) (asOk_val k3) (by rw [owns_vals]; rfl) (Post := Post) ?_ q
  rw [args_vals]
  simp only [back_vals]
  exact p2.get
def rOwn (C : Addr) (sp : Sp) (E : XK) : R2 := fun x y H Q => ∃ a b dx dy fs gs, x = .ref a ∧ y = .ref b ∧ H a = some (.ins C dx fs) ∧ H b = some (.ins C dy gs) ∧ sp [x, y] H Q E
theorem op_own {X : Cx} {CX : CXT} {k : Nat} {f C : Addr} {fd : FuncData} {ps : List Str} {sp : Sp} {E : XK} {op : Operator} (F : FnOk X.prog X.w X.K X.mg X.base CX k f fd ps sp) (hr : Room k X.A) (hc : PySem.W.selfFirst X.K C = true)
    (hs : PySem.W.findIn X.K (.ref C) (PySem.dunder op.info.2) = some (some (.ref f))) (hf : PySem.W.isFn X.K (.ref f) = true) (hb : Binds X.K fd ps []) (hx : Passes CX X E) : OpR X (binaryOp op) (rOwn C sp E) := by
  intro pins s σ H x y v u Q I rx ry hq
  obtain ⟨a, b, dx, dy, fs, gs, rfl, rfl, ha, hb', h⟩ := hq
  cases rx
  cases ry
  obtain ⟨mA, J, _⟩ := ins_get I.hok ha
  obtain ⟨mB, J', _⟩ := ins_get I.hok hb'
  obtain ⟨od, J, _⟩ := J.look
  obtain ⟨od', J', _⟩ := J'.look
  obtain ⟨m, hF⟩ := I.fr
  refine PySem.W.binop_K hF I.ok.mod.kin J J'.type hc hs hf ?_
  refine wpAny_mono (run_fn (us := [.ref a, .ref b]) (vs := [.ref a, .ref b]) F hr hb .nil hx I (.cons rfl (.cons rfl .nil)) h) (fun w s' hw => ?_) fun _ _ z => z
  cases w with
  | notImplemented =>
    obtain ⟨z, H', I', rz, _⟩ := hw
    cases z <;> first | (obtain ⟨_, rz⟩ := rz; cases rz; done) | (cases rz; done)
  | _ => exact hw
theorem we_own2 {C : Addr} {ap : AP} {E0 : XK} (h : WE K ta Γ fun ra Γ1 => ∃ gs, ra = .val (.obj C gs) ∧ WE K tb Γ1 fun rb Γ2 => ∃ hs, rb = .val (.obj C hs) ∧ Hold (ap [.val (.obj C gs), .val (.obj C hs)] fun r as' => Post r Γ2)) : WE K (tOp (rOwn C (toSp K ap) E0) ta tb) Γ Post := fun σ B H E Q q => by
  refine h σ B H E _ fun x B1 H1 ra Γ1 g1 k1 p1 => ?_
  obtain ⟨gs, rfl, p1⟩ := p1
  refine p1 σ B1 H1 g1.env _ fun y B2 H2 rb Γ2 g2 k2 p2 => ?_
  obtain ⟨hs, rfl, p2⟩ := p2
  have k1' := Is.mono g2.mv.bb k1
  obtain ⟨a, dx, fs, rfl, hb, _, _⟩ := Is.objR k1'
  obtain ⟨b, dy, fs', rfl, hb', _, _⟩ := Is.objR k2
  refine ⟨a, b, dx, dy, fs, fs', rfl, rfl, g2.env.bh _ _ hb, g2.env.bh _ _ hb', ?_⟩
  have k3 : IsA K B2 [V.ref a, V.ref b] [.obj C gs, .obj C hs] := .cons k1' (.cons k2 .nil)
  refine call_core E (g1.trans g2) (asOk_val k3) rfl (Post := Post) ?_ q
  rw [args_vals]
  simp only [back_vals]
  exact p2.get
structure ClsOk (K : PySem.W.Frag) (C : Addr) : Prop where
  cl : Cls K C
  ha : PySem.W.findIn K (.ref C) "__class__" = some (some (.builtin "object.__class__"))
  hn : PySem.W.specialIn K (.builtin "object.__class__") "__get__" = some (some (.builtin "getset_descriptor.__get__"))
  ht : PySem.W.takesIn K (.builtin "object.__class__") = some true
  hm : PySem.W.mroIn K C (.type "object") = some true
end
structure FsIs (K : PySem.W.Frag) (B : Hp) (fs : List (Str × V)) (gs : List (Str × Dt)) : Prop where
  len : fs.length ≤ gs.length
  hk : ∀ f : Str, (fs.lookup f).isSome = (gs.lookup f).isSome
  hi : ∀ (f : Str) v d, fs.lookup f = some v → gs.lookup f = some d → Is K B v d
theorem putF_len (f : Str) (v : V) : ∀ fs : List (Str × V), (putF f v fs).length ≤ fs.length + 1
  | [] => by simp [putF]
  | (g, x) :: r => by
    unfold putF
    split
    · simp
    · have := putF_len f v r
      simp only [List.length_cons]
      omega
theorem FsIs.mono {K : PySem.W.Frag} {B B' : Hp} {fs : List (Str × V)} {gs : List (Str × Dt)} (e : Same B B') (h : FsIs K B fs gs) : FsIs K B' fs gs := ⟨h.len, h.hk, fun f v d a b => (h.hi f v d a b).mono e⟩
theorem FsIs.put {K : PySem.W.Frag} {B : Hp} {fs : List (Str × V)} {gs : List (Str × Dt)} {f : Str} {v : V} {d : Dt} (h : FsIs K B fs gs) (hn : gs.lookup f = none) (hv : Is K B v d) : FsIs K B (putF f v fs) (gs ++ [(f, d)]) := by
  have lk : ∀ g : Str, (gs ++ [(f, d)]).lookup g = if g = f then some d else gs.lookup g := fun g => by
    by_cases hg : g = f
    · subst hg
      rw [if_pos rfl]
      clear h
      induction gs with
      | nil => simp [List.lookup]
      | cons x r ih =>
        obtain ⟨k, y⟩ := x
        have hgk : (g == k) = false := by
          cases q : g == k with
          | false => rfl
          | true => simp only [List.lookup, q] at hn; cases hn
        simp only [List.lookup, hgk] at hn
        simp only [List.cons_append, List.lookup, hgk]
        exact ih hn
    · rw [if_neg hg]
      clear h hn
      have hb : (g == f) = false := beq_eq_false_iff_ne.mpr hg
      induction gs with
      | nil => simp [List.lookup, hb]
      | cons x r ih =>
        obtain ⟨k, y⟩ := x
        cases q : g == k with
        | false => simp only [List.cons_append, List.lookup, q]; exact ih
        | true => simp only [List.cons_append, List.lookup, q]
  refine ⟨?_, fun g => ?_, fun g w e a b => ?_⟩
  · have := putF_len f v fs
    have := h.len
    rw [List.length_append, List.length_singleton]
    omega
  · rw [lookup_putF, lk]
    split
    · rfl
    · exact h.hk g
  · rw [lookup_putF] at a
    rw [lk] at b
    split at a
    · rename_i hg
      rw [if_pos hg] at b
      cases a; cases b
      exact hv
    · rename_i hg
      rw [if_neg hg] at b
      exact h.hi g w e a b
abbrev AI := List Dt → (List (Str × Dt) → Prop) → Prop
def toSpI (K : PySem.W.Frag) (C : Addr) (ai : AI) : Sp := fun vs H Q _ => ∃ x dx ws B ds Post, vs = V.ref x :: ws ∧ H x = some (.ins C dx []) ∧ B x = none ∧ Same B H ∧ IsA K B ws ds ∧ ai ds Post ∧
  ∀ B' H' fs gs, Mv (fun a => a = x) B H B' H' → Same B' H' → H' x = some (.ins C dx fs) → B' x = none → FsIs K B' fs gs → Post gs → Q .non H'
structure Mg (K : PySem.W.Frag) (C x dx : Addr) (σ : L2.St) (B H : Hp) (Γ : List Sl) (gs : List (Str × Dt)) : Prop where
  env : Env K B H σ Γ
  sl : σ[0]? = some (some (.ref x))
  un : Γ[0]? = some .un
  no : ¬ Own σ Γ x
  hx : ∃ fs, H x = some (.ins C dx fs) ∧ FsIs K B fs gs
  bx : B x = none
structure GoI (K : PySem.W.Frag) (C x dx : Addr) (σ : L2.St) (B H : Hp) (Γ : List Sl) (σ' : L2.St) (B' H' : Hp) (Γ' : List Sl) (gs' : List (Str × Dt)) : Prop where
  mv : Mv (fun a => Own σ Γ a ∨ a = x) B H B' H'
  new : ∀ a, Own σ' Γ' a → Own σ Γ a ∨ H a = none
  mg : Mg K C x dx σ' B' H' Γ' gs'
theorem GoI.trans {K : PySem.W.Frag} {C x dx : Addr} {σ σ1 σ2 : L2.St} {B H B1 H1 B2 H2 : Hp} {Γ Γ1 Γ2 : List Sl} {gs1 gs2 : List (Str × Dt)} (a : GoI K C x dx σ B H Γ σ1 B1 H1 Γ1 gs1) (b : GoI K C x dx σ1 B1 H1 Γ1 σ2 B2 H2 Γ2 gs2) : GoI K C x dx σ B H Γ σ2 B2 H2 Γ2 gs2 :=
  ⟨a.mv.trans (fun c hc => hc.elim (fun h => (a.new c h).imp .inl id) fun h => .inl (.inr h)) b.mv, fun c h => (b.new c h).elim (fun z => a.new c z) fun z => (a.mv.back z).elim (fun q => q.elim .inl fun e => by
    subst e
    obtain ⟨fs, hf, _⟩ := a.mg.hx
    rw [hf] at z; cases z) .inr, b.mg⟩
def WI (K : PySem.W.Frag) (C : Addr) (t : TS) (Γ : List Sl) (gs : List (Str × Dt)) (P : List (Str × Dt) → List Sl → Prop) : Prop := ∀ σ B H (D : Ends) x dx, Mg K C x dx σ B H Γ gs →
  (∀ σ' B' H' Γ' gs', GoI K C x dx σ B H Γ σ' B' H' Γ' gs' → P gs' Γ' → D.nx σ' H') → t D σ H
section
variable {K : PySem.W.Frag} {C : Addr} {Γ : List Sl} {gs : List (Str × Dt)} {P : List (Str × Dt) → List Sl → Prop} {t u : TS} {te : TE}
theorem wi_seq (h : WI K C t Γ gs fun gs1 Γ1 => WI K C u Γ1 gs1 P) : WI K C (tSeq t u) Γ gs P := fun σ B H D x dx M n =>
  h σ B H { D with nx := u D } x dx M fun σ1 B1 H1 Γ1 gs1 g p => p σ1 B1 H1 D x dx g.mg fun σ2 B2 H2 Γ2 gs2 g2 p2 => n σ2 B2 H2 Γ2 gs2 (g.trans g2) p2
theorem wi_set {f : Str} (cl : Cls K C) (na : NoAttr K C f) (hl : gs.lookup f = none) (hz : gs.length < 900) (h : WE K te Γ fun r Γ1 => ∃ d, r.dt? = some d ∧ Γ1[0]? = some .un ∧ P (gs ++ [(f, d)]) Γ1) : WI K C (sFld K (tVar 0) te f) Γ gs P := fun σ B H D x dx M n => by
  have h' : WE K te Γ fun r Γ1 => ∃ d, r = .val d ∧ Γ1[0]? = some .un ∧ P (gs ++ [(f, d)]) Γ1 := we_freeze (we_mono h fun r Γ1 ⟨d, hd, r2⟩ => ⟨d, hd, d, rfl, r2⟩)
  refine h' σ B H M.env _ fun y B1 H1 r Γ1 g k p => ?_
  obtain ⟨d, rfl, h0, p⟩ := p
  obtain ⟨fs, hx, hf⟩ := M.hx
  have hx1 : H1 x = some (.ins C dx fs) := g.mv.kp x _ M.no hx
  have bx1 : B1 x = none := g.mv.off x M.no (by rw [hx]; exact fun z => nomatch z) M.bx
  have no1 : ¬ Own σ Γ1 x := fun z => M.no (g.sub x z)
  refine ⟨.ref x, M.sl, x, C, dx, fs, rfl, hx1, cl, na, Nat.lt_of_le_of_lt hf.len (by omega), ?_⟩
  have hd : Is K B1 y d := k
  have E2 : Env K B1 (upd H1 x (.ins C dx (putF f y fs))) σ Γ1 := by
    refine ⟨g.env.len, fun a o e => ?_, g.env.val, fun i es hi => ?_, g.env.sep⟩
    · have : a ≠ x := fun z => by subst z; rw [bx1] at e; cases e
      rw [upd_ne this]; exact g.env.bh a o e
    · obtain ⟨l, vs, e1, e2, e3, e4⟩ := g.env.cel i es hi
      have : l ≠ x := fun z => by subst z; rw [hx1] at e2; cases e2; cases es <;> (obtain ⟨_, z, _⟩ := e4; cases z)
      exact ⟨l, vs, e1, by rw [upd_ne this]; exact e2, e3, e4⟩
  refine n σ B1 _ Γ1 (gs ++ [(f, d)]) ⟨⟨fun a o na' e => ?_, g.mv.bb, fun a na' ha hb => ?_⟩, fun a h => .inl (g.sub a h), ⟨E2, M.sl, h0, no1, ⟨_, upd_same, (hf.mono g.mv.bb).put hl hd⟩, bx1⟩⟩ p
  · have h1 : ¬ Own σ Γ a := fun z => na' (.inl z)
    have h2 : a ≠ x := fun z => na' (.inr z)
    rw [upd_ne h2]; exact g.mv.kp a o h1 e
  · exact g.mv.off a (fun z => na' (.inl z)) ha hb
variable {Pg : Program} {w : World} {mg : Str → Option Value} {base : Heap}
theorem env_vals {B H : Hp} {vs : List V} {ds : List Dt} (hb : Same B H) (h : IsA K B vs ds) : Env K B H (vs.map some) (ds.map Sl.val) := by
  have na : ∀ {i : Nat} {es : Cn}, (ds.map Sl.val)[i]? = some (.cel es) → False := fun {i es} e => by
    rw [List.getElem?_map] at e
    cases q : ds[i]? with
    | none => rw [q] at e; cases e
    | some d => rw [q] at e; cases e
  refine ⟨by rw [List.length_map, List.length_map, h.len], hb, fun i d e => ?_, fun i es e => (na e).elim, fun i j es fs l e => (na e).elim⟩
  rw [List.getElem?_map] at e
  cases q : ds[i]? with
  | none => rw [q] at e; cases e
  | some d' =>
    rw [q] at e; cases e
    obtain ⟨v, hv, k⟩ := h.get q
    exact ⟨v, by rw [List.getElem?_map, hv]; rfl, k⟩
theorem fn_init {x qual : Str} {st : Stmt} {f : Addr} {fd : FuncData} {N ps : List Str} {k : Nat} {ai : AI} (F : Fun K x qual st f fd) (S : FnScope N ps (defScope st))
    (hlen : ∀ ds Post, ai ds Post → ds.length + 1 = ps.length) (hN : decide (ps.length ≤ N.length) = true)
    (body : ∀ (cdv : Value) (A : Around) (outer : List PySem.Env) (s : Shared) (H : Hp) (E : XK), Room k (A.deeper (PyProof.Rows.envOfC qual (defScope st) s.heap.objs.size f cdv)) →
      ∃ t, PSs (cxOf CX0 Pg w K mg base N qual (defScope st) f cdv A outer s H E).nox (defBody st) t ∧
        ∀ ds Post, ai ds Post → WI K C t ((.un :: ds.map Sl.val) ++ List.replicate (N.length - (ds.length + 1)) .un) [] (fun gs _ => Post gs)) :
    FnOk Pg w K mg base CX0 (k + 1) f fd ps (toSpI K C ai) := by
  refine F.ok S (fun vs H Q E h => ?_) (fun cdv A outer s H vs Q E hr h => ?_)
  · obtain ⟨x, dx, ws, B, ds, Post, rfl, _, _, _, ha, hai, _⟩ := h
    rw [List.length_cons, ha.len]; exact hlen ds Post hai
  · obtain ⟨x, dx, ws, B, ds, Post, rfl, hx, bx, hbh, ha, hai, q⟩ := h
    obtain ⟨t, ht, hw⟩ := body cdv A outer s H E hr
    refine ⟨t, ht, ?_⟩
    have E1 : Env K B H ((V.ref x :: ws).map some) (.un :: ds.map Sl.val) := by
      have e := env_vals hbh ha
      refine ⟨by simp [ha.len], hbh, fun i d h => ?_, fun i es h => ?_, fun i j es fs l h1 h2 h3 h4 => ?_⟩
      · cases i with
        | zero => cases h
        | succ i => exact e.val i d (by simpa using h)
      · cases i with
        | zero => cases h
        | succ i => exact e.cel i es (by simpa using h)
      · cases i with
        | zero => cases h1
        | succ i =>
          cases j with
          | zero => cases h2
          | succ j => exact congrArg Nat.succ (e.sep i j es fs l (by simpa using h1) (by simpa using h2) (by simpa using h3) (by simpa using h4))
    have hps : (Sl.un :: ds.map Sl.val).length ≤ N.length := by
      rw [List.length_cons, List.length_map, hlen ds Post hai]; exact of_decide_eq_true hN
    have E0 := env_start E1 hps
    have no : ∀ a, ¬ Own (L2.start N (V.ref x :: ws)) ((Sl.un :: ds.map Sl.val) ++ List.replicate (N.length - (Sl.un :: ds.map Sl.val).length) .un) a := fun a z => by
      have := (own_start (N := N) (vs := V.ref x :: ws) (as := Sl.un :: ds.map Sl.val) (by simp [ha.len])).mp z
      obtain ⟨i, es, h1, h2⟩ := this
      cases i with
      | zero => cases h1
      | succ i =>
        have h1 : (ds.map Sl.val)[i]? = some (.cel es) := by simpa using h1
        rw [List.getElem?_map] at h1
        cases q : ds[i]? with
        | none => rw [q] at h1; cases h1
        | some d => rw [q] at h1; cases h1
    have hlN : (Sl.un :: ds.map Sl.val).length = ds.length + 1 := by rw [List.length_cons, List.length_map]
    rw [hlN] at E0 no
    refine hw ds Post hai (L2.start N (V.ref x :: ws)) B H _ x dx ⟨E0, rfl, rfl, no x, ⟨[], hx, ⟨Nat.le_refl _, fun _ => rfl, fun _ _ _ z => by cases z⟩⟩, bx⟩ fun σ' B' H' Γ' gs' g p => ?_
    obtain ⟨fs, e1, e2⟩ := g.mg.hx
    exact q B' H' fs gs' ⟨fun a o na e => g.mv.kp a o (fun z => z.elim (no a) na) e, g.mv.bb, fun a na ha hb => g.mv.off a (fun z => z.elim (no a) na) ha hb⟩ g.mg.env.bh e1 g.mg.bx e2 p
theorem we_make {Post : Re → List Sl → Prop} {ai : AI} {E0 : XK} {t : TA} (h : WD K t Γ fun ds Γ1 => Hold (ai ds fun gs => Post (.val (.obj C gs)) Γ1)) : WE K (tMake C (toSpI K C ai) [] E0 t) Γ Post := fun σ B H E Q q => by
  refine h σ B H E _ fun vs B1 H1 ds Γ1 g1 k1 p1 => ?_
  intro x dx hx hdx hne
  rw [List.append_nil]
  have hxx : upd (upd H1 dx (.own x)) x (.ins C dx []) x = some (.ins C dx []) := upd_same
  have b1x : B1 x = none := g1.env.base_none hx
  have s12 : ∀ a o, H1 a = some o → upd (upd H1 dx (.own x)) x (.ins C dx []) a = some o := fun a o e => by
    rw [upd_ne (ne_of_none e hx), upd_ne (ne_of_none e hdx)]; exact e
  refine ⟨x, dx, vs, B1, ds, _, rfl, hxx, b1x, fun a o e => s12 a o (g1.env.bh a o e), k1, p1.get, fun B' H' fs gs mv sb hx' bx' hf p => ⟨rfl, ?_⟩⟩
  have sBB : Same B' (upd B' x (.ins C dx fs)) := fun a o e => by rw [upd_ne (ne_of_none e bx')]; exact e
  have kept : ∀ a o, H1 a = some o → H' a = some o := fun a o e => mv.kp a o (fun z => by subst z; rw [hx] at e; cases e) (s12 a o e)
  have offB : ∀ a, H1 a ≠ none → B1 a = none → B' a = none := fun a ha hb => by
    have hne : a ≠ x := fun z => by subst z; exact ha hx
    refine mv.off a hne ?_ hb
    cases qq : H1 a with
    | none => exact absurd qq ha
    | some o => rw [s12 a o qq]; exact fun z => nomatch z
  have E2 : Env K (upd B' x (.ins C dx fs)) H' σ Γ1 := by
    refine ⟨g1.env.len, fun a o e => ?_, fun i d hi => ?_, fun i es hi => ?_, g1.env.sep⟩
    · by_cases ha : a = x
      · subst ha; rw [upd_same] at e; cases e; exact hx'
      · rw [upd_ne ha] at e; exact sb a o e
    · obtain ⟨v, e1, e2⟩ := g1.env.val i d hi
      exact ⟨v, e1, e2.mono (mv.bb.trans sBB)⟩
    · obtain ⟨l, us, e1, e2, e3, e4⟩ := g1.env.cel i es hi
      have hl : l ≠ x := fun z => by subst z; rw [hx] at e2; cases e2
      exact ⟨l, us, e1, kept l _ e2, by rw [upd_ne hl]; exact offB l (by rw [e2]; exact fun z => nomatch z) e3, e4.mono (mv.bb.trans sBB)⟩
  have g2 : Go K σ B1 H1 Γ1 (upd B' x (.ins C dx fs)) H' Γ1 := by
    refine ⟨⟨fun a o _ e => kept a o e, mv.bb.trans sBB, fun a na ha hb => ?_⟩, fun i es hi => ⟨es, hi⟩, E2⟩
    have hne : a ≠ x := fun z => by subst z; exact ha hx
    rw [upd_ne hne]; exact offB a ha hb
  have hf' := hf.mono sBB
  exact q (.ref x) _ H' (.val (.obj C gs)) Γ1 (g1.trans g2) (Is.obj upd_same hf'.hk hf'.hi) p
end
theorem lk_hit {f : Str} {d : Dt} {r : List (Str × Dt)} : List.lookup f ((f, d) :: r) = some d := by
  have hb : (f == f) = true := beq_iff_eq.mpr rfl
  simp only [List.lookup, hb]
theorem lk_miss {f g : Str} {d : Dt} {r : List (Str × Dt)} (h : ¬ f = g) : List.lookup f ((g, d) :: r) = List.lookup f r := by
  have hb : (f == g) = false := beq_eq_false_iff_ne.mpr h
  simp only [List.lookup, hb]
section
variable {K : PySem.W.Frag} {Γ : List Sl} {Post : Re → List Sl → Prop} {ta : TE}
def FldP (K : PySem.W.Frag) (f : Str) (r : Re) (Γ : List Sl) (Post : Re → List Sl → Prop) : Prop := ∃ C gs d, r = .val (.obj C gs) ∧ Cls K C ∧ NoAttr K C f ∧ gs.lookup f = some d ∧ Post (.val d) Γ
theorem we_fldG {f : Str} (h : WE K ta Γ fun r Γ1 => FldP K f r Γ1 Post) : WE K (tFld K ta f) Γ Post := fun σ B H E Q q => by
  refine h σ B H E _ fun x B1 H1 r Γ1 g1 k1 p1 => ?_
  obtain ⟨C, gs, d, rfl, cl, na, hl, p⟩ := p1
  obtain ⟨a, dx, fs, rfl, hb, hk, hi⟩ := Is.objR k1
  obtain ⟨w, hw⟩ := lk_some (hk f) hl
  exact ⟨a, C, dx, fs, w, rfl, g1.env.bh _ _ hb, cl, na, hw, q w B1 H1 (.val d) Γ1 g1 (hi f w d hw hl) p⟩
theorem fldp {f : Str} {C : Addr} {gs : List (Str × Dt)} {d : Dt} (cl : Cls K C) (na : NoAttr K C f) (hl : gs.lookup f = some d) (p : Post (.val d) Γ) : FldP K f (.val (.obj C gs)) Γ Post := ⟨C, gs, d, rfl, cl, na, hl, p⟩
def MetP (m : Str) (C : Addr) (ap : AP) (t : TA) (K : PySem.W.Frag) (r : Re) (Γ : List Sl) (Post : Re → List Sl → Prop) : Prop := ∃ gs, r = .val (.obj C gs) ∧ gs.lookup m = none ∧ WD K t Γ fun ds Γ2 => Hold (ap (.val (.obj C gs) :: ds.map Sl.val) fun r as' => Post r Γ2)
theorem we_methG {m : Str} {C : Addr} {ap : AP} {E0 : XK} {t : TA} (h : WE K ta Γ fun r Γ1 => MetP m C ap t K r Γ1 Post) : WE K (tMeth C m (toSp K ap) [] E0 ta t) Γ Post := we_meth h
theorem metp {m : Str} {C : Addr} {ap : AP} {t : TA} {gs : List (Str × Dt)} (hl : gs.lookup m = none) (h : WD K t Γ fun ds Γ2 => Hold (ap (.val (.obj C gs) :: ds.map Sl.val) fun r as' => Post r Γ2)) : MetP m C ap t K (.val (.obj C gs)) Γ Post := ⟨gs, rfl, hl, h⟩
theorem kit_self {C : Addr} : PySem.W.kitOne K (.ref C) (.ref C) = some true := by
  unfold PySem.W.kitOne
  rw [if_pos (beq_iff_eq.mpr rfl)]
def IsoP (K : PySem.W.Frag) (D : Addr) (r : Re) (Γ : List Sl) (Post : Re → List Sl → Prop) : Prop := ∃ C gs b, r = .val (.obj C gs) ∧ ClsOk K C ∧ PySem.W.kitOne K (.ref C) (.ref D) = some b ∧ Post (.val (.bl b)) Γ
theorem we_isoG {D : Addr} (h : WE K ta Γ fun r Γ1 => IsoP K D r Γ1 Post) : WE K (tCB (rIsi K) (tCons ta (tCons (tC (.ref D)) tNil))) Γ Post :=
  we_one' (r := fun x H Q => rIsi K [x, .ref D] H Q) (we_mono h fun r Γ1 ⟨C, gs, b, e, co, hk, p⟩ => fun σ B H x E kx Q q => by
    subst e
    obtain ⟨a, dx, fs, rfl, hb, _, _⟩ := Is.objR kx
    exact ⟨.ref a, .ref D, .ref C, .ref D, b, rfl, .own D, .base (.ins (E.bh _ _ hb) co.cl co.ha co.hn co.ht co.hm), hk, q _ B H _ Γ1 (.refl E) (.raw _) p⟩)
theorem isop {C : Addr} {gs : List (Str × Dt)} (co : ClsOk K C) (p : Post (.val (.bl true)) Γ) : IsoP K C (.val (.obj C gs)) Γ Post := ⟨C, gs, true, rfl, co, kit_self, p⟩
end
end Ab

namespace Ab
open PySem L2
abbrev RunOk (K : PySem.W.Frag) (pin : List Nat) (t : TS) (N : Nat) (ap : AP) : Prop := ∀ (as : List Sl) (Post : Re → List Sl → Prop), ap as Post → WS K pin t (as ++ List.replicate (N - as.length) .un) ⟨fun G => Post (.val .non) (exitArgs pin G as), fun r G => Post r (exitArgs pin G as), fun _ => False, fun _ => False, .no⟩
theorem cut_mid {α : Type} {f : α → Dt} {xs : List α} {a b : Nat} (h : a ≤ b) (h2 : b ≤ xs.length) : cutD (xs.map f) (some (a : Int)) (some (b : Int)) = ((xs.drop a).take (b - a)).map f := by
  unfold cutD
  rw [HT.sIx_nat, HT.sIx_nat, List.length_map, Nat.min_eq_left h2, Nat.min_eq_left (show a ≤ xs.length by omega), ← List.map_drop, ← List.map_take]
def rSumG (K : PySem.W.Frag) : List V → Hp → VK → Prop := fun vs H Q => ∃ (a : Addr) (ns : List Int), vs = [V.ref a] ∧ (SqL K H a (ns.map V.int) ∨ SqT K H a (ns.map V.int)) ∧ Q (.int ns.sum) H
theorem cr_sumG {X : Cx} (hc : X.calm = true) : CallR X (.builtin "sum") (rSumG X.K) := by
  intro pins s σ H vs us Q I r h
  obtain ⟨a, ns, rfl, hs, q⟩ := h
  rcases hs with hs | hs
  · exact cr_sum hc pins s σ H _ us Q I r ⟨a, ns, rfl, hs, q⟩
  · obtain ⟨its, rv, hl, _⟩ := I.tuple hs
    rw [Vals.ref1 r]
    obtain ⟨xs, hx⟩ := rv.ints.allInts.items
    have hn : numsOf its.toArray.toList = ns := by rw [show its.toArray.toList = its from rfl, rv.ints.numsOf]
    rw [hx] at hl hn
    rw [nums_intItems] at hn
    refine PySem.W.ktm_sumG (I.ok.hd hc) hl fun h' tk t' hk => ?_
    refine ⟨.int _, H, I.kept hk, ⟨_, rfl⟩, ?_⟩
    rw [preSum_eq, List.take_of_length_le (by simp), hn]
    exact q
theorem we_sumG {K : PySem.W.Frag} {Γ : List Sl} {Post : Re → List Sl → Prop} {te : TE} (h : WE K te Γ fun r Γ1 => Hold (∃ ns : List Int, seqOf Γ1 r = some (ns.map Dt.int) ∧ Post (.val (.int ns.sum)) Γ1)) : WE K (tCB (rSumG K) (tCons te tNil)) Γ Post :=
  we_cb1 (we_mono h fun r Γ1 hp => fun σ B H x E kx Q q => by
    obtain ⟨ns, hs, p⟩ := hp.get
    obtain ⟨a, vs, rfl, hq, ha⟩ := rv_seq E kx hs
    have e : vs = ns.map V.int := IsA.rawsI (xs := ns.map V.int) (by rw [List.map_map]; exact ha)
    subst e
    exact ⟨a, ns, rfl, hq, q _ B H _ Γ1 (.refl E) (.raw _) p⟩)
theorem normD_cons {a : Dt} {l t t' : List Dt} (e : l = a :: t) (et : t = t') : l = a :: t' := by
  subst et
  exact e
theorem slp_tE {Γ : List Sl} {Post : Re → List Sl → Prop} {ds es : List Dt} {lo hi : Option Int} (h : cutD ds lo hi = es) (p : Post (.val (.tup es)) Γ) : SlP (.val (.tup ds)) lo hi Γ Post := slp_t (by rw [h]; exact p)
theorem addp_tE {Γ : List Sl} {Post : Re → List Sl → Prop} {ds es fs : List Dt} (hz : ds.length + es.length ≤ 1000000) (h : ds ++ es = fs) (p : Post (.val (.tup fs)) Γ) : AddP (.val (.tup ds)) (.val (.tup es)) Γ Post := addp_t hz (by rw [h]; exact p)
theorem inV_ints {i : Int} : ∀ ns : List Int, inV (.int i) (ns.map V.int) = decide (i ∈ ns)
  | [] => rfl
  | n :: r => by
    have ih := inV_ints (i := i) r
    unfold inV at ih ⊢
    rw [List.map_cons, List.any_cons, ih]
    by_cases h : n = i
    · subst h; simp [eqV]
    · have h' : ¬ i = n := fun z => h z.symm
      simp [eqV, h, h']
theorem flat_ints : ∀ ns : List Int, (ns.map V.int).all flatV = true
  | [] => rfl
  | n :: r => by rw [List.map_cons, List.all_cons, flat_ints r]; rfl
theorem inI {Γ : List Sl} {Post : Re → List Sl → Prop} {i : Int} {rb : Re} {ns : List Int} {Z : Prop} (h : seqOf Γ rb = some (ns.map Dt.int)) (p : Post (.val (.bl (decide (i ∈ ns)))) Γ) : InP false (.val (.int i)) rb Γ Post ∨ Z :=
  .inl ⟨.int i, ns.map V.int, rfl, by rw [h, List.map_map]; rfl, rfl, flat_ints ns, by rw [if_neg Bool.false_ne_true, inV_ints]; exact p⟩
theorem we_clearN {K : PySem.W.Frag} {Γ : List Sl} {i : Nat} {ds : List Dt} {Post : Re → List Sl → Prop} (h0 : Γ[i]? = some (.acc ds)) (p : NormP (Γ.set i (.acc [])) (Post (.val .non))) : WE K (tBM0 K "list" rClear (tVar i)) Γ Post := fun σ B H E Q q => by
  obtain ⟨l, vs, e0, e1, e2, k0⟩ := E.acc i ds h0
  exact ⟨.ref l, e0, .inl ⟨rfl, vs, .inl (.inl e1)⟩, l, vs, rfl, rfl, e1, q .non B _ (.val .non) _ (Go.put E h0 e0 .nil) (Is.raw _) p⟩
def PoolUp (b : Int) (ds : List Dt) : Prop := ∃ c, PoolIs c ds ∧ 0 ≤ c ∧ c ≤ b
theorem PoolIs.up {ds : List Dt} {c b : Int} (h : PoolIs c ds) (h0 : 0 ≤ c) (hb : c ≤ b) : PoolUp b ds := ⟨c, h, h0, hb⟩
theorem PoolUp.mono {ds : List Dt} {a b : Int} (h : PoolUp a ds) (hb : a ≤ b) : PoolUp b ds := by obtain ⟨c, h1, h2, h3⟩ := h; exact ⟨c, h1, h2, by omega⟩
theorem tk {ds : List Dt} {b n : Int} {Post : Re → List Sl → Prop} (h : PoolUp b ds) (hb : b < 900000000) (hn : 0 < n) (hn2 : n < 18446744073709551616) (k : ∀ ds' g, PoolUp (b + 1) ds' → 0 ≤ g → g < n → Post (.val (.int g)) [.acc ds', .val (.int n)]) : ap_take [.acc ds, .val (.int n)] Post := by
  obtain ⟨c, h1, h2, h3⟩ := h
  exact ⟨ds, c, n, rfl, h1, h2, by omega, hn, hn2, fun ds' g h' g0 g1 => k ds' g ⟨c + 1, h', by omega, by omega⟩ g0 g1⟩
theorem str_ne {a b : Str} (h : ¬ a = b) : ¬ (V.str a = V.str b) := fun e => h (by cases e; rfl)
theorem eqp_st {Γ : List Sl} {Post : Re → List Sl → Prop} {a : Str} (p : Post (.val (.bl true)) Γ) : EqP false (.val (.str a)) (.val (.str a)) Γ Post := eqp_s rfl (by rw [decide_eq_true rfl]; exact p)
theorem nep_st {Γ : List Sl} {Post : Re → List Sl → Prop} {a : Str} (p : Post (.val (.bl false)) Γ) : EqP true (.val (.str a)) (.val (.str a)) Γ Post := eqp_s rfl (by rw [decide_eq_true rfl]; exact p)
theorem eqp_sf {Γ : List Sl} {Post : Re → List Sl → Prop} {a b : Str} (h : ¬ a = b) (p : Post (.val (.bl false)) Γ) : EqP false (.val (.str a)) (.val (.str b)) Γ Post := eqp_s rfl (by rw [decide_eq_false (str_ne h)]; exact p)
theorem nep_sf {Γ : List Sl} {Post : Re → List Sl → Prop} {a b : Str} (h : ¬ a = b) (p : Post (.val (.bl true)) Γ) : EqP true (.val (.str a)) (.val (.str b)) Γ Post := eqp_s rfl (by rw [decide_eq_false (str_ne h)]; exact p)
theorem dec_s {a b : Str} : decide (V.str a = V.str b) = decide (a = b) := by
  by_cases h : a = b
  · subst h; simp
  · rw [decide_eq_false (str_ne h), decide_eq_false h]
theorem eqp_str {Γ : List Sl} {Post : Re → List Sl → Prop} {a b : Str} (p : Post (.val (.bl (decide (a = b)))) Γ) : EqP false (.val (.str a)) (.val (.str b)) Γ Post := eqp_s rfl (by rw [dec_s, Bool.false_xor]; exact p)
theorem nep_str {Γ : List Sl} {Post : Re → List Sl → Prop} {a b : Str} (p : Post (.val (.bl (!decide (a = b)))) Γ) : EqP true (.val (.str a)) (.val (.str b)) Γ Post := eqp_s rfl (by rw [dec_s, Bool.true_xor]; exact p)
def pick {α : Type} (o : List Nat) (xs : List α) : List α := o.filterMap fun i => xs[i]?
theorem pick_cons {α : Type} {i : Nat} {o : List Nat} {xs : List α} {x : α} (h : xs[i]? = some x) : pick (i :: o) xs = x :: pick o xs := by
  unfold pick
  rw [List.filterMap_cons_some h]
theorem pick_skip {α : Type} {i : Nat} {o : List Nat} {xs : List α} (h : xs[i]? = none) : pick (i :: o) xs = pick o xs := by
  unfold pick
  rw [List.filterMap_cons_none h]
theorem pick_vals {xs : List V} {us : List Value} (r : Vals xs us) : ∀ o : List Nat, Vals (pick o xs) (pick o us)
  | [] => .nil
  | i :: o => by
    cases q : xs[i]? with
    | none => rw [pick_skip q, pick_skip (r.none_of q)]; exact pick_vals r o
    | some x =>
      obtain ⟨u, hu, ru⟩ := r.get q
      rw [pick_cons q, pick_cons hu]
      exact .cons ru (pick_vals r o)
theorem pick_isA {K : PySem.W.Frag} {B : Hp} {vs : List V} {ds : List Dt} (h : IsA K B vs ds) : ∀ o : List Nat, IsA K B (pick o vs) (pick o ds)
  | [] => .nil
  | i :: o => by
    cases q : ds[i]? with
    | none =>
      have : vs[i]? = none := by
        rw [List.getElem?_eq_none_iff] at q ⊢
        rw [h.len]; exact q
      rw [pick_skip q, pick_skip this]; exact pick_isA h o
    | some d =>
      obtain ⟨v, hv, iv⟩ := h.get q
      rw [pick_cons q, pick_cons hv]
      exact .cons iv (pick_isA h o)
def upO (o : List Nat) : List Nat := o.map (· + 1)
theorem pick_up {α : Type} (x : α) (xs : List α) : ∀ o : List Nat, pick (upO o) (x :: xs) = pick o xs
  | [] => rfl
  | i :: o => by
    show pick ((i + 1) :: upO o) (x :: xs) = _
    have e : (x :: xs)[i + 1]? = xs[i]? := List.getElem?_cons_succ
    cases q : xs[i]? with
    | none => rw [pick_skip (e.trans q), pick_skip q]; exact pick_up x xs o
    | some y => rw [pick_cons (e.trans q), pick_cons q, pick_up x xs o]
section
variable {K : PySem.W.Frag} {Γ : List Sl} {Post : Re → List Sl → Prop} {C : Addr}
theorem make_core {σ : L2.St} {B H B1 H1 : Hp} {Γ1 : List Sl} {vs : List V} {ds : List Dt} {ai : AI} {E0 : XK} {Q : VK} (g1 : Go K σ B H Γ B1 H1 Γ1) (k1 : IsA K B1 vs ds) (p1 : ai ds fun gs => Post (.val (.obj C gs)) Γ1)
    (q : ∀ v B' H' r Γ', Go K σ B H Γ B' H' Γ' → ReOk K σ (Own σ Γ) (Own σ Γ') B' H H' v r → Post r Γ' → Q v H') : ∀ x dx, H1 x = none → H1 dx = none → dx ≠ x → toSpI K C ai (.ref x :: vs) (upd (upd H1 dx (.own x)) x (.ins C dx [])) (fun v H3 => v = .non ∧ Q (.ref x) H3) E0 := by
  have t : WE K (tMake C (toSpI K C ai) [] E0 (fun _ H2 R => ∀ B2, Same B2 H2 → R vs H2)) Γ1 Post → True := fun _ => trivial
  intro x dx hx hdx hne
  have hxx : upd (upd H1 dx (.own x)) x (.ins C dx []) x = some (.ins C dx []) := upd_same
  have b1x : B1 x = none := g1.env.base_none hx
  have s12 : ∀ a o, H1 a = some o → upd (upd H1 dx (.own x)) x (.ins C dx []) a = some o := fun a o e => by
    rw [upd_ne (ne_of_none e hx), upd_ne (ne_of_none e hdx)]; exact e
  refine ⟨x, dx, vs, B1, ds, _, rfl, hxx, b1x, fun a o e => s12 a o (g1.env.bh a o e), k1, p1, fun B' H' fs gs mv sb hx' bx' hf p => ⟨rfl, ?_⟩⟩
  have sBB : Same B' (upd B' x (.ins C dx fs)) := fun a o e => by rw [upd_ne (ne_of_none e bx')]; exact e
  have kept : ∀ a o, H1 a = some o → H' a = some o := fun a o e => mv.kp a o (fun z => by subst z; rw [hx] at e; cases e) (s12 a o e)
  have offB : ∀ a, H1 a ≠ none → B1 a = none → B' a = none := fun a ha hb => by
    have hne : a ≠ x := fun z => by subst z; exact ha hx
    refine mv.off a hne ?_ hb
    cases qq : H1 a with
    | none => exact absurd qq ha
    | some o => rw [s12 a o qq]; exact fun z => nomatch z
  have E2 : Env K (upd B' x (.ins C dx fs)) H' σ Γ1 := by
    refine ⟨g1.env.len, fun a o e => ?_, fun i d hi => ?_, fun i es hi => ?_, g1.env.sep⟩
    · by_cases ha : a = x
      · subst ha; rw [upd_same] at e; cases e; exact hx'
      · rw [upd_ne ha] at e; exact sb a o e
    · obtain ⟨v, e1, e2⟩ := g1.env.val i d hi
      exact ⟨v, e1, e2.mono (mv.bb.trans sBB)⟩
    · obtain ⟨l, us, e1, e2, e3, e4⟩ := g1.env.cel i es hi
      have hl : l ≠ x := fun z => by subst z; rw [hx] at e2; cases e2
      exact ⟨l, us, e1, kept l _ e2, by rw [upd_ne hl]; exact offB l (by rw [e2]; exact fun z => nomatch z) e3, e4.mono (mv.bb.trans sBB)⟩
  have g2 : Go K σ B1 H1 Γ1 (upd B' x (.ins C dx fs)) H' Γ1 := by
    refine ⟨⟨fun a o _ e => kept a o e, mv.bb.trans sBB, fun a na ha hb => ?_⟩, fun i es hi => ⟨es, hi⟩, E2⟩
    have hne : a ≠ x := fun z => by subst z; exact ha hx
    rw [upd_ne hne]; exact offB a ha hb
  have hf' := hf.mono sBB
  exact q (.ref x) _ H' (.val (.obj C gs)) Γ1 (g1.trans g2) (Is.obj upd_same hf'.hk hf'.hi) p
theorem we_makeD {dvs : List V} {ai : AI} {E0 : XK} {t : TA} (h : WD K t Γ fun ds Γ1 => Hold (ai (ds ++ dvs.map Dt.raw) fun gs => Post (.val (.obj C gs)) Γ1)) : WE K (tMake C (toSpI K C ai) dvs E0 t) Γ Post := fun σ B H E Q q => by
  refine h σ B H E _ fun vs B1 H1 ds Γ1 g1 k1 p1 => ?_
  exact make_core g1 (k1.append .raws) p1.get q
theorem we_makeK {n m : Nat} {o : List Nat} {mz : List V} {ai : AI} {E0 : XK} {t tk : TA} (h : WD K t Γ fun ds Γ1 => WD K tk Γ1 fun es Γ2 => (ds.length == n && es.length == m) = true ∧ Hold (ai (pick o (ds ++ mz.map Dt.raw ++ es)) fun gs => Post (.val (.obj C gs)) Γ2)) :
    WE K (tMakeK C n m (toSpI K C ai) (fun vs zs => pick (0 :: upO o) (vs ++ mz ++ zs)) E0 t tk) Γ Post := fun σ B H E Q q => by
  refine h σ B H E _ fun vs B1 H1 ds Γ1 g1 k1 p1 => ?_
  refine p1 σ B1 H1 g1.env _ fun zs B2 H2 es Γ2 g2 k2 p2 => ?_
  obtain ⟨l0, p⟩ := p2
  rw [Bool.and_eq_true] at l0
  have l1 := beq_iff_eq.mp l0.1
  have l2 := beq_iff_eq.mp l0.2
  refine ⟨by rw [k1.len]; exact l1, by rw [k2.len]; exact l2, fun x dx hx hdx hne => ?_⟩
  have e : pick (0 :: upO o) ((V.ref x :: vs) ++ mz ++ zs) = .ref x :: pick o (vs ++ mz ++ zs) := by
    rw [pick_cons (x := V.ref x) rfl]
    show V.ref x :: pick (upO o) (V.ref x :: (vs ++ mz ++ zs)) = _
    rw [pick_up]
  show toSpI K C ai (pick (0 :: upO o) ((V.ref x :: vs) ++ mz ++ zs)) _ _ _
  rw [e]
  exact make_core (g1.trans g2) (pick_isA (((k1.mono g2.mv.bb).append .raws).append k2) o) p.get q x dx hx hdx hne
theorem kw_nil {D : Addr} : ∀ q ∈ ([] : List (Str × V)), ∃ u, PySem.W.nsIn K D q.1 = some (some u) ∧ RelV q.2 u := fun _ h => nomatch h
theorem kw_cons {D : Addr} {a : Str × V} {l : List (Str × V)} (h : ∃ u, PySem.W.nsIn K D a.1 = some (some u) ∧ RelV a.2 u) (r : ∀ q ∈ l, ∃ u, PySem.W.nsIn K D q.1 = some (some u) ∧ RelV q.2 u) : ∀ q ∈ a :: l, ∃ u, PySem.W.nsIn K D q.1 = some (some u) ∧ RelV q.2 u := fun q hq => (List.mem_cons.mp hq).elim (fun e => e ▸ h) (r q)
theorem sub_nil {α : Type} {l : List α} : ∀ q ∈ ([] : List α), q ∈ l := fun _ h => nomatch h
theorem pe_makeKm {X : Cx} {CX : CXT} {k n m : Nat} {f C : Addr} {fd : FuncData} {ps ks : List Str} {sp : Sp} {E : XK} {x : Str} {p pos : Pos} {e : Expr} {es : List Expr} {kws : List Keyword} {t tk : TA} {g : List Value → List Value → List Value} {gV : List V → List V → List V} (M : Mk X.K C f) (F : FnOk X.prog X.w X.K X.mg X.base CX k f fd ps sp) (hr : Room (k + 1) X.A) (hg : Gl X x) (hm : X.mg x = some (.ref C)) (hb : KBn X.K fd ps (n + 1) ks g gV) (hx : Passes CX X E) (ha : PA X (e :: es) t) (hkw : PK X kws tk) (hml : ks.length = m)
    (hall : (backToKw pos (keywordEach kws X.env)).all (·.1.isSome) = true := by rfl) (hks : (backToKw pos (keywordEach kws X.env)).filterMap (·.1) = ks := by rfl) (hdb : (x == ("__debug__" : Str)) = false := by decide)
    (he : starEach (e :: es) X.env = (false, eval e X.env) :: starEach es X.env := by rfl) (hpl : ((backTo pos (starEach (e :: es) X.env)).any (·.1) || (backToKw pos (keywordEach kws X.env)).any (·.1.isNone)) = false := by rfl) :
    PE X (.Call (.Name x p) (e :: es) kws pos) (tMakeK C n m sp gV E t tk) := by
  subst hml
  exact pe_makeK M F hr hg hm hb hx ha hkw hall hks hdb he hpl
structure SMet (K : PySem.W.Frag) (C : Addr) (m : Str) (p f : Addr) : Prop where
  rd : PySem.W.readsIn K C (.type "type") = true
  ga : PySem.W.specialIn K (.ref C) "__getattribute__" = some (some (.builtin "type.__getattribute__"))
  at_ : PySem.W.findCls K (.ref C) (.type "type") m = some (.get (.builtin "staticmethod.__get__") (.ref p) .none (.ref C))
  rc : ∃ rest, PySem.W.recIn K p "staticmethod" = some (.ref f :: rest)
def tSMeth (C : Addr) (sp : Sp) (E : XK) (ta : TE) (t : TA) : TE := fun σ H Q => ta σ H fun x H1 => x = .ref C ∧ t σ H1 fun vs H2 => sp (vs ++ []) H2 Q E
theorem pe_smeth {X : Cx} {CX : CXT} {k : Nat} {p f : Addr} {fd : FuncData} {ps : List Str} {sp : Sp} {E : XK} {o e : Expr} {es : List Expr} {m : Str} {pos apos : Pos} {ta : TE} {t : TA} {pl : Sem Bool} (he : PE X o ta) (c : SMet X.K C m p f) (F : FnOk X.prog X.w X.K X.mg X.base CX k f fd ps sp) (hr : Room k X.A)
    (hk : PySem.W.keepIn X.K (.ref f) = true) (hb : Binds X.K fd ps []) (hx : Passes CX X E) (ha : PA X (e :: es) t)
    (hst : starEach (e :: es) X.env = (false, eval e X.env) :: starEach es X.env := by rfl) (hpl : (backTo pos (starEach es X.env)).any (·.1) = false := by rfl)
    (ht : eval (.Call (.Attribute o m apos) (e :: es) [] pos) X.env = (do
      let ov ← eval o X.env
      standAt apos.atName
      let (f, first) ← holding [ov] (getMethod ov m pl)
      callWith pos f first (backTo pos (starEach (e :: es) X.env)) (backToKw pos (keywordEach [] X.env))) := by rfl) :
    PE X (.Call (.Attribute o m apos) (e :: es) [] pos) (tSMeth C sp E ta t) := by
  refine ⟨fun pins s σ H Q I h => ?_⟩
  refine PySem.W.methodCall_KW (pl := pl) (thn (he.run pins s σ H _ I h) fun u s1 ⟨x, H1, I1, rx, ex, q⟩ => ?_) ht
  subst ex
  obtain rfl : u = Value.ref C := rx
  obtain ⟨rest, hp⟩ := c.rc
  refine PySem.W.method_cls I1.kIn c.ga ?_
  refine PySem.W.cls_bind I1.kIn c.rd c.at_ (wpAny_call (PySem.W.sm_get (s := { s1 with toks := s1.toks + 1 }) I1.kIn hp (PySem.W.handed_on rfl ?_)))
  have I2 : Inv X pins σ H1 { s1 with toks := s1.toks + 1 } := I1.tok _
  refine PySem.W.callWith_K (h₀ := X.base) I2.ok.mod.kin hk (thn (ha.run pos pins _ σ H1 _ I2 q) fun us s2 ⟨vs, H2, I3, r, q2⟩ => ⟨I3.kIn, ?_⟩) hst hpl
  exact run_fn F hr hb .nil hx I3 r q2
theorem we_smeth {ap : AP} {E0 : XK} {ta : TA} (h : WA K ta Γ fun rs Γ1 => nodupB (ownsOf rs) = true ∧ Hold (ap (rs.map (argSl Γ1)) fun r as' => NormP (putBack rs as' Γ1) (Post r))) : WE K (tSMeth C (toSp K ap) E0 (tC (.ref C)) ta) Γ Post := fun σ B H E Q q => by
  refine ⟨rfl, ?_⟩
  exact we_callH (E0 := E0) h σ B H E Q q
end
end Ab

namespace Ab
open PySem L2
section
variable {κ : Type} [DecidableEq κ]
def valD (kvs : List (κ × Dt)) (k : κ) : Option Dt := (kvs.find? fun kv => decide (kv.1 = k)).map (·.2)
def putE (kvs : List (κ × Dt)) (k : κ) (v : Dt) : List (κ × Dt) :=
  if (kvs.any fun kv => decide (kv.1 = k)) = true then kvs.map (fun kv => if kv.1 = k then (kv.1, v) else kv) else kvs ++ [(k, v)]
variable {K : PySem.W.Frag} {B : Hp}
theorem IsKv.nil : IsKv K B ([] : List (κ × V)) [] := ⟨rfl, .nil⟩
theorem IsKv.cons {k : κ} {v : V} {d : Dt} {xs : List (κ × V)} {kvs : List (κ × Dt)} (h : Is K B v d) (r : IsKv K B xs kvs) : IsKv K B ((k, v) :: xs) ((k, d) :: kvs) :=
  ⟨by simp [r.ks], .cons h r.vs⟩
theorem IsKv.ind {M : List (κ × V) → List (κ × Dt) → Prop} (h0 : M [] []) (h1 : ∀ k v d xs kvs, Is K B v d → IsKv K B xs kvs → M xs kvs → M ((k, v) :: xs) ((k, d) :: kvs)) : ∀ {xs : List (κ × V)} {kvs : List (κ × Dt)}, IsKv K B xs kvs → M xs kvs
  | [], [], _ => h0
  | [], _ :: _, h => by have := h.ks; simp at this
  | _ :: _, [], h => by have := h.ks; simp at this
  | (k, v) :: xs, (k', d) :: kvs, h => by
    have e := h.ks
    simp only [List.map_cons, List.cons.injEq] at e
    obtain ⟨rfl, e⟩ := e
    have hv : Is K B v d := h.vs.at_ 0 v d (by simp) (by simp)
    have hr : IsKv K B xs kvs := ⟨e, by have := h.vs.drop 1; simpa using this⟩
    exact h1 k v d xs kvs hv hr (IsKv.ind h0 h1 hr)
theorem IsKv.len {xs : List (κ × V)} {kvs : List (κ × Dt)} (h : IsKv K B xs kvs) : xs.length = kvs.length := by
  have := congrArg List.length h.ks; simpa using this
theorem IsKv.val {xs : List (κ × V)} {kvs : List (κ × Dt)} (h : IsKv K B xs kvs) (k : κ) : (valV xs k = none ∧ valD kvs k = none) ∨ ∃ v d, valV xs k = some v ∧ valD kvs k = some d ∧ Is K B v d := by
  refine IsKv.ind (M := fun xs kvs => (valV xs k = none ∧ valD kvs k = none) ∨ ∃ v d, valV xs k = some v ∧ valD kvs k = some d ∧ Is K B v d) (.inl ⟨rfl, rfl⟩) (fun k' v d xs kvs hv _ ih => ?_) h
  by_cases e : k' = k
  · exact .inr ⟨v, d, by simp [valV, e], by simp [valD, e], hv⟩
  · simpa [valV, valD, e] using ih
theorem IsKv.valS {xs : List (κ × V)} {kvs : List (κ × Dt)} (h : IsKv K B xs kvs) {k : κ} {d : Dt} (e : valD kvs k = some d) : ∃ v, valV xs k = some v ∧ Is K B v d := by
  rcases h.val k with ⟨_, e2⟩ | ⟨v, d', e1, e2, hv⟩
  · rw [e] at e2; cases e2
  · rw [e] at e2; cases e2; exact ⟨v, e1, hv⟩
theorem IsKv.isS {xs : List (κ × V)} {kvs : List (κ × Dt)} (h : IsKv K B xs kvs) (k : κ) : (valV xs k).isSome = (valD kvs k).isSome := by
  rcases h.val k with ⟨e1, e2⟩ | ⟨v, d', e1, e2, hv⟩ <;> rw [e1, e2] <;> rfl
theorem IsKv.put {xs : List (κ × V)} {kvs : List (κ × Dt)} (h : IsKv K B xs kvs) (k : κ) {v : V} {d : Dt} (hv : Is K B v d) : IsKv K B (putK xs k v) (putE kvs k d) := by
  have ea : (xs.any fun kv => decide (kv.1 = k)) = (kvs.any fun kv => decide (kv.1 = k)) :=
    IsKv.ind (K := K) (B := B) (M := fun xs kvs => (xs.any fun kv => decide (kv.1 = k)) = (kvs.any fun kv => decide (kv.1 = k))) rfl (fun k' v d xs kvs _ _ ih => by simp only [List.any_cons, ih]) h
  have em : IsKv K B (xs.map (fun kv => if kv.1 = k then (kv.1, v) else kv)) (kvs.map (fun kv => if kv.1 = k then (kv.1, d) else kv)) :=
    IsKv.ind (K := K) (B := B) (M := fun xs kvs => IsKv K B (xs.map (fun kv => if kv.1 = k then (kv.1, v) else kv)) (kvs.map (fun kv => if kv.1 = k then (kv.1, d) else kv))) .nil (fun k' v' d' xs kvs hv' _ ih => by
      by_cases e : k' = k
      · simp only [List.map_cons, e, if_true]; exact .cons hv ih
      · simp only [List.map_cons, e, if_false]; exact .cons hv' ih) h
  have es : IsKv K B (xs ++ [(k, v)]) (kvs ++ [(k, d)]) := ⟨by simp [h.ks], by simpa using h.vs.snoc hv⟩
  unfold putK putE
  rw [ea]
  split
  · exact em
  · exact es
end
section
variable {K : PySem.W.Frag} {σ : L2.St} {B H : Hp} {Γ : List Sl} {v : V} {r : Re}
end
section
variable {K : PySem.W.Frag} {pin : List Nat} {Γ : List Sl} {P : Ps} {Post : Re → List Sl → Prop} {td ty tv tx : TE}
end
section
variable {K : PySem.W.Frag} {Γ : List Sl} {Post : Re → List Sl → Prop}
theorem IsKv.mono {κ : Type} {B B' : Hp} {xs : List (κ × V)} {kvs : List (κ × Dt)} (s : Same B B') (h : IsKv K B xs kvs) : IsKv K B' xs kvs := ⟨h.ks, h.vs.mono s⟩
end
end Ab

namespace Ab
open PySem L2 PyProof.Rows
section
variable {K : PySem.W.Frag} {pin : List Nat} {Γ : List Sl} {P : Ps} {Post : Re → List Sl → Prop} {te ta tb : TE}
theorem we_sortedS (h : WE K te Γ fun r Γ1 => Hold (∃ xs : List Str, lstOf Γ1 r = some (xs.map Dt.str) ∧ xs.length < 64 ∧ ∀ ys : List Str, ys.Perm xs → sortedS ys = true → Post (.new (ys.map Dt.str)) Γ1)) : WE K (tCB (rSortedS K) (tCons te tNil)) Γ Post :=
  we_cb1 (we_mono h fun r Γ1 hp => fun σ B H x E kx Q q => by
    obtain ⟨xs, hs, hz, p⟩ := hp.get
    obtain ⟨a, vs, rfl, hq, ha⟩ := rv_lst E kx hs
    have e : vs = xs.map V.str := IsA.rawsI (xs := xs.map V.str) (by rw [List.map_map]; exact ha)
    subst e
    refine ⟨a, xs, rfl, hq, hz, fun ys l hy hs hl => q _ _ _ (.new (ys.map Dt.str)) Γ1 (Go.beside E hl) (re_newL E ?_ hl) (p ys hy hs)⟩
    have := IsA.raws (K := K) (B := B) (xs := ys.map V.str)
    rwa [List.map_map] at this)
theorem we_sorted (h : WE K te Γ fun r Γ1 => Hold (∃ xs : List Int, lstOf Γ1 r = some (xs.map Dt.int) ∧ xs.length < 64 ∧ ∀ ys : List Int, ys.Perm xs → ys.Pairwise (· ≤ ·) → Post (.new (ys.map Dt.int)) Γ1)) : WE K (tCB (rSorted K) (tCons te tNil)) Γ Post :=
  we_cb1 (we_mono h fun r Γ1 hp => fun σ B H x E kx Q q => by
    obtain ⟨xs, hs, hz, p⟩ := hp.get
    obtain ⟨a, vs, rfl, hq, ha⟩ := rv_lst E kx hs
    have e : vs = xs.map V.int := IsA.rawsI (xs := xs.map V.int) (by rw [List.map_map]; exact ha)
    subst e
    refine ⟨a, xs, rfl, hq, hz, fun ys l hy hs hl => q _ _ _ (.new (ys.map Dt.int)) Γ1 (Go.beside E hl) (re_newL E ?_ hl) (p ys hy hs)⟩
    have := IsA.raws (K := K) (B := B) (xs := ys.map V.int)
    rwa [List.map_map] at this)
theorem we_all (h : WE K te Γ fun r Γ1 => Hold (∃ bs : List Bool, lstOf Γ1 r = some (bs.map Dt.bl) ∧ Post (.val (.bl (bs.all id))) Γ1)) : WE K (tCB (rAll K) (tCons te tNil)) Γ Post :=
  we_cb1 (we_mono h fun r Γ1 hp => fun σ B H x E kx Q q => by
    obtain ⟨bs, hs, p⟩ := hp.get
    obtain ⟨a, vs, rfl, hq, ha⟩ := rv_lst E kx hs
    have e : vs = bs.map V.bl := IsA.rawsI (xs := bs.map V.bl) (by rw [List.map_map]; exact ha)
    subst e
    exact ⟨a, bs, rfl, hq, q _ B H _ Γ1 (.refl E) (.raw _) p⟩)
end
def rRepS : R2 := fun x y H Q => ∃ z n, x = .str z ∧ y = .int n ∧ -1000 ≤ n ∧ n ≤ 1000 ∧ z.length ≤ 1000 ∧ Q (.str (PySem.Txt.mul z n)) H
theorem we_repS {K : PySem.W.Frag} {Γ : List Sl} {Post : Re → List Sl → Prop} {ta tb : TE} (h : WE K ta Γ fun ra Γ1 => WE K tb Γ1 fun rb Γ2 => ∃ z n, ra = .val (.str z) ∧ rb = .val (.int n) ∧ -1000 ≤ n ∧ n ≤ 1000 ∧ z.length ≤ 1000 ∧ Post (.val (.str (PySem.Txt.mul z n))) Γ2) : WE K (tOp rRepS ta tb) Γ Post :=
  we_two' (we_mono h fun ra Γ1 h1 => we_mono h1 fun rb Γ2 hp => fun σ B H x y E kx ky Q q => by
    obtain ⟨s, t, rfl, rfl, h1, h2, h3, p⟩ := hp
    cases Is.rawI kx; cases Is.rawI ky
    exact ⟨s, t, rfl, rfl, h1, h2, h3, q _ B H _ Γ2 (.refl E) (.raw _) p⟩)
end Ab

namespace Ab
open PySem PySem.Spec L2 PyProof.Rows
def rRepA (K : PySem.W.Frag) : R2 := fun x y H Q => ∃ l k xs, x = .ref l ∧ y = .int k ∧ SqT K H l xs ∧ xs ≠ [] ∧ 0 ≤ k ∧ k ≤ 1000 ∧ xs.length ≤ 1000 ∧ (k = 1 → Q (.ref l) H) ∧ (k ≠ 1 → ∀ p, H p = none → Q (.ref p) (upd H p (.tup (List.replicate k.toNat xs).flatten)))
theorem IsA.reps {K : PySem.W.Frag} {B : Hp} {vs : List V} {ds : List Dt} (h : IsA K B vs ds) : ∀ n : Nat, IsA K B (List.replicate n vs).flatten (List.replicate n ds).flatten
  | 0 => .nil
  | n + 1 => by rw [List.replicate_succ, List.replicate_succ, List.flatten_cons, List.flatten_cons]; exact h.append (IsA.reps h n)
theorem we_repA {K : PySem.W.Frag} {Γ : List Sl} {Post : Re → List Sl → Prop} {ta tb : TE} (h : WE K ta Γ fun ra Γ1 => WE K tb Γ1 fun rb Γ2 => ∃ ds n, ra = .val (.tup ds) ∧ rb = .val (.int n) ∧ ds ≠ [] ∧ 0 ≤ n ∧ n ≤ 1000 ∧ ds.length ≤ 1000 ∧ Post (.val (.tup (List.replicate n.toNat ds).flatten)) Γ2) : WE K (tOp (rRepA K) ta tb) Γ Post :=
  we_two' (we_mono h fun ra Γ1 h1 => we_mono h1 fun rb Γ2 hp => fun σ B H x y E kx ky Q q => by
    obtain ⟨ds, n, rfl, rfl, hne, h1, h2, h3, p⟩ := hp
    cases Is.rawI ky
    obtain ⟨a, xs, rfl, hs, ha⟩ := Is.tupR kx
    refine ⟨a, n, xs, rfl, rfl, sqT_mono E.bh hs, fun z => hne ?_, h1, h2, by rw [ha.len]; exact h3, fun e => ?_, fun _ l hl => q _ _ _ (.val (.tup (List.replicate n.toNat ds).flatten)) Γ2 (Go.laid E hl) (re_laidT E (ha.reps n.toNat) hl) p⟩
    · subst z; exact List.eq_nil_of_length_eq_zero ha.len.symm
    · subst e
      have e2 : (List.replicate (Int.toNat 1) ds).flatten = ds := by simp
      rw [e2] at p
      exact q _ B H (.val (.tup ds)) Γ2 (.refl E) kx p)
end Ab

namespace Ab
open PySem PySem.Spec L2 PyProof.Rows
set_option maxHeartbeats 8000000 in
section
variable {K : PySem.W.Frag} {σ : L2.St} {B H : Hp} {Γ : List Sl}
abbrev g2 (K : PySem.W.Frag) (j k : Nat) : TG := gTup K 2 (gCons (gName j) (gCons (gName k) gNil))
end
end Ab
namespace Ab
open PySem PySem.Spec L2 PyProof.Rows
def rStrG : List V → Hp → VK → Prop := fun xs H Q => (∃ a, xs = [.str a] ∧ Q (.str a) H) ∨ ∃ i : Int, xs = [.int i] ∧ i.natAbs.log2 < 1920 ∧ Q (.str (toString i)) H
def StrP (r : Re) (Γ : List Sl) (Post : Re → List Sl → Prop) : Prop := (∃ a, r = .val (.str a) ∧ Post (.val (.str a)) Γ) ∨ ∃ i : Int, r = .val (.int i) ∧ i.natAbs.log2 < 1920 ∧ Post (.val (.str (toString i))) Γ
theorem we_strG {K : PySem.W.Frag} {Γ : List Sl} {Post : Re → List Sl → Prop} {te : TE} (h : WE K te Γ fun r Γ1 => StrP r Γ1 Post) : WE K (tCB rStrG (tCons te tNil)) Γ Post :=
  we_cb1 (we_mono h fun r Γ1 hp => fun σ B H x E kx Q q => by
    rcases hp with ⟨a, rfl, p⟩ | ⟨i, rfl, hi, p⟩
    · cases Is.rawI kx
      exact .inl ⟨a, rfl, q _ B H _ Γ1 (.refl E) (.raw _) p⟩
    · cases Is.rawI kx
      exact .inr ⟨i, rfl, hi, q _ B H _ Γ1 (.refl E) (.raw _) p⟩)
theorem strp_s {Γ : List Sl} {Post : Re → List Sl → Prop} {a : Str} (p : Post (.val (.str a)) Γ) : StrP (.val (.str a)) Γ Post := .inl ⟨a, rfl, p⟩
theorem we_any {K : PySem.W.Frag} {Γ : List Sl} {Post : Re → List Sl → Prop} {te : TE} (h : WE K te Γ fun r Γ1 => Hold (∃ bs : List Bool, lstOf Γ1 r = some (bs.map Dt.bl) ∧ Post (.val (.bl (bs.any id))) Γ1)) : WE K (tCB (rAny K) (tCons te tNil)) Γ Post :=
  we_cb1 (we_mono h fun r Γ1 hp => fun σ B H x E kx Q q => by
    obtain ⟨bs, hs, p⟩ := hp.get
    obtain ⟨a, vs, rfl, hq, ha⟩ := rv_lst E kx hs
    have e : vs = bs.map V.bl := IsA.rawsI (xs := bs.map V.bl) (by rw [List.map_map]; exact ha)
    subst e
    exact ⟨a, bs, rfl, hq, q _ B H _ Γ1 (.refl E) (.raw _) p⟩)
end Ab

namespace Ab
open PySem L2
def CS (z : Str) : Prop := ∀ c ∈ z.cps.toList, c < 1114112
theorem CS.app {a b : Str} (ha : CS a) (hb : CS b) : CS (a ++ b) := fun c hc => by
  have e : (a ++ b).cps.toList = a.cps.toList ++ b.cps.toList := by show (a.cps ++ b.cps).toList = _; simp
  rw [e] at hc
  rcases List.mem_append.mp hc with h | h
  · exact ha c h
  · exact hb c h
theorem CS.cut {z : Str} (h : CS z) (lo hi : Option Int) : CS (cutS z lo hi) := fun c hc => by
  unfold cutS at hc
  exact h c (List.mem_of_mem_drop (List.mem_of_mem_take (by simpa using hc)))
theorem CS.nil : CS "" := fun c hc => by
  have : (("" : Str)).cps.toList = [] := by decide +kernel
  rw [this] at hc
  cases hc
theorem CS.join : ∀ {ys : List Str}, (∀ y ∈ ys, CS y) → CS (Txt.join "" ys)
  | [], _ => by rw [TL.join_eq]; exact fun c hc => nomatch hc
  | [x], h => by rw [TL.join_eq]; exact h x List.mem_cons_self
  | x :: y :: r, h => by
    have ih := CS.join (ys := y :: r) fun z hz => h z (List.mem_cons_of_mem _ hz)
    rw [TL.join_eq] at ih ⊢
    show CS (x ++ "" ++ Str.join "" (y :: r))
    exact ((h x List.mem_cons_self).app CS.nil).app ih
theorem CS.one {c : Nat} (h : c < 1114112) : CS ⟨#[c]⟩ := fun d hd => by
  rw [List.mem_singleton.mp (show d ∈ [c] from hd)]
  exact h
def Az (z : Str) : Prop := ∀ c ∈ z.cps.toList, 97 ≤ c ∧ c ≤ 122
theorem Az.cs {z : Str} (h : Az z) : CS z := fun c hc => by have := h c hc; omega
theorem Az.app {a b : Str} (ha : Az a) (hb : Az b) : Az (a ++ b) := fun c hc => by
  have e : (a ++ b).cps.toList = a.cps.toList ++ b.cps.toList := by show (a.cps ++ b.cps).toList = _; simp
  rw [e] at hc
  rcases List.mem_append.mp hc with h | h
  · exact ha c h
  · exact hb c h
theorem Az.cut {z : Str} (h : Az z) (lo hi : Option Int) : Az (cutS z lo hi) := fun c hc => by
  unfold cutS at hc
  exact h c (List.mem_of_mem_drop (List.mem_of_mem_take (by simpa using hc)))
theorem Az.nil : Az "" := fun c hc => by
  have : (("" : Str)).cps.toList = [] := by decide +kernel
  rw [this] at hc
  cases hc
def signs : Str := " abcdefghijklmnopqrstuvwxyzABCDEFGHIJKLMNOPQRSTUVWXYZ0123456789.,;:!?'()|"
def Tx (z : Str) : Prop := ∀ c ∈ z.cps.toList, c ∈ signs.cps.toList
theorem signs_cs : ∀ c ∈ signs.cps.toList, c < 1114112 := by decide +kernel
theorem Tx.cs {z : Str} (h : Tx z) : CS z := fun c hc => signs_cs c (h c hc)
end Ab

namespace Ab
open PySem L2
abbrev Ty := Dt → Prop
inductive TIs (e : Dt) : Ty where
  | mk : TIs e e
inductive TInt (lo hi : Int) : Ty where
  | mk {i : Int} (h0 : lo ≤ i) (h1 : i ≤ hi) : TInt lo hi (.int i)
inductive TBl : Ty where
  | mk {b : Bool} : TBl (.bl b)
inductive TStr (n m : Nat) : Ty where
  | mk {z : Str} (h0 : n ≤ z.length) (h1 : z.length ≤ m) : TStr n m (.str z)
inductive TNm (n m : Nat) : Ty where
  | mk {z : Str} (h0 : n ≤ z.length) (h1 : z.length ≤ m) (ha : Az z) : TNm n m (.str z)
inductive T1 (A : Ty) : Ty where
  | mk {a : Dt} (ha : A a) : T1 A (.tup [a])
inductive T2 (A B : Ty) : Ty where
  | mk {a b : Dt} (ha : A a) (hb : B b) : T2 A B (.tup [a, b])
inductive T3 (A B C : Ty) : Ty where
  | mk {a b c : Dt} (ha : A a) (hb : B b) (hc : C c) : T3 A B C (.tup [a, b, c])
inductive T4 (A B C D : Ty) : Ty where
  | mk {a b c d : Dt} (ha : A a) (hb : B b) (hc : C c) (hd : D d) : T4 A B C D (.tup [a, b, c, d])
inductive TTs (A : Ty) (n m : Nat) : Ty where
  | mk {ds : List Dt} (h0 : n ≤ ds.length) (h1 : ds.length ≤ m) (h : ∀ d ∈ ds, A d) : TTs A n m (.tup ds)
inductive TLs (A : Ty) (n m : Nat) : Ty where
  | mk {ds : List Dt} (h0 : n ≤ ds.length) (h1 : ds.length ≤ m) (h : ∀ d ∈ ds, A d) : TLs A n m (.lst ds)
abbrev STy := Sl → Prop
inductive SAny : STy where
  | mk {s : Sl} : SAny s
inductive SIs (t : Sl) : STy where
  | mk : SIs t t
inductive SVal (A : Ty) : STy where
  | mk {d : Dt} (h : A d) : SVal A (.val d)
inductive SAcc (A : Ty) (n m : Nat) : STy where
  | mk {ds : List Dt} (h0 : n ≤ ds.length) (h1 : ds.length ≤ m) (h : ∀ d ∈ ds, A d) : SAcc A n m (.cel (.lst ds))
inductive SPool (b : Int) : STy where
  | mk {ds : List Dt} (h : PoolUp b ds) : SPool b (.cel (.lst ds))
inductive EnvT : List STy → List Sl → Prop where
  | nil : EnvT [] []
  | cons {S : STy} {s : Sl} {D : List STy} {G : List Sl} (h : S s) (t : EnvT D G) : EnvT (S :: D) (s :: G)
theorem EnvT.len : ∀ {D : List STy} {G : List Sl}, EnvT D G → G.length = D.length
  | _, _, .nil => rfl
  | _, _, .cons _ t => by rw [List.length_cons, List.length_cons, t.len]
inductive RVal (A : Ty) : Re → Prop where
  | mk {d : Dt} (h : A d) : RVal A (.val d)
inductive RNew (A : Ty) (n m : Nat) : Re → Prop where
  | mk {ds : List Dt} (h0 : n ≤ ds.length) (h1 : ds.length ≤ m) (h : ∀ d ∈ ds, A d) : RNew A n m (.nw (.lst ds))
section
variable {Γ : List Sl} {Post : Re → List Sl → Prop}
theorem ixp_k {ra : Re} {ds : List Dt} {k : Int} (h1 : seqOf Γ ra = some ds) (h2 : 0 ≤ k) (h3 : k < ds.length) (p : ∀ d, d ∈ ds → Post (.val d) Γ) : IxP ra (.val (.int k)) Γ Post := by
  have hk : k.toNat < ds.length := by omega
  exact ixp h1 (atI_of (j := k.toNat) (by omega) (List.getElem?_eq_getElem hk)) (p _ (List.getElem_mem hk))
theorem ixp_c0 {ra : Re} {a : Dt} {l : List Dt} (h1 : seqOf Γ ra = some (a :: l)) (p : Post (.val a) Γ) : IxP ra (.val (.int 0)) Γ Post := ixp h1 (atI_of (j := 0) rfl rfl) p
theorem ixp_kT {A : Ty} {ra : Re} {ds : List Dt} {k : Int} (h1 : seqOf Γ ra = some ds) (h2 : 0 ≤ k) (h3 : k < ds.length) (h4 : ∀ d ∈ ds, A d) (p : ∀ d, A d → Post (.val d) Γ) : IxP ra (.val (.int k)) Γ Post := ixp_k h1 h2 h3 fun d hd => p d (h4 d hd)
theorem ixp_sk {z : Str} {k : Int} (hz : z.length ≤ 1000000) (h2 : 0 ≤ k) (h3 : k < z.length) (p : ∀ c, c ∈ z.cps.toList → Post (.val (.str ⟨#[c]⟩)) Γ) : IxP (.val (.str z)) (.val (.int k)) Γ Post := by
  have e : z.length = z.cps.toList.length := by simp [Str.length]
  have hk : k.toNat < z.cps.toList.length := by omega
  exact ixp_s hz (atI_of (j := k.toNat) (by omega) (List.getElem?_eq_getElem hk)) (p _ (List.getElem_mem hk))
end
theorem all_nil {A : Ty} : ∀ d ∈ ([] : List Dt), A d := fun _ h => nomatch h
theorem all_cons {A : Ty} {a : Dt} {l : List Dt} (h : A a) (t : ∀ d ∈ l, A d) : ∀ d ∈ a :: l, A d := fun d hd => (List.mem_cons.mp hd).elim (fun e => e ▸ h) (t d)
theorem all_app {A : Ty} {l m : List Dt} (h : ∀ d ∈ l, A d) (t : ∀ d ∈ m, A d) : ∀ d ∈ l ++ m, A d := fun d hd => (List.mem_append.mp hd).elim (h d) (t d)
theorem all_take {A : Ty} {l : List Dt} {n : Nat} (h : ∀ d ∈ l, A d) : ∀ d ∈ l.take n, A d := fun d hd => h d (List.mem_of_mem_take hd)
theorem all_drop {A : Ty} {l : List Dt} {n : Nat} (h : ∀ d ∈ l, A d) : ∀ d ∈ l.drop n, A d := fun d hd => h d (List.mem_of_mem_drop hd)
theorem all_set {A : Ty} {l : List Dt} {n : Nat} {a : Dt} (h : ∀ d ∈ l, A d) (ha : A a) : ∀ d ∈ l.set n a, A d := fun d hd => (List.mem_or_eq_of_mem_set hd).elim (h d) (fun e => e ▸ ha)
theorem all_erase {A : Ty} {l : List Dt} {n : Nat} (h : ∀ d ∈ l, A d) : ∀ d ∈ l.eraseIdx n, A d := fun d hd => h d (List.mem_of_mem_eraseIdx hd)
theorem all_cut {A : Ty} {l : List Dt} {a b : Option Int} (h : ∀ d ∈ l, A d) : ∀ d ∈ cutD l a b, A d := by
  unfold cutD
  exact all_take (all_drop h)
theorem Az.one {c : Nat} (h : 97 ≤ c ∧ c ≤ 122) : Az ⟨#[c]⟩ := fun d hd => by
  rw [List.mem_singleton.mp (show d ∈ [c] from hd)]
  exact h
theorem az_abc : Az "abcdefghijklmnopqrstuvwxyz" := by unfold Az; decide +kernel
end Ab

namespace Ab
open PySem L2
section
variable {K : PySem.W.Frag} {pin : List Nat} {Γ : List Sl} {P : Ps} {te tl : TE} {tt : TT} {tb : TS} {g : TG} {j : Nat} {Post : Re → List Sl → Prop}
theorem take_step {α β : Type} {xs : List α} {i : Nat} {x : α} (p : α → Bool) (f : α → β) (h : xs[i]? = some x) : ((xs.take (i + 1)).filter p).map f = ((xs.take i).filter p).map f ++ (if p x = true then [f x] else []) := by
  rw [List.take_succ, h, List.filter_append, List.map_append]
  by_cases hp : p x = true
  · simp [hp]
  · simp [hp]
theorem filter_tt {α : Type} (xs : List α) : xs.filter (fun _ => true) = xs := List.filter_eq_self.mpr fun _ _ => rfl
theorem lc_tupP {α : Type} (xs : List α) (c f : α → Dt) (p : α → Bool) (G0 : List Sl) (h : WE K tl Γ fun z Γ1 => Hold (z = .val (.tup (xs.map c)) ∧ xs.length ≤ 1000000 ∧ decide (j < Γ1.length) = true ∧ notAcc Γ1[j]? = true ∧ keepV Γ1[j]? = keepV Γ[j]? ∧ Γ1 = G0))
    (turn : ∀ x ∈ xs, WT K tt (G0.set j (.val (c x))) fun b G2 => (b = true → WE K te G2 fun r G3 => ∃ d, r.dt? = some d ∧ Hold (p x = true ∧ d = f x ∧ G3.set j (keepV Γ[j]?) = G0)) ∧ (b = false → Hold (p x = false ∧ G2.set j (keepV Γ[j]?) = G0)))
    (done : Post (.new ((xs.filter p).map f)) G0) : WE K (tLc (iTup K tl) (gName j) tt te [j]) Γ Post := by
  refine lc_tuple (xs.map c) (fun i es G => G = G0 ∧ es = ((xs.take i).filter p).map f) ?_ ?_ ?_
  · refine we_mono h fun z Γ1 hp => ?_
    obtain ⟨h1, h2, h3, h4, h5, h6⟩ := hp.get
    exact .a ⟨h1, by rw [List.length_map]; exact h2, h3, h4, h5, h6, rfl⟩
  · rintro i d es G hd ⟨rfl, rfl⟩
    rw [List.getElem?_map] at hd
    obtain ⟨x, hx, rfl⟩ := Option.map_eq_some_iff.mp hd
    refine wt_mono (turn x (List.mem_of_getElem? hx)) fun b G2 hb => ⟨fun e => ?_, fun e => ?_⟩
    · refine we_mono (hb.1 e) fun r G3 hr => ?_
      obtain ⟨d, h1, h2⟩ := hr
      obtain ⟨h3, rfl, h5⟩ := h2.get
      exact ⟨_, h1, .a ⟨h5, by rw [take_step p f hx, if_pos h3]⟩⟩
    · obtain ⟨h3, h5⟩ := (hb.2 e).get
      exact .a ⟨h5, by rw [take_step p f hx, if_neg (by rw [h3]; exact Bool.false_ne_true), List.append_nil]⟩
  · rintro es G ⟨rfl, rfl⟩
    rw [List.length_map, List.take_length]
    exact done
theorem lc_rngP {t1 : TA} (n : Nat) (f : Nat → Dt) (p : Nat → Bool) (G0 : List Sl) (h : WD K t1 Γ fun ds Γ1 => Hold (ds = [.int n] ∧ n ≤ 1000000 ∧ decide (j < Γ1.length) = true ∧ notAcc Γ1[j]? = true ∧ keepV Γ1[j]? = keepV Γ[j]? ∧ Γ1 = G0))
    (turn : ∀ x : Nat, x < n → WT K tt (G0.set j (.val (.int x))) fun b G2 => (b = true → WE K te G2 fun r G3 => ∃ d, r.dt? = some d ∧ Hold (p x = true ∧ d = f x ∧ G3.set j (keepV Γ[j]?) = G0)) ∧ (b = false → Hold (p x = false ∧ G2.set j (keepV Γ[j]?) = G0)))
    (done : Post (.new (((List.range n).filter p).map f)) G0) : WE K (tLc (iRng1 t1) (gName j) tt te [j]) Γ Post := by
  refine lc_range1 n (fun i es G => G = G0 ∧ es = (((List.range n).take i).filter p).map f) ?_ ?_ ?_
  · refine fun σ B H E Q q => h σ B H E Q fun vs B' H' ds Γ1 g k hp => q vs B' H' ds Γ1 g k ?_
    obtain ⟨h1, h2, h3, h4, h5, h6⟩ := hp.get
    exact .a ⟨h1, h2, h3, h4, h5, h6, by rw [List.take_zero]; rfl⟩
  · rintro i es G hi ⟨rfl, rfl⟩
    have hx : (List.range n)[i]? = some i := by rw [List.getElem?_range hi]
    refine wt_mono (turn i hi) fun b G2 hb => ⟨fun e => ?_, fun e => ?_⟩
    · refine we_mono (hb.1 e) fun r G3 hr => ?_
      obtain ⟨d, h1, h2⟩ := hr
      obtain ⟨h3, rfl, h5⟩ := h2.get
      exact ⟨_, h1, .a ⟨h5, by rw [take_step p f hx, if_pos h3]⟩⟩
    · obtain ⟨h3, h5⟩ := (hb.2 e).get
      exact .a ⟨h5, by rw [take_step p f hx, if_neg (by rw [h3]; exact Bool.false_ne_true), List.append_nil]⟩
  · rintro es G ⟨rfl, rfl⟩
    have : (List.range n).take n = List.range n := by
      have := List.take_length (l := List.range n)
      rwa [List.length_range] at this
    rw [this]
    exact done
theorem lc_tupV {α : Type} (xs : List α) (c f : α → Dt) (p : α → Bool) (h : WE K tl Γ fun z Γ1 => Hold (z = .val (.tup (xs.map c)) ∧ xs.length ≤ 1000000 ∧ decide (j < Γ.length) = true ∧ notAcc Γ[j]? = true ∧ Γ1 = Γ))
    (turn : ∀ x ∈ xs, WT K tt (Γ.set j (.val (c x))) fun b G2 => (b = true → WE K te G2 fun r G3 => ∃ d, r.dt? = some d ∧ Hold (p x = true ∧ d = f x ∧ G3.set j (keepV Γ[j]?) = Γ)) ∧ (b = false → Hold (p x = false ∧ G2.set j (keepV Γ[j]?) = Γ)))
    (done : Post (.new ((xs.filter p).map f)) Γ) : WE K (tLc (iTup K tl) (gName j) tt te [j]) Γ Post :=
  lc_tupP xs c f p Γ (we_mono h fun z Γ1 hp => by
    obtain ⟨h1, h2, h3, h4, rfl⟩ := hp.get
    exact .a ⟨h1, h2, h3, h4, rfl, rfl⟩) turn done
theorem lc_rngV {t1 : TA} (n : Nat) (f : Nat → Dt) (p : Nat → Bool) (h : WD K t1 Γ fun ds Γ1 => Hold (ds = [.int n] ∧ n ≤ 1000000 ∧ decide (j < Γ.length) = true ∧ notAcc Γ[j]? = true ∧ Γ1 = Γ))
    (turn : ∀ x : Nat, x < n → WT K tt (Γ.set j (.val (.int x))) fun b G2 => (b = true → WE K te G2 fun r G3 => ∃ d, r.dt? = some d ∧ Hold (p x = true ∧ d = f x ∧ G3.set j (keepV Γ[j]?) = Γ)) ∧ (b = false → Hold (p x = false ∧ G2.set j (keepV Γ[j]?) = Γ)))
    (done : Post (.new (((List.range n).filter p).map f)) Γ) : WE K (tLc (iRng1 t1) (gName j) tt te [j]) Γ Post :=
  lc_rngP n f p Γ (fun σ B H E Q q => h σ B H E Q fun vs B' H' ds Γ1 g k hp => q vs B' H' ds Γ1 g k (by
    obtain ⟨h1, h2, h3, h4, rfl⟩ := hp.get
    exact .a ⟨h1, h2, h3, h4, rfl, rfl⟩)) turn done
theorem for_lstT {α : Type} (xs : List α) (c : α → Dt) (Inv : Nat → List Sl → Prop) (h : WE K te Γ fun z Γ1 => Hold (z.dt? = some (.lst (xs.map c)) ∧ Inv 0 Γ1))
    (turn : ∀ (i : Nat) x G, xs[i]? = some x → Inv i G → WG K pin g (c x) G fun G2 => WS K pin tb G2 ⟨fun G => Hold (Inv (i + 1) G), P.rt, P.nx, fun G => Hold (Inv (i + 1) G), P.ex⟩) (done : ∀ G, Inv xs.length G → P.nx G) : WS K pin (tFor (iList K te) g tb) Γ P :=
  for_lst (xs.map c) Inv h (fun i d G hd hG => by
    rw [List.getElem?_map] at hd
    obtain ⟨x, hx, rfl⟩ := Option.map_eq_some_iff.mp hd
    exact turn i x G hx hG) (fun G hG => done G (by rwa [List.length_map] at hG))
theorem for_accT {α : Type} {k : Nat} (xs : List α) (c : α → Dt) (Inv : Nat → List Sl → Prop) (h0 : Γ[k]? = some (.acc (xs.map c))) (i0 : Inv 0 Γ) (hk : ∀ i G, Inv i G → G[k]? = some (.acc (xs.map c)))
    (turn : ∀ (i : Nat) x G, xs[i]? = some x → Inv i G → WG K (k :: pin) g (c x) G fun G2 => WS K (k :: pin) tb G2 ⟨fun G => Hold (Inv (i + 1) G), P.rt, P.nx, fun G => Hold (Inv (i + 1) G), P.ex⟩) (done : ∀ G, Inv xs.length G → P.nx G) : WS K pin (tFor (iList K (tVar k)) g tb) Γ P :=
  for_acc (xs.map c) Inv h0 i0 hk (fun i d G hd hG => by
    rw [List.getElem?_map] at hd
    obtain ⟨x, hx, rfl⟩ := Option.map_eq_some_iff.mp hd
    exact turn i x G hx hG) (fun G hG => done G (by rwa [List.length_map] at hG))
end
theorem we_freezeV {K : PySem.W.Frag} {Γ : List Sl} {Post : Re → List Sl → Prop} {te : TE} (h : WE K te Γ fun r Γ1 => ∃ d, r.dt? = some d ∧ Post (.val d) Γ1) : WE K te Γ Post := we_freeze h
end Ab

namespace Ab
open PySem L2
abbrev APX := List Sl → (Re → List Sl → Prop) → (Value → List (Str × Dt) → List Sl → Prop) → Prop
def toSpX (K : PySem.W.Frag) (ap : APX) : Sp := fun vs H Q E => ∃ B as Post XP, Env K B H (vs.map some) as ∧ ap as Post XP ∧
  (∀ v B' H' r as', Go K (vs.map some) B H as B' H' as' → ReOk K [] (Own (vs.map some) as) (Own (vs.map some) as') B' H H' v r → Post r as' → Q v H') ∧
  ∀ cls d fs B' H' as', Go K (vs.map some) B H as B' H' as' → ExB K B' d fs → XP cls fs as' → E cls d H'
abbrev RunOkX (K : PySem.W.Frag) (pin : List Nat) (t : WX → TS) (N : Nat) (ap : APX) : Prop := ∀ (W : WX) (as : List Sl) (Post : Re → List Sl → Prop) (XP : Value → List (Str × Dt) → List Sl → Prop), ap as Post XP →
  WS K pin (t W) (as ++ List.replicate (N - as.length) .un) ⟨fun G => Post (.val .non) (exitArgs pin G as), fun r G => Post r (exitArgs pin G as), fun _ => False, fun _ => False, ⟨W, fun cls fs G => XP cls fs (exitArgs pin G as)⟩⟩
section
variable {P : Program} {w : World} {K : PySem.W.Frag} {mg : Str → Option Value} {base : Heap}
theorem fn_abX {x qual : Str} {st : Stmt} {f : Addr} {fd : FuncData} {N ps : List Str} {k : Nat} {ap : APX} (pin : List Nat) (F : Fun K x qual st f fd) (S : FnScope N ps (defScope st))
    (hlen : ∀ as Post XP, ap as Post XP → as.length = ps.length) (hN : decide (ps.length ≤ N.length) = true) (t : WX → TS)
    (body : ∀ (cdv : Value) (A : Around) (outer : List PySem.Env) (s : Shared) (H : Hp) (E : XK), Room k (A.deeper (PyProof.Rows.envOfC qual (defScope st) s.heap.objs.size f cdv)) →
      PSs (cxOf (L2.CX P w) P w K mg base N qual (defScope st) f cdv A outer s H E) (defBody st) (t fun cls d _ H' => E cls d H'))
    (run : RunOkX K pin t N.length ap) :
    FnOk P w K mg base (L2.CX P w) (k + 1) f fd ps (toSpX K ap) := by
  refine F.okX S (fun vs H Q E h => ?_) (fun cdv A outer s H vs Q E hr h => ?_)
  · obtain ⟨B, as, Post, XP, E1, ha, _⟩ := h
    have := E1.len
    rw [List.length_map] at this
    rw [this]; exact hlen as Post XP ha
  · obtain ⟨B, as, Post, XP, E1, ha, q, qx⟩ := h
    refine ⟨_, body cdv A outer s H E hr, ?_⟩
    have hl : vs.length = as.length := by have := E1.len; simpa using this
    have hps : as.length ≤ N.length := by rw [hlen as Post XP ha]; exact of_decide_eq_true hN
    have E0 := env_start E1 hps
    have fin : ∀ v σ' B' H' r Γ', GoS K pin (L2.start N vs) B H (as ++ List.replicate (N.length - as.length) .un) σ' B' H' Γ' → ReOk K [] (Own (L2.start N vs) (as ++ List.replicate (N.length - as.length) .un)) (Own σ' Γ') B' H H' v r → Post r (exitArgs pin Γ' as) → Q v H' := by
      intro v σ' B' H' r Γ' g kk p
      obtain ⟨g', kr⟩ := exit_go E1 hl g
      exact q v B' H' r _ g' (kr v r kk) p
    exact run _ as Post XP ha (L2.start N vs) B H _ E0 (fun σ' B' H' Γ' g p => fin .non σ' B' H' (.val .non) Γ' g (Is.raw _) p) (fun v σ' B' H' r Γ' g kk p => fin v σ' B' H' r Γ' g kk p) (fun _ _ _ _ _ p => p.elim) (fun _ _ _ _ _ p => p.elim)
      (fun cls d fs σ' B' H' Γ' g hx p => qx cls d fs B' H' _ (exit_go E1 hl g).1 hx p)
end
section
variable {K : PySem.W.Frag} {pin : List Nat} {Γ : List Sl} {P : Ps} {Post : Re → List Sl → Prop} {te : TE} {ta : TA}
def tCallX (K : PySem.W.Frag) (ap : APX) (W : WX) (ta : TA) : TE := fun σ H Q => ta σ H fun vs H1 => toSpX K ap vs H1 Q (fun cls d H' => W cls d σ H')
def WX' (K : PySem.W.Frag) (X : Ex) (te : TE) (Γ : List Sl) (Post : Re → List Sl → Prop) : Prop := ∀ σ B H, Env K B H σ Γ → ∀ Q : VK,
  (∀ v B' H' r Γ', Go K σ B H Γ B' H' Γ' → ReOk K σ (Own σ Γ) (Own σ Γ') B' H H' v r → Post r Γ' → Q v H') →
  (∀ cls d fs B' H' Γ', Go K σ B H Γ B' H' Γ' → ExB K B' d fs → X.q cls fs Γ' → X.W cls d σ H') → te σ H Q
theorem wx_call {X : Ex} {W : WX} {ap : APX} (hW : X.W = W) (h : WA K ta Γ fun rs Γ1 => nodupB (ownsOf rs) = true ∧ Hold (ap (rs.map (argSl Γ1)) (fun r as' => NormP (putBack rs as' Γ1) (Post r)) fun cls fs as' => NormP (putBack rs as' Γ1) (X.q cls fs))) : WX' K X (tCallX K ap W ta) Γ Post := fun σ B H E Q q qx => by
  subst hW
  refine h σ B H E _ fun vs B1 H1 rs Γ1 g1 k1 p1 => ?_
  obtain ⟨E2, kk⟩ := call_go E g1 k1 p1.1
  exact ⟨B1, rs.map (argSl Γ1), _, _, E2, p1.2.get, fun v B2 H2 r as' g2 k2 p => q v B2 H2 r _ (kk B2 H2 as' g2).1 ((kk B2 H2 as' g2).2 v r k2) p,
    fun cls d fs B2 H2 as' g2 hx p => qx cls d fs B2 H2 _ (kk B2 H2 as' g2).1 hx p⟩
theorem ws_asgX {i : Nat} (hp : pin.contains i = false) (hi : decide (i < Γ.length) = true) (h : WX' K P.ex te Γ fun z Γ1 => NormP (Γ1.set i (slOf z)) P.nx) : WS K pin (tAsg te (gName i)) Γ P := fun σ B H D E n r b c xx =>
  h σ B H E _ (fun v B1 H1 z Γ1 g k p => n _ B1 H1 _ (goS_set g k hp (by rw [← g.env.len, E.len]; exact of_decide_eq_true hi)) p) fun cls d fs B1 H1 Γ1 g hx p => xx cls d fs σ B1 H1 Γ1 g.s hx p
end
end Ab

namespace Ab
open PySem L2
section
variable {K : PySem.W.Frag} {B H B' H' : Hp} {σ τ σ' : L2.St} {Γ Δ Γ' : List Sl} {pin : List Nat}
theorem pre_get {α : Type} {a b : List α} {i : Nat} {x : α} (h : a[i]? = some x) : (a ++ b)[i]? = some x := by
  rw [List.getElem?_append_left (List.getElem?_eq_some_iff.mp h).1]; exact h
theorem app_get {α : Type} {a b : List α} {i : Nat} {x : α} (h : (a ++ b)[i]? = some x) : a[i]? = some x ∨ (a.length ≤ i ∧ b[i - a.length]? = some x) := by
  by_cases hi : i < a.length
  · rw [List.getElem?_append_left hi] at h; exact .inl h
  · rw [List.getElem?_append_right (by omega)] at h; exact .inr ⟨by omega, h⟩
theorem env_pre (E : Env K B H (σ ++ τ) (Γ ++ Δ)) (hl : σ.length = Γ.length) : Env K B H σ Γ := by
  have pre : ∀ {i : Nat} {x : Option V}, i < Γ.length → (σ ++ τ)[i]? = some x → σ[i]? = some x := fun {i x} hi h => by
    rw [List.getElem?_append_left (by omega)] at h; exact h
  refine ⟨hl, E.bh, fun i d h => ?_, fun i c h => ?_, fun i j c d l h1 h2 h3 h4 => E.sep i j c d l (pre_get h1) (pre_get h2) (pre_get h3) (pre_get h4)⟩
  · obtain ⟨v, e1, e2⟩ := E.val i d (pre_get h)
    exact ⟨v, pre (List.getElem?_eq_some_iff.mp h).1 e1, e2⟩
  · obtain ⟨l, o, e1, e2⟩ := E.cel i c (pre_get h)
    exact ⟨l, o, pre (List.getElem?_eq_some_iff.mp h).1 e1, e2⟩
theorem own_pre {a : Addr} (h : Own σ Γ a) : Own (σ ++ τ) (Γ ++ Δ) a := by
  obtain ⟨i, c, h1, h2⟩ := h
  exact ⟨i, c, pre_get h1, pre_get h2⟩
theorem env_ext (E : Env K B H (σ ++ τ) (Γ ++ Δ)) (hl : σ.length = Γ.length) (g : GoS K pin σ B H Γ σ' B' H' Γ') : Env K B' H' (σ' ++ τ) (Γ' ++ Δ) := by
  have hl' := g.env.len
  have hL : τ.length = Δ.length := by have := E.len; rw [List.length_append, List.length_append] at this; omega
  -- a cell of a field
  have cell : ∀ {i : Nat} {c : Cn}, Δ[i]? = some (.cel c) → ∃ l o, τ[i]? = some (some (.ref l)) ∧ H l = some o ∧ B l = none ∧ CnIs K B l o c ∧ ¬ Own σ Γ l := fun {i c} h => by
    have h1 : (Γ ++ Δ)[Γ.length + i]? = some (.cel c) := by rw [List.getElem?_append_right (by omega), Nat.add_sub_cancel_left]; exact h
    obtain ⟨l, o, e1, e2, e3, e4⟩ := E.cel _ c h1
    have e1' : τ[i]? = some (some (.ref l)) := by rw [List.getElem?_append_right (by omega)] at e1; rw [← e1]; congr 1; omega
    refine ⟨l, o, e1', e2, e3, e4, fun ⟨j, d, q1, q2⟩ => ?_⟩
    have hj := (List.getElem?_eq_some_iff.mp q1).1
    have := E.sep j (Γ.length + i) d c l (pre_get q1) h1 (pre_get q2) e1
    omega
  refine ⟨by rw [List.length_append, List.length_append, hl', hL], g.env.bh, fun i d h => ?_, fun i c h => ?_, fun i j c d l h1 h2 h3 h4 => ?_⟩
  · rcases app_get h with h | ⟨hi, h⟩
    · obtain ⟨v, e1, e2⟩ := g.env.val i d h
      exact ⟨v, pre_get e1, e2⟩
    · have h1 : (Γ ++ Δ)[Γ.length + (i - Γ'.length)]? = some (.val d) := by rw [List.getElem?_append_right (by omega), Nat.add_sub_cancel_left]; exact h
      obtain ⟨v, e1, e2⟩ := E.val _ d h1
      refine ⟨v, ?_, e2.mono g.mv.bb⟩
      rw [List.getElem?_append_right (by omega)] at e1
      rw [List.getElem?_append_right (by omega), ← e1]; congr 1; omega
  · rcases app_get h with h | ⟨hi, h⟩
    · obtain ⟨l, o, e1, e2⟩ := g.env.cel i c h
      exact ⟨l, o, pre_get e1, e2⟩
    · obtain ⟨l, o, e1, e2, e3, e4, e5⟩ := cell h
      refine ⟨l, o, ?_, g.mv.kp l o e5 e2, g.mv.off l e5 (by rw [e2]; exact fun z => nomatch z) e3, e4.mono g.mv.bb⟩
      rw [List.getElem?_append_right (by omega), hl']; exact e1
  · have mix : ∀ {i j : Nat} {c d : Cn}, Γ'[i]? = some (.cel c) → Δ[j - Γ'.length]? = some (.cel d) → Γ'.length ≤ j → (σ' ++ τ)[i]? = some (some (.ref l)) → (σ' ++ τ)[j]? = some (some (.ref l)) → False := fun {i j c d} h1 h2 hj h3 h4 => by
      have hi := (List.getElem?_eq_some_iff.mp h1).1
      rw [List.getElem?_append_left (by omega)] at h3
      rw [List.getElem?_append_right (by omega), hl'] at h4
      obtain ⟨l', o, e1, e2, e3, e4, e5⟩ := cell h2
      rw [h4] at e1; cases e1
      rcases g.new l ⟨i, c, h1, h3⟩ with z | z
      · exact e5 z
      · rw [z] at e2; cases e2
    rcases app_get h1 with a1 | ⟨i1, a1⟩
    · rcases app_get h2 with a2 | ⟨i2, a2⟩
      · have b1 := (List.getElem?_eq_some_iff.mp a1).1
        have b2 := (List.getElem?_eq_some_iff.mp a2).1
        rw [List.getElem?_append_left (by omega)] at h3 h4
        exact g.env.sep i j c d l a1 a2 h3 h4
      · exact (mix a1 a2 i2 h3 h4).elim
    · rcases app_get h2 with a2 | ⟨i2, a2⟩
      · exact (mix a2 a1 i1 h4 h3).elim
      · have c1 : (Γ ++ Δ)[Γ.length + (i - Γ'.length)]? = some (.cel c) := by rw [List.getElem?_append_right (by omega), Nat.add_sub_cancel_left]; exact a1
        have c2 : (Γ ++ Δ)[Γ.length + (j - Γ'.length)]? = some (.cel d) := by rw [List.getElem?_append_right (by omega), Nat.add_sub_cancel_left]; exact a2
        rw [List.getElem?_append_right (by omega)] at h3 h4
        have d1 : (σ ++ τ)[Γ.length + (i - Γ'.length)]? = some (some (.ref l)) := by rw [List.getElem?_append_right (by omega), ← h3]; congr 1; omega
        have d2 : (σ ++ τ)[Γ.length + (j - Γ'.length)]? = some (some (.ref l)) := by rw [List.getElem?_append_right (by omega), ← h4]; congr 1; omega
        have := E.sep _ _ c d l c1 c2 d1 d2
        omega
theorem env_un (E : Env K B H σ Γ) : Env K B H (σ ++ [none]) (Γ ++ [.un]) := by
  have up : ∀ {i : Nat} {s : Sl}, (Γ ++ [.un])[i]? = some s → s ≠ .un → Γ[i]? = some s := fun {i s} h hs => by
    rcases app_get h with h | ⟨hi, h⟩
    · exact h
    · cases q : i - Γ.length with
      | zero => rw [q] at h; cases h; exact absurd rfl hs
      | succ j => rw [q] at h; simp at h
  have dn : ∀ {i : Nat} {s : Sl} {x : Option V}, Γ[i]? = some s → (σ ++ [none])[i]? = some x → σ[i]? = some x := fun {i s x} h e => by
    have := (List.getElem?_eq_some_iff.mp h).1
    rw [List.getElem?_append_left (by rw [E.len]; exact this)] at e; exact e
  refine ⟨by rw [List.length_append, List.length_append, E.len]; rfl, E.bh, fun i d h => ?_, fun i c h => ?_, fun i j c d l h1 h2 h3 h4 => ?_⟩
  · obtain ⟨v, e1, e2⟩ := E.val i d (up h (fun z => nomatch z))
    exact ⟨v, pre_get e1, e2⟩
  · obtain ⟨l, o, e1, e2⟩ := E.cel i c (up h (fun z => nomatch z))
    exact ⟨l, o, pre_get e1, e2⟩
  · have a1 := up h1 (fun z => nomatch z)
    have a2 := up h2 (fun z => nomatch z)
    exact E.sep i j c d l a1 a2 (dn a1 h3) (dn a2 h4)
end
structure Mj (K : PySem.W.Frag) (C x dx : Addr) (σ τ : L2.St) (B H : Hp) (Γ Δ : List Sl) (ns : List Str) : Prop where
  len : σ.length = Γ.length
  env : Env K B H (σ ++ τ) (Γ ++ Δ)
  sl : σ[0]? = some (some (.ref x))
  un : Γ[0]? = some .un
  no : ¬ Own (σ ++ τ) (Γ ++ Δ) x
  fs : ∃ vs : List V, τ = vs.map some ∧ H x = some (.ins C dx (ns.zip vs)) ∧ vs.length = ns.length
  bx : B x = none
structure GoJ (K : PySem.W.Frag) (C x dx : Addr) (σ τ : L2.St) (B H : Hp) (Γ Δ : List Sl) (σ' τ' : L2.St) (B' H' : Hp) (Γ' Δ' : List Sl) (ns' : List Str) : Prop where
  mv : Mv (fun a => Own (σ ++ τ) (Γ ++ Δ) a ∨ a = x) B H B' H'
  new : ∀ a, Own (σ' ++ τ') (Γ' ++ Δ') a → Own (σ ++ τ) (Γ ++ Δ) a ∨ H a = none
  mg : Mj K C x dx σ' τ' B' H' Γ' Δ' ns'
section
variable {K : PySem.W.Frag} {C x dx : Addr} {σ τ σ1 τ1 σ2 τ2 : L2.St} {B H B1 H1 B2 H2 : Hp} {Γ Δ Γ1 Δ1 Γ2 Δ2 : List Sl} {ns ns1 ns2 : List Str} {pin : List Nat}
theorem Mj.hx (M : Mj K C x dx σ τ B H Γ Δ ns) : H x ≠ none := by
  obtain ⟨vs, _, h, _⟩ := M.fs
  rw [h]; exact fun z => nomatch z
theorem GoJ.trans (a : GoJ K C x dx σ τ B H Γ Δ σ1 τ1 B1 H1 Γ1 Δ1 ns1) (b : GoJ K C x dx σ1 τ1 B1 H1 Γ1 Δ1 σ2 τ2 B2 H2 Γ2 Δ2 ns2) : GoJ K C x dx σ τ B H Γ Δ σ2 τ2 B2 H2 Γ2 Δ2 ns2 :=
  ⟨a.mv.trans (fun c hc => hc.elim (fun h => (a.new c h).imp .inl id) fun h => .inl (.inr h)) b.mv, fun c h => (b.new c h).elim (fun z => a.new c z) fun z => (a.mv.back z).elim (fun q => q.elim .inl fun e => by
    subst e
    exact absurd z a.mg.hx) .inr, b.mg⟩
theorem GoJ.refl (M : Mj K C x dx σ τ B H Γ Δ ns) : GoJ K C x dx σ τ B H Γ Δ σ τ B H Γ Δ ns := ⟨Mv.refl _ _ _, fun _ h => .inl h, M⟩
theorem GoJ.of (M : Mj K C x dx σ τ B H Γ Δ ns) (g : GoS K pin σ B H Γ σ1 B1 H1 Γ1) (hp : 0 ∈ pin) (hu : Γ1[0]? = some .un) : GoJ K C x dx σ τ B H Γ Δ σ1 τ B1 H1 Γ1 Δ ns := by
  have no : ¬ Own σ Γ x := fun z => M.no (own_pre z)
  have hL : τ.length = Δ.length := by have := M.env.len; rw [List.length_append, List.length_append] at this; have := M.len; omega
  have new : ∀ a, Own (σ1 ++ τ) (Γ1 ++ Δ) a → Own (σ ++ τ) (Γ ++ Δ) a ∨ H a = none := fun a ⟨i, c, h1, h2⟩ => by
    have hl1 := g.env.len
    rcases app_get h1 with h1 | ⟨hi, h1⟩
    · have := (List.getElem?_eq_some_iff.mp h1).1
      rw [List.getElem?_append_left (by omega)] at h2
      exact (g.new a ⟨i, c, h1, h2⟩).imp own_pre id
    · rw [List.getElem?_append_right (by omega), hl1] at h2
      refine .inl ⟨Γ.length + (i - Γ1.length), c, ?_, ?_⟩
      · rw [List.getElem?_append_right (by omega), Nat.add_sub_cancel_left]; exact h1
      · rw [List.getElem?_append_right (by have := M.len; omega), ← h2]; congr 1; have := M.len; omega
  obtain ⟨vs, e1, e2, e3⟩ := M.fs
  refine ⟨⟨fun a o na e => g.mv.kp a o (fun z => na (.inl (own_pre z))) e, g.mv.bb, fun a na ha hb => g.mv.off a (fun z => na (.inl (own_pre z))) ha hb⟩, new, ⟨g.env.len, env_ext M.env M.len g, ?_, hu, fun z => ?_, ⟨vs, e1, g.mv.kp x _ no e2, e3⟩, g.mv.off x no M.hx M.bx⟩⟩
  · rw [g.pin 0 hp]; exact M.sl
  · rcases new x z with z | z
    · exact M.no z
    · exact M.hx z
theorem GoJ.put (M : Mj K C x dx σ τ B H Γ Δ ns) {j : Nat} {ds es : List Dt} {l : Addr} {ys : List V} (h : Δ[j]? = some (.acc ds)) (hl : τ[j]? = some (some (.ref l))) (ha : IsA K B ys es) :
    GoJ K C x dx σ τ B H Γ Δ σ τ B (upd H l (.lst ys)) Γ (Δ.set j (.acc es)) ns := by
  have h' : (Γ ++ Δ)[Γ.length + j]? = some (.acc ds) := by rw [List.getElem?_append_right (by omega), Nat.add_sub_cancel_left]; exact h
  have hl' : (σ ++ τ)[Γ.length + j]? = some (some (.ref l)) := by rw [List.getElem?_append_right (by have := M.len; omega), M.len, Nat.add_sub_cancel_left]; exact hl
  have g := Go.put M.env h' hl' ha
  have es' : (Γ ++ Δ).set (Γ.length + j) (.acc es) = Γ ++ Δ.set j (.acc es) := by
    rw [List.set_append_right _ _ (by omega), Nat.add_sub_cancel_left]
  rw [es'] at g
  have own : Own (σ ++ τ) (Γ ++ Δ) l := ⟨_, _, h', hl'⟩
  have nx : x ≠ l := fun z => by subst z; exact M.no own
  obtain ⟨vs, e1, e2, e3⟩ := M.fs
  exact ⟨⟨fun a o na e => g.mv.kp a o (fun z => na (.inl z)) e, g.mv.bb, fun a na ha hb => g.mv.off a (fun z => na (.inl z)) ha hb⟩, fun a z => .inl (g.sub a z), ⟨M.len, g.env, M.sl, M.un, fun z => M.no (g.sub x z), ⟨vs, e1, by rw [upd_ne nx]; exact e2, e3⟩, M.bx⟩⟩
theorem zip_get {ns : List Str} {vs : List V} {f : Str} {j : Nat} {v : V} (hj : ns[j]? = some f) (hn : ∀ i, i < j → ∀ g, ns[i]? = some g → ¬ f = g) (hv : vs[j]? = some v) : (ns.zip vs).lookup f = some v := by
  induction ns generalizing vs j with
  | nil => simp at hj
  | cons n r ih =>
    cases vs with
    | nil => simp at hv
    | cons u us =>
      cases j with
      | zero =>
        simp at hj hv; subst hj hv
        have hb : (n == n) = true := beq_iff_eq.mpr rfl
        simp only [List.zip_cons_cons, List.lookup, hb]
      | succ j =>
        have hne := hn 0 (by omega) n rfl
        have hb : (f == n) = false := beq_eq_false_iff_ne.mpr hne
        simp only [List.zip_cons_cons, List.lookup, hb]
        exact ih (by simpa using hj) (fun i hi g hg => hn (i + 1) (by omega) g (by simpa using hg)) (by simpa using hv)
theorem putF_zip {f : Str} {v : V} : ∀ {ns : List Str} {vs : List V}, ns.length = vs.length → (∀ g ∈ ns, ¬ g = f) → putF f v (ns.zip vs) = (ns ++ [f]).zip (vs ++ [v])
  | [], [], _, _ => rfl
  | [], _ :: _, h, _ => by simp at h
  | _ :: _, [], h, _ => by simp at h
  | n :: r, u :: us, h, hn => by
    show putF f v ((n, u) :: r.zip us) = _
    unfold putF
    rw [if_neg (hn n List.mem_cons_self), putF_zip (by simpa using h) fun g hg => hn g (List.mem_cons_of_mem _ hg)]
    rfl
end
def WJ (K : PySem.W.Frag) (C : Addr) (t : TS) (Γ Δ : List Sl) (ns : List Str) (P : List Sl → List Sl → List Str → Prop) : Prop := ∀ σ τ B H (D : Ends) x dx, Mj K C x dx σ τ B H Γ Δ ns →
  (∀ σ' τ' B' H' Γ' Δ' ns', GoJ K C x dx σ τ B H Γ Δ σ' τ' B' H' Γ' Δ' ns' → P Γ' Δ' ns' → D.nx σ' H') → t D σ H
section
variable {K : PySem.W.Frag} {C : Addr} {Γ Δ : List Sl} {ns : List Str} {P : List Sl → List Sl → List Str → Prop} {t u tb : TS} {te : TE} {g : TG}
theorem wj_seq (h : WJ K C t Γ Δ ns fun G D n => WJ K C u G D n P) : WJ K C (tSeq t u) Γ Δ ns P := fun σ τ B H D x dx M n =>
  h σ τ B H { D with nx := u D } x dx M fun σ1 τ1 B1 H1 Γ1 Δ1 ns1 g p => p σ1 τ1 B1 H1 D x dx g.mg fun σ2 τ2 B2 H2 Γ2 Δ2 ns2 g2 p2 => n σ2 τ2 B2 H2 Γ2 Δ2 ns2 (g.trans g2) p2
theorem wj_set {f : Str} (cl : Cls K C) (na : NoAttr K C f) (hn : ∀ g ∈ ns, ¬ g = f) (hz : ns.length < 900)
    (h : WE K te Γ fun r Γ1 => Γ1[0]? = some .un ∧ ((∃ d, r = .val d ∧ P Γ1 (Δ ++ [.val d]) (ns ++ [f])) ∨ ∃ c, r = .nw c ∧ P Γ1 (Δ ++ [.cel c]) (ns ++ [f]))) : WJ K C (sFld K (tVar 0) te f) Γ Δ ns P := fun σ τ B H D x dx M n => by
  refine h σ B H (env_pre M.env M.len) _ fun y B1 H1 r Γ1 g k p => ?_
  obtain ⟨h0, p⟩ := p
  have G := GoJ.of (pin := [0]) M g.s (by simp) h0
  obtain ⟨vs, e1, e2, e3⟩ := G.mg.fs
  have hxn := G.mg.hx
  refine ⟨.ref x, M.sl, x, C, dx, _, rfl, e2, cl, na, by rw [List.length_zip, e3, Nat.min_self]; omega, ?_⟩
  rw [putF_zip (by omega) hn]
  -- the slot of the new field
  have E1 := env_un G.mg.env
  have hlen : (Γ1 ++ Δ).length < ((Γ1 ++ Δ) ++ [Sl.un]).length := by rw [List.length_append (as := Γ1 ++ Δ)]; simp
  have sset : ∀ {α : Type} (a : List α) (u v : α), (a ++ [u]).set a.length v = a ++ [v] := fun a u v => by rw [List.set_append_right _ _ (Nat.le_refl _), Nat.sub_self]; rfl
  have lenE : (σ ++ τ).length = (Γ1 ++ Δ).length := G.mg.env.len
  -- the instance is changed beside all that
  have upE : ∀ {σ2 Γ2 B2}, Env K B2 H1 σ2 Γ2 → B2 x = none → ¬ Own σ2 Γ2 x → Env K B2 (upd H1 x (.ins C dx ((ns ++ [f]).zip (vs ++ [y])))) σ2 Γ2 := fun {σ2 Γ2 B2} E bx nx => by
    refine ⟨E.len, fun a o e => ?_, E.val, fun i es hi => ?_, E.sep⟩
    · have : a ≠ x := fun z => by subst z; rw [bx] at e; cases e
      rw [upd_ne this]; exact E.bh a o e
    · obtain ⟨l, o, q1, q2, q3⟩ := E.cel i es hi
      have : l ≠ x := fun z => nx (by subst z; exact ⟨i, es, hi, q1⟩)
      exact ⟨l, o, q1, by rw [upd_ne this]; exact q2, q3⟩
  have fin : ∀ (s : Sl), Env K B1 H1 ((σ ++ τ) ++ [some y]) ((Γ1 ++ Δ) ++ [s]) → ¬ Own ((σ ++ τ) ++ [some y]) ((Γ1 ++ Δ) ++ [s]) x → (∀ a, Own ((σ ++ τ) ++ [some y]) ((Γ1 ++ Δ) ++ [s]) a → Own (σ ++ τ) (Γ ++ Δ) a ∨ H a = none) → P Γ1 (Δ ++ [s]) (ns ++ [f]) → D.nx σ (upd H1 x (.ins C dx ((ns ++ [f]).zip (vs ++ [y])))) := fun s E2 no2 new2 p => by
    have E3 := upE E2 G.mg.bx no2
    rw [List.append_assoc, List.append_assoc] at E3 no2
    simp only [List.append_assoc] at new2
    refine n σ (τ ++ [some y]) B1 _ Γ1 (Δ ++ [s]) (ns ++ [f]) ⟨⟨fun a o na' e => ?_, G.mv.bb, fun a na' ha hb => G.mv.off a na' ha hb⟩, new2, ⟨G.mg.len, E3, M.sl, h0, no2, ⟨vs ++ [y], by rw [e1, List.map_append]; rfl, upd_same, by rw [List.length_append, List.length_append, e3]; rfl⟩, G.mg.bx⟩⟩ p
    have h2 : a ≠ x := fun z => na' (.inr z)
    rw [upd_ne h2]; exact G.mv.kp a o na' e
  rcases p with ⟨d, rfl, p⟩ | ⟨c, rfl, p⟩
  · have E2 := E1.setV (i := (Γ1 ++ Δ).length) (d := d) (v := y) hlen k
    rw [sset, ← lenE, sset] at E2
    have sub : ∀ a, Own ((σ ++ τ) ++ [some y]) ((Γ1 ++ Δ) ++ [.val d]) a → Own (σ ++ τ) (Γ1 ++ Δ) a := fun a ⟨i, c, h1, h2⟩ => by
      rcases app_get h1 with q | ⟨hi, q⟩
      · have := (List.getElem?_eq_some_iff.mp q).1
        rw [List.getElem?_append_left (by omega)] at h2
        exact ⟨i, c, q, h2⟩
      · cases hq : i - (Γ1 ++ Δ).length with
        | zero => rw [hq] at q; cases q
        | succ m => rw [hq] at q; simp at q
    exact fin _ E2 (fun z => G.mg.no (sub x z)) (fun a z => G.new a (sub a z)) p
  · obtain ⟨l, o, rfl, k1, k2, k3, k4, k5⟩ := k
    have nol : ¬ Own (σ ++ τ) (Γ1 ++ Δ) l := fun ⟨i, cc, h1, h2⟩ => by
      rcases app_get h1 with q | ⟨hi, q⟩
      · have := (List.getElem?_eq_some_iff.mp q).1
        rw [List.getElem?_append_left (by have := G.mg.len; omega)] at h2
        exact k2 ⟨i, cc, q, h2⟩
      · -- a field's cell is neither of the frame's nor new
        have hln := G.mg.len
        rw [List.getElem?_append_right (by omega)] at h2
        have c1 : (Γ ++ Δ)[Γ.length + (i - Γ1.length)]? = some (.cel cc) := by rw [List.getElem?_append_right (by omega), Nat.add_sub_cancel_left]; exact q
        have c2 : (σ ++ τ)[Γ.length + (i - Γ1.length)]? = some (some (.ref l)) := by rw [List.getElem?_append_right (by have := M.len; omega), ← h2]; congr 1; have := M.len; omega
        rcases k1 with k1 | k1
        · obtain ⟨m, dd, m1, m2⟩ := k1
          have hm := (List.getElem?_eq_some_iff.mp m1).1
          have := M.env.sep m _ dd cc l (pre_get m1) c1 (pre_get m2) c2
          omega
        · obtain ⟨l', o', f1, f2, _⟩ := M.env.cel _ cc c1
          rw [c2] at f1; cases f1
          rw [k1] at f2; cases f2
    have E2 := E1.setA (i := (Γ1 ++ Δ).length) (l := l) (vs := o) (ds := c) hlen (fun z => nol (by
      obtain ⟨i, cc, h1, h2⟩ := z
      rcases app_get h1 with q | ⟨hi, q⟩
      · have := (List.getElem?_eq_some_iff.mp q).1
        rw [List.getElem?_append_left (by omega)] at h2
        exact ⟨i, cc, q, h2⟩
      · cases hq : i - (Γ1 ++ Δ).length with
        | zero => rw [hq] at q; cases q
        | succ m => rw [hq] at q; simp at q)) k3 k4 k5
    rw [sset, ← lenE, sset] at E2
    have sub : ∀ a, Own ((σ ++ τ) ++ [some (V.ref l)]) ((Γ1 ++ Δ) ++ [.cel c]) a → Own (σ ++ τ) (Γ1 ++ Δ) a ∨ a = l := fun a ⟨i, cc, h1, h2⟩ => by
      rcases app_get h1 with q | ⟨hi, q⟩
      · have := (List.getElem?_eq_some_iff.mp q).1
        rw [List.getElem?_append_left (by omega)] at h2
        exact .inl ⟨i, cc, q, h2⟩
      · cases hq : i - (Γ1 ++ Δ).length with
        | zero =>
          rw [List.getElem?_append_right (by omega), lenE, hq] at h2
          cases h2; exact .inr rfl
        | succ m => rw [hq] at q; simp at q
    refine fin _ E2 (fun z => ?_) (fun a z => ?_) p
    · rcases sub x z with z | z
      · exact G.mg.no z
      · subst z
        obtain ⟨vs', _, q, _⟩ := G.mg.fs
        rw [q] at k3; cases k3
        cases c <;> (obtain ⟨_, z, _⟩ := k5; cases z)
    · rcases sub a z with z | z
      · exact G.new a z
      · subst z
        exact k1.imp own_pre id
end
section
variable {K : PySem.W.Frag} {C : Addr} {Γ Δ : List Sl} {ns : List Str} {P : List Sl → List Sl → List Str → Prop} {Post : Dt → List Sl → Prop} {t u tb : TS} {te ta tb' : TE} {g : TG} {f : Str} {j : Nat}
theorem Mj.cell {x dx : Addr} {σ τ : L2.St} {B H : Hp} {ds : List Dt} (M : Mj K C x dx σ τ B H Γ Δ ns) (hf : ns[j]? = some f) (hn : ∀ i, i < j → ∀ g, ns[i]? = some g → ¬ f = g) (h : Δ[j]? = some (.acc ds)) :
    ∃ l vs fs, τ[j]? = some (some (.ref l)) ∧ H l = some (.lst vs) ∧ IsA K B vs ds ∧ H x = some (.ins C dx fs) ∧ fs.lookup f = some (.ref l) := by
  have h' : (Γ ++ Δ)[Γ.length + j]? = some (.acc ds) := by rw [List.getElem?_append_right (by omega), Nat.add_sub_cancel_left]; exact h
  obtain ⟨l, vs, e1, e2, e3, e4⟩ := M.env.acc _ _ h'
  rw [List.getElem?_append_right (by have := M.len; omega), M.len, Nat.add_sub_cancel_left] at e1
  obtain ⟨us, f1, f2, f3⟩ := M.fs
  have hu : us[j]? = some (.ref l) := by
    rw [f1, List.getElem?_map] at e1
    cases q : us[j]? with
    | none => rw [q] at e1; cases e1
    | some u => rw [q] at e1; cases e1; rfl
  exact ⟨l, vs, _, e1, e2, e4, f2, zip_get hf hn hu⟩
def fdt : Sl → Dt
  | .val d => d
  | .cel c => c.dt
  | .un => .non
def frzS : Sl → Sl
  | .cel c => .val c.dt
  | s => s
end
theorem go_frzN {K : PySem.W.Frag} {σ : L2.St} {B H : Hp} {G : List Sl} (E : Env K B H σ G) : ∀ n, n ≤ G.length → ∃ B', Go K σ B H G B' H ((G.take n).map frzS ++ G.drop n)
  | 0, _ => ⟨B, by rw [List.take_zero, List.drop_zero]; exact .refl E⟩
  | n + 1, h => by
    obtain ⟨B1, g⟩ := go_frzN E n (by omega)
    have hd : G.drop n = G[n] :: G.drop (n + 1) := List.drop_eq_getElem_cons (by omega)
    have ht : G.take (n + 1) = G.take n ++ [G[n]] := by rw [List.take_succ, List.getElem?_eq_getElem (by omega)]; rfl
    have hl : ((G.take n).map frzS).length = n := by rw [List.length_map, List.length_take]; omega
    have hat : ((G.take n).map frzS ++ G.drop n)[n]? = some G[n] := by
      rw [List.getElem?_append_right (by omega), hl, Nat.sub_self, hd]; rfl
    have hset : ∀ s, ((G.take n).map frzS ++ G.drop n).set n s = (G.take n).map frzS ++ (s :: G.drop (n + 1)) := fun s => by
      rw [List.set_append_right _ _ (by omega), hl, Nat.sub_self, hd]; rfl
    rw [ht, List.map_append, List.append_assoc]
    cases hs : G[n] with
    | cel c =>
      rw [hs] at hat
      obtain ⟨B2, g2⟩ := go_frz hat g.env
      rw [hset] at g2
      exact ⟨B2, g.trans g2⟩
    | val d => rw [hd, hs] at g; exact ⟨B1, g⟩
    | un => rw [hd, hs] at g; exact ⟨B1, g⟩
theorem zip_some {α β : Type} (f : Str) : ∀ {ns : List Str} {as : List α} {bs : List β}, as.length = ns.length → bs.length = ns.length → ((ns.zip as).lookup f).isSome = ((ns.zip bs).lookup f).isSome
  | [], _, _, _, _ => rfl
  | _ :: _, [], _, h, _ => by simp at h
  | _ :: _, _ :: _, [], _, h => by simp at h
  | n :: r, a :: as, b :: bs, h, h' => by
    simp only [List.zip_cons_cons, List.lookup]
    cases f == n with
    | true => rfl
    | false => exact zip_some f (by simpa using h) (by simpa using h')
theorem zip_both {α β : Type} (f : Str) : ∀ {ns : List Str} {as : List α} {bs : List β} {a : α} {b : β}, (ns.zip as).lookup f = some a → (ns.zip bs).lookup f = some b → ∃ i : Nat, as[i]? = some a ∧ bs[i]? = some b
  | [], _, _, _, _, h, _ => by simp [List.lookup] at h
  | _ :: _, [], _, _, _, h, _ => by simp [List.lookup] at h
  | _ :: _, _ :: _, [], _, _, _, h => by simp [List.lookup] at h
  | n :: r, a :: as, b :: bs, x, y, h, h' => by
    simp only [List.zip_cons_cons, List.lookup] at h h'
    cases hq : f == n with
    | true => rw [hq] at h h'; cases h; cases h'; exact ⟨0, rfl, rfl⟩
    | false =>
      rw [hq] at h h'
      obtain ⟨i, e1, e2⟩ := zip_both f h h'
      exact ⟨i + 1, e1, e2⟩
theorem fn_initJ {K : PySem.W.Frag} {C : Addr} {Pg : Program} {w : World} {mg : Str → Option Value} {base : Heap} {x qual : Str} {st : Stmt} {f : Addr} {fd : FuncData} {N ps : List Str} {k : Nat} {ai : AI} (F : Fun K x qual st f fd) (S : FnScope N ps (defScope st))
    (hlen : ∀ ds Post, ai ds Post → ds.length + 1 = ps.length) (hN : decide (ps.length ≤ N.length) = true)
    (body : ∀ (cdv : Value) (A : Around) (outer : List PySem.Env) (s : Shared) (H : Hp) (E : XK), Room k (A.deeper (PyProof.Rows.envOfC qual (defScope st) s.heap.objs.size f cdv)) →
      ∃ t, PSs (cxOf CX0 Pg w K mg base N qual (defScope st) f cdv A outer s H E).nox (defBody st) t ∧
        ∀ ds Post, ai ds Post → WJ K C t ((.un :: ds.map Sl.val) ++ List.replicate (N.length - (ds.length + 1)) .un) [] [] (fun _ D ns => (∀ s ∈ D, s ≠ .un) ∧ Post (ns.zip (D.map fdt)))) :
    FnOk Pg w K mg base CX0 (k + 1) f fd ps (toSpI K C ai) := by
  refine F.ok S (fun vs H Q E h => ?_) (fun cdv A outer s H vs Q E hr h => ?_)
  · obtain ⟨x, dx, ws, B, ds, Post, rfl, _, _, _, ha, hai, _⟩ := h
    rw [List.length_cons, ha.len]; exact hlen ds Post hai
  · obtain ⟨x, dx, ws, B, ds, Post, rfl, hx, bx, hbh, ha, hai, q⟩ := h
    obtain ⟨t, ht, hw⟩ := body cdv A outer s H E hr
    refine ⟨t, ht, ?_⟩
    have E1 : Env K B H ((V.ref x :: ws).map some) (.un :: ds.map Sl.val) := by
      have e := env_vals hbh ha
      refine ⟨by simp [ha.len], hbh, fun i d h => ?_, fun i es h => ?_, fun i j es fs l h1 h2 h3 h4 => ?_⟩
      · cases i with
        | zero => cases h
        | succ i => exact e.val i d (by simpa using h)
      · cases i with
        | zero => cases h
        | succ i => exact e.cel i es (by simpa using h)
      · cases i with
        | zero => cases h1
        | succ i =>
          cases j with
          | zero => cases h2
          | succ j => exact congrArg Nat.succ (e.sep i j es fs l (by simpa using h1) (by simpa using h2) (by simpa using h3) (by simpa using h4))
    have hps : (Sl.un :: ds.map Sl.val).length ≤ N.length := by
      rw [List.length_cons, List.length_map, hlen ds Post hai]; exact of_decide_eq_true hN
    have E0 := env_start E1 hps
    have no : ∀ a, ¬ Own (L2.start N (V.ref x :: ws)) ((Sl.un :: ds.map Sl.val) ++ List.replicate (N.length - (Sl.un :: ds.map Sl.val).length) .un) a := fun a z => by
      have := (own_start (N := N) (vs := V.ref x :: ws) (as := Sl.un :: ds.map Sl.val) (by simp [ha.len])).mp z
      obtain ⟨i, es, h1, h2⟩ := this
      cases i with
      | zero => cases h1
      | succ i =>
        have h1 : (ds.map Sl.val)[i]? = some (.cel es) := by simpa using h1
        rw [List.getElem?_map] at h1
        cases q : ds[i]? with
        | none => rw [q] at h1; cases h1
        | some d => rw [q] at h1; cases h1
    have hlN : (Sl.un :: ds.map Sl.val).length = ds.length + 1 := by rw [List.length_cons, List.length_map]
    rw [hlN] at E0 no
    have nn : ∀ {α : Type} (l : List α), l ++ [] = l := fun l => List.append_nil l
    refine hw ds Post hai (L2.start N (V.ref x :: ws)) [] B H _ x dx ⟨E0.len, by rw [nn, nn]; exact E0, rfl, rfl, by rw [nn, nn]; exact no x, ⟨[], rfl, hx, rfl⟩, bx⟩ fun σ' τ' B' H' Γ' Δ' ns' g p => ?_
    obtain ⟨hu, p⟩ := p
    obtain ⟨vs, e1, e2, e3⟩ := g.mg.fs
    obtain ⟨B2, g2⟩ := go_frzN g.mg.env (Γ' ++ Δ').length (Nat.le_refl _)
    rw [List.take_length, List.drop_length, nn, List.map_append] at g2
    have hL : τ'.length = Δ'.length := by have := g.mg.env.len; rw [List.length_append, List.length_append] at this; have := g.mg.len; omega
    have hV : vs.length = Δ'.length := by rw [← hL, e1, List.length_map]
    have no' : ∀ a, Own (L2.start N (V.ref x :: ws) ++ []) ((Sl.un :: ds.map Sl.val) ++ List.replicate (N.length - (ds.length + 1)) .un ++ []) a → False := fun a z => no a (by rw [nn, nn] at z; exact z)
    refine q B2 H' _ _ ⟨fun a o na e => g.mv.kp a o (fun z => z.elim (no' a) na) e, g.mv.bb.trans g2.mv.bb, fun a na ha hb => ?_⟩ g2.env.bh e2 (g2.mv.off x g.mg.no (by rw [e2]; exact fun z => nomatch z) g.mg.bx) ⟨?_, fun f => zip_some f e3 (by rw [List.length_map, ← hV, e3]), fun f v d h1 h2 => ?_⟩ p
    · have h' := g.mv.off a (fun z => z.elim (no' a) na) ha hb
      refine g2.mv.off a (fun z => ?_) (fun z => ?_) h'
      · rcases g.new a z with z | z
        · exact no' a z
        · exact ha z
      · cases q : H a with
        | none => exact ha q
        | some o => rw [g.mv.kp a o (fun z => z.elim (no' a) na) q] at z; cases z
    · rw [List.length_zip, List.length_zip, List.length_map, hV]
      exact Nat.le_refl _
    · obtain ⟨i, a1, a2⟩ := zip_both f h1 h2
      rw [List.getElem?_map] at a2
      cases hs : Δ'[i]? with
      | none => rw [hs] at a2; cases a2
      | some s =>
        rw [hs] at a2
        have hd : fdt s = d := by simpa using a2
        have hsu := hu s (List.mem_of_getElem? hs)
        have hat : (Γ'.map frzS ++ Δ'.map frzS)[Γ'.length + i]? = some (.val d) := by
          rw [List.getElem?_append_right (by rw [List.length_map]; omega), List.length_map, Nat.add_sub_cancel_left, List.getElem?_map, hs]
          cases s with
          | un => exact absurd rfl hsu
          | val e => rw [← hd]; rfl
          | cel c => rw [← hd]; rfl
        obtain ⟨u, q1, q2⟩ := g2.env.val _ d hat
        rw [List.getElem?_append_right (by have := g.mg.len; omega), g.mg.len, Nat.add_sub_cancel_left, e1, List.getElem?_map, a1] at q1
        cases q1
        exact q2
end Ab

namespace Ab
open PySem L2 PySem.Spec PyProof.Rows
def atN {β : Type} (xs : List (NestedKey × Addr × β)) (k : NestedKey) : Option β := (xs.find? fun x => decide (x.1 = k)).map (·.2.2)
def putN (xs : List (NestedKey × Addr × V)) (k : NestedKey) (b : Addr) (v : V) : List (NestedKey × Addr × V) :=
  if (atN xs k).isSome then xs.map (fun x => if x.1 = k then (x.1, x.2.1, v) else x) else xs ++ [(k, b, v)]
theorem length_putN (xs : List (NestedKey × Addr × V)) (k : NestedKey) (b : Addr) (v : V) : (putN xs k b v).length ≤ xs.length + 1 := by
  unfold putN; split <;> simp
abbrev KN : List (NestedKey × Addr × V) → List (NestedKey × Addr × Value) → Prop := Paired fun p q => p.1 = q.1 ∧ p.2.1 = q.2.1 ∧ RelV p.2.2 q.2.2
theorem KN.val {xs : List (NestedKey × Addr × V)} {ys : List (NestedKey × Addr × Value)} (r : KN xs ys) (k : NestedKey) : RelO (atN xs k) ((atKey ys k).map (·.2)) := by
  induction r with
  | nil => exact True.intro
  | @cons p q ps qs h t ih =>
    obtain ⟨h1, _, h2⟩ := h
    by_cases e : p.1 = k
    · have e' : q.1 = k := h1.symm.trans e
      have b : atKey (q :: qs) k = some q.2 := by simp [atKey, List.find?_cons, e']
      have a : atN (p :: ps) k = some p.2.2 := by simp [atN, List.find?_cons, e]
      rw [a, b]; exact h2
    · have e' : ¬ q.1 = k := fun z => e (h1.trans z)
      have b : atKey (q :: qs) k = atKey qs k := by simp [atKey, List.find?_cons, e']
      have a : atN (p :: ps) k = atN ps k := by simp [atN, List.find?_cons, e]
      rw [a, b]; exact ih
theorem KN.repl {xs : List (NestedKey × Addr × V)} {ys : List (NestedKey × Addr × Value)} (r : KN xs ys) (k : NestedKey) {y : V} {u : Value} (ry : RelV y u) :
    KN (xs.map fun x => if x.1 = k then (x.1, x.2.1, y) else x) (ys.map (putAt k u)) := by
  induction r with
  | nil => exact .nil
  | @cons p q ps qs h t ih =>
    rw [List.map_cons, List.map_cons]
    refine .cons ?_ ih
    obtain ⟨h1, h2, h3⟩ := h
    unfold putAt
    by_cases e : p.1 = k
    · rw [if_pos e, if_pos (h1.symm.trans e)]; exact ⟨h1, h2, ry⟩
    · rw [if_neg e, if_neg (fun z => e (h1.trans z))]; exact ⟨h1, h2, h3⟩
theorem KN.put {xs : List (NestedKey × Addr × V)} {ys : List (NestedKey × Addr × Value)} (r : KN xs ys) (k : NestedKey) (b : Addr) {y : V} {u : Value} (ry : RelV y u) : KN (putN xs k b y) (storedH ys k b u) := by
  have e : (atN xs k).isSome = (atKey ys k).isSome := by rw [(r.val k).isSome_eq, Option.isSome_map]
  unfold putN storedH
  rw [e]
  by_cases q : (atKey ys k).isSome = true
  · rw [if_pos q, if_pos q]; exact r.repl k ry
  · rw [if_neg q, if_neg q]; exact Paired.snoc r ⟨rfl, rfl, ry⟩
def KeysOk (K : PySem.W.Frag) (H : Hp) (xs : List (NestedKey × Addr × V)) : Prop := ∀ (i : Nat) x, xs[i]? = some x → Is K H (.ref x.2.1) (dtN x.1)
theorem KeysOk.mono {K : PySem.W.Frag} {H H' : Hp} {xs : List (NestedKey × Addr × V)} (e : Same H H') (h : KeysOk K H xs) : KeysOk K H' xs := fun i x q => (h i x q).mono e
theorem KeysOk.put {K : PySem.W.Frag} {H : Hp} {xs : List (NestedKey × Addr × V)} {k : NestedKey} {b : Addr} {v : V} (h : KeysOk K H xs) (hb : Is K H (.ref b) (dtN k)) : KeysOk K H (putN xs k b v) := fun i x q => by
  unfold putN at q
  split at q
  · rw [List.getElem?_map] at q
    obtain ⟨y, hy, rfl⟩ := Option.map_eq_some_iff.mp q
    have := h i y hy
    split <;> exact this
  · by_cases hi : i < xs.length
    · rw [List.getElem?_append_left hi] at q; exact h i x q
    · rw [List.getElem?_append_right (by omega)] at q
      generalize i - xs.length = j at q
      cases j with
      | zero => simp at q; subst q; exact hb
      | succ j => simp at q
section
variable {X : Cx} {pins : List (Addr × Obj)} {σ : L2.St} {H : Hp} {s : Shared}
mutual
theorem nk_of (I : Inv X pins σ H s) : ∀ (k : NestedKey) (v : V) (u : Value), Is X.K H v (dtN k) → RelV v u → NestedIs s.heap k u
  | .none, v, u, h, r => by
    rw [dtN] at h
    cases h.rawI
    cases (show u = Value.none from r)
    exact .none
  | .num i, v, u, h, r => by
    rw [dtN] at h
    cases h.rawI
    obtain ⟨t, rfl⟩ := (show ∃ t, u = Value.int i t from r)
    exact .int i t
  | .text x, v, u, h, r => by
    rw [dtN] at h
    cases h.rawI
    obtain ⟨t, rfl⟩ := (show ∃ t, u = Value.str x t from r)
    exact .text x t
  | .tup ks, v, u, h, r => by
    rw [dtN] at h
    obtain ⟨a, xs, rfl, hs, ha⟩ := h.tupR
    cases (show u = Value.ref a from r)
    obtain ⟨its, rv, ⟨o, ho, hc, n, hd⟩, _⟩ := I.tuple hs
    exact .tup ho hc hd (nks_of I ks xs its.toArray.toList ha (by simpa using rv))
theorem nks_of (I : Inv X pins σ H s) : ∀ (ks : List NestedKey) (vs : List V) (us : List Value), IsA X.K H vs (dtNs ks) → Vals vs us → NestedAll s.heap ks us
  | [], vs, us, h, r => by
    have := h.len
    rw [dtNs] at this
    cases vs with
    | nil => cases r; exact .nil
    | cons v vs => simp at this
  | k :: ks, vs, us, h, r => by
    rw [dtNs] at h
    cases vs with
    | nil => have := h.len; simp at this
    | cons v vs =>
      cases r with
      | cons r0 r1 => exact .cons (nk_of I k v _ (h.at_ 0 v _ rfl rfl) r0) (nks_of I ks vs _ (by have := h.drop 1; simpa using this) r1)
end
theorem dn_of {w : World} {a : Addr} {xs : List (NestedKey × Addr × V)} (hw : w = X.w) (I : Inv X pins σ H s) (e : H a = some (dNO w a xs)) (hq : KeysOk X.K H xs) :
    xs.length ≤ sizeLine ∧ (a == sysModules) = false ∧ (∀ x ∈ xs, x.1.depth ≤ 8) ∧ ∃ ys, KN xs ys ∧ s.heap.DictOfH (nestedKind X.prog X.w) a ys := by
  subst hw
  obtain ⟨⟨z, y, dp, ys, r, o, es, ep, h1, h2, h3, h4, h5⟩, _⟩ := (show ObjOk X.prog X.w H s.heap a (.ext (DNOk X.w a xs)) from I.hok a _ e)
  refine ⟨z, y, dp, ys, r, o, es, ep, h1, h2, h3, h4, fun x hx => ?_, h5⟩
  have all : ∀ {l : List (NestedKey × Addr × V)} {m : List (NestedKey × Addr × Value)}, KN l m → (∀ x ∈ l, x.1.depth ≤ 8) → KeysOk X.K H l → ∀ x ∈ m, (nestedKind X.prog X.w).is s.heap x.1 x.2.1 := by
    intro l m q
    induction q with
    | nil => intro _ _ x hx; exact nomatch hx
    | @cons p q ps qs hq t ih =>
      intro dl kl x hx
      rcases List.mem_cons.mp hx with e | hx
      · subst e
        refine ⟨?_, by rw [← hq.1]; exact dl p (by simp)⟩
        rw [← hq.1, ← hq.2.1]
        exact nk_of I p.1 (.ref p.2.1) _ (kl 0 p rfl) rfl
      · exact ih (fun y hy => dl y (by simp [hy])) (fun i y hy => kl (i + 1) y (by simpa using hy)) x hx
  exact all r dp hq x hx
theorem dNO_ok {P : Program} {w : World} {H : Hp} {h : Heap} {a : Addr} {xs : List (NestedKey × Addr × V)} (e : DNOk w a xs h) : ObjOk P w H h a (dNO w a xs) := by
  obtain ⟨z, y, dp, ys, r, o, es, ep, h1, h2, h3, h4, h5⟩ := e
  refine ⟨⟨z, y, dp, ys, r, o, es, ep, h1, h2, h3, h4, h5⟩, ⟨o, h1⟩, fun g1 g2 q k => ?_⟩
  obtain ⟨z, y, dp, ys, r, o, es, ep, h1, h2, h3, h4, h5⟩ := q
  exact ⟨z, y, dp, ys, r, o, es, ep, k o h1, h2, h3, h4, h5⟩
end
def NGet (K : PySem.W.Frag) (w : World) (H : Hp) (a : Addr) (y : V) (o : Option V) : Prop := ∃ xs k b, H a = some (dNO w a xs) ∧ KeysOk K H xs ∧ y = .ref b ∧ Is K H y (dtN k) ∧ k.depth ≤ 8 ∧ o = atN xs k
def NPut (K : PySem.W.Frag) (w : World) (H : Hp) (a : Addr) (y v : V) (H' : Hp) : Prop := ∃ xs k b, H a = some (dNO w a xs) ∧ KeysOk K H xs ∧ y = .ref b ∧ Is K H y (dtN k) ∧ k.depth ≤ 8 ∧ xs.length < sizeLine ∧ H' = upd H a (dNO w a (putN xs k b v))
section
variable {X : Cx} {pins : List (Addr × Obj)} {σ : L2.St} {H : Hp} {s : Shared} {a : Addr} {y v : V} {u r : Value} {o : Option V} {A : Around} {E : Value → Shared → Prop}
theorem n_getItem {Q : Value → Shared → Prop} (hu : A.units + 9 < cLine) (I : Inv X pins σ H s) (g : NGet X.K X.w H a y (some v)) (ry : RelV y u) (h : ∀ w' s', Inv X pins σ H s' → RelV v w' → Q w' s') :
    wpAny (model X.prog X.w) A (getItem (.ref a) u) Q E s := by
  obtain ⟨xs, k, b, e, hq, rfl, ey, hd, l⟩ := g
  cases (show u = Value.ref b from ry)
  obtain ⟨z, hsy, dp, ys, rel, dd⟩ := dn_of rfl I e hq
  obtain ⟨w', hw, rw'⟩ := RelO.some_of (v := v) (o := (atKey ys k).map (·.2)) (by rw [l]; exact rel.val k)
  obtain ⟨p, hp, hp2⟩ := Option.map_eq_some_iff.mp hw
  refine wpAny_getItem_heap (knd := nestedKind X.prog X.w) (show A.in1.units + 8 < cLine by rw [Around.in1_units]; omega) ⟨nk_of I k _ _ ey ry, hd⟩ dd hp ?_
  rw [hp2]
  exact h w' _ (I.tok _) rw'
theorem n_in {Q : Value → Shared → Prop} (hu : A.units + 9 < cLine) (I : Inv X pins σ H s) (g : NGet X.K X.w H a y o) (ry : RelV y u) (h : ∀ s', Inv X pins σ H s' → Q (.bool o.isSome) s') :
    wpAny (model X.prog X.w) A (compareOp .In u (.ref a)) Q E s := by
  obtain ⟨xs, k, b, e, hq, rfl, ey, hd, l⟩ := g
  cases (show u = Value.ref b from ry)
  obtain ⟨z, hsy, dp, ys, rel, dd⟩ := dn_of rfl I e hq
  refine wpAny_in_heap (knd := nestedKind X.prog X.w) (show A.in1.units + 8 < cLine by rw [Around.in1_units]; omega) ⟨nk_of I k _ _ ey ry, hd⟩ hsy dd ?_
  have q := (rel.val k).isSome_eq
  rw [Option.isSome_map] at q
  rw [← q, ← l]
  exact h _ (I.tok _)
theorem n_setItem {H' : Hp} {Q : Unit → Shared → Prop} (hu : A.units + 9 < cLine) (I : Inv X pins σ H s) (g : NPut X.K X.w H a y v H') (ry : RelV y u) (rv : RelV v r) (h : ∀ s', Inv X pins σ H' s' → Q () s') :
    wpAny (model X.prog X.w) A (setItem (.ref a) u r) Q E s := by
  obtain ⟨xs, k, b, e, hq, rfl, ey, hd, l, rfl⟩ := g
  cases (show u = Value.ref b from ry)
  obtain ⟨z, hsy, dp, ys, rel, dd⟩ := dn_of rfl I e hq
  have hz : ys.length ≤ sizeLine := by rw [← Paired.length rel]; exact z
  have hl : (putN xs k b v).length ≤ sizeLine := by have := length_putN xs k b v; omega
  refine wpAny_setItem_heap (knd := nestedKind X.prog X.w) (hsz := hz) (show A.in1.units + 8 < cLine by rw [Around.in1_units]; omega) ⟨nk_of I k _ _ ey ry, hd⟩ dd fun h' dd' hs => h _ ?_
  obtain ⟨q, es, ep, hqq, h2, h3, h4, _, h5⟩ := dd'
  refine d_write I (by rw [e]; exact True.intro) hs ⟨q, hqq⟩ (dNO_ok ⟨hl, hsy, fun x hx => ?_, _, rel.put k b rv, q, es, ep, hqq, h2, h3, h4, h5⟩)
  unfold putN at hx
  split at hx
  · obtain ⟨y, hy, rfl⟩ := List.mem_map.mp hx
    have := dp y hy
    split <;> exact this
  · rcases List.mem_append.mp hx with hx | hx
    · exact dp x hx
    · simp at hx; subst hx; exact hd
theorem ndict_typeIs (I : Inv X pins σ H s) (g : NGet X.K X.w H a y o) : s.TypeIs (.ref a) "dict" := by
  obtain ⟨xs, k, b, e, hq, rfl, ey, hd, l⟩ := g
  obtain ⟨z, hsy, dp, ys, rel, dd⟩ := dn_of rfl I e hq
  exact dd.typeIs
end
def tNGet (K : PySem.W.Frag) (w : World) (td ty : TE) : TE := fun σ H Q => td σ H fun x H1 => ty σ H1 fun y H2 => ∃ a v, x = .ref a ∧ NGet K w H2 a y (some v) ∧ Q v H2
def tNIn (K : PySem.W.Frag) (w : World) (ty td : TE) : TE := fun σ H Q => ty σ H fun y H1 => td σ H1 fun x H2 => ∃ a o, x = .ref a ∧ NGet K w H2 a y o ∧ Q (.bl o.isSome) H2
def tNNotIn (K : PySem.W.Frag) (w : World) (ty td : TE) : TE := fun σ H Q => ty σ H fun y H1 => td σ H1 fun x H2 => ∃ a o, x = .ref a ∧ NGet K w H2 a y o ∧ Q (.bl (!o.isSome)) H2
def sNPut (K : PySem.W.Frag) (w : World) (td ty tv : TE) : TS := fun D σ H => tv σ H fun v H1 => td σ H1 fun x H2 => ty σ H2 fun y H3 => ∃ a H4, x = .ref a ∧ NPut K w H3 a y v H4 ∧ D.nx σ H4
def tNNew (w : World) : TE := fun _ H Q => ∀ p, H p = none → Q (.ref p) (upd H p (dNO w p []))
section
variable {X : Cx} {o i e value : Expr} {pos pos' tpos : Pos} {td ty tv : TE} {w : World} {K : PySem.W.Frag}
theorem pe_nget (hw : w = X.w) (hk : K = X.K) (hu : X.A.units + 9 < cLine) (ho : PE X o td) (hi : PE X i ty) (hs : NoSl i) : PE X (.Subscript o i pos) (tNGet K w td ty) := by
  subst hw hk
  refine ⟨fun pins s σ H Q I h => ?_⟩
  refine subD_of PySem.F.slot_dict_getitem.lookup hs (thn (ho.run pins s σ H _ I h) fun u s1 ⟨x, H1, I1, rx, q1⟩ => thn (hi.run pins s1 σ H1 _ I1 q1) fun iv s2 ⟨y, H2, I2, ry, a, v, ex, g, q2⟩ => ?_)
  subst ex
  obtain rfl : u = Value.ref a := rx
  exact ⟨ndict_typeIs I2 g, n_getItem hu I2 g ry fun w' s3 I3 rw' => ⟨v, H2, I3, rw', q2⟩⟩
theorem pc_nin (hw : w = X.w) (hk : K = X.K) (hu : X.A.units + 9 < cLine) (hi : PE X i ty) (ho : PE X o td) : PC X .In i o (tNIn K w ty td) := by
  subst hw hk
  refine ⟨fun pins s σ H Q I h => ?_⟩
  refine thn (hi.run pins s σ H _ I h) fun iv s1 ⟨y, H1, I1, ry, q1⟩ => thn (ho.run pins s1 σ H1 _ I1 q1) fun u s2 ⟨x, H2, I2, rx, a, ov, ex, g, q2⟩ => ?_
  subst ex
  obtain rfl : u = Value.ref a := rx
  exact n_in hu I2 g ry fun s3 I3 => ⟨.bl ov.isSome, H2, I3, rfl, q2⟩
theorem ps_nput (hw : w = X.w) (hk : K = X.K) (hu : X.A.units + 9 < cLine) (ho : PE X o td) (hi : PE X i ty) (hv : PE X value tv) (hs : swapsWith value (some (.Subscript o i pos')) pos.line X.env = pure false) :
    PS X (.Assign [.Subscript o i pos'] value pos) (sNPut K w td ty tv) := by
  subst hw hk
  refine ⟨fun pins s σ H D I h => ?_⟩
  refine wpAny_Assign_Subscript (thn (hv.run pins s σ H _ I h) fun r s1 ⟨v, H1, I1, rv, q1⟩ => thn (ho.run pins s1 σ H1 _ I1 q1) fun u s2 ⟨x, H2, I2, rx, q2⟩ => thn (hi.run pins s2 σ H2 _ I2 q2) fun iv s3 ⟨y, H3, I3, ry, a, H4, ex, g, q3⟩ => ?_) hs
  subst ex
  obtain rfl : u = Value.ref a := rx
  exact n_setItem hu I3 g ry rv fun s4 I4 => ⟨σ, H4, I4, q3⟩
theorem dn_empty {P : Program} {w : World} {H : Hp} (h : Heap) (hb : sysModules < h.objs.size) : ObjOk P w H (h.push { cls := .type "dict", data := .dict #[] }) h.objs.size (dNO w h.objs.size []) :=
  dNO_ok ⟨Nat.zero_le _, beq_eq_false_iff_ne.mpr (Ne.symm (Nat.ne_of_lt hb)), (fun x hx => by simp at hx), [], .nil, _, #[], 0, Heap.get?_push_size _ rfl, ⟨rfl, rfl, rfl⟩, rfl, rfl, List.nodup_nil⟩
theorem pe_nnew (hw : w = X.w) : PE X (.Dict [] [] pos) (tNNew w) := by
  subst hw
  exact ⟨fun pins s σ H Q I h =>
    wpAny_Dict_empty ⟨.ref s.heap.objs.size, _, I.laid (a := s.heap.objs.size) (o := dNO X.w s.heap.objs.size []) (t' := s.toks) (fun _ _ q => Heap.get?_push_of_some _ q) (Nat.le_refl _) (dn_empty s.heap I.big), rfl, h _ (I.hok.fresh (Nat.le_refl _))⟩⟩
end
def rListN (w : World) : List V → Hp → VK → Prop := fun xs H Q => ∃ d es, xs = [V.ref d] ∧ H d = some (dNO w d es) ∧ ∀ p, H p = none → Q (.ref p) (upd H p (.lst (es.map fun e => V.ref e.2.1)))
def tNDisp1 (K : PySem.W.Frag) (w : World) (tk tv : TE) : TE := fun σ H Q => ∀ p, H p = none → tk σ (upd H p (dNO w p [])) fun x H1 => tv σ H1 fun y H2 => H2 p = some (dNO w p []) ∧ ∃ b k, x = .ref b ∧ Is K H2 x (dtN k) ∧ k.depth ≤ 8 ∧ Q (.ref p) (upd H2 p (dNO w p [(k, b, y)]))
end Ab

namespace Ab
open PySem L2 PySem.Spec PyProof.Rows PySem.W
section
variable {X : Cx} {pins : List (Addr × Obj)} {σ : L2.St} {H : Hp} {s : Shared}
theorem dpAll_len {K : PySem.W.Frag} {H : Hp} : ∀ {xs : List V} {ps : List PyData}, DpAll K H xs ps → xs.length = ps.length
  | [], [], .nil => rfl
  | _ :: _, _ :: _, .cons _ t => by simp [dpAll_len t]
theorem dataLt_asym {x y : PyData} (h : dataLt x y = true) : dataLt y x = false := KeyOrd.klt_asymm (O := listOrd itemOrd) h
theorem dataLt_neg {x y z : PyData} (h1 : dataLt y x = false) (h2 : dataLt z y = false) : dataLt z x = false := KeyOrd.kle_trans (O := listOrd itemOrd) h1 h2
theorem dataLt_irr (x : PyData) : dataLt x x = false := (listOrd itemOrd).irrefl (keyToks x)
theorem minD_least (x : PyData) (xs : List PyData) : (minD x xs = x ∨ minD x xs ∈ xs) ∧ dataLt x (minD x xs) = false ∧ ∀ y ∈ xs, dataLt y (minD x xs) = false := by
  induction xs generalizing x with
  | nil => exact ⟨.inl rfl, dataLt_irr x, fun y h => by simp at h⟩
  | cons z zs ih =>
    have e : minD x (z :: zs) = minD (if dataLt z x then z else x) zs := rfl
    rw [e]
    by_cases hz : dataLt z x = true
    · rw [if_pos hz]
      obtain ⟨h1, h2, h3⟩ := ih z
      refine ⟨.inr ?_, dataLt_neg h2 (dataLt_asym hz), fun y hy => ?_⟩
      · rcases h1 with h1 | h1
        · rw [h1]; simp
        · simp [h1]
      · rcases List.mem_cons.mp hy with hy | hy
        · subst hy; exact h2
        · exact h3 y hy
    · rw [if_neg hz]
      have hz' : dataLt z x = false := by simpa using hz
      obtain ⟨h1, h2, h3⟩ := ih x
      refine ⟨?_, h2, fun y hy => ?_⟩
      · rcases h1 with h1 | h1
        · exact .inl h1
        · exact .inr (by simp [h1])
      · rcases List.mem_cons.mp hy with hy | hy
        · subst hy; exact dataLt_neg h2 hz'
        · exact h3 y hy
def rMinD (K : PySem.W.Frag) : List V → Hp → VK → Prop := fun vs H Q => ∃ (β : Type) (a : Addr) (xs : List V) (bs : List β) (enc : β → PyData), vs = [V.ref a] ∧ SqL K H a xs ∧ DpAll K H xs (bs.map enc) ∧ AlikeAll (bs.map enc) ∧ 0 < bs.length ∧ PyData.depthAll (bs.map enc) ≤ 8 ∧
  ∀ x b, (x, b) ∈ xs.zip bs → (∀ b' ∈ bs, dataLt (enc b') (enc b) = false) → Q x H
theorem cr_minD (hc : X.calm = true) (hu : X.A.units + 12 < cLine) : CallR X (.builtin "min") (rMinD X.K) := by
  intro pins s σ H vs us Q I r h
  obtain ⟨β, a, xs, bs, enc, rfl, hs, hd, hal, hne, dep, q⟩ := h
  obtain rfl := Vals.ref1 r
  obtain ⟨its, rv, hl, hz⟩ := I.list hs
  obtain ⟨as, ra⟩ := Dp.readsAll I _ _ _ hd rv
  have hlen : xs.length = bs.length := by have := dpAll_len hd; simpa using this
  match bs, hne, ra, hal, dep, hlen, q, hd with
  | b0 :: bs, _, ra, hal, dep, hlen, q, hd =>
  refine min_list_data (x := enc b0) (xs := bs.map enc) (I.ok.hd hc) hl.isList (by simpa using ra) hal (by have : PyData.depthAll (enc b0 :: bs.map enc) ≤ 8 := dep; omega) fun i v h' tk cs hv hr hk => ?_
  have hv' : its[i]? = some v := by simpa using hv
  have hil : i < its.length := (List.getElem?_eq_some_iff.mp hv').1
  have hlI : xs.length = its.length := rv.length
  have hix : i < xs.length := by omega
  have hib : i < (b0 :: bs).length := by omega
  have hx : xs[i]? = some xs[i] := List.getElem?_eq_getElem hix
  obtain ⟨u, hu', ru⟩ := Vals.get rv hx
  rw [hv'] at hu'; cases hu'
  have hb : (b0 :: bs)[i]? = some (b0 :: bs)[i] := List.getElem?_eq_getElem hib
  have em : ((b0 :: bs).map enc)[i]? = some (enc (b0 :: bs)[i]) := by rw [List.getElem?_map, hb]; rfl
  obtain ⟨ds, r1, _, hm1, _⟩ := readsAll_at ra i v hv'
  have eg : ((b0 :: bs).map enc).getD i .none = enc (b0 :: bs)[i] := by rw [List.getD_eq_getElem?_getD, em]; rfl
  rw [eg] at r1 hm1
  obtain ⟨m1, m2, m3⟩ := minD_least (enc b0) (bs.map enc)
  have mm : minD (enc b0) (bs.map enc) ∈ (b0 :: bs).map enc := by
    rcases m1 with m1 | m1
    · rw [m1]; simp
    · rw [List.map_cons]; exact List.mem_cons_of_mem _ m1
  have same : enc (b0 :: bs)[i] = minD (enc b0) (bs.map enc) := alike_unique _ _ v _ _ (hal.1 _ hm1 _ mm) (reads_keeps hk r1) hr
  refine ⟨xs[i], H, I.kept hk, ru, q xs[i] (b0 :: bs)[i] ?_ fun b' hb' => ?_⟩
  · have hz : (xs.zip (b0 :: bs))[i]? = some (xs[i], (b0 :: bs)[i]) := by rw [List.getElem?_zip_eq_some]; exact ⟨hx, hb⟩
    exact List.mem_of_getElem? hz
  · rw [same]
    rcases List.mem_cons.mp hb' with e | hb'
    · subst e; exact m2
    · exact m3 _ (List.mem_map.mpr ⟨b', hb', rfl⟩)
end
end Ab

namespace Ab
open PySem L2 PySem.W
def dnOf (Γ : List Sl) : Re → Option (World × List (NestedKey × Dt))
  | .val (.dN w kvs) => some (w, kvs)
  | .nw (.dN w kvs) => some (w, kvs)
  | .own i => match Γ[i]? with
    | some (.cel (.dN w kvs)) => some (w, kvs)
    | _ => none
  | _ => none
section
variable {K : PySem.W.Frag} {σ : L2.St} {B H : Hp} {Γ : List Sl} {v : V} {r : Re}
theorem rv_dN {w : World} {kvs : List (NestedKey × Dt)} (E : Env K B H σ Γ) (h : RvOk K σ B H Γ v r) (e : dnOf Γ r = some (w, kvs)) : ∃ a xs, v = .ref a ∧ H a = some (dNO w a xs) ∧ IsNv K B xs kvs := by
  cases r with
  | val d =>
    cases d <;> first | (cases e; done) | skip
    cases e
    cases h with
    | dN h1 hk hq hi => exact ⟨_, _, rfl, E.bh _ _ h1, hk, hq, by have := congrArg List.length hk; simpa using this, hi⟩
  | nw c =>
    cases c with
    | dN w es => cases e; obtain ⟨l, o, rfl, _, h1, _, xs, rfl, h2⟩ := h; exact ⟨l, xs, rfl, h1, h2⟩
    | lst es => cases e
    | dK es => cases e
    | dT es => cases e
  | own i =>
    obtain ⟨l, rfl, hl⟩ := h
    have e' : (match Γ[i]? with
      | some (Sl.cel (.dN w ds)) => some (w, ds)
      | _ => none) = some (w, kvs) := e
    split at e'
    · rename_i es hi
      cases e'
      obtain ⟨c, o, q1, q2, q3, us, rfl, q4⟩ := E.cel i _ hi
      rw [hl] at q1; cases q1
      exact ⟨l, us, rfl, q2, q4⟩
    · cases e'
theorem IsNv.nil : IsNv K B [] [] := ⟨rfl, fun i x h => by simp at h, .nil⟩
theorem IsNv.len {xs : List (NestedKey × Addr × V)} {kvs : List (NestedKey × Dt)} (h : IsNv K B xs kvs) : xs.length = kvs.length := by
  have := congrArg List.length h.ks; simpa using this
theorem IsNv.tail {x : NestedKey × Addr × V} {xs : List (NestedKey × Addr × V)} {kv : NestedKey × Dt} {kvs : List (NestedKey × Dt)} (h : IsNv K B (x :: xs) (kv :: kvs)) : x.1 = kv.1 ∧ Is K B x.2.2 kv.2 ∧ Is K B (.ref x.2.1) (dtN x.1) ∧ IsNv K B xs kvs := by
  have e := h.ks
  simp only [List.map_cons, List.cons.injEq] at e
  exact ⟨e.1, h.vs.at_ 0 _ _ (by simp) (by simp), h.qs 0 x rfl, e.2, fun i y q => h.qs (i + 1) y (by simpa using q), by have := h.vs.drop 1; simpa using this⟩
theorem IsNv.cons {x : NestedKey × Addr × V} {xs : List (NestedKey × Addr × V)} {kv : NestedKey × Dt} {kvs : List (NestedKey × Dt)} (h1 : x.1 = kv.1) (h2 : Is K B x.2.2 kv.2) (h3 : Is K B (.ref x.2.1) (dtN x.1)) (h : IsNv K B xs kvs) : IsNv K B (x :: xs) (kv :: kvs) :=
  ⟨by simp [h1, h.ks], fun i y q => by
    cases i with
    | zero => simp at q; subst q; exact h3
    | succ i => exact h.qs i y (by simpa using q), by simpa using IsA.cons h2 h.vs⟩
theorem IsNv.val (k : NestedKey) : ∀ {xs : List (NestedKey × Addr × V)} {kvs : List (NestedKey × Dt)}, IsNv K B xs kvs → (atN xs k = none ∧ valD kvs k = none) ∨ ∃ v d, atN xs k = some v ∧ valD kvs k = some d ∧ Is K B v d
  | [], [], _ => .inl ⟨rfl, rfl⟩
  | [], _ :: _, h => by have := h.len; simp at this
  | _ :: _, [], h => by have := h.len; simp at this
  | x :: xs, kv :: kvs, h => by
    obtain ⟨h1, h2, h3, h4⟩ := h.tail
    by_cases e : x.1 = k
    · exact .inr ⟨x.2.2, kv.2, by simp [atN, e], by simp [valD, ← h1, e], h2⟩
    · have e' : ¬ kv.1 = k := by rw [← h1]; exact e
      have := IsNv.val k h4
      simpa [atN, valD, e, e'] using this
theorem IsNv.valS {xs : List (NestedKey × Addr × V)} {kvs : List (NestedKey × Dt)} (h : IsNv K B xs kvs) {k : NestedKey} {d : Dt} (e : valD kvs k = some d) : ∃ v, atN xs k = some v ∧ Is K B v d := by
  rcases h.val k with ⟨_, e2⟩ | ⟨v, d', e1, e2, hv⟩
  · rw [e] at e2; cases e2
  · rw [e] at e2; cases e2; exact ⟨v, e1, hv⟩
theorem IsNv.isS {xs : List (NestedKey × Addr × V)} {kvs : List (NestedKey × Dt)} (h : IsNv K B xs kvs) (k : NestedKey) : (atN xs k).isSome = (valD kvs k).isSome := by
  rcases h.val k with ⟨e1, e2⟩ | ⟨v, d', e1, e2, hv⟩ <;> rw [e1, e2] <;> rfl
theorem IsNv.repl {k : NestedKey} {v : V} {d : Dt} (hv : Is K B v d) : ∀ {xs : List (NestedKey × Addr × V)} {kvs : List (NestedKey × Dt)}, IsNv K B xs kvs → IsNv K B (xs.map fun x => if x.1 = k then (x.1, x.2.1, v) else x) (kvs.map fun kv => if kv.1 = k then (kv.1, d) else kv)
  | [], [], _ => .nil
  | [], _ :: _, h => by have := h.len; simp at this
  | _ :: _, [], h => by have := h.len; simp at this
  | x :: xs, kv :: kvs, h => by
    obtain ⟨h1, h2, h3, h4⟩ := h.tail
    rw [List.map_cons, List.map_cons]
    by_cases e : x.1 = k
    · have e' : kv.1 = k := by rw [← h1]; exact e
      rw [if_pos e, if_pos e']
      exact .cons h1 hv h3 (IsNv.repl hv h4)
    · have e' : ¬ kv.1 = k := by rw [← h1]; exact e
      rw [if_neg e, if_neg e']
      exact .cons h1 h2 h3 (IsNv.repl hv h4)
theorem any_valD {kvs : List (NestedKey × Dt)} (k : NestedKey) : (kvs.any fun kv => decide (kv.1 = k)) = (valD kvs k).isSome := by
  induction kvs with
  | nil => rfl
  | cons kv r ih =>
    by_cases e : kv.1 = k
    · simp [valD, e]
    · have : valD (kv :: r) k = valD r k := by simp [valD, e]
      rw [this, List.any_cons, ih]; simp [e]
theorem IsNv.put {xs : List (NestedKey × Addr × V)} {kvs : List (NestedKey × Dt)} (h : IsNv K B xs kvs) {k : NestedKey} {b : Addr} {v : V} {d : Dt} (hb : Is K B (.ref b) (dtN k)) (hv : Is K B v d) : IsNv K B (putN xs k b v) (putE kvs k d) := by
  unfold putN putE
  rw [any_valD, h.isS]
  split
  · exact h.repl hv
  · refine ⟨by simp [h.ks], fun i x q => ?_, by simpa using h.vs.snoc hv⟩
    by_cases hi : i < xs.length
    · rw [List.getElem?_append_left hi] at q; exact h.qs i x q
    · rw [List.getElem?_append_right (by omega)] at q
      generalize i - xs.length = j at q
      cases j with
      | zero => simp at q; subst q; exact hb
      | succ j => simp at q
theorem dtN_ref {v : V} {ks : List NestedKey} (h : Is K B v (dtN (.tup ks))) : ∃ b, v = .ref b := by
  rw [dtN] at h
  obtain ⟨a, xs, rfl, _⟩ := h.tupR
  exact ⟨a, rfl⟩
theorem IsNv.keysOk {xs : List (NestedKey × Addr × V)} {kvs : List (NestedKey × Dt)} (s : Same B H) (h : IsNv K B xs kvs) : KeysOk K H xs := fun i x q => (h.qs i x q).mono s
end
section
variable {K : PySem.W.Frag} {pin : List Nat} {Γ : List Sl} {P : Ps} {Post : Re → List Sl → Prop} {td ty tv tx te : TE} {w : World}
theorem we_nget (h : WE K td Γ fun ra Γ1 => WE K ty Γ1 fun rb Γ2 => Hold (∃ kvs k d, dnOf Γ2 ra = some (w, kvs) ∧ rb = .val (dtN k) ∧ (∃ ks, k = .tup ks) ∧ k.depth ≤ 8 ∧ valD kvs k = some d ∧ Post (.val d) Γ2)) : WE K (tNGet K w td ty) Γ Post :=
  we_two' (r := fun x y H Q => ∃ a v, x = .ref a ∧ NGet K w H a y (some v) ∧ Q v H) (we_mono h fun ra Γ1 h1 => we_mono h1 fun rb Γ2 hp => fun σ B H x y E kx ky Q q => by
    obtain ⟨kvs, k, d, e1, rfl, ⟨ks, rfl⟩, dp, e3, p⟩ := hp.get
    obtain ⟨a, xs, rfl, ha, hk⟩ := rv_dN E kx e1
    obtain ⟨v, hv, hd⟩ := hk.valS e3
    have ky' : Is K B y (dtN (.tup ks)) := ky
    obtain ⟨b, rfl⟩ := dtN_ref ky'
    exact ⟨a, v, rfl, ⟨xs, _, b, ha, hk.keysOk E.bh, rfl, ky'.mono E.bh, dp, hv.symm⟩, q _ B H (.val d) Γ2 (.refl E) hd p⟩)
theorem we_nin (h : WE K ty Γ fun rb Γ1 => WE K td Γ1 fun ra Γ2 => Hold (∃ kvs k, dnOf Γ2 ra = some (w, kvs) ∧ rb = .val (dtN k) ∧ (∃ ks, k = .tup ks) ∧ k.depth ≤ 8 ∧ Post (.val (.bl (valD kvs k).isSome)) Γ2)) : WE K (tNIn K w ty td) Γ Post :=
  we_two' (r := fun y x H Q => ∃ a o, x = .ref a ∧ NGet K w H a y o ∧ Q (.bl o.isSome) H) (we_mono h fun rb Γ1 h1 => we_mono h1 fun ra Γ2 hp => fun σ B H y x E ky kx Q q => by
    obtain ⟨kvs, k, e1, rfl, ⟨ks, rfl⟩, dp, p⟩ := hp.get
    obtain ⟨a, xs, rfl, ha, hk⟩ := rv_dN E kx e1
    have ky' : Is K B y (dtN (.tup ks)) := ky
    obtain ⟨b, rfl⟩ := dtN_ref ky'
    refine ⟨a, _, rfl, ⟨xs, _, b, ha, hk.keysOk E.bh, rfl, ky'.mono E.bh, dp, rfl⟩, ?_⟩
    rw [hk.isS]
    exact q _ B H _ Γ2 (.refl E) (.raw _) p)
theorem we_nnotin (h : WE K ty Γ fun rb Γ1 => WE K td Γ1 fun ra Γ2 => Hold (∃ kvs k, dnOf Γ2 ra = some (w, kvs) ∧ rb = .val (dtN k) ∧ (∃ ks, k = .tup ks) ∧ k.depth ≤ 8 ∧ Post (.val (.bl (!(valD kvs k).isSome))) Γ2)) : WE K (tNNotIn K w ty td) Γ Post :=
  we_two' (r := fun y x H Q => ∃ a o, x = .ref a ∧ NGet K w H a y o ∧ Q (.bl (!o.isSome)) H) (we_mono h fun rb Γ1 h1 => we_mono h1 fun ra Γ2 hp => fun σ B H y x E ky kx Q q => by
    obtain ⟨kvs, k, e1, rfl, ⟨ks, rfl⟩, dp, p⟩ := hp.get
    obtain ⟨a, xs, rfl, ha, hk⟩ := rv_dN E kx e1
    have ky' : Is K B y (dtN (.tup ks)) := ky
    obtain ⟨b, rfl⟩ := dtN_ref ky'
    refine ⟨a, _, rfl, ⟨xs, _, b, ha, hk.keysOk E.bh, rfl, ky'.mono E.bh, dp, rfl⟩, ?_⟩
    rw [hk.isS]
    exact q _ B H _ Γ2 (.refl E) (.raw _) p)
theorem we_nnew (p : Post (.nw (.dN w [])) Γ) : WE K (tNNew w) Γ Post := fun σ B H E Q q => fun a ha =>
  q _ _ _ (.nw (.dN w [])) Γ (Go.beside E ha) ⟨a, _, rfl, .inr ha, E.not_own ha, upd_same, E.base_none ha, [], rfl, .nil⟩ p
theorem ws_nput {i : Nat} (h : WE K tv Γ fun z Γ1 => ∃ d, z.dt? = some d ∧ (∃ c, Γ1[i]? = some (.cel c)) ∧ WE K ty Γ1 fun y Γ2 => Hold (∃ kvs k, y = .val (dtN k) ∧ (∃ ks, k = .tup ks) ∧ k.depth ≤ 8 ∧ Γ2[i]? = some (.cel (.dN w kvs)) ∧ kvs.length < 10000000 ∧ P.nx (Γ2.set i (.cel (.dN w (putE kvs k d)))))) :
    WS K pin (sNPut K w (tVar i) ty tv) Γ P := fun σ B H D E n r b c xx => by
  have h' : WE K tv Γ fun z Γ1 => ∃ d, z = .val d ∧ (∃ c, Γ1[i]? = some (.cel c)) ∧ WE K ty Γ1 fun y Γ2 => Hold (∃ kvs k, y = .val (dtN k) ∧ (∃ ks, k = .tup ks) ∧ k.depth ≤ 8 ∧ Γ2[i]? = some (.cel (.dN w kvs)) ∧ kvs.length < 10000000 ∧ P.nx (Γ2.set i (.cel (.dN w (putE kvs k d))))) := we_freeze (we_mono h fun z Γ1 ⟨d, hd, r⟩ => ⟨d, hd, d, rfl, r⟩)
  refine h' σ B H E _ fun v B1 H1 z Γ1 g1 k1 p1 => ?_
  obtain ⟨d, rfl, ⟨ds1, h1⟩, p1⟩ := p1
  obtain ⟨l, vs, e0, e1, e2, k0⟩ := g1.env.cel i ds1 h1
  refine ⟨.ref l, e0, p1 σ B1 H1 g1.env _ fun y B2 H2 w2 Γ2 g2 k2 p2 => ?_⟩
  obtain ⟨kvs, k, rfl, ⟨ks, rfl⟩, dp, hi, hz, p⟩ := p2.get
  have ky' : Is K B2 y (dtN (.tup ks)) := k2
  obtain ⟨kb, rfl⟩ := dtN_ref ky'
  obtain ⟨l', o, f0, f1, f2, us, rfl, k3⟩ := g2.env.cel i _ hi
  rw [e0] at f0; cases f0
  refine ⟨l, _, rfl, ⟨us, _, kb, f1, k3.keysOk g2.env.bh, rfl, ky'.mono g2.env.bh, dp, Nat.lt_of_lt_of_le (by rw [k3.len]; exact hz) (by decide), rfl⟩, ?_⟩
  exact n _ B2 _ _ ((g1.trans g2).trans (Go.putC (es := .dN w (putE kvs (.tup ks) d)) g2.env hi e0 ⟨_, rfl, k3.put ky' (Is.mono g2.mv.bb k1)⟩)).s p
theorem we_ndisp1 (h : WE K ty Γ fun rk Γ1 => Hold (∃ k, rk = .val (dtN k) ∧ (∃ ks, k = .tup ks) ∧ k.depth ≤ 8 ∧ WE K tv Γ1 fun rv Γ2 => ∃ d, rv.dt? = some d ∧ Post (.nw (.dN w [(k, d)])) Γ2)) : WE K (tNDisp1 K w ty tv) Γ Post := fun σ B H E Q q p hp => by
  have g0 : Go K σ B H Γ B (upd H p (dNO w p [])) Γ := Go.beside E hp
  have no : ¬ Own σ Γ p := E.not_own hp
  refine h σ B _ g0.env _ fun x B1 H1 rk Γ1 g1 k1 p1 => ?_
  obtain ⟨k, rfl, ⟨ks, rfl⟩, dp, p1⟩ := p1.get
  have p1' : WE K tv Γ1 fun rv Γ2 => ∃ d, rv = .val d ∧ Post (.nw (.dN w [(.tup ks, d)])) Γ2 := we_freeze (we_mono p1 fun z Γ1 ⟨d, hd, r⟩ => ⟨d, hd, d, rfl, r⟩)
  refine p1' σ B1 H1 g1.env _ fun y B2 H2 rv Γ2 g2 k2 p2 => ?_
  obtain ⟨d, rfl, p2⟩ := p2
  have g12 := g1.trans g2
  have hx : Is K B2 x (dtN (.tup ks)) := Is.mono g2.mv.bb k1
  obtain ⟨b, rfl⟩ := dtN_ref hx
  have h1 : H2 p = some (dNO w p []) := g12.mv.kp p _ no upd_same
  have b1 : B2 p = none := g12.mv.off p no (by rw [upd_same]; exact fun z => nomatch z) (E.base_none hp)
  have no1 : ¬ Own σ Γ2 p := fun z => no (g12.sub p z)
  refine ⟨h1, b, .tup ks, rfl, hx.mono g2.env.bh, dp, ?_⟩
  have g01 := g0.trans g12
  refine q (.ref p) B2 _ (.nw (.dN w [(.tup ks, d)])) Γ2 ⟨⟨fun a o na e => ?_, g01.mv.bb, g01.mv.off⟩, g01.ac, g01.env.updOff b1 no1⟩ ⟨p, _, rfl, .inr hp, no1, upd_same, b1, _, rfl, .cons rfl k2 hx .nil⟩ p2
  rw [upd_ne (ne_of_none e hp)]
  exact g01.mv.kp a o na e
theorem we_nlist (h : WE K te Γ fun r Γ1 => Hold (∃ kvs, dnOf Γ1 r = some (w, kvs) ∧ Post (.new (kvs.map fun kv => dtN kv.1)) Γ1)) : WE K (tCB (rListN w) (tCons te tNil)) Γ Post :=
  we_cb1 (we_mono h fun r Γ1 hp => fun σ B H x E kx Q q => by
    obtain ⟨kvs, e, p⟩ := hp.get
    obtain ⟨a, xs, rfl, ha, hk⟩ := rv_dN E kx e
    refine ⟨a, xs, rfl, ha, fun l hl => q _ _ _ (.new (kvs.map fun kv => dtN kv.1)) Γ1 (Go.beside E hl) (re_newL E ⟨by simp [hk.len], fun i v d h1 h2 => ?_⟩ hl) p⟩
    rw [List.getElem?_map] at h1 h2
    obtain ⟨x, hx, rfl⟩ := Option.map_eq_some_iff.mp h1
    obtain ⟨kv, hkv, rfl⟩ := Option.map_eq_some_iff.mp h2
    have e1 : (xs.map (·.1))[i]? = some x.1 := by rw [List.getElem?_map, hx]; rfl
    rw [hk.ks, List.getElem?_map, hkv] at e1
    have e2 : kv.1 = x.1 := Option.some.inj e1
    rw [e2]
    exact hk.qs i x hx)
theorem dpAll_of {β : Type} {B H : Hp} {c : β → Dt} {enc : β → PyData} (s : Same B H) : ∀ {bs : List β} {vs : List V}, (∀ b ∈ bs, (c b).py = some (enc b)) → IsA K B vs (bs.map c) → DpAll K H vs (bs.map enc)
  | [], vs, _, h => by
    have : vs = [] := List.eq_nil_of_length_eq_zero (by rw [h.len]; rfl)
    subst this; exact .nil
  | b :: bs, [], _, h => by have := h.len; simp at this
  | b :: bs, v :: vs, he, h => .cons (dp_mono s (is_dp (h.at_ 0 v (c b) rfl rfl) (he b (List.mem_cons_self)))) (dpAll_of s (fun x hx => he x (List.mem_cons_of_mem _ hx)) (by have := h.drop 1; simpa using this))
theorem zip_is {β : Type} {B : Hp} {c : β → Dt} : ∀ {bs : List β} {vs : List V}, IsA K B vs (bs.map c) → ∀ z ∈ vs.zip bs, Is K B z.1 (c z.2)
  | [], [], _, z, hz => by simp at hz
  | [], _ :: _, _, z, hz => by simp at hz
  | _ :: _, [], _, z, hz => by simp at hz
  | b :: bs, v :: vs, h, z, hz => by
    rw [List.zip_cons_cons] at hz
    rcases List.mem_cons.mp hz with hz | hz
    · subst hz; exact h.at_ 0 v (c b) rfl rfl
    · exact zip_is (by have := h.drop 1; simpa using this) z hz
theorem we_minD {β : Type} (c : β → Dt) (enc : β → PyData) (h : WE K te Γ fun r Γ1 => Hold (∃ bs : List β, lstOf Γ1 r = some (bs.map c) ∧ (∀ b ∈ bs, (c b).py = some (enc b)) ∧ AlikeAll (bs.map enc) ∧ 0 < bs.length ∧ PyData.depthAll (bs.map enc) ≤ 8 ∧ ∀ b ∈ bs, (∀ b' ∈ bs, dataLt (enc b') (enc b) = false) → Post (.val (c b)) Γ1)) : WE K (tCB (rMinD K) (tCons te tNil)) Γ Post :=
  we_cb1 (we_mono h fun r Γ1 hp => fun σ B H x E kx Q q => by
    obtain ⟨bs, hs, he, hal, hn, dp, p⟩ := hp.get
    obtain ⟨a, vs, rfl, hq, ha⟩ := rv_lst E kx hs
    exact ⟨β, a, vs, bs, enc, rfl, hq, dpAll_of E.bh he ha, hal, hn, dp, fun x b hz hb => q _ _ _ (.val (c b)) Γ1 (.refl E) (zip_is ha _ hz) (p b (List.of_mem_zip hz).2 hb)⟩)
end
theorem ws_retDN {K : PySem.W.Frag} {pin : List Nat} {Γ : List Sl} {P : Ps} {i : Nat} {w : World} {kvs : List (NestedKey × Dt)} (h : Γ[i]? = some (.cel (.dN w kvs))) (p : P.rt (.nw (.dN w kvs)) (Γ.set i .un)) : WS K pin (tRet (tVar i)) Γ P := ws_ret (we_move h ⟨rfl, p⟩)
end Ab

namespace Ab
open PySem L2 PySem.W
def tNGet1 (K : PySem.W.Frag) (w : World) (td ty : TE) : TE := fun σ H Q => td σ H fun x H1 => ∃ a, x = .ref a ∧ (∃ xs, H1 a = some (dNO w a xs) ∧ KeysOk K H1 xs) ∧ ty σ H1 fun y H2 => ∃ o, NGet K w H2 a y o ∧ Q (o.getD .non) H2
section
variable {X : Cx} {w : World} {K : PySem.W.Frag} {o e : Expr} {td ty : TE} {apos cpos : Pos}
end
section
variable {w : World} {K : PySem.W.Frag} {Γ : List Sl} {td ty : TE} {Post : Re → List Sl → Prop}
theorem we_nget1 (h : WE K td Γ fun ra Γ1 => (∃ kvs0, dnOf Γ1 ra = some (w, kvs0)) ∧ WE K ty Γ1 fun rb Γ2 => Hold (∃ kvs k, dnOf Γ2 ra = some (w, kvs) ∧ rb = .val (dtN k) ∧ (∃ ks, k = .tup ks) ∧ k.depth ≤ 8 ∧ (∀ d, valD kvs k = some d → Post (.val d) Γ2) ∧ (valD kvs k = none → Post (.val .non) Γ2))) : WE K (tNGet1 K w td ty) Γ Post := fun σ B H E Q q => by
  refine h σ B H E _ fun x B1 H1 ra Γ1 g1 k1 p1 => ?_
  obtain ⟨⟨kv0, hs⟩, p1⟩ := p1
  obtain ⟨a, xs, rfl, ha, hk⟩ := rv_dN g1.env k1.rv hs
  refine ⟨a, rfl, ⟨xs, ha, hk.keysOk g1.env.bh⟩, ?_⟩
  refine p1 σ B1 H1 g1.env _ fun y B2 H2 rb Γ2 g2 k2 p2 => ?_
  obtain ⟨kvs, k, e1, rfl, ⟨ks, rfl⟩, dp, p3, p4⟩ := p2.get
  obtain ⟨a2, xs2, ea2, ha2, hk2⟩ := rv_dN g2.env (ReOk.rv (ReOk.step k1 g2.mv g2.sub)) e1
  cases ea2
  have ky' : Is K B2 y (dtN (.tup ks)) := k2
  obtain ⟨b, rfl⟩ := dtN_ref ky'
  have E := g2.env
  refine ⟨_, ⟨xs2, _, b, ha2, hk2.keysOk E.bh, rfl, ky'.mono E.bh, dp, rfl⟩, ?_⟩
  rcases hk2.val (.tup ks) with ⟨f1, f2⟩ | ⟨v, d, f1, f2, hv⟩
  · rw [f1]
    exact q .non B2 H2 (.val .non) Γ2 (g1.trans g2) (Is.raw _) (p4 f2)
  · rw [f1]
    exact q v B2 H2 (.val d) Γ2 (g1.trans g2) hv (p3 d f2)
end
end Ab

namespace Ab
open PySem L2
section
variable {K : PySem.W.Frag} {Γ : List Sl} {Post : Re → List Sl → Prop} {te : TE}
theorem we_maxI (h : WE K te Γ fun r Γ1 => Hold (∃ ns : List Int, lstOf Γ1 r = some (ns.map Dt.int) ∧ 0 < ns.length ∧ ∀ m ∈ ns, (∀ y ∈ ns, y ≤ m) → Post (.val (.int m)) Γ1)) : WE K (tCB (rMax K) (tCons te tNil)) Γ Post :=
  we_cb1 (we_mono h fun r Γ1 hp => fun σ B H x E kx Q q => by
    obtain ⟨ns, hs, hz, p⟩ := hp.get
    obtain ⟨a, vs, rfl, hq, ha⟩ := rv_lst E kx hs
    have e : vs = ns.map V.int := IsA.rawsI (xs := ns.map V.int) (by rw [List.map_map]; exact ha)
    subst e
    exact ⟨a, ns, rfl, hq, hz, fun m h1 h2 => q _ B H _ Γ1 (.refl E) (.raw _) (p m h1 h2)⟩)
end
end Ab

namespace Ab
open PySem L2
section
variable {X : Cx} {d : Addr} {es : Array DictEntry} {n : Nat}
end

inductive KV (K : PySem.W.Frag) : V → Dt → Prop where
  | raw (v : V) : KV K v (.raw v)
  | tup {a : Addr} {xs : List V} (h : KTup K a xs) : KV K (.ref a) (.tup (xs.map Dt.raw))
theorem KV.is {K : PySem.W.Frag} {B : Hp} {v : V} {d : Dt} (h : KV K v d) : Is K B v d := by
  cases h with
  | raw => exact .raw _
  | @tup a xs h =>
    have ha : IsA K B xs (xs.map Dt.raw) := IsA.raws
    exact Is.tup (.inr h) ha.len ha.at_
def KEnts (K : PySem.W.Frag) : List DictEntry → List (Str × Dt) → Prop
  | [], [] => True
  | e :: es, kv :: kvs => (∃ t, e.key = .str kv.1 t) ∧ (∃ v, RelV v e.val ∧ KV K v kv.2) ∧ KEnts K es kvs
  | _, _ => False
def valS (kvs : List (Str × Dt)) (z : Str) : Option Dt := (kvs.find? fun kv => decide (kv.1 = z)).map (·.2)
structure KDic (K : PySem.W.Frag) (w : World) (c : Addr) (kvs : List (Str × Dt)) : Prop where
  ex : ∃ es n, KDict K w c es n ∧ KEnts K es.toList kvs
theorem KEnts.val {K : PySem.W.Frag} : ∀ {es : List DictEntry} {kvs : List (Str × Dt)}, KEnts K es kvs → ∀ z, (es.any fun e => e.refKey) = false ∧ ((valS kvs z = none ∧ es.find? (fun e => e.key.isStr z) = none) ∨ ∃ e d v, valS kvs z = some d ∧ es.find? (fun e => e.key.isStr z) = some e ∧ RelV v e.val ∧ KV K v d)
  | [], [], _, z => ⟨rfl, .inl ⟨rfl, rfl⟩⟩
  | [], _ :: _, h, _ => h.elim
  | _ :: _, [], h, _ => h.elim
  | e :: es, kv :: kvs, h, z => by
    obtain ⟨⟨t, hk⟩, ⟨v, hv, hd⟩, hr⟩ := h
    obtain ⟨i1, i2⟩ := KEnts.val hr z
    refine ⟨?_, ?_⟩
    · rw [List.any_cons, i1, Bool.or_false]
      unfold DictEntry.refKey
      rw [hk]
    · unfold valS at *
      rw [List.find?_cons, List.find?_cons]
      have e1 : e.key.isStr z = decide (kv.1 = z) := by
        rw [hk]
        show (kv.1 == z) = decide (kv.1 = z)
        rw [Bool.eq_iff_iff]; simp
      rw [e1]
      by_cases c : kv.1 = z
      · rw [decide_eq_true c]
        exact .inr ⟨e, kv.2, v, rfl, rfl, hv, hd⟩
      · rw [decide_eq_false c]
        exact i2
theorem KDic.val {K : PySem.W.Frag} {w : World} {c : Addr} {kvs : List (Str × Dt)} (h : KDic K w c kvs) (z : Str) : (valS kvs z = none ∧ PySem.W.nsIn K c z = some none) ∨ ∃ u d v, valS kvs z = some d ∧ PySem.W.nsIn K c z = some (some u) ∧ RelV v u ∧ KV K v d := by
  obtain ⟨es, n, D, E⟩ := h.ex
  have hn : PySem.W.nsIn K c z = match es.toList.find? (fun x => x.key.isStr z) with
    | some e => some (some e.val)
    | none => if (es.toList.any fun x => x.refKey) = true then none else some none := by
    unfold PySem.W.nsIn; rw [D.at_]
    rfl
  obtain ⟨i1, i2⟩ := E.val z
  rw [hn, i1]
  rcases i2 with ⟨a, b⟩ | ⟨e, d, v, a, b, c1, c2⟩
  · rw [b]; exact .inl ⟨a, rfl⟩
  · rw [b]; exact .inr ⟨e.val, d, v, a, rfl, c1, c2⟩
section
variable {K : PySem.W.Frag} {w : World} {c : Addr} {kvs : List (Str × Dt)} {Γ : List Sl} {Post : Re → List Sl → Prop} {tk tx : TE}
end
section
variable {K : PySem.W.Frag} {pin : List Nat} {Γ : List Sl} {P : Ps} {Post : Re → List Sl → Prop} {te ta tb : TE} {g : TG} {tb' : TS}
end
section
variable {K : PySem.W.Frag} {pin : List Nat} {Γ : List Sl} {P : Ps} {Post : Re → List Sl → Prop} {td ty tv tx : TE}
end
def look {α κ : Type} [DecidableEq κ] (xs : List (κ × α)) (z : κ) : Option α := (xs.find? fun kv => decide (kv.1 = z)).map (·.2)
section
variable {K : PySem.W.Frag} {pin : List Nat} {Γ : List Sl} {P : Ps} {te : TE} {g : TG} {tb' : TS}
end
end Ab

namespace Ab
open PySem L2
section
variable {K : PySem.W.Frag} {pin : List Nat} {Γ : List Sl} {P : Ps}
end
section
variable {K : PySem.W.Frag} {Γ : List Sl} {Post : Re → List Sl → Prop} {te tk tv : TE}
theorem putE_len {κ : Type} [DecidableEq κ] (l : List (κ × Dt)) (k : κ) (d : Dt) : (putE l k d).length ≤ l.length + 1 := by
  unfold putE
  split
  · rw [List.length_map]; omega
  · rw [List.length_append]; exact Nat.le_refl _
end
end Ab

namespace Ab
open PySem L2
inductive PD where
  | int (i : Int)
  | str (s : Str)
  | tup (l : List PD)
mutual
def PD.dt : PD → Dt
  | .int i => .int i
  | .str s => .str s
  | .tup l => .tup (PD.dts l)
def PD.dts : List PD → List Dt
  | [] => []
  | x :: r => x.dt :: PD.dts r
end
mutual
def PD.py : PD → PyData
  | .int i => .int i
  | .str s => .str s
  | .tup l => .tuple (PD.pys l)
def PD.pys : List PD → List PyData
  | [] => []
  | x :: r => x.py :: PD.pys r
end
mutual
def PD.dep : PD → Nat
  | .int _ => 0
  | .str _ => 0
  | .tup l => PD.deps l + 1
def PD.deps : List PD → Nat
  | [] => 0
  | x :: r => max x.dep (PD.deps r)
end
mutual
def PD.ok : PD → Prop
  | .int _ => True
  | .str s => CS s
  | .tup l => l.length ≤ 1000000 ∧ PD.oks l
def PD.oks : List PD → Prop
  | [] => True
  | x :: r => x.ok ∧ PD.oks r
end
def PD.eq (a b : PD) : Bool := PyData.eqv a.py b.py
def PD.eqs (a b : List PD) : Bool := PyData.eqvAll (PD.pys a) (PD.pys b)
inductive SmP : List Sl → Bool → Nat → Prop
  | dat (a b : PD) (ha : a.ok) (hb : b.ok) : SmP [.val a.dt, .val b.dt] (PD.eq a b) (max a.dep b.dep)
  | lst (a b : List PD) (ha : PD.oks a) (hb : PD.oks b) (la : a.length ≤ 1000000) (lb : b.length ≤ 1000000) : SmP [.acc (PD.dts a), .acc (PD.dts b)] (PD.eqs a b) (max (PD.deps a) (PD.deps b) + 1)
end Ab

namespace Ab
open PySem L2
structure Yp where
  nx : List Dt → List Sl → Prop
  bk : List Dt → List Sl → Prop := fun _ _ => False
  ct : List Dt → List Sl → Prop := fun _ _ => False
section
variable {K : PySem.W.Frag} {pin : List Nat} {Γ : List Sl} {ys : List Dt} {P : Yp} {te : TE} {t u tb : TGn}
end
section
variable {K : PySem.W.Frag} {Γ : List Sl} {ta : TA} {Post : Re → List Sl → Prop}
end
section
variable {K : PySem.W.Frag} {pin : List Nat} {Γ : List Sl} {P : Ps} {g : TG} {tb' : TS}
theorem ws_for3 {t1 : TA} (h : WD K t1 Γ fun ds Γ1 => ∃ lo m : Int, ds = [.int lo, .int m, .int (-1)] ∧ (-(2 ^ 62) ≤ lo ∧ lo < 2 ^ 62 ∧ -(2 ^ 62) ≤ m ∧ m < 2 ^ 62) ∧ ∃ Inv : Nat → List Sl → Prop, Inv 0 Γ1 ∧
      (∀ (i : Nat) Γ', m < lo - (i : Int) → Inv i Γ' → WG K pin g (.int (lo - i)) Γ' fun Γ2 => WS K pin tb' Γ2 ⟨Inv (i + 1), P.rt, P.nx, Inv (i + 1), P.ex⟩) ∧ ∀ Γ', Inv (lo - m).toNat Γ' → P.nx Γ') : WS K pin (tFor (iRng3 t1) g tb') Γ P := fun σ B H D E n r b c xx => by
  refine h σ B H E _ fun vs B1 H1 ds Γ1 g1 k p => ?_
  obtain ⟨lo, m, rfl, hb, Inv, i0, turn, done⟩ := p
  have ev : vs = [.int lo, .int m, .int (-1)] := IsA.rawsI (xs := [.int lo, .int m, .int (-1)]) k
  refine ⟨lo, m, -1, (lo - m).toNat, ev, RgC.neg hb.1 hb.2.1 hb.2.2.1 hb.2.2.2, ?_⟩
  refine for_rangeC (lo := lo) (c := -1) (n := (lo - m).toNat) (fun i σ' H' => ∃ B' Γ', GoS K pin σ B H Γ σ' B' H' Γ' ∧ Inv i Γ') ⟨B1, Γ1, g1.s, i0⟩ ?_ ?_
  · rintro i σ' H' hi ⟨B', Γ', g2, inv⟩
    rw [show lo + (i : Int) * (-1) = lo - i by omega]
    refine turn i Γ' (by omega) inv σ' B' H' _ g2.env (.raw _) _ fun σ2 Γ2 g3 w => ?_
    exact ws_from w (g2.trans g3) (fun σ3 B3 H3 Γ3 g4 p => ⟨B3, Γ3, g4, p⟩) r (fun σ3 B3 H3 Γ3 g4 p => n σ3 B3 H3 Γ3 g4 p) (fun σ3 B3 H3 Γ3 g4 p => ⟨B3, Γ3, g4, p⟩) xx
  · rintro σ' H' ⟨B', Γ', g2, inv⟩
    exact n σ' B' H' Γ' g2 (done Γ' inv)
theorem for_3H {t1 : TA} (h : WD K t1 Γ fun ds Γ1 => Hold (∃ lo m : Int, ds = [.int lo, .int m, .int (-1)] ∧ (-(2 ^ 62) ≤ lo ∧ lo < 2 ^ 62 ∧ -(2 ^ 62) ≤ m ∧ m < 2 ^ 62) ∧ ∃ Inv : Nat → List Sl → Prop, Inv 0 Γ1 ∧
      (∀ (i : Nat) Γ', m < lo - (i : Int) → Inv i Γ' → WG K pin g (.int (lo - i)) Γ' fun Γ2 => WS K pin tb' Γ2 ⟨fun G => Hold (Inv (i + 1) G), P.rt, P.nx, fun G => Hold (Inv (i + 1) G), P.ex⟩) ∧ ∀ Γ', Inv (lo - m).toNat Γ' → P.nx Γ')) : WS K pin (tFor (iRng3 t1) g tb') Γ P :=
  ws_for3 fun σ B H E Q q => h σ B H E Q fun vs B' H' ds Γ' g k p => q vs B' H' ds Γ' g k (by
    obtain ⟨lo, m, e, hb, Inv, i0, turn, done⟩ := p.get
    exact ⟨lo, m, e, hb, fun i G => Hold (Inv i G), .a i0, fun i G hi hG => turn i G hi hG.get, fun G hG => done G hG.get⟩)
end
end Ab

namespace Ab
open PySem L2
theorem ExB.nil {K : PySem.W.Frag} {B : Hp} {d : Option Addr} (h : ExB K B d []) : d = Option.none := by
  cases h with
  | none => rfl
  | some _ _ _ hne => exact absurd rfl hne
section
variable {K : PySem.W.Frag} {pin : List Nat} {Γ : List Sl} {P : Ps}
theorem GoS.un {σ σ1 : L2.St} {B H B1 H1 : Hp} {Γ1 : List Sl} (g : GoS K pin σ B H Γ σ1 B1 H1 Γ1) {i : Nat} (hp : pin.contains i = false) : GoS K pin σ B H Γ (σ1.set i none) B1 H1 (Γ1.set i .un) := by
  by_cases hi : i < Γ1.length
  · refine g.trans ⟨Mv.refl _ _ _, fun a h => .inl (h.set_ne fun ds z => nomatch z), g.env.setU none hi, pin_set hp⟩
  · rw [List.set_eq_of_length_le (l := σ1) (by rw [g.env.len]; omega), List.set_eq_of_length_le (l := Γ1) (by omega)]
    exact g
theorem takes00 {X : Cx} : Takes X (fun _ _ _ _ => False) := fun _ _ x => by
  obtain ⟨_, _, _, _, _, _, _, _, _, _, _, _, _, _, _, _, z⟩ := x
  exact z.elim
end
end Ab

namespace Ab
open PySem L2
def XD (d : Option Addr) (H : Hp) : Prop := d = none ∨ ∃ (dd : Addr) (fs : List (Str × V)), d = some dd ∧ H dd = some (.xd fs)
def tExcD (K : PySem.W.Frag) (fs : List Str) (cls : Value) (t : Addr → TS) : TS := fun D σ H => ∃ C, cls = .ref C ∧ ExcC K C ∧ XfC K C ∧ (∀ f ∈ fs, PySem.W.findIn K (.ref C) f = some none) ∧ t C D σ H
theorem pss_excD {X : Cx} {st : List Stmt} {cls : Value} {fs : List Str} {t : Addr → TS} (h : ∀ C, cls = .ref C → ExcC X.K C → XfC X.K C → (∀ f ∈ fs, PySem.W.findIn X.K (.ref C) f = some none) → PSs X st (t C)) : PSs X st (tExcD X.K fs cls t) :=
  ⟨fun pins s σ H D I ⟨C, e, hC, hX, hN, ht⟩ => (h C e hC hX hN).run pins s σ H D I ht⟩
def tTryAd (K : PySem.W.Frag) (fs : List Str) (c : Value) (i : Nat) (tb : WX → TS) (ts : Addr → Addr → Option Addr → TS) (Wout : WX) : TS := fun D σ H => tb (wAs K c i (fun a cls d => tExcD K fs cls fun C => ts a C d) Wout D) D σ H
theorem ExB.is {K : PySem.W.Frag} {B : Hp} {a : Addr} {d : Option Addr} {gs : List (Str × Dt)} (h : ExB K B d gs) : Is K B (.ref a) (.exn a d gs) := by
  cases h with
  | none => exact .exn0
  | some h hk hi _ => exact .exnD h hk hi
theorem XD.mono {d : Option Addr} {B H : Hp} (e : Same B H) (h : XD d B) : XD d H := by
  rcases h with h | ⟨dd, fs, h1, h2⟩
  · exact .inl h
  · exact .inr ⟨dd, fs, h1, e _ _ h2⟩
section
variable {K : PySem.W.Frag} {pin : List Nat} {Γ : List Sl} {P : Ps}
theorem ws_tryAd {fs : List Str} {c : Value} {i : Nat} {tb : WX → TS} {ts : Addr → Addr → Option Addr → TS} {Wout : WX} (q' : Value → List (Str × Dt) → List Sl → Prop) (hp : pin.contains i = false)
    (h : ∀ W, WS K pin (tb W) Γ ⟨P.nx, P.rt, P.bk, P.ct, ⟨W, fun cls fs G => Hold (q' cls fs G)⟩⟩)
    (k : ∀ cls gs G, q' cls gs G → ∃ b, PySem.W.exmOne K cls c = some b ∧ (b = true → decide (i < G.length) = true ∧ ∃ C, cls = .ref C ∧ ExcC K C ∧ XfC K C ∧ (∀ f ∈ fs, PySem.W.findIn K (.ref C) f = some none) ∧
        ∀ a d, WS K pin (ts a C d) (G.set i (.val (.exn a d gs))) ⟨fun G1 => NormP (G1.set i .un) P.nx, P.rt, fun G1 => P.bk (G1.set i .un), fun G1 => P.ct (G1.set i .un), P.ex⟩) ∧
      (b = false → P.ex.W = Wout ∧ P.ex.q cls gs G)) : WS K pin (tTryAd K fs c i tb ts Wout) Γ P := fun σ B H D E n r b cc xx => by
  refine h _ σ B H D E n r b cc fun cls d gs σ' B' H' Γ' g hx p => ?_
  obtain ⟨z, hz, hy, hn⟩ := k cls gs Γ' p.get
  refine ⟨z, hz, fun e a ha => ?_, fun e => ?_⟩
  · obtain ⟨hi, C, e1, e2, e3, e4, hs⟩ := hy e
    refine ⟨C, e1, e2, e3, e4, ?_⟩
    have g1 : GoS K pin σ' B' H' Γ' (σ'.set i (some (.ref a))) B' H' (Γ'.set i (.val (.exn a d gs))) := goS_set (r := .val (.exn a d gs)) (Go.refl g.env) hx.is hp (of_decide_eq_true hi)
    exact ws_from (hs a d) (g.trans g1) (fun σ3 B3 H3 Γ3 g3 p => n _ B3 H3 _ (g3.un hp) p) r (fun σ3 B3 H3 Γ3 g3 p => b _ B3 H3 _ (g3.un hp) p) (fun σ3 B3 H3 Γ3 g3 p => cc _ B3 H3 _ (g3.un hp) p) xx
  · obtain ⟨rfl, pq⟩ := hn e
    exact xx cls d gs σ' B' H' Γ' g hx pq
theorem we_xf {te : TE} {Post : Re → List Sl → Prop} {a C : Addr} {d : Option Addr} {f : Str} (h : WE K te Γ fun r Γ1 => ∃ gs x, r = .val (.exn a d gs) ∧ gs.lookup f = some x ∧ Post (.val x) Γ1) : WE K (tXf a (.ref C) d C f te) Γ Post := fun σ B H E Q q => by
  refine h σ B H E _ fun v B1 H1 r Γ1 g k p => ?_
  obtain ⟨gs, x, rfl, hl, p⟩ := p
  have k' : Is K B1 v (.exn a d gs) := k
  cases k' with
  | exn0 => cases hl
  | @exnD _ dd fs _ hb hk hi =>
    obtain ⟨y, hy⟩ := Option.isSome_iff_exists.mp ((hk f).trans (by rw [hl]; rfl))
    exact ⟨rfl, rfl, dd, fs, y, rfl, g.env.bh _ _ hb, hy, q y B1 H1 (.val x) Γ1 g (hi f y x hy hl) p⟩
end
end Ab

namespace Ab
open PySem L2
section
variable {K : PySem.W.Frag} {pin : List Nat} {Γ : List Sl} {P : Ps} {ta : TA}
theorem ws_par {i j : Nat} (hp : pin.contains i = false) (hq : pin.contains j = false) (hi : decide (i < Γ.length) = true) (hj : decide (j < Γ.length) = true)
    (h : WD K ta Γ fun ds Γ1 => ∃ d e, ds = [d, e] ∧ NormP ((Γ1.set i (.val d)).set j (.val e)) P.nx) : WS K pin (tPar i j ta) Γ P := fun σ B H D E n r b c xx =>
  h σ B H E _ fun vs B1 H1 ds Γ1 g k p => by
    obtain ⟨d, e, rfl, p⟩ := p
    obtain ⟨x, y, rfl⟩ : ∃ x y, vs = [x, y] := by
      match vs, k.len with
      | [x, y], _ => exact ⟨x, y, rfl⟩
    refine ⟨x, y, rfl, ?_⟩
    have hl : Γ1.length = Γ.length := by rw [← g.env.len, E.len]
    have g1 := goS_set (pin := pin) (r := .val d) g (k.at_ 0 x d rfl rfl) hp (by rw [hl]; exact of_decide_eq_true hi)
    have g2 := goS_set (pin := pin) (r := .val e) (Go.refl g1.env) (k.at_ 1 y e rfl rfl) hq (by rw [List.length_set, hl]; exact of_decide_eq_true hj)
    exact n _ B1 H1 _ (g1.trans g2) p
theorem ws_par3 {i j l : Nat} (hp : pin.contains i = false) (hq : pin.contains j = false) (hs : pin.contains l = false) (hi : decide (i < Γ.length) = true) (hj : decide (j < Γ.length) = true) (hl : decide (l < Γ.length) = true)
    (h : WD K ta Γ fun ds Γ1 => ∃ d e f, ds = [d, e, f] ∧ NormP (((Γ1.set i (.val d)).set j (.val e)).set l (.val f)) P.nx) : WS K pin (tPar3 i j l ta) Γ P := fun σ B H D E n r b c xx =>
  h σ B H E _ fun vs B1 H1 ds Γ1 g k p => by
    obtain ⟨d, e, f, rfl, p⟩ := p
    obtain ⟨x, y, z, rfl⟩ : ∃ x y z, vs = [x, y, z] := by
      match vs, k.len with
      | [x, y, z], _ => exact ⟨x, y, z, rfl⟩
    refine ⟨x, y, z, rfl, ?_⟩
    have hL : Γ1.length = Γ.length := by rw [← g.env.len, E.len]
    have g1 := goS_set (pin := pin) (r := .val d) g (k.at_ 0 x d rfl rfl) hp (by rw [hL]; exact of_decide_eq_true hi)
    have g2 := goS_set (pin := pin) (r := .val e) (Go.refl g1.env) (k.at_ 1 y e rfl rfl) hq (by rw [List.length_set, hL]; exact of_decide_eq_true hj)
    have g3 := goS_set (pin := pin) (r := .val f) (Go.refl g2.env) (k.at_ 2 z f rfl rfl) hs (by rw [List.length_set, List.length_set, hL]; exact of_decide_eq_true hl)
    exact n _ B1 H1 _ ((g1.trans g2).trans g3) p
end
end Ab

namespace L2
open PySem PySem.Spec PyProof.Rows PySem.W PySem.Calls
theorem mro_has {K : Frag} {C : Addr} {cd : ClassData} {bm : List Value} (hcd : clsIn K C = some cd) (hm : cd.mro = .ref C :: bm) (b : Value) (hb : b = .ref C ∨ bm.contains b = true) : mroIn K C b = some true := by
  unfold mroIn
  rw [hcd, Option.bind_some, hm, if_neg (show ¬ (List.isEmpty (Value.ref C :: bm) = true) from Bool.false_ne_true)]
  rcases hb with rfl | hb
  · simp
  · rw [List.contains_cons, hb, Bool.or_true]
theorem sup_callWith {i : String} {u x : Addr} {M : Model} {A : Around} {E : Value → Shared → Prop} {s : Shared} {pos : Pos} {env : Env} {e : Expr} {rest : List Expr} {Q : Value → Shared → Prop}
    (h : wpAny M A (spliced (backTo pos (starEach (e :: rest) env))) (fun vs s₁ => KxsAt i u x s₁.heap ∧ wpAny M A (call (.ref u) vs) Q E s₁) E s)
    (he : starEach (e :: rest) env = (false, eval e env) :: starEach rest env) (hplain : (backTo pos (starEach rest env)).any (·.1) = false) :
    wpAny M A (callWith pos (.ref u) [] (backTo pos (starEach (e :: rest) env)) []) Q E s := by
  rw [he] at h ⊢
  refine kxs_callWith (i := i) (x := x) (by show (false || (backTo pos (starEach rest env)).any (·.1)) = false; rw [hplain]; rfl) ?_
  exact evalArgs_plain h
def tSup (C : Addr) (ta : TA) (t : TS) : TS := fun D σ H => ∃ a : Addr, σ[0]? = some (some (.ref a)) ∧ H a = some (exo a C none) ∧ ta σ H fun vs H1 => vs.length ≤ 1000 ∧ H1 a = some (exo a C none) ∧ t D σ H1
section
variable {X : Cx} {pins : List (Addr × Obj)} {σ : St} {H : Hp} {s : Shared} {D : Ends} {C f cda cc : Addr} {fd : FuncData} {body rest : List Stmt} {e : Expr} {es : List Expr} {p0 p1 p2 p3 p4 : Pos} {ta : TA} {t : TS}
  {oc ccl cl : Value} {od cdd cld : Option Addr} {osl ccs csl : Array (Option Value)} {ar : Arg} {vs : Array Value} {file : Str} {tf : Tok}
theorem sup_line (hks : X.env.kindOf "super" = some .globalImplicit) (hkc : X.env.kindOf "__class__" = some .free) (hfu : X.env.func = some f) (hco : X.env.code = .ref cda) (hcl : X.env.cells.lookup ("__class__" : Str) = some cc)
    (lk : X.K.lookup f = some ⟨oc, od, .func fd, osl⟩) (hp : (fd.params.posonlyargs ++ fd.params.args).head? = some ar) (hN : X.N[0]? = some ar.arg) (hv : X.env.kindOf ar.arg = some .local) (hvis : Vis X.env.scope ar.arg)
    (hcode : X.K.lookup cda = some ⟨ccl, cdd, .fields vs, ccs⟩) (hvs : vs[2]? = some (.str file tf)) (hfile : ((X.prog.main.file : Str) == file) = true) (htop : (X.prog.main.scope.names.lookup ("super" : Str)).isSome = false)
    (hcell : X.K.lookup cc = some ⟨cl, cld, .cell (some (.ref C)), csl⟩) (hsup : X.mg "super" = none) (T : OexC X.K C) (hm : ks_superIn X.K C C "__init__" = some (some (.builtin "ValueError.__init__")))
    (ho : nsIn X.K cStatics "thirdparty.any" = some none) (I : Inv X pins σ H s) (h : tSup C ta t D σ H) (ha : PA X (e :: es) ta) (hr : PSs X rest t) {pl : Sem Bool}
    (hc : eval (.Call (.Attribute (.Call (.Name "super" p0) [] [] p1) "__init__" p2) (e :: es) [] p3) X.env = (do
      let ov ← attributeBase (.Call (.Name "super" p0) [] [] p1) "__init__" X.env (eval (.Call (.Name "super" p0) [] [] p1) X.env)
      standAt p2.atName
      let (f, first) ← holding [ov] (getMethod ov "__init__" pl)
      callWith p3 f first (backTo p3 (starEach (e :: es) X.env)) []) := by rfl)
    (he : starEach (e :: es) X.env = (false, eval e X.env) :: starEach es X.env := by rfl) (hpl : (backTo p3 (starEach es X.env)).any (·.1) = false := by rfl) (hi : interactive X.env = false := by rfl) :
    _root_.PySem.wpAt (model X.prog X.w) X.A (.func body X.env) (execs (.Expr (.Call (.Attribute (.Call (.Name "super" p0) [] [] p1) "__init__" p2) (e :: es) [] p3) p4 :: rest) X.env) (SP X pins D) X.xe s := by
  obtain ⟨a, hσ, hH, h⟩ := h
  obtain ⟨nm, q, N, bs, bm, sn, sub, ab, col, dd, k0, k1, k2, k3, k5, hC, hbm⟩ := T.cls
  have hcd : clsIn X.K C = some { name := nm, bases := bs, mro := .ref C :: bm, ns := N, qualname := q, hasDict := true, slotNames := sn, subclasses := sub, abstract := ab, collection := col, hasDel := false } := by unfold clsIn; rw [hC] <;> rfl
  have KX := I.kIn
  obtain ⟨t1, hx⟩ := exo_at I.hok hH
  have hne : X.mg "super" = none := hsup
  obtain ⟨m, hns, hloc⟩ := id I.loc
  obtain ⟨ua, rua, hlook⟩ := hloc 0 ar.arg _ hN hσ hvis
  obtain rfl : ua = Value.ref a := rua
  have hma : m ar.arg = some (.ref a) := by
    rcases hlook with ⟨_, z⟩ | ⟨z, _⟩
    · exact z
    · rw [hv] at z; rcases z with z | z <;> cases z
  have IA : InstAt s.heap a (HandSPX.excO C t1) C none := ⟨hx, rfl, rfl, trivial⟩
  refine ks_wpAt_execs_cons (ks_wpAt_Expr_any (ks_wpAt_MethodCall ?_ hc) hi)
  refine ks_wpAt_super_base hks hkc (by decide) hfu (KX _ _ lk) rfl hp hco (KX _ _ hcode) rfl hvs hfile htop ?_
  refine ks_loadName_global I.ok.kind hks ?_
  obtain ⟨mb, hb1, hb2⟩ := I.mod.blt
  refine Calls.loadGlobal_builtin (by rw [I.ok.glob]; exact I.mod.glob.keeps I.bk) hne (by rw [I.ok.blt]; exact hb1.keeps I.bk) ((hb2 "super" (by decide)).trans (show bootBuiltins "super" = some (.type "super") from PyProof.Rows.Boot.«super»)) ⟨rfl, ?_⟩
  refine wpAny_loadName_free I.ok.kind hkc hcl ⟨_, KX _ _ hcell, rfl⟩ ?_
  refine wpAny_loadName_local I.ok.kind hv hns hma ?_
  have hDC := KX _ _ hC
  refine ks_wpAny_isType_cls hDC rfl ⟨rfl, ?_⟩
  obtain ⟨hp0, g, d, tk, os⟩ := s
  refine ks_wpAny_call_super hDC rfl hx rfl (fun c e => by cases e) (looks_mroIn KX (mro_has hcd rfl _ (.inl rfl))) (fun h1 e1 k1 => ?_)
  have I1 : Inv X pins σ H ⟨h1, g, d, tk, os⟩ := I.kept k1
  have hI : Looks (model X.prog X.w) h1 (isInstance (.ref a) (.type "ValueError")) true := (InstAt.type (⟨k1 _ _ hx, rfl, rfl, trivial⟩ : InstAt h1 a (HandSPX.excO C t1) C none)).andThen (looks_mroIn (KX.keeps k1) (mro_has hcd rfl _ (.inr ((HandSPX.refsVE_contains "ValueError" _ hbm).trans (by decide +kernel)))))
  have hm' : alongIn X.K "__init__" ((( .ref C :: bm : List Value).dropWhile (· != .ref C)).drop 1) = some (some (.builtin "ValueError.__init__")) := by
    unfold ks_superIn at hm
    rw [hcd] at hm
    exact hm
  refine kxs_getMethod kxs_ValueError e1 (looks_opaque (KX.keeps k1) ho) (l₀ := .ref C :: bm) (fun A Q E s k q => wpAny_bind ((looks_clsIn (KX.keeps k1) hcd) A _ E s k (wpAny_pure q))) rfl (KX.keeps k1) hm' hI (ks_ne KX IA hcd) (by decide) ?_
  have k2 : ∀ b o, h1.get? b = some o → (h1.push (kxs_mw "ValueError.__init__" a)).get? b = some o := fun b o e => Heap.get?_push_of_some _ e
  have hu2 : (h1.push (kxs_mw "ValueError.__init__" a)).get? h1.objs.size = some (kxs_mw "ValueError.__init__" a) := Heap.get?_push_at rfl rfl
  have I2 : Inv X pins σ H ⟨h1.push (kxs_mw "ValueError.__init__" a), g, d, tk + 1, os⟩ := I1.kept (t' := tk + 1) k2
  have hnu : H h1.objs.size = none := I1.hok.fresh (Nat.le_refl _)
  have I3 : Inv X ((h1.objs.size, kxs_mw "ValueError.__init__" a) :: pins) σ H ⟨h1.push (kxs_mw "ValueError.__init__" a), g, d, tk + 1, os⟩ := I2.pins_of fun p hp => by
    rcases List.mem_cons.mp hp with rfl | hp
    · refine ⟨hu2, hnu, fun z => ?_, fun z => ?_, fun v z => by cases z⟩
      · obtain ⟨m1, ⟨oL, _, _, hL, _⟩, _⟩ := I1.loc
        have := Heap.lt_size hL
        rw [← show h1.objs.size = X.env.locals from z] at this
        exact absurd this (Nat.lt_irrefl _)
      · exact I1.nofs (Nat.le_refl _) z
    · exact I2.pin p (List.mem_append_right _ hp)
  refine sup_callWith (i := "ValueError.__init__") (x := a) (thn (ha.run p3 _ _ σ H _ I3 h) fun us s3 ⟨vs3, H3, I4, r3, hz, hH3, q3⟩ => ⟨(I4.pin _ (List.mem_append_right _ List.mem_cons_self)).1, ?_⟩) he hpl
  have hu3 := (I4.pin _ (List.mem_append_right _ List.mem_cons_self)).1
  have I5 : Inv X pins σ H3 s3 := I4.pins_of fun p hp => I4.pin p (List.mem_append_right _ (List.mem_cons_of_mem _ hp))
  obtain ⟨t3, hx3⟩ := exo_at I5.hok hH3
  obtain ⟨h3, g3, d3, tk3, os3⟩ := s3
  have hlen : us.length ≤ sizeLine := by
    rw [← Paired.length r3, sizeLine_eq]
    omega
  show wpAny _ _ (call (.ref h1.objs.size) us) _ _ _
  refine wpAny_call (codeAny_of_tree ?_)
  show wpAny _ X.A.in1 (callAny (.ref h1.objs.size) ⟨us, []⟩) _ _ _
  simp only [callAny]
  refine wpAny_bind (wpAny_load hu3 ?_)
  simp only [kxs_mw, show (Value.type "method-wrapper" == Value.type "method" || Value.type "method-wrapper" == Value.type "builtin_function_or_method" || Value.type "method-wrapper" == Value.type "method-wrapper") = true by decide, if_true]
  refine KFB.if_so (by decide) ?_
  refine wpAny_bind (check_bound_init F.excBase_ValueError.toExcCallFacts (I5.kIn _ _ hC) hx3 rfl ?_)
  refine wpAny_bind (wpAny_pure (wpAny_pure ?_))
  refine ⟨plainId_quiet F.excBase_ValueError.init.plain _, codeAny_builtin F.excBase_ValueError.initEntry ?_⟩
  refine exc_init_tree (cls := .ref C) (t0 := t3) (dv := none) (c2 := .none) (c3 := .none) (b4 := .bool false) hx3 hlen fun h' kp he' ht' => ?_
  have J := I5.write (t' := tk3) (x := a) (e := a) (o := exo a C none) (by rw [hH3]; exact True.intro) (.inl rfl) kp ⟨_, he'⟩ (exo_ok he')
  have eu : upd H3 a (exo a C none) = H3 := by
    funext b
    by_cases hb : b = a
    · rw [hb, upd_same, hH3]
    · rw [upd_ne hb]
  rw [eu] at J
  exact wpAt_of_wpAny (hr.run pins _ σ H3 D J q3)
end
structure SupF (P : Program) (K : Frag) (C f : Addr) (F : NdefX.NF) (fd : FuncData) (x0 : Str) : Prop where
  lk : ∃ oc od dV kV doc pm an ct osl, fd = fnX F.name F.qual F.params F.body F.scope F.cl dV kV doc pm an (.ref F.c) ct ∧ K.lookup f = some ⟨oc, od, .func fd, osl⟩
  cd : codeIn K (.ref F.c) F.qual = true
  code : ∃ ccl cdd vs ccs file tf, K.lookup F.c = some ⟨ccl, cdd, .fields vs, ccs⟩ ∧ vs[2]? = some (.str file tf) ∧ ((P.main.file : Str) == file) = true
  top : (P.main.scope.names.lookup ("super" : Str)).isSome = false
  cell : ∃ cc cl cld csl, F.cl = [(("__class__" : Str), cc)] ∧ K.lookup cc = some ⟨cl, cld, .cell (some (.ref C)), csl⟩
  arg : ∃ ar, (F.params.posonlyargs ++ F.params.args).head? = some ar ∧ ar.arg = x0
  sup : ks_superIn K C C "__init__" = some (some (.builtin "ValueError.__init__"))
  opq : nsIn K cStatics "thirdparty.any" = some none
theorem fn_sup {CX : CXT} {P : Program} {w : World} {K : Frag} {mg : Str → Option Value} {base : Heap} {k : Nat} {f C : Addr} {F : NdefX.NF} {fd : FuncData} {N ps : List Str} {x0 : Str} {sp : Sp} {e : Expr} {es : List Expr} {rest : List Stmt} {p0 p1 p2 p3 p4 : Pos}
    (B : SupF P K C f F fd x0) (T : OexC K C) (hsup : mg "super" = none) (hbd : F.body = .Expr (.Call (.Attribute (.Call (.Name "super" p0) [] [] p1) "__init__" p2) (e :: es) [] p3) p4 :: rest)
    (S : NdefX.NScope N (x0 :: ps) ["__class__"] F.scope) (hks : F.scope.names.lookup ("super" : Str) = some .globalImplicit)
    (len : ∀ vs H Q E, sp vs H Q E → vs.length = (x0 :: ps).length)
    (hbody : ∀ (A : Around) (outer : List Env) (s : Shared) (H : Hp) (vs : List V) (Q : VK) (E : XK), Room k (A.deeper (NdefX.envF F f s.heap.objs.size)) → sp vs H Q E →
      ∃ ta t, PA (NdefX.ncx CX P w K mg base N F f A outer s H E) (e :: es) ta ∧ PSs (NdefX.ncx CX P w K mg base N F f A outer s H E) rest t ∧ tSup C ta t { nx := fun _ H' => Q .non H', rt := Q } (NdefX.startF N vs [some (.ref C)]) H)
    (hc : ∀ env : Env, ∃ pl : Sem Bool, eval (.Call (.Attribute (.Call (.Name "super" p0) [] [] p1) "__init__" p2) (e :: es) [] p3) env = (do
      let ov ← attributeBase (.Call (.Name "super" p0) [] [] p1) "__init__" env (eval (.Call (.Name "super" p0) [] [] p1) env)
      standAt p2.atName
      let (f, first) ← holding [ov] (getMethod ov "__init__" pl)
      callWith p3 f first (backTo p3 (starEach (e :: es) env)) []))
    (he : ∀ env : Env, starEach (e :: es) env = (false, eval e env) :: starEach es env) (hpl : ∀ env : Env, (backTo p3 (starEach es env)).any (·.1) = false) :
    FnOk P w K mg base CX (k + 1) f fd (x0 :: ps) sp := by
  obtain ⟨⟨oc, od, dV, kV, doc, pm, an, ct, osl, rfl, lk⟩, hcd, ⟨ccl, cdd, vsc, ccs, file, tf, hcode, hvs, hfile⟩, htop, ⟨cc, cl, cld, csl, hcl, hcell⟩, ⟨ar, har, rfl⟩, hm, hop⟩ := B
  refine ⟨len, fun A outer s H args us vs Q E hr e0 hb r hsp => ?_⟩
  have hl := len _ _ _ _ hsp
  have KX : K.In s.heap := e0.mod.kin.keeps fun b o e => (e0.bs b o e).1
  have lim : s.heap.NoLimit := e0.mod.nolimit.keeps fun b o e => (e0.bs b o e).1
  have h00 : N[0]? = some ar.arg := by
    have q := S.pre
    have q1 := congrArg (fun l => l[0]?) q
    simp only [List.length_cons, List.cons_append, List.getElem?_cons_zero] at q1
    rw [List.getElem?_take_of_lt (by omega)] at q1
    exact q1
  refine ks_codeAny_call_defAt (fd := fnX F.name F.qual F.params F.body F.scope F.cl dV kV doc pm an (.ref F.c) ct) (body := F.body) (binds := (ar.arg :: ps).zip us) hr.depth (KX _ _ lk) rfl lim (codeRec_of KX hcd) rfl hb S.nocell (fun ⟨n, v⟩ hy => S.par n (List.of_mem_zip hy).1) (fun h₁ hns kp => ?_) S.co S.gen S.kind
  have Cs : NdefX.CellsAt F.cl ["__class__"] [some (.ref C)] s.heap H := by
    have lkc : ∀ {y : Str} {c : Addr}, F.cl.lookup y = some c → y = "__class__" ∧ c = cc := fun {y c} q => by
      rw [hcl] at q
      by_cases hy : y = "__class__"
      · subst hy
        exact ⟨rfl, (Option.some.inj q).symm⟩
      · have z : (y == ("__class__" : Str)) = false := by simpa using hy
        simp [List.lookup, z] at q
    refine ⟨rfl, fun y c q => ?_, fun x y c q1 q2 => ?_, fun i y hi => ?_⟩
    · obtain ⟨_, rfl⟩ := lkc q
      exact ⟨(e0.bs _ _ (e0.mod.kin _ _ hcell)).2, _, _, KX _ _ hcell, rfl⟩
    · rw [(lkc q1).1, (lkc q2).1]
    · cases i with
      | zero =>
        cases hi
        refine ⟨cc, by rw [hcl]; rfl, fun v hv => ?_⟩
        cases hv
        exact ⟨_, rfl, _, KX _ _ hcell, rfl⟩
      | succ i => simp at hi
  have I : Inv (NdefX.ncx CX P w K mg base N F f A outer s H E) [] (NdefX.startF N vs [some (.ref C)]) H { s with heap := h₁, toks := s.toks + ((ar.arg :: ps).zip us).length } := NdefX.inv_startN S hr.hd e0 hl r Cs hns kp
  obtain ⟨ta, t, ha, ht, hq⟩ := hbody A outer s H vs Q E (hr.deeper _) hsp
  obtain ⟨pl, hc⟩ := hc (NdefX.ncx CX P w K mg base N F f A outer s H E).env
  have kc : (NdefX.ncx CX P w K mg base N F f A outer s H E).env.kindOf "__class__" = some .free := S.frk _ List.mem_cons_self
  have go := sup_line (X := NdefX.ncx CX P w K mg base N F f A outer s H E) (body := F.body) (p4 := p4) (D := { nx := fun _ H' => Q .non H', rt := Q }) hks kc rfl rfl (by show F.cl.lookup _ = _; rw [hcl]; rfl) lk har h00 (S.par _ List.mem_cons_self) (.inl (S.par _ List.mem_cons_self)) hcode hvs hfile htop hcell hsup T hm hop I hq ha ht hc (he _) (hpl _) (by unfold interactive; show ((F.scope.kind == .module) && _) = false; rw [S.kind]; rfl)
  rw [← hbd] at go
  refine ks_wpAt_mono go (fun fl s' hs => ?_) fun e s' hs => hs
  have fin : ∀ {σ' : L2.St} {H' : Hp} {v : V} {u : Value}, Inv (NdefX.ncx CX P w K mg base N F f A outer s H E) [] σ' H' s' → L2.RelV v u → Q v H' → CE outer P w H s Q u s' :=
    fun {σ' H' v u} J rv q => ⟨v, H', J.os, J.bare, J.base, J.hok, rv, q⟩
  cases fl with
  | ret u =>
    obtain ⟨v, σ', H', J, rv, q⟩ := hs
    exact fin J rv q
  | next =>
    obtain ⟨σ', H', J, q⟩ := hs
    exact fin (v := V.non) (u := Value.none) J rfl q
  | brk =>
    obtain ⟨_, _, _, q⟩ := hs
    exact False.elim q
  | cont =>
    obtain ⟨_, _, _, q⟩ := hs
    exact False.elim q
def spE2 (C : Addr) (f g : Str) : Sp := fun vs H Q _ => ∃ (a : Addr) (u v : V), vs = [.ref a, u, v] ∧ H a = some (exo a C none) ∧ ∀ d, H d = none → d ≠ a → Q .non (upd (upd (upd H d (exd d [(f, u)])) a (exo a C (some d))) d (exd d [(g, v), (f, u)]))
section
variable {CX : CXT} {P : Program} {w : World} {K : Frag} {mg : Str → Option Value} {base : Heap} {fI C : Addr} {F : NdefX.NF} {fd : FuncData} {x y f g msg : Str} {j : Nat} {p0 p1 p2 p3 p4 p5 p6 p7 q0 q1 q2 q3 q4 q5 q6 q7 : Pos}
theorem ok_e2 (B : SupF P K C fI F fd "self") (T : OexC K C) (hsup : mg "super" = none)
    (hbd : F.body = .Expr (.Call (.Attribute (.Call (.Name "super" p0) [] [] p1) "__init__" p2) [.Constant (.str msg) j p5] [] p3) p4 :: [.Assign [.Attribute (.Name "self" q0) f q1] (.Name x q2) q3, .Assign [.Attribute (.Name "self" q4) g q5] (.Name y q6) q7])
    (S : NdefX.NScope ["self", x, y, "__class__"] ["self", x, y] ["__class__"] F.scope) (hks : F.scope.names.lookup ("super" : Str) = some .globalImplicit) (hno : findIn K (.ref C) f = some none) (hd : (x == ("__debug__" : Str)) = false) (hcd : (x == ("__classdict__" : Str)) = false) (hs : ∀ env : Env, swapsWith (.Name x q2) (some (.Attribute (.Name "self" q0) f q1)) q3.line env = pure false) (hno2 : findIn K (.ref C) g = some none) (hd2 : (y == ("__debug__" : Str)) = false) (hcd2 : (y == ("__classdict__" : Str)) = false) (hs2 : ∀ env : Env, swapsWith (.Name y q6) (some (.Attribute (.Name "self" q4) g q5)) q7.line env = pure false)
    (hc : ∀ env : Env, ∃ pl : Sem Bool, eval (.Call (.Attribute (.Call (.Name "super" p0) [] [] p1) "__init__" p2) [.Constant (.str msg) j p5] [] p3) env = (do
      let ov ← attributeBase (.Call (.Name "super" p0) [] [] p1) "__init__" env (eval (.Call (.Name "super" p0) [] [] p1) env)
      standAt p2.atName
      let (f, first) ← holding [ov] (getMethod ov "__init__" pl)
      callWith p3 f first (backTo p3 (starEach [.Constant (.str msg) j p5] env)) [])) (he : ∀ env : Env, starEach [.Constant (.str msg) j p5] env = (false, eval (.Constant (.str msg) j p5) env) :: starEach [] env) :
    FnOk P w K mg base CX 1 fI fd ["self", x, y] (spE2 C f g) := by
  refine fn_sup B T hsup hbd S hks (fun vs H Q E h => ?_) (fun A outer s H vs Q E hr h => ?_) hc he (fun env => rfl)
  · obtain ⟨a, u, v, rfl, _⟩ := h
    rfl
  · obtain ⟨a, u, v, rfl, hH, q⟩ := h
    refine ⟨_, _, pa_cons pe_str pa_nil, pss_cons (ps_ost (pe_var (i := 0) rfl (.inl (S.par _ List.mem_cons_self))) (pe_var (i := 1) rfl (.inl (S.par _ (List.mem_cons_of_mem _ List.mem_cons_self))) hd hcd) (hs _)) (pss_one (ps_ost (pe_var (i := 0) rfl (.inl (S.par _ List.mem_cons_self))) (pe_var (i := 2) rfl (.inl (S.par _ (List.mem_cons_of_mem _ (List.mem_cons_of_mem _ List.mem_cons_self)))) hd2 hcd2) (hs2 _))), a, rfl, hH, ?_⟩
    refine ⟨by show 1 ≤ 1000; decide, hH, ?_⟩
    refine ⟨u, rfl, .ref a, rfl, a, C, rfl, T, hno, .inl ⟨hH, fun d h1 h2 => ?_⟩⟩
    exact ⟨v, rfl, .ref a, rfl, a, C, rfl, T, hno2, .inr ⟨d, [(f, u)], upd_same, by rw [upd_ne h2, upd_same], by show 1 ≤ 900; decide, q d h1 h2⟩⟩
end
end L2

namespace Ab
open PySem L2
def tRaiseO (W : WX) (C : Addr) (sp : Sp) (ta : TA) : TS := fun _ σ H => tMkO C sp [] ta σ H fun cls d H' => W cls d σ H'
theorem del_laid2 {H : Hp} {a d : Addr} {x y z y2 o : HO} (ha : H a = none) (hn : d ≠ a) : upd (del (upd (upd (upd (upd H a x) d y) a z) d y2) a) d o = upd H d o := by
  funext b
  by_cases hd : b = d
  · rw [hd, upd_same, upd_same]
  · rw [upd_ne hd, upd_ne hd]
    by_cases hb : b = a
    · rw [hb, del_same, ha]
    · rw [del_ne hb, upd_ne hd, upd_ne hb, upd_ne hd, upd_ne hb]
section
variable {K : PySem.W.Frag} {pin : List Nat} {Γ : List Sl} {P : Ps} {C : Addr} {ta : TA}
theorem ws_raise2 {W : WX} {f f2 : Str} (hW : P.ex.W = W) (hff : f2 ≠ f) (h : WD K ta Γ fun ds Γ1 => ∃ d e, ds = [d, e] ∧ P.ex.q (.ref C) [(f2, e), (f, d)] Γ1) : WS K pin (tRaiseO W C (spE2 C f f2) ta) Γ P := fun σ B H D E n r b c xx => by
  subst hW
  refine h σ B H E _ fun vs B1 H1 ds Γ1 g k p => ?_
  obtain ⟨d, e, rfl, p⟩ := p
  obtain ⟨u, v, rfl⟩ : ∃ u v, vs = [u, v] := by
    match vs, k.len with
    | [u, v], _ => exact ⟨u, v, rfl⟩
  have hu : Is K B1 u d := k.at_ 0 u d rfl rfl
  have hv : Is K B1 v e := k.at_ 1 v e rfl rfl
  refine ⟨by show 2 ≤ 1000; decide, fun a hn => ⟨a, u, v, rfl, upd_same, fun dd hd hne => ⟨rfl, dd, [(f2, v), (f, u)], by rw [upd_ne (Ne.symm hne), upd_same], upd_same, by rw [upd_ne hne] at hd; exact hd, ?_⟩⟩⟩
  rw [upd_ne hne] at hd
  rw [del_laid2 hn hne]
  have g2 := Go.laid (o := .xd [(f2, v), (f, u)]) g.env hd
  refine xx (.ref C) (some dd) [(f2, e), (f, d)] σ _ _ Γ1 (g.trans g2).s (.some upd_same (fun x => ?_) (fun x w z h1 h2 => ?_) (by simp)) p
  · by_cases h2 : x = f2
    · subst h2; simp [List.lookup]
    · have e2 : (x == f2) = false := by simpa using h2
      by_cases hx : x = f
      · subst hx; simp [List.lookup, e2]
      · have : (x == f) = false := by simpa using hx
        simp [List.lookup, this, e2]
  · by_cases h3 : x = f2
    · subst h3
      simp [List.lookup] at h1 h2
      subst h1 h2
      exact hv.mono g2.mv.bb
    · have e2 : (x == f2) = false := by simpa using h3
      by_cases hx : x = f
      · subst hx
        simp [List.lookup, e2] at h1 h2
        subst h1 h2
        exact hu.mono g2.mv.bb
      · have : (x == f) = false := by simpa using hx
        simp [List.lookup, this, e2] at h1
end
end Ab

namespace Ab
open PySem L2
def subTab (K : PySem.W.Frag) (cs : List Addr) : Bool := cs.zipIdx.all fun c => cs.zipIdx.all fun d => decide (PySem.W.subIn K (.ref c.1) (.ref d.1) = some (decide (c.2 = d.2)))
theorem subTab_at {K : PySem.W.Frag} {cs : List Addr} {i j : Nat} {c d : Addr} (h : subTab K cs = true) (hi : cs[i]? = some c) (hj : cs[j]? = some d) : PySem.W.subIn K (.ref c) (.ref d) = some (decide (i = j)) := by
  have m1 : (c, i) ∈ cs.zipIdx := List.mem_zipIdx_iff_getElem?.mpr hi
  have m2 : (d, j) ∈ cs.zipIdx := List.mem_zipIdx_iff_getElem?.mpr hj
  have := List.all_eq_true.mp (List.all_eq_true.mp h _ m1) _ m2
  exact of_decide_eq_true this
end Ab

namespace Ab
open PySem L2
abbrev exS (σ : L2.St) (ls : List Addr) : L2.St := σ ++ ls.map fun a => some (V.ref a)
abbrev exG (Γ : List Sl) (cs : List Cn) : List Sl := Γ ++ cs.map Sl.cel
structure Mk (K : PySem.W.Frag) (C : Addr) (m0 : Addr → Prop) (B0 H0 : Hp) (x dx : Addr) (ivs : List (Str × V)) (ls : List Addr) (σ : L2.St) (B H : Hp) (Γ : List Sl) (cs : List Cn) : Prop where
  len : σ.length = Γ.length
  env : Env K B H (exS σ ls) (exG Γ cs)
  sl : σ[0]? = some (some (.ref x))
  un : Γ[0]? = some .un
  no : ¬ Own (exS σ ls) (exG Γ cs) x
  ins : H x = some (.ins C dx ivs)
  bx : B x = none
  mv : Mv m0 B0 H0 B H
  own : ∀ a, Own (exS σ ls) (exG Γ cs) a → m0 a ∨ H0 a = none
def FsOk (K : PySem.W.Frag) (B : Hp) (ivs : List (Str × V)) (fs : List (Str × Dt)) : Prop := ∀ f d, fs.lookup f = some d → ∃ v, ivs.lookup f = some v ∧ Is K B v d
theorem FsOk.mono {K : PySem.W.Frag} {B B' : Hp} {ivs : List (Str × V)} {fs : List (Str × Dt)} (h : FsOk K B ivs fs) (e : Same B B') : FsOk K B' ivs fs := fun f d hf => by
  obtain ⟨v, h1, h2⟩ := h f d hf
  exact ⟨v, h1, h2.mono e⟩
def WK (K : PySem.W.Frag) (C : Addr) (m0 : Addr → Prop) (B0 H0 : Hp) (x dx : Addr) (ivs : List (Str × V)) (ls : List Addr) (fs : List (Str × Dt)) (t : TS) (Γ : List Sl) (cs : List Cn) (P : List Sl → List Cn → Prop) : Prop := ∀ σ B H (D : Ends), Mk K C m0 B0 H0 x dx ivs ls σ B H Γ cs → FsOk K B ivs fs →
  (∀ σ' B' H' Γ' cs', Same B B' → Mk K C m0 B0 H0 x dx ivs ls σ' B' H' Γ' cs' → P Γ' cs' → D.nx σ' H') → t D σ H
section
variable {K : PySem.W.Frag} {C : Addr} {m0 : Addr → Prop} {B0 H0 : Hp} {x dx : Addr} {ivs : List (Str × V)} {ls : List Addr} {fs : List (Str × Dt)} {σ σ' : L2.St} {B H B' H' : Hp} {Γ Γ' : List Sl} {cs : List Cn} {pin : List Nat} {P : List Sl → List Cn → Prop} {t u tb : TS} {g : TG} {f : Str} {w : World}
theorem Mk.pre (M : Mk K C m0 B0 H0 x dx ivs ls σ B H Γ cs) : Env K B H σ Γ := env_pre M.env M.len
theorem Mk.hx (M : Mk K C m0 B0 H0 x dx ivs ls σ B H Γ cs) : H x ≠ none := by rw [M.ins]; exact fun z => nomatch z
theorem Mk.step (M : Mk K C m0 B0 H0 x dx ivs ls σ B H Γ cs) (s : GoS K pin σ B H Γ σ' B' H' Γ') (hp : 0 ∈ pin) (hu : Γ'[0]? = some .un) : Mk K C m0 B0 H0 x dx ivs ls σ' B' H' Γ' cs := by
  have no : ¬ Own σ Γ x := fun z => M.no (own_pre z)
  have hl' := s.env.len
  have new : ∀ a, Own (exS σ' ls) (exG Γ' cs) a → Own (exS σ ls) (exG Γ cs) a ∨ H a = none := fun a ⟨i, c, h1, h2⟩ => by
    rcases app_get h1 with h1 | ⟨hi, h1⟩
    · have := (List.getElem?_eq_some_iff.mp h1).1
      rw [List.getElem?_append_left (by omega)] at h2
      exact (s.new a ⟨i, c, h1, h2⟩).imp own_pre id
    · rw [List.getElem?_append_right (by omega), hl'] at h2
      refine .inl ⟨Γ.length + (i - Γ'.length), c, ?_, ?_⟩
      · rw [List.getElem?_append_right (by omega), Nat.add_sub_cancel_left]; exact h1
      · rw [List.getElem?_append_right (by have := M.len; omega), ← h2]; congr 1; have := M.len; omega
  refine ⟨hl', env_ext M.env M.len s, ?_, hu, fun z => ?_, s.mv.kp x _ no M.ins, s.mv.off x no M.hx M.bx, M.mv.trans (m1 := Own σ Γ) (fun a h => M.own a (own_pre h)) s.mv, fun a h => (new a h).elim (M.own a) fun z => M.mv.back z⟩
  · rw [s.pin 0 hp]; exact M.sl
  · rcases new x z with z | z
    · exact M.no z
    · exact M.hx z
theorem Mk.put (M : Mk K C m0 B0 H0 x dx ivs ls σ B H Γ cs) {j : Nat} {c c' : Cn} {l : Addr} {o : HO} (h : cs[j]? = some c) (hl : ls[j]? = some l) (ha : CnIs K B l o c') : Mk K C m0 B0 H0 x dx ivs ls σ B (upd H l o) Γ (cs.set j c') := by
  have h' : (exG Γ cs)[Γ.length + j]? = some (.cel c) := by rw [List.getElem?_append_right (by omega), Nat.add_sub_cancel_left, List.getElem?_map, h]; rfl
  have hl' : (exS σ ls)[Γ.length + j]? = some (some (.ref l)) := by rw [List.getElem?_append_right (by have := M.len; omega), M.len, Nat.add_sub_cancel_left, List.getElem?_map, hl]; rfl
  have g := Go.putC M.env h' hl' ha
  have es : (exG Γ cs).set (Γ.length + j) (.cel c') = exG Γ (cs.set j c') := by
    show (Γ ++ cs.map Sl.cel).set _ _ = _
    rw [List.set_append_right _ _ (by omega), Nat.add_sub_cancel_left, ← List.map_set]
  rw [es] at g
  have own : Own (exS σ ls) (exG Γ cs) l := ⟨_, _, h', hl'⟩
  have nx : x ≠ l := fun z => by subst z; exact M.no own
  exact ⟨M.len, g.env, M.sl, M.un, fun z => M.no (g.sub x z), by rw [upd_ne nx]; exact M.ins, M.bx, M.mv.trans M.own g.mv, fun a z => M.own a (g.sub a z)⟩
theorem Mk.cell (M : Mk K C m0 B0 H0 x dx ivs ls σ B H Γ cs) {j : Nat} {c : Cn} {l : Addr} (h : cs[j]? = some c) (hl : ls[j]? = some l) : ∃ o, H l = some o ∧ B l = none ∧ CnIs K B l o c := by
  have h' : (exG Γ cs)[Γ.length + j]? = some (.cel c) := by rw [List.getElem?_append_right (by omega), Nat.add_sub_cancel_left, List.getElem?_map, h]; rfl
  obtain ⟨l', o, e1, e2, e3, e4⟩ := M.env.cel _ c h'
  rw [List.getElem?_append_right (by have := M.len; omega), M.len, Nat.add_sub_cancel_left, List.getElem?_map, hl] at e1
  cases e1
  exact ⟨o, e2, e3, e4⟩
theorem wk_seq (h : WK K C m0 B0 H0 x dx ivs ls fs t Γ cs fun G c => WK K C m0 B0 H0 x dx ivs ls fs u G c P) : WK K C m0 B0 H0 x dx ivs ls fs (tSeq t u) Γ cs P := fun σ B H D M F n =>
  h σ B H { D with nx := u D } M F fun σ1 B1 H1 Γ1 cs1 sb M1 p => p σ1 B1 H1 D M1 (F.mono sb) fun σ2 B2 H2 Γ2 cs2 sb2 => n σ2 B2 H2 Γ2 cs2 (sb.trans sb2)
theorem wk_ws (h : WS K [0] t Γ ⟨fun G => G[0]? = some .un ∧ P G cs, fun _ _ => False, fun _ => False, fun _ => False, .no⟩) : WK K C m0 B0 H0 x dx ivs ls fs t Γ cs P := fun σ B H D M F n => by
  refine h σ B H D M.pre (fun σ' B' H' Γ' s p => ?_) (fun _ _ _ _ _ _ _ _ p => p.elim) (fun _ _ _ _ _ p => p.elim) (fun _ _ _ _ _ p => p.elim) (fun _ _ _ _ _ _ _ _ _ p => (show False from p).elim)
  exact n σ' B' H' Γ' cs s.mv.bb (M.step s List.mem_cons_self p.1) p.2
theorem FsOk.raw (F : FsOk K B ivs fs) {v : V} (h : fs.lookup f = some (.raw v)) : ivs.lookup f = some v := by
  obtain ⟨v', h1, h2⟩ := F f _ h
  rw [h1, Is.rawI h2]
theorem fld_to {Q : VK} {v : V} (sl : σ[0]? = some (some (.ref x))) (hx : H x = some (.ins C dx ivs)) (cl : Cls K C) (na : NoAttr K C f) (lk : ivs.lookup f = some v) (h : Q v H) : tFld K (tVar 0) f σ H Q :=
  ⟨.ref x, sl, x, C, dx, ivs, v, rfl, hx, cl, na, lk, h⟩
theorem wk_ifF {b : Bool} (cl : Cls K C) (na : NoAttr K C f) (hf : fs.lookup f = some (.bl b)) (h1 : b = true → WK K C m0 B0 H0 x dx ivs ls fs t Γ cs P) (h2 : b = false → WK K C m0 B0 H0 x dx ivs ls fs u Γ cs P) :
    WK K C m0 B0 H0 x dx ivs ls fs (tIfS (tB (tFld K (tVar 0) f)) t u) Γ cs P := fun σ B H D M F n => by
  refine ⟨.ref x, M.sl, x, C, dx, ivs, _, rfl, M.ins, cl, na, (F.raw hf), ?_⟩
  refine ⟨b, rfl, ?_⟩
  cases b with
  | true => exact h1 rfl σ B H D M F n
  | false => exact h2 rfl σ B H D M F n
theorem wk_forR {n : Nat} (cl : Cls K C) (na : NoAttr K C f) (hf : fs.lookup f = some (.int n)) (hn : n < 1000000) (Inv : Nat → List Sl → List Cn → Prop) (i0 : Inv 0 Γ cs)
    (turn : ∀ (i : Nat) Γ' cs', i < n → Inv i Γ' cs' → WG K [0] g (.int i) Γ' fun Γ2 => Γ2[0]? = some .un ∧ WK K C m0 B0 H0 x dx ivs ls fs tb Γ2 cs' fun G c => Hold (Inv (i + 1) G c)) (done : ∀ G c, Inv n G c → P G c) :
    WK K C m0 B0 H0 x dx ivs ls fs (tFor (iRng1 (tCons (tFld K (tVar 0) f) tNil)) g tb) Γ cs P := fun σ B H D M F n' => by
  refine ⟨.ref x, M.sl, x, C, dx, ivs, _, rfl, M.ins, cl, na, (F.raw hf), ?_⟩
  refine ⟨n, rfl, by omega, by omega, ?_⟩
  rw [Int.toNat_natCast]
  refine for_range (lo := 0) (n := n) (fun i σ' H' => ∃ B' Γ' cs', Same B B' ∧ Mk K C m0 B0 H0 x dx ivs ls σ' B' H' Γ' cs' ∧ Inv i Γ' cs') ⟨B, Γ, cs, Same.refl _, M, i0⟩ ?_ ?_
  · rintro i σ' H' hi ⟨B', Γ', cs', sb, M', inv⟩
    have e0 : (0 : Int) + (i : Int) = (i : Int) := Int.zero_add _
    rw [e0]
    refine turn i Γ' cs' hi inv σ' B' H' _ M'.pre (.raw _) _ fun σ2 Γ2 g3 p => ?_
    exact p.2 σ2 B' H' _ (M'.step g3 List.mem_cons_self p.1) (F.mono sb) fun σ3 B3 H3 Γ3 cs3 sb3 M3 p3 => ⟨B3, Γ3, cs3, sb.trans sb3, M3, p3.get⟩
  · rintro σ' H' ⟨B', Γ', cs', sb, M', inv⟩
    exact n' σ' B' H' Γ' cs' sb M' (done Γ' cs' inv)
theorem wk_forF {i : Nat} {ds es : List Dt} {k : Int} (cl : Cls K C) (na : NoAttr K C f) (hf : fs.lookup f = some (.lst ds)) (hi : Γ[i]? = some (.val (.int k))) (hk : atI ds k = some (.lst es)) (Inv : Nat → List Sl → List Cn → Prop) (i0 : Inv 0 Γ cs)
    (turn : ∀ (j : Nat) d Γ' cs', es[j]? = some d → Inv j Γ' cs' → WG K [0] g d Γ' fun Γ2 => Γ2[0]? = some .un ∧ WK K C m0 B0 H0 x dx ivs ls fs tb Γ2 cs' fun G c => Hold (Inv (j + 1) G c)) (done : ∀ G c, Inv es.length G c → P G c) :
    WK K C m0 B0 H0 x dx ivs ls fs (tFor (iList K (tOp (rIx K) (tFld K (tVar 0) f) (tVar i))) g tb) Γ cs P := fun σ B H D M F n' => by
  obtain ⟨v, lk, iv⟩ := F f _ hf
  obtain ⟨a, xs, rfl, ha, hx⟩ := Is.lstR iv
  obtain ⟨y, hy, iy⟩ := hx.atI hk
  obtain ⟨b, ys, rfl, hb, hys⟩ := Is.lstR iy
  obtain ⟨kv, e1, e2⟩ := M.pre.val i _ hi
  cases Is.rawI e2
  refine ⟨.ref x, M.sl, x, C, dx, ivs, _, rfl, M.ins, cl, na, lk, ?_⟩
  refine ⟨.int k, e1, .inl ⟨a, xs, k, .ref b, rfl, rfl, .inl (.inl (M.env.bh _ _ ha)), hy, b, rfl, ⟨ys, .inl (.inl (M.env.bh _ _ hb))⟩, ?_⟩⟩
  refine for_list (xs := ys) (fun j σ' H' => ∃ B' Γ' cs', Same B B' ∧ Mk K C m0 B0 H0 x dx ivs ls σ' B' H' Γ' cs' ∧ Inv j Γ' cs') ⟨B, Γ, cs, Same.refl _, M, i0⟩ ?_ ?_ ?_
  · rintro j σ' H' _ ⟨B', Γ', cs', sb, M', _⟩
    exact .inl (.inl ((sb.trans M'.env.bh) _ _ hb))
  · rintro j y σ' H' hj ⟨B', Γ', cs', sb, M', inv⟩
    have hlt : j < es.length := by rw [← hys.len]; exact (List.getElem?_eq_some_iff.mp hj).1
    refine turn j es[j] Γ' cs' (List.getElem?_eq_getElem hlt) inv σ' B' H' y M'.pre ((hys.at_ j y _ hj (List.getElem?_eq_getElem hlt)).mono sb) _ fun σ2 Γ2 g3 p => ?_
    exact p.2 σ2 B' H' _ (M'.step g3 List.mem_cons_self p.1) (F.mono sb) fun σ3 B3 H3 Γ3 cs3 sb3 M3 p3 => ⟨B3, Γ3, cs3, sb.trans sb3, M3, p3.get⟩
  · rintro σ' H' ⟨B', Γ', cs', sb, M', inv⟩
    rw [hys.len] at inv
    exact n' σ' B' H' Γ' cs' sb M' (done Γ' cs' inv)
theorem wk_app {i s jl j : Nat} {l a : Addr} {us es : List Dt} {d : Dt} {k : Int} (cl : Cls K C) (na : NoAttr K C f) (hf : fs.lookup f = some (.raw (.ref l))) (hl : ls[jl]? = some l) (hc : cs[jl]? = some (.lst us)) (hi : Γ[i]? = some (.val (.int k))) (hs : Γ[s]? = some (.val d))
    (hk : atI us k = some (.raw (.ref a))) (ha : ls[j]? = some a) (hj : cs[j]? = some (.lst es)) (hz : es.length < 1000000) (p : P Γ (cs.set j (.lst (es ++ [d])))) :
    WK K C m0 B0 H0 x dx ivs ls fs (tDrop (tBM K "list" rAppend (tOp (rIx K) (tFld K (tVar 0) f) (tVar i)) (tCons (tVar s) tNil))) Γ cs P := fun σ B H D M F n => by
  obtain ⟨o, h1, _, vs, rfl, iv⟩ := M.cell hc hl
  obtain ⟨o2, h2, _, ws, rfl, iw⟩ := M.cell hj ha
  obtain ⟨y, hy, iy⟩ := iv.atI hk
  cases Is.rawI iy
  obtain ⟨kv, e1, e2⟩ := M.pre.val i _ hi
  cases Is.rawI e2
  obtain ⟨v, f1, f2⟩ := M.pre.val s _ hs
  refine ⟨.ref x, M.sl, x, C, dx, ivs, _, rfl, M.ins, cl, na, (F.raw hf), ?_⟩
  refine ⟨.int k, e1, .inl ⟨l, vs, k, .ref a, rfl, rfl, .inl (.inl h1), hy, ?_⟩⟩
  refine ⟨.inl ⟨rfl, ws, .inl (.inl h2)⟩, v, f1, a, ws, v, rfl, rfl, h2, Nat.lt_trans (by rw [iw.len]; exact hz) (by decide), ?_⟩
  exact n σ B _ Γ _ (Same.refl _) (M.put hj ha (c' := .lst (es ++ [d])) ⟨_, rfl, iw.snoc f2⟩) p
theorem wk_put {j : Nat} {l : Addr} {kvs : List (NestedKey × Dt)} {ty tv : TE} (cl : Cls K C) (na : NoAttr K C f) (hf : fs.lookup f = some (.raw (.ref l))) (hl : ls[j]? = some l) (hc : cs[j]? = some (.dN w kvs)) (hz : kvs.length < 1000000)
    (h : WE K tv Γ fun z Γ1 => ∃ d, z.dt? = some d ∧ Γ1 = Γ ∧ WE K ty Γ fun y Γ2 => ∃ k, y = .val (dtN k) ∧ (∃ ks, k = .tup ks) ∧ k.depth ≤ 8 ∧ Γ2 = Γ ∧ P Γ (cs.set j (.dN w (putE kvs k d)))) :
    WK K C m0 B0 H0 x dx ivs ls fs (sNPut K w (tFld K (tVar 0) f) ty tv) Γ cs P := fun σ B H D M F n => by
  have h' : WE K tv Γ fun z Γ1 => ∃ d, z = .val d ∧ Γ1 = Γ ∧ WE K ty Γ fun y Γ2 => ∃ k, y = .val (dtN k) ∧ (∃ ks, k = .tup ks) ∧ k.depth ≤ 8 ∧ Γ2 = Γ ∧ P Γ (cs.set j (.dN w (putE kvs k d))) := we_freeze (we_mono h fun z Γ1 ⟨d, hd, e, q⟩ => ⟨d, hd, d, rfl, e, q⟩)
  refine h' σ B H M.pre _ fun v B1 H1 z Γ1 g1 k1 p1 => ?_
  obtain ⟨d, rfl, rfl, p1⟩ := p1
  have M1 := M.step (pin := [0]) g1.s (by simp) M.un
  refine fld_to M1.sl M1.ins cl na (F.raw hf) (p1 σ B1 H1 g1.env _ fun y B2 H2 w2 Γ2 g2 k2 p2 => ?_)
  obtain ⟨k, rfl, ⟨ks, rfl⟩, dp, rfl, p⟩ := p2
  have M2 := M1.step (pin := [0]) g2.s (by simp) M1.un
  have ky' : Is K B2 y (dtN (.tup ks)) := k2
  obtain ⟨kb, rfl⟩ := dtN_ref ky'
  obtain ⟨o, f1, _, us, rfl, k3⟩ := M2.cell hc hl
  refine ⟨l, _, rfl, ⟨us, _, kb, f1, k3.keysOk M2.env.bh, rfl, ky'.mono M2.env.bh, dp, Nat.lt_of_lt_of_le (by rw [k3.len]; exact Nat.lt_of_lt_of_le hz (by decide : 1000000 ≤ 10000000)) (by decide), rfl⟩, ?_⟩
  exact n _ B2 _ _ _ (g1.mv.bb.trans g2.mv.bb) (M2.put hc hl (c' := .dN w (putE kvs (.tup ks) d)) ⟨_, rfl, k3.put ky' (Is.mono g2.mv.bb k1)⟩) p
structure FrL (H H' : Hp) (D : Addr) (us : List Addr) : Prop where
  at_ : H' D = some (.lst (us.map V.ref))
  nl : ∀ u ∈ us, H' u = some (.lst []) ∧ H u = none ∧ u ≠ D
  nd : us.Nodup
  kp : ∀ a o, H a = some o → H' a = some o
theorem lc_fresh {j n : Nat} {Q : VK} (hD : ∀ D H' us, H D = none → FrL H H' D us → us.length = n → Q (.ref D) H') (hn : n < 1000000) :
    ∀ D, H D = none → ∃ W : Nat → Nat → Hp → Prop, (∃ m, W 0 m (upd H D (.lst []))) ∧ ∀ i m H, W i m H →
      ((Itr 0 n).stop i H ∧ Q (.ref D) H) ∨ ((Itr 0 n).go i H ∧ ∃ Nx : Hp → Prop, (∀ H', Nx H' → ∃ m', m' < m ∧ W (i + 1) m' H') ∧ ∀ x H', (Itr 0 n).yld i H x H' → gName j x (wipe σ [j]) H' fun σ2 H2 => wipe σ2 [j] = wipe σ [j] ∧ tYes σ2 H2 fun b H3 =>
        if b = true then tLst tNil σ2 H3 fun y H4 => ∃ acc, H4 D = some (.lst acc) ∧ acc.length < sizeLine ∧ Nx (upd H4 D (.lst (acc ++ [y]))) else Nx H3) := by
  intro D hDn
  refine ⟨fun i m H' => m = n - i ∧ i ≤ n ∧ ∃ us, us.length = i ∧ FrL H H' D us, ⟨n, by simp, Nat.zero_le _, [], rfl, upd_same, (fun _ h => nomatch h), List.nodup_nil, fun a o e => by rw [upd_ne (ne_of_none e hDn)]; exact e⟩, ?_⟩
  rintro i m H' ⟨rfl, hi, us, hl, S⟩
  by_cases hlt : i < n
  · refine .inr ⟨hlt, fun H2 => ∃ us, us.length = i + 1 ∧ FrL H H2 D us, fun H2 ⟨us2, h1, h2⟩ => ⟨n - (i + 1), by omega, rfl, hlt, us2, h1, h2⟩, fun x H2 hy => ?_⟩
    obtain ⟨e1, e2⟩ := hy
    subst e1 e2
    show wipe ((wipe σ [j]).set j (some _)) [j] = wipe σ [j] ∧ _
    refine ⟨by show ((σ.set j none).set j _).set j none = σ.set j none; rw [List.set_set, List.set_set], ?_⟩
    refine ⟨by show 0 ≤ sizeLine; exact Nat.zero_le _, fun p hp => ?_⟩
    have pD : p ≠ D := fun z => by subst z; rw [S.at_] at hp; cases hp
    have hpH : H p = none := by
      cases q : H p with
      | none => rfl
      | some o => rw [S.kp p o q] at hp; cases hp
    refine ⟨us.map V.ref, by rw [upd_ne (Ne.symm pD)]; exact S.at_, by rw [List.length_map, hl, sizeLine_eq]; omega, us ++ [p], by rw [List.length_append, hl]; rfl, ?_⟩
    refine ⟨by rw [upd_same, List.map_append]; rfl, fun u hu => ?_, ?_, fun a o e => ?_⟩
    · rcases List.mem_append.mp hu with hu | hu
      · obtain ⟨h1, h2, h3⟩ := S.nl u hu
        have up : u ≠ p := fun z => by subst z; rw [h1] at hp; cases hp
        exact ⟨by rw [upd_ne h3, upd_ne up]; exact h1, h2, h3⟩
      · rw [List.mem_singleton.mp hu]
        exact ⟨by rw [upd_ne pD, upd_same], hpH, pD⟩
    · refine List.nodup_append.mpr ⟨S.nd, by simp, fun a ha b hb => ?_⟩
      rw [List.mem_singleton.mp hb]
      rintro rfl
      rw [(S.nl a ha).1] at hp; cases hp
    · have h1 := S.kp a o e
      rw [upd_ne (ne_of_none e hDn), upd_ne (fun z => by subst z; rw [h1] at hp; cases hp)]
      exact h1
  · have : i = n := by omega
    subst this
    exact .inl ⟨Nat.le_refl _, hD D H' us hDn S hl⟩
theorem fs_ok {ns : List Str} {vs : List V} {ds : List Dt} (h1 : vs.length = ns.length) (h2 : ds.length = ns.length) (h : ∀ (i : Nat) v d, vs[i]? = some v → ds[i]? = some d → Is K B v d) : FsOk K B (ns.zip vs) (ns.zip ds) := fun f d hf => by
  have hs := zip_some f h1 h2
  rw [hf] at hs
  obtain ⟨v, hv⟩ := Option.isSome_iff_exists.mp hs
  obtain ⟨i, a1, a2⟩ := zip_both f hv hf
  exact ⟨v, hv, h i v d a1 a2⟩
theorem frz_map (cs : List Cn) : (cs.map Sl.cel).map frzS = cs.map fun c => Sl.val c.dt := by rw [List.map_map]; rfl
theorem frz_no {G : List Sl} {i : Nat} {c : Cn} : (G.map frzS)[i]? ≠ some (.cel c) := fun h => by
  rw [List.getElem?_map] at h
  obtain ⟨s, _, e⟩ := Option.map_eq_some_iff.mp h
  cases s <;> cases e
theorem wj_tab {jv n : Nat} {f1 f2 fb : Str} {ns : List Str} {Δ : List Sl} {P : List Sl → List Sl → List Str → Prop} (cl : Cls K C) (na1 : NoAttr K C f1) (na2 : NoAttr K C f2) (nab : NoAttr K C fb) (hΔ : ∀ s ∈ Δ, ∃ d, s = .val d)
    (hn1 : ∀ g ∈ ns, ¬ g = f1) (hn2 : ∀ g ∈ ns ++ [f1], ¬ g = f2) (hz : ns.length < 900) (hb : (ns.zip (Δ.map fdt)).lookup fb = some (.int n)) (hn : n < 100000)
    (h : ∀ (m0 : Addr → Prop) (B0 H0 : Hp) (x dx : Addr) (ivs : List (Str × V)) (l g : Addr) (us : List Addr), us.length = n + 1 →
      WK K C m0 B0 H0 x dx ivs (l :: g :: us) ((ns ++ [f1] ++ [f2]).zip (Δ.map fdt ++ [.raw (.ref l)] ++ [.raw (.ref g)])) t Γ (.lst (us.map fun u => .raw (.ref u)) :: .dN w [] :: List.replicate (n + 1) (.lst []))
        fun G cs => ∃ (ess : List (List Dt)) (kvs : List (NestedKey × Dt)), ess.length = n + 1 ∧ cs = .lst (us.map fun u => .raw (.ref u)) :: .dN w kvs :: ess.map Cn.lst ∧ P (G.map frzS) (Δ ++ [.val (.lst (ess.map Dt.lst))] ++ [.val (.dN w kvs)]) (ns ++ [f1] ++ [f2])) :
    WJ K C (tSeq (sFld K (tVar 0) (tLc (iRng1 (tCons (tOp (rAddG K) (tFld K (tVar 0) fb) (tC (.int 1))) tNil)) (gName jv) tYes (tLst tNil) [jv]) f1) (tSeq (sFld K (tVar 0) (tNNew w) f2) t)) Γ Δ ns P := fun σ τ B H D x dx M n' => by
  obtain ⟨vs, e1, e2, e3⟩ := M.fs
  have hL : τ.length = Δ.length := by have := M.env.len; rw [List.length_append, List.length_append] at this; have := M.len; omega
  have hV : vs.length = Δ.length := by rw [← hL, e1, List.length_map]
  have hdat : ∀ (i : Nat) v d, vs[i]? = some v → (Δ.map fdt)[i]? = some d → Is K B v d := fun i v d h1 h2 => by
    rw [List.getElem?_map] at h2
    obtain ⟨s, hs, e⟩ := Option.map_eq_some_iff.mp h2
    obtain ⟨d', rfl⟩ := hΔ s (List.mem_of_getElem? hs)
    have hd : d' = d := e
    subst hd
    have hat : (Γ ++ Δ)[Γ.length + i]? = some (.val d') := by rw [List.getElem?_append_right (by omega), Nat.add_sub_cancel_left]; exact hs
    obtain ⟨u, q1, q2⟩ := M.env.val _ _ hat
    rw [List.getElem?_append_right (by have := M.len; omega), M.len, Nat.add_sub_cancel_left, e1, List.getElem?_map, h1] at q1
    cases q1
    exact q2
  have fs0 : FsOk K B (ns.zip vs) (ns.zip (Δ.map fdt)) := fs_ok e3 (by rw [List.length_map, ← hV, e3]) hdat
  have lk := fs0.raw (f := fb) (v := .int n) hb
  have hxn := M.hx
  refine ⟨.ref x, M.sl, x, C, dx, _, .int n, rfl, e2, cl, nab, lk, .inl ⟨n, 1, rfl, rfl, (n : Int) + 1, rfl, by omega, by omega, ?_⟩⟩
  rw [show ((n : Int) + 1).toNat = n + 1 by omega]
  refine lc_fresh (σ := σ) (H := H) (j := jv) (n := n + 1) (Q := fun y H1 => tVar 0 σ H1 fun x' H2 => ∃ a C' dx' fs', x' = V.ref a ∧ H2 a = some (.ins C' dx' fs') ∧ Cls K C' ∧ NoAttr K C' f1 ∧ fs'.length < 1000 ∧ tSeq (sFld K (tVar 0) (tNNew w) f2) t D σ (upd H2 a (.ins C' dx' (putF f1 y fs')))) (fun l H1 us hl S hul => ?_) (by omega)
  have hx1 : H1 x = some (.ins C dx (ns.zip vs)) := S.kp x _ e2
  refine ⟨.ref x, M.sl, x, C, dx, _, rfl, hx1, cl, na1, by rw [List.length_zip, e3, Nat.min_self]; omega, ?_⟩
  rw [putF_zip (by omega) hn1]
  intro g hg
  have gx : g ≠ x := fun z => by subst z; rw [upd_same] at hg; cases hg
  have hg1 : H1 g = none := by rw [upd_ne gx] at hg; exact hg
  have hgH : H g = none := by
    cases q : H g with
    | none => rfl
    | some o => rw [S.kp g o q] at hg1; cases hg1
  have xl : x ≠ l := fun z => by subst z; exact hxn hl
  have gl : g ≠ l := fun z => by subst z; rw [S.at_] at hg1; cases hg1
  have hx2 : upd (upd H1 x (.ins C dx ((ns ++ [f1]).zip (vs ++ [.ref l])))) g (dNO w g []) x = some (.ins C dx ((ns ++ [f1]).zip (vs ++ [.ref l]))) := by rw [upd_ne (Ne.symm gx), upd_same]
  refine ⟨.ref x, M.sl, x, C, dx, _, rfl, hx2, cl, na2, by rw [List.length_zip, List.length_append, List.length_append, e3]; simp; omega, ?_⟩
  rw [putF_zip (by rw [List.length_append, List.length_append, e3]; rfl) hn2]
  generalize hH4 : upd (upd (upd H1 x (.ins C dx ((ns ++ [f1]).zip (vs ++ [.ref l])))) g (dNO w g [])) x (.ins C dx ((ns ++ [f1] ++ [f2]).zip (vs ++ [.ref l] ++ [.ref g]))) = H4
  have keep : ∀ a o, a ≠ x → H a = some o → H4 a = some o := fun a o na e => by
    have ag : a ≠ g := fun z => by subst z; rw [hgH] at e; cases e
    rw [← hH4, upd_ne na, upd_ne ag, upd_ne na]; exact S.kp a o e
  have h4x : H4 x = some (.ins C dx ((ns ++ [f1] ++ [f2]).zip (vs ++ [.ref l] ++ [.ref g]))) := by rw [← hH4, upd_same]
  have h4l : H4 l = some (.lst (us.map V.ref)) := by rw [← hH4, upd_ne (Ne.symm xl), upd_ne (Ne.symm gl), upd_ne (Ne.symm xl)]; exact S.at_
  have h4g : H4 g = some (dNO w g []) := by rw [← hH4, upd_ne gx, upd_same]
  have h4u : ∀ u ∈ us, H4 u = some (.lst []) := fun u hu => by
    obtain ⟨q1, q2, q3⟩ := S.nl u hu
    have ux : u ≠ x := fun z => by subst z; exact hxn q2
    have ug : u ≠ g := fun z => by subst z; rw [q1] at hg1; cases hg1
    rw [← hH4, upd_ne ux, upd_ne ug, upd_ne ux]; exact q1
  have bn : ∀ a, H a = none → B a = none := fun a ha => M.env.base_none ha
  have fresh : ∀ a ∈ (l :: g :: us), H a = none := fun a ha => by
    rcases List.mem_cons.mp ha with rfl | ha
    · exact hl
    · rcases List.mem_cons.mp ha with rfl | ha
      · exact hgH
      · exact (S.nl a ha).2.1
  have nd : (l :: g :: us).Nodup := by
    refine List.nodup_cons.mpr ⟨fun z => ?_, List.nodup_cons.mpr ⟨fun z => ?_, S.nd⟩⟩
    · rcases List.mem_cons.mp z with z | z
      · exact gl z.symm
      · exact (S.nl l z).2.2 rfl
    · rw [(S.nl g z).1] at hg1; cases hg1
  have Ep := env_pre M.env M.len
  generalize hcs : (Cn.lst (us.map fun u => .raw (.ref u)) :: .dN w [] :: List.replicate (n + 1) (.lst [])) = cs
  have hcl : cs.length = (l :: g :: us).length := by rw [← hcs]; simp [hul]
  have cell : ∀ (j : Nat) (c : Cn), cs[j]? = some c → ∃ a o, (l :: g :: us)[j]? = some a ∧ H4 a = some o ∧ CnIs K B a o c := fun j c hc => by
    rw [← hcs] at hc
    match j, hc with
    | 0, hc =>
      cases hc
      exact ⟨l, _, rfl, h4l, us.map V.ref, rfl, ⟨by rw [List.length_map, List.length_map], fun i v d q1 q2 => by
        rw [List.getElem?_map] at q1 q2
        obtain ⟨u, hu, rfl⟩ := Option.map_eq_some_iff.mp q1
        rw [hu] at q2
        cases q2
        exact .raw _⟩⟩
    | 1, hc => cases hc; exact ⟨g, _, rfl, h4g, [], rfl, .nil⟩
    | j + 2, hc =>
      have hc : (List.replicate (n + 1) (Cn.lst []))[j]? = some c := hc
      have hj := (List.getElem?_eq_some_iff.mp hc).1
      rw [List.length_replicate] at hj
      rw [List.getElem?_replicate, if_pos hj] at hc
      cases hc
      exact ⟨us[j], _, (by show us[j]? = _; exact List.getElem?_eq_getElem (by omega)), h4u _ (List.getElem_mem _), [], rfl, .nil⟩
  have exl : ∀ {i : Nat} {a : Addr}, (exS σ (l :: g :: us))[i]? = some (some (.ref a)) → Γ.length ≤ i → (l :: g :: us)[i - Γ.length]? = some a := fun {i a} e hi => by
    rw [List.getElem?_append_right (by have := M.len; omega), M.len, List.getElem?_map] at e
    obtain ⟨b, hb, e⟩ := Option.map_eq_some_iff.mp e
    cases e; exact hb
  have fro : ∀ {i : Nat} {c : Cn} {a : Addr}, Γ[i]? = some (.cel c) → (exS σ (l :: g :: us))[i]? = some (some (.ref a)) → ∃ o, H a = some o ∧ B a = none ∧ CnIs K B a o c ∧ σ[i]? = some (some (.ref a)) := fun {i c a} h1 h2 => by
    obtain ⟨l', o, q1, q2, q3, q4⟩ := Ep.cel i c h1
    have := (List.getElem?_eq_some_iff.mp q1).1
    rw [List.getElem?_append_left this, q1] at h2
    cases h2
    exact ⟨o, q2, q3, q4, q1⟩
  have E4 : Env K B H4 (exS σ (l :: g :: us)) (exG Γ cs) := by
    refine ⟨by rw [List.length_append, List.length_append, List.length_map, List.length_map, M.len, hcl], fun a o e => ?_, fun i d hd => ?_, fun i c hc => ?_, fun i j c d a h1 h2 h3 h4 => ?_⟩
    · exact keep a o (fun z => by subst z; rw [M.bx] at e; cases e) (M.env.bh a o e)
    · rcases app_get hd with hd | ⟨hi, hd⟩
      · obtain ⟨v, q1, q2⟩ := Ep.val i d hd
        exact ⟨v, pre_get q1, q2⟩
      · rw [List.getElem?_map] at hd
        obtain ⟨c, _, e⟩ := Option.map_eq_some_iff.mp hd
        cases e
    · rcases app_get hc with hc | ⟨hi, hc⟩
      · obtain ⟨l', o, q1, q2, q3, q4⟩ := Ep.cel i c hc
        exact ⟨l', o, pre_get q1, keep l' o (fun z => by subst z; exact M.no (own_pre ⟨i, c, hc, q1⟩)) q2, q3, q4⟩
      · rw [List.getElem?_map] at hc
        obtain ⟨c', hc', e⟩ := Option.map_eq_some_iff.mp hc
        cases e
        obtain ⟨a, o, q1, q2, q3⟩ := cell _ _ hc'
        refine ⟨a, o, ?_, q2, bn a (fresh a (List.mem_of_getElem? q1)), q3⟩
        rw [List.getElem?_append_right (by have := M.len; omega), M.len, List.getElem?_map, q1]; rfl
    · rcases app_get h1 with a1 | ⟨i1, a1⟩
      · obtain ⟨o, q1, q2, q3, q4⟩ := fro a1 h3
        rcases app_get h2 with a2 | ⟨i2, a2⟩
        · obtain ⟨_, _, _, _, p4⟩ := fro a2 h4
          exact Ep.sep i j c d a a1 a2 q4 p4
        · have := fresh a (List.mem_of_getElem? (exl h4 i2))
          rw [q1] at this; cases this
      · rcases app_get h2 with a2 | ⟨i2, a2⟩
        · obtain ⟨o, q1, _⟩ := fro a2 h4
          have := fresh a (List.mem_of_getElem? (exl h3 i1))
          rw [q1] at this; cases this
        · have b1 := exl h3 i1
          have b2 := exl h4 i2
          have hlt := (List.getElem?_eq_some_iff.mp b1).1
          have := (List.getElem?_inj hlt nd).mp (b1.trans b2.symm)
          omega
  have ownE : ∀ a, Own (exS σ (l :: g :: us)) (exG Γ cs) a → Own σ Γ a ∨ H a = none := fun a ⟨i, c, h1, h2⟩ => by
    rcases app_get h1 with a1 | ⟨i1, a1⟩
    · obtain ⟨_, _, _, _, q4⟩ := fro a1 h2
      exact .inl ⟨i, c, a1, q4⟩
    · exact .inr (fresh a (List.mem_of_getElem? (exl h2 i1)))
  have M4 : Mk K C (fun a => Own (σ ++ τ) (Γ ++ Δ) a ∨ a = x) B H x dx ((ns ++ [f1] ++ [f2]).zip (vs ++ [.ref l] ++ [.ref g])) (l :: g :: us) σ B H4 Γ cs :=
    ⟨M.len, E4, M.sl, M.un, fun z => (ownE x z).elim (fun z => M.no (own_pre z)) (fun z => hxn z), h4x, M.bx,
      ⟨fun a o na e => keep a o (fun z => na (.inr z)) e, Same.refl _, fun _ _ _ e => e⟩, fun a z => (ownE a z).imp (fun z => .inl (own_pre z)) id⟩
  have F4 : FsOk K B ((ns ++ [f1] ++ [f2]).zip (vs ++ [.ref l] ++ [.ref g])) ((ns ++ [f1] ++ [f2]).zip (Δ.map fdt ++ [.raw (.ref l)] ++ [.raw (.ref g)])) := by
    have ld : (Δ.map fdt).length = vs.length := by rw [List.length_map, hV]
    refine fs_ok (by simp [e3]) (by simp [ld, e3]) fun i v d q1 q2 => ?_
    by_cases hi : i < vs.length
    · rw [List.append_assoc, List.getElem?_append_left hi] at q1
      rw [List.append_assoc, List.getElem?_append_left (by omega)] at q2
      exact hdat i v d q1 q2
    · rw [List.append_assoc, List.getElem?_append_right (by omega)] at q1
      rw [List.append_assoc, List.getElem?_append_right (by omega), ld] at q2
      generalize i - vs.length = m at q1 q2
      match m, q1, q2 with
      | 0, q1, q2 => cases q1; cases q2; exact .raw _
      | 1, q1, q2 => cases q1; cases q2; exact .raw _
      | m + 2, q1, _ => simp at q1
  subst hcs
  refine h _ B H x dx _ l g us hul σ B H4 D M4 F4 fun σ' B' H' Γ' cs' sb M' p => ?_
  obtain ⟨ess, kvs, hel, rfl, p⟩ := p
  obtain ⟨B2, g2⟩ := go_frzN M'.env _ (Nat.le_refl _)
  rw [List.take_length, List.drop_length, List.append_nil, List.map_append, frz_map] at g2
  have sb2 : Same B B2 := sb.trans g2.mv.bb
  have hl' := M'.len
  have vat : ∀ (j : Nat) (c : Cn) (a : Addr), (Cn.lst (us.map fun u => .raw (.ref u)) :: .dN w kvs :: ess.map Cn.lst)[j]? = some c → (l :: g :: us)[j]? = some a → Is K B2 (.ref a) c.dt := fun j c a q1 q2 => by
    obtain ⟨v, r1, r2⟩ := g2.env.val (Γ'.length + j) c.dt (by
      rw [List.getElem?_append_right (by rw [List.length_map]; omega), List.length_map, Nat.add_sub_cancel_left, List.getElem?_map, q1]; rfl)
    rw [List.getElem?_append_right (by omega), hl', Nat.add_sub_cancel_left, List.getElem?_map, q2] at r1
    cases r1
    exact r2
  have isL : Is K B2 (.ref l) (.lst (ess.map Dt.lst)) := by
    have q := vat 0 _ l rfl rfl
    obtain ⟨a, xs, e, ha, hx⟩ := Is.lstR (show Is K B2 (.ref l) (.lst (us.map fun u => .raw (.ref u))) from q)
    cases e
    have exs : xs = us.map V.ref := by
      have : us.map (fun u => Dt.raw (.ref u)) = (us.map V.ref).map Dt.raw := by rw [List.map_map]; rfl
      rw [this] at hx
      exact hx.rawsI
    subst exs
    have ia : IsA K B2 (us.map V.ref) (ess.map Dt.lst) := by
      refine ⟨by rw [List.length_map, List.length_map, hul, hel], fun i v d r1 r2 => ?_⟩
      rw [List.getElem?_map] at r1 r2
      obtain ⟨u, hu, rfl⟩ := Option.map_eq_some_iff.mp r1
      obtain ⟨es, he, rfl⟩ := Option.map_eq_some_iff.mp r2
      exact vat (i + 2) (.lst es) u (by show (ess.map Cn.lst)[i]? = _; rw [List.getElem?_map, he]; rfl) hu
    exact .lst ha ia.len ia.at_
  have isG : Is K B2 (.ref g) (.dN w kvs) := vat 1 _ g rfl rfl
  have noO : ∀ (σ2 : L2.St) (G2 : List Sl) a, (∀ s ∈ G2, ∀ c, s ≠ .cel c) → ¬ Own σ2 G2 a := fun σ2 G2 a hG ⟨i, c, q1, _⟩ => hG _ (List.mem_of_getElem? q1) c rfl
  have hG : ∀ s ∈ (Γ'.map frzS ++ (Δ ++ [.val (.lst (ess.map Dt.lst))] ++ [.val (.dN w kvs)])), ∀ c, s ≠ .cel c := fun s hs c e => by
    subst e
    rcases List.mem_append.mp hs with hs | hs
    · obtain ⟨i, hi⟩ := List.getElem?_of_mem hs
      exact frz_no hi
    · rcases List.mem_append.mp hs with hs | hs
      · rcases List.mem_append.mp hs with hs | hs
        · obtain ⟨d, e⟩ := hΔ _ hs; cases e
        · cases List.mem_singleton.mp hs
      · cases List.mem_singleton.mp hs
  have hu0 : (Γ'.map frzS)[0]? = some .un := by rw [List.getElem?_map, M'.un]; rfl
  refine n' σ' ((vs ++ [V.ref l] ++ [V.ref g]).map some) B2 H' (Γ'.map frzS) (Δ ++ [.val (.lst (ess.map Dt.lst))] ++ [.val (.dN w kvs)]) (ns ++ [f1] ++ [f2]) ⟨M'.mv.trans M'.own g2.mv, fun a z => (noO _ _ a hG z).elim, ?_⟩ p
  have hxB : B2 x = none := g2.mv.off x M'.no M'.hx M'.bx
  refine ⟨by rw [List.length_map]; exact hl', ⟨?_, g2.env.bh, fun i d hd => ?_, fun i c hc => (hG _ (List.mem_of_getElem? hc) c rfl).elim, fun i j c d a h1 => (hG _ (List.mem_of_getElem? h1) c rfl).elim⟩, M'.sl, hu0, noO _ _ x hG, ⟨_, rfl, M'.ins, by simp [e3]⟩, hxB⟩
  · simp [hl', hV]
  · rcases app_get hd with hd | ⟨hi, hd⟩
    · obtain ⟨v, q1, q2⟩ := g2.env.val i d (pre_get hd)
      have hlt := (List.getElem?_eq_some_iff.mp hd).1
      rw [List.length_map] at hlt
      rw [List.getElem?_append_left (by omega)] at q1
      exact ⟨v, pre_get q1, q2⟩
    · rw [List.length_map] at hi hd
      have key : ∀ (m : Nat) d, (Δ ++ [Sl.val (.lst (ess.map Dt.lst))] ++ [.val (.dN w kvs)])[m]? = some (.val d) → ∃ v, (vs ++ [V.ref l] ++ [.ref g])[m]? = some v ∧ Is K B2 v d := fun m d q => by
        by_cases hm : m < vs.length
        · rw [List.append_assoc, List.getElem?_append_left (by omega)] at q
          have hv : vs[m]? = some vs[m] := List.getElem?_eq_getElem hm
          refine ⟨vs[m], by rw [List.append_assoc, List.getElem?_append_left hm]; exact hv, (hdat m _ d hv (by rw [List.getElem?_map, q]; rfl)).mono sb2⟩
        · rw [List.append_assoc, List.getElem?_append_right (by omega), ← hV] at q
          rw [List.append_assoc, List.getElem?_append_right (by omega)]
          generalize m - vs.length = z at q
          match z, q with
          | 0, q => cases q; exact ⟨_, rfl, isL⟩
          | 1, q => cases q; exact ⟨_, rfl, isG⟩
          | z + 2, q => simp at q
      obtain ⟨v, q1, q2⟩ := key _ d hd
      refine ⟨v, ?_, q2⟩
      rw [List.getElem?_append_right (by omega), hl', List.getElem?_map, q1]; rfl
end
end Ab

namespace Ab
open PySem L2
theorem wipe2 {σ : L2.St} {a b : Nat} (h : a ≠ b) : wipe σ [a, b] = (σ.set a none).set b none := by
  first | rfl | (show (σ.set b none).set a none = _; exact List.set_comm _ _ (Ne.symm h))
theorem env_wipe {K : PySem.W.Frag} {B H : Hp} {σ : L2.St} {Γ : List Sl} {a b : Nat} (E : Env K B H σ Γ) : Env K B H ((σ.set a none).set b none) ((Γ.set a .un).set b .un) := by
  have up : ∀ {i : Nat} {s : Sl}, ((Γ.set a .un).set b .un)[i]? = some s → s ≠ .un → i ≠ a ∧ i ≠ b ∧ Γ[i]? = some s := fun {i s} h hs => by
    by_cases h1 : i = b
    · subst h1
      by_cases hl : i < (Γ.set a .un).length
      · rw [List.getElem?_set_self hl] at h; cases h; exact absurd rfl hs
      · rw [List.getElem?_eq_none (by rw [List.length_set]; omega)] at h; cases h
    · rw [List.getElem?_set_ne (Ne.symm h1)] at h
      by_cases h2 : i = a
      · subst h2
        by_cases hl : i < Γ.length
        · rw [List.getElem?_set_self hl] at h; cases h; exact absurd rfl hs
        · rw [List.getElem?_eq_none (by rw [List.length_set]; omega)] at h; cases h
      · rw [List.getElem?_set_ne (Ne.symm h2)] at h
        exact ⟨h2, h1, h⟩
  have sg : ∀ {i : Nat}, i ≠ a → i ≠ b → ((σ.set a none).set b none)[i]? = σ[i]? := fun {i} h1 h2 => by rw [List.getElem?_set_ne (Ne.symm h2), List.getElem?_set_ne (Ne.symm h1)]
  refine ⟨by rw [List.length_set, List.length_set, List.length_set, List.length_set, E.len], E.bh, fun i d h => ?_, fun i c h => ?_, fun i j c d l h1 h2 h3 h4 => ?_⟩
  · obtain ⟨n1, n2, h⟩ := up h (fun z => nomatch z)
    rw [sg n1 n2]; exact E.val i d h
  · obtain ⟨n1, n2, h⟩ := up h (fun z => nomatch z)
    rw [sg n1 n2]; exact E.cel i c h
  · obtain ⟨n1, n2, h1⟩ := up h1 (fun z => nomatch z)
    obtain ⟨m1, m2, h2⟩ := up h2 (fun z => nomatch z)
    rw [sg n1 n2] at h3
    rw [sg m1 m2] at h4
    exact E.sep i j c d l h1 h2 h3 h4
theorem lc_two {K : PySem.W.Frag} {Γ : List Sl} {tl te : TE} {g : TG} {a b : Nat} {Post : Re → List Sl → Prop} {α : Type} (xs : List α) (c f : α → Dt) (pin : List Nat) (hab : a ≠ b) (hp : ∀ i, i < Γ.length → i ≠ a → i ≠ b → i ∈ pin) (ha : a < Γ.length) (hb : b < Γ.length) (hca : ∀ c, Γ[a]? ≠ some (.cel c)) (hcb : ∀ c, Γ[b]? ≠ some (.cel c))
    (h : WE K tl Γ fun z Γ1 => Hold (z.dt? = some (.lst (xs.map c)) ∧ xs.length ≤ 1000000 ∧ Γ1 = Γ))
    (tgt : ∀ x ∈ xs, WG K pin g (c x) ((Γ.set a .un).set b .un) fun G2 => (∃ d1 d2, G2 = (Γ.set a (.val d1)).set b (.val d2)) ∧ WE K te G2 fun r G3 => ∃ d, r.dt? = some d ∧ d = f x ∧ G3 = G2)
    (done : Post (.new (xs.map f)) Γ) : WE K (tLc (iList K tl) g tYes te [a, b]) Γ Post := fun σ B H E Q q => by
  have h' : WE K tl Γ fun z Γ1 => ∃ ds, z = .val (.lst ds) ∧ ds = xs.map c ∧ xs.length ≤ 1000000 ∧ Γ1 = Γ := we_freeze (we_mono h fun z Γ1 p => by
    obtain ⟨h1, h2, h3⟩ := p.get
    exact ⟨_, h1, _, rfl, rfl, h2, h3⟩)
  refine h' σ B H E _ fun v B1 H1 z Γ1 g1 k1 p1 => ?_
  obtain ⟨ds, rfl, rfl, hn, eG⟩ := p1
  have eG := eG.symm
  subst eG
  obtain ⟨l, vs, rfl, hl, hx⟩ := Is.lstR k1
  refine ⟨l, rfl, ⟨vs, .inl (.inl (g1.env.bh _ _ hl))⟩, fun D hD => ?_⟩
  have E1 := g1.env
  have hvl : vs.length = xs.length := by rw [hx.len, List.length_map]
  have nD := E1.not_own hD
  have bD := E1.base_none hD
  -- what holds at each turn
  let I : Nat → Hp → Prop := fun i H' => ∃ B' acc, Mv (Own σ Γ) B1 H1 B' H' ∧ Env K B' H' σ Γ ∧ H' D = some (.lst acc) ∧ B' D = none ∧ IsA K B' acc ((xs.take i).map f)
  refine ⟨fun i m H' => m = xs.length - i ∧ i ≤ xs.length ∧ I i H', ⟨xs.length, by simp, Nat.zero_le _, B1, [], (Go.beside E1 hD).mv, E1.beside hD, upd_same, bD, .nil⟩, ?_⟩
  rintro i m H' ⟨rfl, hi, B', acc, mv, Ei, hDi, bDi, ia⟩
  have hli : SqL K H' l vs := .inl (.inl (Ei.bh _ _ (mv.bb _ _ hl)))
  by_cases hlt : i < xs.length
  · refine .inr ⟨⟨vs, vs[i], hli, List.getElem?_eq_getElem (by omega)⟩, fun H2 => I (i + 1) H2, fun H2 h2 => ⟨_, by omega, rfl, hlt, h2⟩, fun y H2 hy => ?_⟩
    obtain ⟨e1, e2⟩ := hy
    subst e1
    have hy : vs[i]? = some y := e2 vs hli
    have hxi : xs[i]? = some xs[i] := List.getElem?_eq_getElem hlt
    have iy : Is K B' y (c xs[i]) := (hx.at_ i y _ hy (by rw [List.getElem?_map, hxi]; rfl)).mono mv.bb
    rw [wipe2 hab]
    refine tgt xs[i] (List.getElem_mem _) _ B' _ y (env_wipe Ei) iy _ fun σ2 G2 gs p => ?_
    obtain ⟨⟨d1, d2, rfl⟩, p⟩ := p
    have sg : ∀ {j : Nat}, j < Γ.length → j ≠ a → j ≠ b → σ2[j]? = σ[j]? := fun {j} hj h1 h2 => by
      rw [gs.pin j (hp j hj h1 h2), List.getElem?_set_ne (Ne.symm h2), List.getElem?_set_ne (Ne.symm h1)]
    have hlen2 : σ2.length = Γ.length := by rw [gs.env.len, List.length_set, List.length_set]
    have hlen : σ.length = Γ.length := Ei.len
    refine ⟨?_, ?_⟩
    · rw [wipe2 hab]
      refine List.ext_getElem? fun j => ?_
      by_cases hjl : j < Γ.length
      · by_cases h2 : j = b
        · subst h2
          rw [List.getElem?_set_self (by rw [List.length_set]; omega), List.getElem?_set_self (by rw [List.length_set]; omega)]
        · rw [List.getElem?_set_ne (Ne.symm h2), List.getElem?_set_ne (Ne.symm h2)]
          by_cases h1 : j = a
          · subst h1
            rw [List.getElem?_set_self (by omega), List.getElem?_set_self (by omega)]
          · rw [List.getElem?_set_ne (Ne.symm h1), List.getElem?_set_ne (Ne.symm h1)]
            exact sg hjl h1 h2
      · rw [List.getElem?_eq_none (by rw [List.length_set, List.length_set]; omega), List.getElem?_eq_none (by rw [List.length_set, List.length_set]; omega)]
    · have gi : ∀ {j : Nat} {cc : Cn}, ((Γ.set a (.val d1)).set b (.val d2))[j]? = some (.cel cc) → j ≠ a ∧ j ≠ b ∧ Γ[j]? = some (.cel cc) := fun {j cc} hj => by
        by_cases h2 : j = b
        · subst h2; rw [List.getElem?_set_self (by rw [List.length_set]; omega)] at hj; cases hj
        · rw [List.getElem?_set_ne (Ne.symm h2)] at hj
          by_cases h1 : j = a
          · subst h1; rw [List.getElem?_set_self ha] at hj; cases hj
          · rw [List.getElem?_set_ne (Ne.symm h1)] at hj; exact ⟨h1, h2, hj⟩
      have own2 : ∀ x, Own σ2 ((Γ.set a (.val d1)).set b (.val d2)) x → Own σ Γ x := fun x ⟨j, cc, h1, h2⟩ => by
        obtain ⟨n1, n2, h1⟩ := gi h1
        rw [sg (List.getElem?_eq_some_iff.mp h1).1 n1 n2] at h2
        exact ⟨j, cc, h1, h2⟩
      have p' : WE K te ((Γ.set a (.val d1)).set b (.val d2)) fun r G3 => ∃ d, r = .val d ∧ d = f xs[i] ∧ G3 = (Γ.set a (.val d1)).set b (.val d2) := we_freeze (we_mono p fun r G3 ⟨d, hd, e, e3⟩ => ⟨d, hd, d, rfl, e, e3⟩)
      refine p' σ2 B' _ gs.env _ fun w B3 H3 r G3 g3 k3 p3 => ?_
      obtain ⟨d, rfl, rfl, rfl⟩ := p3
      have nD2 : ¬ Own σ2 ((Γ.set a (.val d1)).set b (.val d2)) D := fun z => nD (own2 D z)
      have hD3 : H3 D = some (.lst acc) := g3.mv.kp D _ nD2 hDi
      have bD3 : B3 D = none := g3.mv.off D nD2 (by rw [hDi]; exact fun z => nomatch z) bDi
      refine ⟨acc, hD3, by rw [ia.len, List.length_map, List.length_take, sizeLine_eq]; omega, ?_⟩
      have mv3 : Mv (Own σ Γ) B1 H1 B3 H3 := mv.trans (fun x hx => .inl (own2 x hx)) g3.mv
      have E3 : Env K B3 H3 σ Γ := by
        refine ⟨hlen, g3.env.bh, fun j d hd => ?_, fun j cc hc => ?_, Ei.sep⟩
        · obtain ⟨u, q1, q2⟩ := Ei.val j d hd
          exact ⟨u, q1, q2.mono g3.mv.bb⟩
        · have n1 : j ≠ a := fun z => by subst z; exact hca _ hc
          have n2 : j ≠ b := fun z => by subst z; exact hcb _ hc
          obtain ⟨l', o, q1, q2, q3, q4⟩ := g3.env.cel j cc (by rw [List.getElem?_set_ne (Ne.symm n2), List.getElem?_set_ne (Ne.symm n1)]; exact hc)
          rw [sg (List.getElem?_eq_some_iff.mp hc).1 n1 n2] at q1
          exact ⟨l', o, q1, q2, q3, q4⟩
      refine ⟨B3, acc ++ [w], ?_, E3.updOff bD3 nD, upd_same, bD3, ?_⟩
      · exact ⟨fun x o nx e => by
          rw [upd_ne (fun z => by subst z; rw [hD] at e; cases e)]
          exact mv3.kp x o nx e, mv3.bb, mv3.off⟩
      · rw [List.take_add_one, hxi, List.map_append]
        exact (ia.mono g3.mv.bb).snoc k3
  · have : i = xs.length := by omega
    subst this
    rw [List.take_length] at ia
    refine .inl ⟨⟨vs, hli, by omega⟩, ?_⟩
    have g2 : Go K σ B1 H1 Γ B' H' Γ := ⟨mv, fun _ cc h => ⟨cc, h⟩, Ei⟩
    exact q (.ref D) B' H' (.new (xs.map f)) Γ (g1.trans g2) ⟨D, _, rfl, .inr (by
      cases hq : H D with
      | none => rfl
      | some o => rw [g1.mv.kp D o (fun z => nD z) hq] at hD; cases hD), nD, hDi, bDi, acc, rfl, ia⟩ done
end Ab

namespace Lin
open PySem L2 Ab
namespace Lk59
open PySem L2 Ab
def topS (i : Nat) : Stmt := PySem.Challenge.pw_stylepages_k59_whole_breaking_scales.main.body.getD i (.Pass ⟨0, 0, 0, 0⟩)
abbrev s_Glue___init__ : Stmt := inClass (topS 5) 0
theorem sc_Glue___init__ : FnScope ["self", "width", "stretch", "shrink"] ["self", "width", "stretch", "shrink"] (defScope s_Glue___init__) := ⟨rfl, rfl, rfl, by decide +kernel, rfl, by decide +kernel, by decide +kernel⟩
abbrev s_Glue___add__ : Stmt := inClass (topS 5) 2
theorem sc_Glue___add__ : FnScope ["self", "other"] ["self", "other"] (defScope s_Glue___add__) := ⟨rfl, rfl, rfl, by decide +kernel, rfl, by decide +kernel, by decide +kernel⟩
abbrev s_ends_at_hyphen : Stmt := topS 7
theorem sc_ends_at_hyphen : FnScope ["row", "end", "widths", "joints"] ["row", "end"] (defScope s_ends_at_hyphen) := ⟨rfl, rfl, rfl, by decide +kernel, rfl, by decide +kernel, by decide +kernel⟩
abbrev s_joint_glue : Stmt := topS 8
theorem sc_joint_glue : FnScope ["joint"] ["joint"] (defScope s_joint_glue) := ⟨rfl, rfl, rfl, by decide +kernel, rfl, by decide +kernel, by decide +kernel⟩
abbrev s_extended_glue : Stmt := topS 9
theorem sc_extended_glue : FnScope ["row", "inner", "box", "widths", "joints"] ["row", "inner", "box"] (defScope s_extended_glue) := ⟨rfl, rfl, rfl, by decide +kernel, rfl, by decide +kernel, by decide +kernel⟩
abbrev s_finished_glue : Stmt := topS 10
theorem sc_finished_glue : FnScope ["row", "inner", "end"] ["row", "inner", "end"] (defScope s_finished_glue) := ⟨rfl, rfl, rfl, by decide +kernel, rfl, by decide +kernel, by decide +kernel⟩
abbrev s_line_glue : Stmt := topS 11
theorem sc_line_glue : FnScope ["row", "start", "end", "inner", "box"] ["row", "start", "end"] (defScope s_line_glue) := ⟨rfl, rfl, rfl, by decide +kernel, rfl, by decide +kernel, by decide +kernel⟩
abbrev s_room_of : Stmt := topS 12
theorem sc_room_of : FnScope ["start", "measure"] ["start", "measure"] (defScope s_room_of) := ⟨rfl, rfl, rfl, by decide +kernel, rfl, by decide +kernel, by decide +kernel⟩
abbrev s_both_price : Stmt := topS 13
theorem sc_both_price : FnScope ["glue", "room", "last", "loose", "rest"] ["glue", "room", "last", "loose"] (defScope s_both_price) := ⟨rfl, rfl, rfl, by decide +kernel, rfl, by decide +kernel, by decide +kernel⟩
abbrev s_left_price : Stmt := topS 14
theorem sc_left_price : FnScope ["glue", "room", "last", "rest"] ["glue", "room", "last"] (defScope s_left_price) := ⟨rfl, rfl, rfl, by decide +kernel, rfl, by decide +kernel, by decide +kernel⟩
abbrev s_price_with_glue : Stmt := topS 15
theorem sc_price_with_glue : FnScope ["row", "end", "glue", "room", "measure", "last", "price"] ["row", "end", "glue", "room", "measure"] (defScope s_price_with_glue) := ⟨rfl, rfl, rfl, by decide +kernel, rfl, by decide +kernel, by decide +kernel⟩
abbrev s_extra_of : Stmt := topS 16
theorem sc_extra_of : FnScope ["rest", "glue", "before", "last", "measure"] ["rest", "glue", "before", "last", "measure"] (defScope s_extra_of) := ⟨rfl, rfl, rfl, by decide +kernel, rfl, by decide +kernel, by decide +kernel⟩
abbrev s_box_places : Stmt := topS 17
theorem sc_box_places : FnScope ["row", "start", "end", "measure", "widths", "joints", "glue", "rest", "last", "plain", "before", "places", "box", "joint"] ["row", "start", "end", "measure"] (defScope s_box_places) := ⟨rfl, rfl, rfl, by decide +kernel, rfl, by decide +kernel, by decide +kernel⟩
abbrev s_gap_spans : Stmt := topS 18
theorem sc_gap_spans : FnScope ["row", "start", "end", "measure", "widths", "joints", "places", "spans", "box", "right_end"] ["row", "start", "end", "measure"] (defScope s_gap_spans) := ⟨rfl, rfl, rfl, by decide +kernel, rfl, by decide +kernel, by decide +kernel⟩
abbrev s_count_overlapping : Stmt := topS 19
theorem sc_count_overlapping : FnScope ["upper", "lower", "count", "at", "first", "end"] ["upper", "lower"] (defScope s_count_overlapping) := ⟨rfl, rfl, rfl, by decide +kernel, rfl, by decide +kernel, by decide +kernel⟩
abbrev s_price_with_count : Stmt := topS 20
theorem sc_price_with_count : FnScope ["row", "middle", "end", "measure", "count"] ["row", "middle", "end", "measure", "count"] (defScope s_price_with_count) := ⟨rfl, rfl, rfl, by decide +kernel, rfl, by decide +kernel, by decide +kernel⟩
abbrev s_lines_from : Stmt := topS 22
theorem sc_lines_from : FnScope ["row", "start", "measure", "widths", "room", "inner", "found", "end", "price"] ["row", "start", "measure"] (defScope s_lines_from) := ⟨rfl, rfl, rfl, by decide +kernel, rfl, by decide +kernel, by decide +kernel⟩
abbrev s_LineTable___init__ : Stmt := inClass (topS 23) 0
theorem sc_LineTable___init__ : FnScope ["self", "row", "measure", "start", "end", "price", "place"] ["self", "row", "measure"] (defScope s_LineTable___init__) := ⟨rfl, rfl, rfl, by decide +kernel, rfl, by decide +kernel, by decide +kernel⟩
abbrev s_LineTable_pair : Stmt := inClass (topS 23) 1
theorem sc_LineTable_pair : FnScope ["self", "start", "middle", "end", "count"] ["self", "start", "middle", "end"] (defScope s_LineTable_pair) := ⟨rfl, rfl, rfl, by decide +kernel, rfl, by decide +kernel, by decide +kernel⟩
abbrev s_farthest_ends : Stmt := topS 25
theorem sc_farthest_ends : FnScope ["table", "farthest", "middle", "best", "start", "end", "price"] ["table"] (defScope s_farthest_ends) := ⟨rfl, rfl, rfl, by decide +kernel, rfl, by decide +kernel, by decide +kernel⟩
abbrev s_stretch_of : Stmt := topS 26
theorem sc_stretch_of : FnScope ["table", "farthest", "covered", "shortest", "start", "length", "end", "price"] ["table"] (defScope s_stretch_of) := ⟨rfl, rfl, rfl, by decide +kernel, rfl, by decide +kernel, by decide +kernel⟩
abbrev s_continuations : Stmt := topS 28
theorem sc_continuations : FnScope ["table", "best", "start", "middle", "found", "end", "price", "pair", "rest", "lines", "next_end"] ["table", "best", "start", "middle"] (defScope s_continuations) := ⟨rfl, rfl, rfl, by decide +kernel, rfl, by decide +kernel, by decide +kernel⟩
abbrev s_best_continuations : Stmt := topS 29
theorem sc_best_continuations : FnScope ["table", "best", "start", "middle", "found"] ["table"] (defScope s_best_continuations) := ⟨rfl, rfl, rfl, by decide +kernel, rfl, by decide +kernel, by decide +kernel⟩
abbrev s_break_lines : Stmt := topS 30
theorem sc_break_lines : FnScope ["row", "measure", "table", "best", "found", "start", "end", "price", "lines", "ends"] ["row", "measure"] (defScope s_break_lines) := ⟨rfl, rfl, rfl, by decide +kernel, rfl, by decide +kernel, by decide +kernel⟩
abbrev s_prefixes_to : Stmt := topS 32
theorem sc_prefixes_to : FnScope ["table", "best", "place", "found", "start"] ["table", "best", "place"] (defScope s_prefixes_to) := ⟨rfl, rfl, rfl, by decide +kernel, rfl, by decide +kernel, by decide +kernel⟩
abbrev s_best_prefixes : Stmt := topS 33
theorem sc_best_prefixes : FnScope ["table", "best", "middle", "prefixes", "end", "price", "found", "spent", "lines", "ends", "start", "pair"] ["table"] (defScope s_best_prefixes) := ⟨rfl, rfl, rfl, by decide +kernel, rfl, by decide +kernel, by decide +kernel⟩
abbrev s_line_certificate : Stmt := topS 35
theorem sc_line_certificate : FnScope ["row", "measure", "table", "reached", "behind", "certificate", "start", "end", "price", "rest"] ["row", "measure"] (defScope s_line_certificate) := ⟨rfl, rfl, rfl, by decide +kernel, rfl, by decide +kernel, by decide +kernel⟩
abbrev s_Measure___init__ : Stmt := inClass (topS 37) 0
theorem sc_Measure___init__ : FnScope ["self", "width", "indent", "align", "hyphen", "twin", "river", "loose"] ["self", "width", "indent", "align", "hyphen", "twin", "river", "loose"] (defScope s_Measure___init__) := ⟨rfl, rfl, rfl, by decide +kernel, rfl, by decide +kernel, by decide +kernel⟩
abbrev s_Measure_of : Stmt := inClass (topS 37) 2
theorem sc_Measure_of : FnScope ["key", "width", "indent", "align", "hyphen", "twin", "river", "loose"] ["key"] (defScope s_Measure_of) := ⟨rfl, rfl, rfl, by decide +kernel, rfl, by decide +kernel, by decide +kernel⟩
abbrev s__law_pool : Stmt := topS 39
theorem sc__law_pool : FnScope ["_law_script", "_law_at", "_law_cell"] ["_law_script", "_law_at"] (defScope s__law_pool) := ⟨rfl, rfl, rfl, by decide +kernel, rfl, by decide +kernel, by decide +kernel⟩
abbrev s__law_take : Stmt := topS 40
theorem sc__law_take : FnScope ["_law_pool_here", "_law_many", "_law_got", "_law_one", "_law_two"] ["_law_pool_here", "_law_many"] (defScope s__law_take) := ⟨rfl, rfl, rfl, by decide +kernel, rfl, by decide +kernel, by decide +kernel⟩
abbrev s__law_same : Stmt := topS 41
theorem sc__law_same : FnScope ["_law_one", "_law_two", "_law_both", "_law_k"] ["_law_one", "_law_two"] (defScope s__law_same) := ⟨rfl, rfl, rfl, by decide +kernel, rfl, by decide +kernel, by decide +kernel⟩
abbrev s__law_joint : Stmt := topS 42
theorem sc__law_joint : FnScope ["_law_pool_here", "_law_below", "_law_broad", "_law_more", "_law_wide"] ["_law_pool_here", "_law_below", "_law_broad"] (defScope s__law_joint) := ⟨rfl, rfl, rfl, by decide +kernel, rfl, by decide +kernel, by decide +kernel⟩
abbrev s__law_bare : Stmt := topS 43
theorem sc__law_bare : FnScope ["_law_pool_here", "_law_least", "_law_often", "_law_many", "_law_broad", "_law_period", "_law_widths", "_law_k", "_law_joints", "_law_below"] ["_law_pool_here", "_law_least", "_law_often"] (defScope s__law_bare) := ⟨rfl, rfl, rfl, by decide +kernel, rfl, by decide +kernel, by decide +kernel⟩
abbrev s__law_glue : Stmt := topS 44
theorem sc__law_glue : FnScope ["_law_row", "_law_start", "_law_end", "_law_wide", "_law_more", "_law_less", "_law_k", "_law_joint_here"] ["_law_row", "_law_start", "_law_end"] (defScope s__law_glue) := ⟨rfl, rfl, rfl, by decide +kernel, rfl, by decide +kernel, by decide +kernel⟩
abbrev s__law_line_key : Stmt := topS 45
theorem sc__law_line_key : FnScope ["_law_pool_here", "_law_row", "_law_gaps", "_law_whole", "_law_sort", "_law_wide", "_law_start", "_law_end", "_law_reach", "_law_begin", "_law_side", "_law_one", "_law_two", "_law_stream", "_law_slack", "_law_joint_here"] ["_law_pool_here", "_law_row"] (defScope s__law_line_key) := ⟨rfl, rfl, rfl, by decide +kernel, rfl, by decide +kernel, by decide +kernel⟩
abbrev s__law_allowed : Stmt := topS 46
theorem sc__law_allowed : FnScope ["_law_row", "_law_key", "_law_allowed_here", "_law_wide", "_law_joint_here"] ["_law_row", "_law_key"] (defScope s__law_allowed) := ⟨rfl, rfl, rfl, by decide +kernel, rfl, by decide +kernel, by decide +kernel⟩
abbrev s__law_times : Stmt := topS 47
theorem sc__law_times : FnScope ["_law_row", "_law_times_here", "_law_joints", "_law_joint_here", "_law_numbers", "_law_number", "_law_wide"] ["_law_row", "_law_times_here"] (defScope s__law_times) := ⟨rfl, rfl, rfl, by decide +kernel, rfl, by decide +kernel, by decide +kernel⟩
abbrev s__law_answer : Stmt := topS 48
theorem sc__law_answer : FnScope ["_law_row", "_law_measure", "_law_told", "_law_stop", "e"] ["_law_row", "_law_measure"] (defScope s__law_answer) := ⟨rfl, rfl, rfl, by decide +kernel, rfl, by decide +kernel, by decide +kernel⟩
abbrev s_law : Stmt := topS 49
theorem sc_law : FnScope ["_law_script", "_law_row", "_law_key", "_law_allowed_here", "_law_times_here", "_law_great", "_law_great_key", "_law_measure", "_law_great_measure", "_law_answer_here", "_law_listed"] ["_law_script"] (defScope s_law) := ⟨rfl, rfl, rfl, by decide +kernel, rfl, by decide +kernel, by decide +kernel⟩
abbrev s_Blocked___init__ : Stmt := inClass (topS 3) 0
abbrev nf_Blocked (cc cda : Addr) : NdefX.NF := ⟨"__init__", "Blocked.__init__", defArgs s_Blocked___init__, defBody s_Blocked___init__, defScope s_Blocked___init__, [("__class__", cc)], cda⟩
structure Txt (P : Program) (K : PySem.W.Frag) (mg : Str → Option Value) where
  m_abs : mg "abs" = none
  m_bool : mg "bool" = none
  m_int : mg "int" = none
  m_isinstance : mg "isinstance" = none
  m_len : mg "len" = none
  m_list : mg "list" = none
  m_max : mg "max" = none
  m_min : mg "min" = none
  m_range : mg "range" = none
  m_str : mg "str" = none
  m_sum : mg "sum" = none
  m_super : mg "super" = none
  m_tuple : mg "tuple" = none
  c_Blocked : Addr
  g_Blocked : mg "Blocked" = some (.ref c_Blocked)
  bs_Blocked : PySem.W.subIn K (.ref c_Blocked) (.type "BaseException") = some true
  tx_Blocked : PySem.W.typeIn K (.ref c_Blocked) = some (.type "type")
  hd_Blocked : PySem.W.hasDictIn K c_Blocked = true
  ks_ev : subTab K [c_Blocked] = true
  va_Blocked : PySem.W.subIn K (.ref c_Blocked) (.type "ValueError") = some true
  xc_Blocked : ExcC K c_Blocked
  xf_Blocked : XfC K c_Blocked
  kx_Blocked : PySem.W.keepIn K (.ref c_Blocked) = true
  ox_Blocked : OexC K c_Blocked
  fi_Blocked : Addr
  fe_Blocked : FuncData
  cc_Blocked : Addr
  cd_Blocked : Addr
  ic_Blocked : PySem.W.findIn K (.ref c_Blocked) "__init__" = some (some (.ref fi_Blocked))
  ti_Blocked : PySem.W.typeIn K (.ref fi_Blocked) = some (.type "function")
  be_Blocked : Binds K fe_Blocked ["self", "start", "end"] []
  su_Blocked : SupF P K c_Blocked fi_Blocked (nf_Blocked cc_Blocked cd_Blocked) fe_Blocked "self"
  na_Blocked_start : PySem.W.findIn K (.ref c_Blocked) "start" = some none
  na_Blocked_end : PySem.W.findIn K (.ref c_Blocked) "end" = some none
  c_Glue : Addr
  g_Glue : mg "Glue" = some (.ref c_Glue)
  co_Glue : ClsOk K c_Glue
  c_LineTable : Addr
  g_LineTable : mg "LineTable" = some (.ref c_LineTable)
  co_LineTable : ClsOk K c_LineTable
  c_Measure : Addr
  g_Measure : mg "Measure" = some (.ref c_Measure)
  co_Measure : ClsOk K c_Measure
  sf_Glue : PySem.W.selfFirst K c_Glue = true
  na_Glue_width : NoAttr K c_Glue "width"
  na_Glue_stretch : NoAttr K c_Glue "stretch"
  na_Glue_shrink : NoAttr K c_Glue "shrink"
  na_LineTable_row : NoAttr K c_LineTable "row"
  na_LineTable_fitting : NoAttr K c_LineTable "fitting"
  na_LineTable_boxes : NoAttr K c_LineTable "boxes"
  na_LineTable_rivers : NoAttr K c_LineTable "rivers"
  na_LineTable_ends_from : NoAttr K c_LineTable "ends_from"
  na_LineTable_starts_to : NoAttr K c_LineTable "starts_to"
  na_LineTable_gaps : NoAttr K c_LineTable "gaps"
  na_Measure_width : NoAttr K c_Measure "width"
  na_Measure_indent : NoAttr K c_Measure "indent"
  na_Measure_align : NoAttr K c_Measure "align"
  na_Measure_hyphen : NoAttr K c_Measure "hyphen"
  na_Measure_twin : NoAttr K c_Measure "twin"
  na_Measure_river : NoAttr K c_Measure "river"
  na_Measure_loose : NoAttr K c_Measure "loose"
  f_Glue___init__ : Addr
  fd_Glue___init__ : FuncData
  F_Glue___init__ : Fun K "__init__" "Glue.__init__" s_Glue___init__ f_Glue___init__ fd_Glue___init__
  b_Glue___init__ : Binds K fd_Glue___init__ ["self", "width", "stretch", "shrink"] []
  mk_Glue : Mk K c_Glue f_Glue___init__
  f_Glue___add__ : Addr
  fd_Glue___add__ : FuncData
  F_Glue___add__ : Fun K "__add__" "Glue.__add__" s_Glue___add__ f_Glue___add__ fd_Glue___add__
  b_Glue___add__ : Binds K fd_Glue___add__ ["self", "other"] []
  mt_Glue___add__ : Meth K c_Glue "__add__" f_Glue___add__
  op_Glue___add__ : PySem.W.findIn K (.ref c_Glue) (PySem.dunder (PySem.Operator.Add).info.2) = some (some (.ref f_Glue___add__))
  f_ends_at_hyphen : Addr
  fd_ends_at_hyphen : FuncData
  F_ends_at_hyphen : Fun K "ends_at_hyphen" "ends_at_hyphen" s_ends_at_hyphen f_ends_at_hyphen fd_ends_at_hyphen
  g_ends_at_hyphen : mg "ends_at_hyphen" = some (.ref f_ends_at_hyphen)
  b_ends_at_hyphen : Binds K fd_ends_at_hyphen ["row", "end"] []
  f_joint_glue : Addr
  fd_joint_glue : FuncData
  F_joint_glue : Fun K "joint_glue" "joint_glue" s_joint_glue f_joint_glue fd_joint_glue
  g_joint_glue : mg "joint_glue" = some (.ref f_joint_glue)
  b_joint_glue : Binds K fd_joint_glue ["joint"] []
  f_extended_glue : Addr
  fd_extended_glue : FuncData
  F_extended_glue : Fun K "extended_glue" "extended_glue" s_extended_glue f_extended_glue fd_extended_glue
  g_extended_glue : mg "extended_glue" = some (.ref f_extended_glue)
  b_extended_glue : Binds K fd_extended_glue ["row", "inner", "box"] []
  f_finished_glue : Addr
  fd_finished_glue : FuncData
  F_finished_glue : Fun K "finished_glue" "finished_glue" s_finished_glue f_finished_glue fd_finished_glue
  g_finished_glue : mg "finished_glue" = some (.ref f_finished_glue)
  b_finished_glue : Binds K fd_finished_glue ["row", "inner", "end"] []
  f_line_glue : Addr
  fd_line_glue : FuncData
  F_line_glue : Fun K "line_glue" "line_glue" s_line_glue f_line_glue fd_line_glue
  g_line_glue : mg "line_glue" = some (.ref f_line_glue)
  b_line_glue : Binds K fd_line_glue ["row", "start", "end"] []
  f_room_of : Addr
  fd_room_of : FuncData
  F_room_of : Fun K "room_of" "room_of" s_room_of f_room_of fd_room_of
  g_room_of : mg "room_of" = some (.ref f_room_of)
  b_room_of : Binds K fd_room_of ["start", "measure"] []
  f_both_price : Addr
  fd_both_price : FuncData
  F_both_price : Fun K "both_price" "both_price" s_both_price f_both_price fd_both_price
  g_both_price : mg "both_price" = some (.ref f_both_price)
  b_both_price : Binds K fd_both_price ["glue", "room", "last", "loose"] []
  f_left_price : Addr
  fd_left_price : FuncData
  F_left_price : Fun K "left_price" "left_price" s_left_price f_left_price fd_left_price
  g_left_price : mg "left_price" = some (.ref f_left_price)
  b_left_price : Binds K fd_left_price ["glue", "room", "last"] []
  f_price_with_glue : Addr
  fd_price_with_glue : FuncData
  F_price_with_glue : Fun K "price_with_glue" "price_with_glue" s_price_with_glue f_price_with_glue fd_price_with_glue
  g_price_with_glue : mg "price_with_glue" = some (.ref f_price_with_glue)
  b_price_with_glue : Binds K fd_price_with_glue ["row", "end", "glue", "room", "measure"] []
  f_extra_of : Addr
  fd_extra_of : FuncData
  F_extra_of : Fun K "extra_of" "extra_of" s_extra_of f_extra_of fd_extra_of
  g_extra_of : mg "extra_of" = some (.ref f_extra_of)
  b_extra_of : Binds K fd_extra_of ["rest", "glue", "before", "last", "measure"] []
  f_box_places : Addr
  fd_box_places : FuncData
  F_box_places : Fun K "box_places" "box_places" s_box_places f_box_places fd_box_places
  g_box_places : mg "box_places" = some (.ref f_box_places)
  b_box_places : Binds K fd_box_places ["row", "start", "end", "measure"] []
  f_gap_spans : Addr
  fd_gap_spans : FuncData
  F_gap_spans : Fun K "gap_spans" "gap_spans" s_gap_spans f_gap_spans fd_gap_spans
  g_gap_spans : mg "gap_spans" = some (.ref f_gap_spans)
  b_gap_spans : Binds K fd_gap_spans ["row", "start", "end", "measure"] []
  f_count_overlapping : Addr
  fd_count_overlapping : FuncData
  F_count_overlapping : Fun K "count_overlapping" "count_overlapping" s_count_overlapping f_count_overlapping fd_count_overlapping
  g_count_overlapping : mg "count_overlapping" = some (.ref f_count_overlapping)
  b_count_overlapping : Binds K fd_count_overlapping ["upper", "lower"] []
  f_price_with_count : Addr
  fd_price_with_count : FuncData
  F_price_with_count : Fun K "price_with_count" "price_with_count" s_price_with_count f_price_with_count fd_price_with_count
  g_price_with_count : mg "price_with_count" = some (.ref f_price_with_count)
  b_price_with_count : Binds K fd_price_with_count ["row", "middle", "end", "measure", "count"] []
  f_lines_from : Addr
  fd_lines_from : FuncData
  F_lines_from : Fun K "lines_from" "lines_from" s_lines_from f_lines_from fd_lines_from
  g_lines_from : mg "lines_from" = some (.ref f_lines_from)
  b_lines_from : Binds K fd_lines_from ["row", "start", "measure"] []
  f_LineTable___init__ : Addr
  fd_LineTable___init__ : FuncData
  F_LineTable___init__ : Fun K "__init__" "LineTable.__init__" s_LineTable___init__ f_LineTable___init__ fd_LineTable___init__
  b_LineTable___init__ : Binds K fd_LineTable___init__ ["self", "row", "measure"] []
  mk_LineTable : Mk K c_LineTable f_LineTable___init__
  f_LineTable_pair : Addr
  fd_LineTable_pair : FuncData
  F_LineTable_pair : Fun K "pair" "LineTable.pair" s_LineTable_pair f_LineTable_pair fd_LineTable_pair
  b_LineTable_pair : Binds K fd_LineTable_pair ["self", "start", "middle", "end"] []
  mt_LineTable_pair : Meth K c_LineTable "pair" f_LineTable_pair
  f_farthest_ends : Addr
  fd_farthest_ends : FuncData
  F_farthest_ends : Fun K "farthest_ends" "farthest_ends" s_farthest_ends f_farthest_ends fd_farthest_ends
  g_farthest_ends : mg "farthest_ends" = some (.ref f_farthest_ends)
  b_farthest_ends : Binds K fd_farthest_ends ["table"] []
  f_stretch_of : Addr
  fd_stretch_of : FuncData
  F_stretch_of : Fun K "stretch_of" "stretch_of" s_stretch_of f_stretch_of fd_stretch_of
  g_stretch_of : mg "stretch_of" = some (.ref f_stretch_of)
  b_stretch_of : Binds K fd_stretch_of ["table"] []
  f_continuations : Addr
  fd_continuations : FuncData
  F_continuations : Fun K "continuations" "continuations" s_continuations f_continuations fd_continuations
  g_continuations : mg "continuations" = some (.ref f_continuations)
  b_continuations : Binds K fd_continuations ["table", "best", "start", "middle"] []
  f_best_continuations : Addr
  fd_best_continuations : FuncData
  F_best_continuations : Fun K "best_continuations" "best_continuations" s_best_continuations f_best_continuations fd_best_continuations
  g_best_continuations : mg "best_continuations" = some (.ref f_best_continuations)
  b_best_continuations : Binds K fd_best_continuations ["table"] []
  f_break_lines : Addr
  fd_break_lines : FuncData
  F_break_lines : Fun K "break_lines" "break_lines" s_break_lines f_break_lines fd_break_lines
  g_break_lines : mg "break_lines" = some (.ref f_break_lines)
  b_break_lines : Binds K fd_break_lines ["row", "measure"] []
  f_prefixes_to : Addr
  fd_prefixes_to : FuncData
  F_prefixes_to : Fun K "prefixes_to" "prefixes_to" s_prefixes_to f_prefixes_to fd_prefixes_to
  g_prefixes_to : mg "prefixes_to" = some (.ref f_prefixes_to)
  b_prefixes_to : Binds K fd_prefixes_to ["table", "best", "place"] []
  f_best_prefixes : Addr
  fd_best_prefixes : FuncData
  F_best_prefixes : Fun K "best_prefixes" "best_prefixes" s_best_prefixes f_best_prefixes fd_best_prefixes
  g_best_prefixes : mg "best_prefixes" = some (.ref f_best_prefixes)
  b_best_prefixes : Binds K fd_best_prefixes ["table"] []
  f_line_certificate : Addr
  fd_line_certificate : FuncData
  F_line_certificate : Fun K "line_certificate" "line_certificate" s_line_certificate f_line_certificate fd_line_certificate
  g_line_certificate : mg "line_certificate" = some (.ref f_line_certificate)
  b_line_certificate : Binds K fd_line_certificate ["row", "measure"] []
  f_Measure___init__ : Addr
  fd_Measure___init__ : FuncData
  F_Measure___init__ : Fun K "__init__" "Measure.__init__" s_Measure___init__ f_Measure___init__ fd_Measure___init__
  fk_Measure : FunD K "__init__" "Measure.__init__" (defArgs s_Measure___init__) (defBody s_Measure___init__) (defScope s_Measure___init__) [] [("indent", .int 0), ("align", .str "both"), ("hyphen", .int 50), ("twin", .int 100), ("river", .int 0), ("loose", .int 2)] f_Measure___init__ fd_Measure___init__
  mk_Measure : Mk K c_Measure f_Measure___init__
  f_Measure_of : Addr
  fd_Measure_of : FuncData
  F_Measure_of : Fun K "of" "Measure.of" s_Measure_of f_Measure_of fd_Measure_of
  b_Measure_of : Binds K fd_Measure_of ["key"] []
  p_Measure_of : Addr
  sm_Measure_of : SMet K c_Measure "of" p_Measure_of f_Measure_of
  f__law_pool : Addr
  fd__law_pool : FuncData
  F__law_pool : Fun K "_law_pool" "_law_pool" s__law_pool f__law_pool fd__law_pool
  g__law_pool : mg "_law_pool" = some (.ref f__law_pool)
  b__law_pool : Binds K fd__law_pool ["_law_script", "_law_at"] []
  f__law_take : Addr
  fd__law_take : FuncData
  F__law_take : Fun K "_law_take" "_law_take" s__law_take f__law_take fd__law_take
  g__law_take : mg "_law_take" = some (.ref f__law_take)
  b__law_take : Binds K fd__law_take ["_law_pool_here", "_law_many"] []
  f__law_same : Addr
  fd__law_same : FuncData
  F__law_same : Fun K "_law_same" "_law_same" s__law_same f__law_same fd__law_same
  g__law_same : mg "_law_same" = some (.ref f__law_same)
  b__law_same : Binds K fd__law_same ["_law_one", "_law_two"] []
  f__law_joint : Addr
  fd__law_joint : FuncData
  F__law_joint : Fun K "_law_joint" "_law_joint" s__law_joint f__law_joint fd__law_joint
  g__law_joint : mg "_law_joint" = some (.ref f__law_joint)
  b__law_joint : Binds K fd__law_joint ["_law_pool_here", "_law_below", "_law_broad"] []
  f__law_bare : Addr
  fd__law_bare : FuncData
  F__law_bare : Fun K "_law_bare" "_law_bare" s__law_bare f__law_bare fd__law_bare
  g__law_bare : mg "_law_bare" = some (.ref f__law_bare)
  b__law_bare : Binds K fd__law_bare ["_law_pool_here", "_law_least", "_law_often"] []
  f__law_glue : Addr
  fd__law_glue : FuncData
  F__law_glue : Fun K "_law_glue" "_law_glue" s__law_glue f__law_glue fd__law_glue
  g__law_glue : mg "_law_glue" = some (.ref f__law_glue)
  b__law_glue : Binds K fd__law_glue ["_law_row", "_law_start", "_law_end"] []
  f__law_line_key : Addr
  fd__law_line_key : FuncData
  F__law_line_key : Fun K "_law_line_key" "_law_line_key" s__law_line_key f__law_line_key fd__law_line_key
  g__law_line_key : mg "_law_line_key" = some (.ref f__law_line_key)
  b__law_line_key : Binds K fd__law_line_key ["_law_pool_here", "_law_row"] []
  f__law_allowed : Addr
  fd__law_allowed : FuncData
  F__law_allowed : Fun K "_law_allowed" "_law_allowed" s__law_allowed f__law_allowed fd__law_allowed
  g__law_allowed : mg "_law_allowed" = some (.ref f__law_allowed)
  b__law_allowed : Binds K fd__law_allowed ["_law_row", "_law_key"] []
  f__law_times : Addr
  fd__law_times : FuncData
  F__law_times : Fun K "_law_times" "_law_times" s__law_times f__law_times fd__law_times
  g__law_times : mg "_law_times" = some (.ref f__law_times)
  b__law_times : Binds K fd__law_times ["_law_row", "_law_times_here"] []
  f__law_answer : Addr
  fd__law_answer : FuncData
  F__law_answer : Fun K "_law_answer" "_law_answer" s__law_answer f__law_answer fd__law_answer
  g__law_answer : mg "_law_answer" = some (.ref f__law_answer)
  b__law_answer : Binds K fd__law_answer ["_law_row", "_law_measure"] []
  f_law : Addr
  fd_law : FuncData
  F_law : Fun K "law" "law" s_law f_law fd_law
  g_law : mg "law" = some (.ref f_law)
  b_law : Binds K fd_law ["_law_script"] []
def t_Glue___init__ (K : PySem.W.Frag) : TS :=
    (tSeq (sFld K (tVar 0) (tVar 1) "width")
    (tSeq (sFld K (tVar 0) (tVar 2) "stretch")
    (sFld K (tVar 0) (tVar 3) "shrink")))
def t_Glue___add__ (K : PySem.W.Frag) (c_Glue : Addr) (ai_Glue : AI) : TS :=
    (tSeq (tIfS (tNot (tB (tCB (rIsi K) (tCons (tVar 1) (tCons (tC (.ref c_Glue)) tNil))))) tNever tNext)
    (tRet (tMake c_Glue (toSpI K c_Glue ai_Glue) [] E0 (tCons (tOp (rAddG K) (tFld K (tVar 0) "width") (tFld K (tVar 1) "width")) (tCons (tOp (rAddG K) (tFld K (tVar 0) "stretch") (tFld K (tVar 1) "stretch")) (tCons (tOp (rAddG K) (tFld K (tVar 0) "shrink") (tFld K (tVar 1) "shrink")) tNil))))))
def t_ends_at_hyphen (K : PySem.W.Frag) : TS :=
    (tSeq (tAsg (tVar 0) (gTup K 2 (gCons (gName 2) (gCons (gName 3) gNil))))
    (tRet (tAndV (tOp (rLtG K) (tVar 1) (tCB (rLenV K) (tCons (tVar 2) tNil))) (tOp (rEqG K) (tOp (rIx K) (tOp (rIx K) (tVar 3) (tOp rSubI (tVar 1) (tC (.int 1)))) (tC (.int 0))) (tC (.str "hyphen"))))))
def t_joint_glue (K : PySem.W.Frag) (c_Glue : Addr) (ai_Glue : AI) : TS :=
    (tSeq (tIfS (tTest (tOp (rEqG K) (tOp (rIx K) (tVar 0) (tC (.int 0))) (tC (.str "gap")))) (tRet (tMake c_Glue (toSpI K c_Glue ai_Glue) [] E0 (tCons (tOp (rIx K) (tVar 0) (tC (.int 1))) (tCons (tOp (rIx K) (tVar 0) (tC (.int 2))) (tCons (tOp (rIx K) (tVar 0) (tC (.int 3))) tNil))))) tNext)
    (tRet (tMake c_Glue (toSpI K c_Glue ai_Glue) [] E0 (tCons (tUn rNegI (tOp (rIx K) (tVar 0) (tC (.int 2)))) (tCons (tC (.int 0)) (tCons (tC (.int 0)) tNil))))))
def t_extended_glue (K : PySem.W.Frag) (c_Glue : Addr) (ap_joint_glue : AP) (ap_Glue___add__ : AP) (ai_Glue : AI) : TS :=
    (tSeq (tAsg (tVar 0) (gTup K 2 (gCons (gName 3) (gCons (gName 4) gNil))))
    (tRet (tOp (rOwn c_Glue (toSp K ap_Glue___add__) E0) (tOp (rOwn c_Glue (toSp K ap_Glue___add__) E0) (tVar 1) (tCall (toSp K ap_joint_glue) [] E0 (tCons (tOp (rIx K) (tVar 4) (tOp rSubI (tVar 2) (tC (.int 1)))) tNil))) (tMake c_Glue (toSpI K c_Glue ai_Glue) [] E0 (tCons (tOp (rIx K) (tVar 3) (tVar 2)) (tCons (tC (.int 0)) (tCons (tC (.int 0)) tNil)))))))
def t_finished_glue (K : PySem.W.Frag) (c_Glue : Addr) (ap_ends_at_hyphen : AP) (ai_Glue : AI) (ap_Glue___add__ : AP) : TS :=
    (tSeq (tIfS (tB (tCall (toSp K ap_ends_at_hyphen) [] E0 (tCons (tVar 0) (tCons (tVar 2) tNil)))) (tRet (tOp (rOwn c_Glue (toSp K ap_Glue___add__) E0) (tVar 1) (tMake c_Glue (toSpI K c_Glue ai_Glue) [] E0 (tCons (tOp (rIx K) (tOp (rIx K) (tOp (rIx K) (tVar 0) (tC (.int 1))) (tOp rSubI (tVar 2) (tC (.int 1)))) (tC (.int 1))) (tCons (tC (.int 0)) (tCons (tC (.int 0)) tNil)))))) tNext)
    (tRet (tVar 1)))
def t_line_glue (K : PySem.W.Frag) (c_Glue : Addr) (ai_Glue : AI) (ap_extended_glue : AP) (ap_finished_glue : AP) : TS :=
    (tSeq (tAsg (tMake c_Glue (toSpI K c_Glue ai_Glue) [] E0 (tCons (tOp (rIx K) (tOp (rIx K) (tVar 0) (tC (.int 0))) (tVar 1)) (tCons (tC (.int 0)) (tCons (tC (.int 0)) tNil)))) (gName 3))
    (tSeq (tFor (iRng2 (tCons (tOp (rAddG K) (tVar 1) (tC (.int 1))) (tCons (tVar 2) tNil))) (gName 4) (tAsg (tCall (toSp K ap_extended_glue) [] E0 (tCons (tVar 0) (tCons (tVar 3) (tCons (tVar 4) tNil)))) (gName 3)))
    (tRet (tCall (toSp K ap_finished_glue) [] E0 (tCons (tVar 0) (tCons (tVar 3) (tCons (tVar 2) tNil)))))))
def t_room_of (K : PySem.W.Frag) : TS :=
    (tSeq (tIfS (tTest (tOp (rEqG K) (tVar 0) (tC (.int 0)))) (tRet (tOp rSubI (tFld K (tVar 1) "width") (tFld K (tVar 1) "indent"))) tNext)
    (tRet (tFld K (tVar 1) "width")))
def t_both_price (K : PySem.W.Frag) : TS :=
    (tSeq (tAsg (tOp rSubI (tVar 1) (tFld K (tVar 0) "width")) (gName 4))
    (tSeq (tIfS (tTest (tOp (rLtG K) (tVar 4) (tC (.int 0)))) (tSeq (tIfS (tTest (tOp rGtI (tUn rNegI (tVar 4)) (tFld K (tVar 0) "shrink"))) (tRet (tC .non)) tNext)
    (tRet (tOp rDivI (tOp (rMulG K) (tOp (rMulG K) (tC (.int 100)) (tVar 4)) (tVar 4)) (tOp (rMulG K) (tFld K (tVar 0) "shrink") (tFld K (tVar 0) "shrink"))))) tNext)
    (tSeq (tIfS (tOr (tTest (tOp (rEqG K) (tVar 4) (tC (.int 0)))) (tB (tVar 2))) (tRet (tC (.int 0))) tNext)
    (tSeq (tIfS (tTest (tOp rGtI (tVar 4) (tOp (rMulG K) (tVar 3) (tFld K (tVar 0) "stretch")))) (tRet (tC .non)) tNext)
    (tRet (tOp rDivI (tOp (rMulG K) (tOp (rMulG K) (tC (.int 100)) (tVar 4)) (tVar 4)) (tOp (rMulG K) (tFld K (tVar 0) "stretch") (tFld K (tVar 0) "stretch"))))))))
def t_left_price (K : PySem.W.Frag) : TS :=
    (tSeq (tAsg (tOp rSubI (tVar 1) (tFld K (tVar 0) "width")) (gName 3))
    (tSeq (tIfS (tTest (tOp (rLtG K) (tVar 3) (tC (.int 0)))) (tRet (tC .non)) tNext)
    (tSeq (tIfS (tB (tVar 2)) (tRet (tC (.int 0))) tNext)
    (tRet (tOp rDivI (tOp (rMulG K) (tOp (rMulG K) (tC (.int 100)) (tVar 3)) (tVar 3)) (tOp (rMulG K) (tVar 1) (tVar 1)))))))
def t_price_with_glue (K : PySem.W.Frag) (ap_both_price : AP) (ap_left_price : AP) (ap_ends_at_hyphen : AP) : TS :=
    (tSeq (tAsg (tOp (rEqG K) (tVar 1) (tCB (rLenV K) (tCons (tOp (rIx K) (tVar 0) (tC (.int 0))) tNil))) (gName 5))
    (tSeq (tIfS (tTest (tOp (rEqG K) (tFld K (tVar 4) "align") (tC (.str "both")))) (tAsg (tCall (toSp K ap_both_price) [] E0 (tCons (tVar 2) (tCons (tVar 3) (tCons (tVar 5) (tCons (tFld K (tVar 4) "loose") tNil))))) (gName 6)) (tAsg (tCall (toSp K ap_left_price) [] E0 (tCons (tVar 2) (tCons (tVar 3) (tCons (tVar 5) tNil)))) (gName 6)))
    (tSeq (tIfS (tAnd (tB (tNotN (tVar 6))) (tB (tCall (toSp K ap_ends_at_hyphen) [] E0 (tCons (tVar 0) (tCons (tVar 1) tNil))))) (tRet (tOp (rAddG K) (tVar 6) (tFld K (tVar 4) "hyphen"))) tNext)
    (tRet (tVar 6)))))
def t_extra_of (K : PySem.W.Frag) : TS :=
    (tSeq (tIfS (tAnd (tTest (tOp (rEqG K) (tFld K (tVar 4) "align") (tC (.str "both")))) (tTest (tOp (rLtG K) (tVar 0) (tC (.int 0))))) (tRet (tUn rNegI (tOp rDivI (tOp (rMulG K) (tUn rNegI (tVar 0)) (tFld K (tVar 2) "shrink")) (tFld K (tVar 1) "shrink")))) tNext)
    (tSeq (tIfS (tAnd (tTest (tOp (rEqG K) (tFld K (tVar 4) "align") (tC (.str "both")))) (tAnd (tTest (tOp rGtI (tVar 0) (tC (.int 0)))) (tNot (tB (tVar 3))))) (tRet (tOp rDivI (tOp (rMulG K) (tVar 0) (tFld K (tVar 2) "stretch")) (tFld K (tVar 1) "stretch"))) tNext)
    (tRet (tC (.int 0)))))
def t_box_places (K : PySem.W.Frag) (c_Glue : Addr) (ap_line_glue : AP) (ap_room_of : AP) (ai_Glue : AI) (ap_joint_glue : AP) (ap_Glue___add__ : AP) (ap_extra_of : AP) : TS :=
    (tSeq (tAsg (tVar 0) (gTup K 2 (gCons (gName 4) (gCons (gName 5) gNil))))
    (tSeq (tAsg (tCall (toSp K ap_line_glue) [] E0 (tCons (tVar 0) (tCons (tVar 1) (tCons (tVar 2) tNil)))) (gName 6))
    (tSeq (tAsg (tOp rSubI (tCall (toSp K ap_room_of) [] E0 (tCons (tVar 1) (tCons (tVar 3) tNil))) (tFld K (tVar 6) "width")) (gName 7))
    (tSeq (tAsg (tOp (rEqG K) (tVar 2) (tCB (rLenV K) (tCons (tVar 4) tNil))) (gName 8))
    (tSeq (tAsg (tIf (tTest (tOp (rEqG K) (tVar 1) (tC (.int 0)))) (tFld K (tVar 3) "indent") (tC (.int 0))) (gName 9))
    (tSeq (tAsg (tMake c_Glue (toSpI K c_Glue ai_Glue) [] E0 (tCons (tC (.int 0)) (tCons (tC (.int 0)) (tCons (tC (.int 0)) tNil)))) (gName 10))
    (tSeq (tAsg (tLst tNil) (gName 11))
    (tSeq (tFor (iRng2 (tCons (tVar 1) (tCons (tVar 2) tNil))) (gName 12) (tSeq (tIfS (tTest (tOp rGtI (tVar 12) (tVar 1))) (tSeq (tAsg (tCall (toSp K ap_joint_glue) [] E0 (tCons (tOp (rIx K) (tVar 5) (tOp rSubI (tVar 12) (tC (.int 1)))) tNil)) (gName 13))
    (tSeq (tAsg (tOp (rAddG K) (tOp (rAddG K) (tVar 9) (tOp (rIx K) (tVar 4) (tOp rSubI (tVar 12) (tC (.int 1))))) (tFld K (tVar 13) "width")) (gName 9))
    (tAsg (tOp (rOwn c_Glue (toSp K ap_Glue___add__) E0) (tVar 10) (tVar 13)) (gName 10)))) tNext)
    (tDrop (tBM K "list" rAppend (tVar 11) (tCons (tOp (rAddG K) (tVar 9) (tCall (toSp K ap_extra_of) [] E0 (tCons (tVar 7) (tCons (tVar 6) (tCons (tVar 10) (tCons (tVar 8) (tCons (tVar 3) tNil))))))) tNil)))))
    (tRet (tVar 11))))))))))
def t_gap_spans (K : PySem.W.Frag) (ap_box_places : AP) : TS :=
    (tSeq (tAsg (tVar 0) (gTup K 2 (gCons (gName 4) (gCons (gName 5) gNil))))
    (tSeq (tAsg (tCall (toSp K ap_box_places) [] E0 (tCons (tVar 0) (tCons (tVar 1) (tCons (tVar 2) (tCons (tVar 3) tNil))))) (gName 6))
    (tSeq (tAsg (tLst tNil) (gName 7))
    (tSeq (tFor (iRng2 (tCons (tVar 1) (tCons (tOp rSubI (tVar 2) (tC (.int 1))) tNil))) (gName 8) (tIfS (tTest (tOp (rEqG K) (tOp (rIx K) (tOp (rIx K) (tVar 5) (tVar 8)) (tC (.int 0))) (tC (.str "gap")))) (tSeq (tAsg (tOp (rAddG K) (tOp (rIx K) (tVar 6) (tOp rSubI (tVar 8) (tVar 1))) (tOp (rIx K) (tVar 4) (tVar 8))) (gName 9))
    (tDrop (tBM K "list" rAppend (tVar 7) (tCons (tTup (tCons (tVar 9) (tCons (tOp (rIx K) (tVar 6) (tOp (rAddG K) (tOp rSubI (tVar 8) (tVar 1)) (tC (.int 1)))) tNil))) tNil)))) tNext))
    (tRet (tVar 7))))))
def t_count_overlapping (K : PySem.W.Frag) : TS :=
    (tSeq (tAsg (tC (.int 0)) (gName 2))
    (tSeq (tAsg (tC (.int 0)) (gName 3))
    (tSeq (tFor (iList K (tVar 1)) (gTup K 2 (gCons (gName 4) (gCons (gName 5) gNil))) (tSeq (tWhile (tAnd (tTest (tOp (rLtG K) (tVar 3) (tCB (rLenV K) (tCons (tVar 0) tNil)))) (tTest (tOp rLeI (tOp (rIx K) (tOp (rIx K) (tVar 0) (tVar 3)) (tC (.int 1))) (tVar 4)))) (tAsg (tOp (rAddG K) (tVar 3) (tC (.int 1))) (gName 3)))
    (tIfS (tAnd (tTest (tOp (rLtG K) (tVar 3) (tCB (rLenV K) (tCons (tVar 0) tNil)))) (tTest (tOp (rLtG K) (tOp (rIx K) (tOp (rIx K) (tVar 0) (tVar 3)) (tC (.int 0))) (tVar 5)))) (tAsg (tOp (rAddG K) (tVar 2) (tC (.int 1))) (gName 2)) tNext)))
    (tRet (tVar 2)))))
def t_price_with_count (K : PySem.W.Frag) (ap_ends_at_hyphen : AP) : TS :=
    (tSeq (tIfS (tAnd (tTest (tOp rGtI (tFld K (tVar 3) "river") (tC (.int 0)))) (tTest (tOp rGeI (tVar 4) (tFld K (tVar 3) "river")))) (tRet (tC .non)) tNext)
    (tSeq (tIfS (tAnd (tB (tCall (toSp K ap_ends_at_hyphen) [] E0 (tCons (tVar 0) (tCons (tVar 1) tNil)))) (tB (tCall (toSp K ap_ends_at_hyphen) [] E0 (tCons (tVar 0) (tCons (tVar 2) tNil))))) (tRet (tFld K (tVar 3) "twin")) tNext)
    (tRet (tC (.int 0)))))
def t_lines_from (K : PySem.W.Frag) (c_Glue : Addr) (ap_room_of : AP) (ai_Glue : AI) (ap_price_with_glue : AP) (ap_finished_glue : AP) (ap_extended_glue : AP) : TS :=
    (tSeq (tAsg (tOp (rIx K) (tVar 0) (tC (.int 0))) (gName 3))
    (tSeq (tAsg (tCall (toSp K ap_room_of) [] E0 (tCons (tVar 1) (tCons (tVar 2) tNil))) (gName 4))
    (tSeq (tAsg (tMake c_Glue (toSpI K c_Glue ai_Glue) [] E0 (tCons (tOp (rIx K) (tVar 3) (tVar 1)) (tCons (tC (.int 0)) (tCons (tC (.int 0)) tNil)))) (gName 5))
    (tSeq (tAsg (tLst tNil) (gName 6))
    (tSeq (tFor (iRng2 (tCons (tOp (rAddG K) (tVar 1) (tC (.int 1))) (tCons (tOp (rAddG K) (tCB (rLenV K) (tCons (tVar 3) tNil)) (tC (.int 1))) tNil))) (gName 7) (tSeq (tAsg (tCall (toSp K ap_price_with_glue) [] E0 (tCons (tVar 0) (tCons (tVar 7) (tCons (tCall (toSp K ap_finished_glue) [] E0 (tCons (tVar 0) (tCons (tVar 5) (tCons (tVar 7) tNil)))) (tCons (tVar 4) (tCons (tVar 2) tNil)))))) (gName 8))
    (tSeq (tIfS (tB (tNotN (tVar 8))) (tDrop (tBM K "list" rAppend (tVar 6) (tCons (tTup (tCons (tVar 7) (tCons (tVar 8) tNil))) tNil))) tNext)
    (tSeq (tIfS (tOr (tTest (tOp (rEqG K) (tVar 7) (tCB (rLenV K) (tCons (tVar 3) tNil)))) (tTest (tOp rGtI (tOp rSubI (tFld K (tVar 5) "width") (tFld K (tVar 5) "shrink")) (tVar 4)))) tBreak tNext)
    (tAsg (tCall (toSp K ap_extended_glue) [] E0 (tCons (tVar 0) (tCons (tVar 5) (tCons (tVar 7) tNil)))) (gName 5))))))
    (tRet (tVar 6)))))))
def t_LineTable___init__ (K : PySem.W.Frag) (w : World) (ap_lines_from : AP) (ap_gap_spans : AP) : TS :=
    (tSeq (sFld K (tVar 0) (tVar 1) "row")
    (tSeq (sFld K (tVar 0) (tVar 2) "fitting")
    (tSeq (sFld K (tVar 0) (tCB (rLenV K) (tCons (tOp (rIx K) (tVar 1) (tC (.int 0))) tNil)) "boxes")
    (tSeq (sFld K (tVar 0) (tOp rGtI (tFld K (tVar 2) "river") (tC (.int 0))) "rivers")
    (tSeq (sFld K (tVar 0) (tOp (rAddG K) (tLc (iRng1 (tCons (tFld K (tVar 0) "boxes") tNil)) (gName 6) tYes (tCall (toSp K ap_lines_from) [] E0 (tCons (tVar 1) (tCons (tVar 6) (tCons (tVar 2) tNil)))) [6]) (tLst (tCons (tLst tNil) tNil))) "ends_from")
    (tSeq (sFld K (tVar 0) (tLc (iRng1 (tCons (tOp (rAddG K) (tFld K (tVar 0) "boxes") (tC (.int 1))) tNil)) (gName 6) tYes (tLst tNil) [6]) "starts_to")
    (tSeq (sFld K (tVar 0) (tNNew w) "gaps")
    (tFor (iRng1 (tCons (tFld K (tVar 0) "boxes") tNil)) (gName 3) (tFor (iList K (tOp (rIx K) (tFld K (tVar 0) "ends_from") (tVar 3))) (gTup K 2 (gCons (gName 4) (gCons (gName 5) gNil))) (tSeq (tDrop (tBM K "list" rAppend (tOp (rIx K) (tFld K (tVar 0) "starts_to") (tVar 4)) (tCons (tVar 3) tNil)))
    (tIfS (tB (tFld K (tVar 0) "rivers")) (sNPut K w (tFld K (tVar 0) "gaps") (tTup (tCons (tVar 3) (tCons (tVar 4) tNil))) (tCall (toSp K ap_gap_spans) [] E0 (tCons (tVar 1) (tCons (tVar 3) (tCons (tVar 4) (tCons (tVar 2) tNil)))))) tNext)))))))))))
def t_LineTable_pair (K : PySem.W.Frag) (w : World) (ap_count_overlapping : AP) (ap_price_with_count : AP) : TS :=
    (tSeq (tIfS (tB (tIsN (tVar 1))) (tRet (tC (.int 0))) tNext)
    (tSeq (tAsg (tC (.int 0)) (gName 4))
    (tSeq (tIfS (tB (tFld K (tVar 0) "rivers")) (tAsg (tCall (toSp K ap_count_overlapping) [] E0 (tCons (tNGet K w (tFld K (tVar 0) "gaps") (tTup (tCons (tVar 1) (tCons (tVar 2) tNil)))) (tCons (tNGet K w (tFld K (tVar 0) "gaps") (tTup (tCons (tVar 2) (tCons (tVar 3) tNil)))) tNil))) (gName 4)) tNext)
    (tRet (tCall (toSp K ap_price_with_count) [] E0 (tCons (tFld K (tVar 0) "row") (tCons (tVar 2) (tCons (tVar 3) (tCons (tFld K (tVar 0) "fitting") (tCons (tVar 4) tNil))))))))))
def t_farthest_ends (K : PySem.W.Frag) (w : World) (c_LineTable : Addr) (ap_LineTable_pair : AP) : TS :=
    (tSeq (tAsg (tNNew w) (gName 1))
    (tSeq (tFor (iRng3 (tCons (tFld K (tVar 0) "boxes") (tCons (tC (.int 0)) (tCons (tUn rNegI (tC (.int 1))) tNil)))) (gName 2) (tSeq (tAsg (tC .non) (gName 3))
    (tFor (iList K (tOp (rIx K) (tFld K (tVar 0) "starts_to") (tVar 2))) (gName 4) (tSeq (tIfS (tOr (tB (tIsN (tVar 3))) (tB (tFld K (tVar 0) "rivers"))) (tSeq (tAsg (tVar 2) (gName 3))
    (tFor (iList K (tOp (rIx K) (tFld K (tVar 0) "ends_from") (tVar 2))) (gTup K 2 (gCons (gName 5) (gCons (gName 6) gNil))) (tIfS (tAnd (tTest (tOp rGtI (tNGet K w (tVar 1) (tTup (tCons (tVar 2) (tCons (tVar 5) tNil)))) (tVar 3))) (tB (tNotN (tMeth c_LineTable "pair" (toSp K ap_LineTable_pair) [] E0 (tVar 0) (tCons (tVar 4) (tCons (tVar 2) (tCons (tVar 5) tNil))))))) (tAsg (tNGet K w (tVar 1) (tTup (tCons (tVar 2) (tCons (tVar 5) tNil)))) (gName 3)) tNext))) tNext)
    (sNPut K w (tVar 1) (tTup (tCons (tVar 4) (tCons (tVar 2) tNil))) (tVar 3))))))
    (tRet (tVar 1))))
def t_stretch_of (K : PySem.W.Frag) (w : World) (ap_farthest_ends : AP) : TS :=
    (tSeq (tAsg (tCall (toSp K ap_farthest_ends) [] E0 (tCons (tVar 0) tNil)) (gName 1))
    (tSeq (tAsg (tC (.int 0)) (gName 2))
    (tSeq (tAsg (tC .non) (gName 3))
    (tSeq (tFor (iRng1 (tCons (tFld K (tVar 0) "boxes") tNil)) (gName 4) (tSeq (tAsg (tCB (rMax K) (tCons (tOp (rAddG K) (tLst (tCons (tVar 2) (tCons (tVar 4) tNil))) (tLc (iList K (tOp (rIx K) (tFld K (tVar 0) "ends_from") (tVar 4))) (gTup K 2 (gCons (gName 6) (gCons (gName 7) gNil))) tYes (tNGet K w (tVar 1) (tTup (tCons (tVar 4) (tCons (tVar 6) tNil)))) [6, 7])) tNil)) (gName 2))
    (tSeq (tAsg (tOp rSubI (tOp (rAddG K) (tVar 2) (tC (.int 1))) (tVar 4)) (gName 5))
    (tIfS (tAnd (tTest (tOp (rLtG K) (tVar 2) (tFld K (tVar 0) "boxes"))) (tOr (tB (tIsN (tVar 3))) (tTest (tOp (rLtG K) (tVar 5) (tOp rSubI (tOp (rIx K) (tVar 3) (tC (.int 1))) (tOp (rIx K) (tVar 3) (tC (.int 0)))))))) (tAsg (tTup (tCons (tVar 4) (tCons (tOp (rAddG K) (tVar 2) (tC (.int 1))) tNil))) (gName 3)) tNext))))
    (tRet (tVar 3))))))
def t_continuations (K : PySem.W.Frag) (w : World) (c_LineTable : Addr) (ap_LineTable_pair : AP) : TS :=
    (tSeq (tAsg (tLst tNil) (gName 4))
    (tSeq (tFor (iList K (tOp (rIx K) (tFld K (tVar 0) "ends_from") (tVar 3))) (gTup K 2 (gCons (gName 5) (gCons (gName 6) gNil))) (tIfS (tB (tNIn K w (tTup (tCons (tVar 3) (tCons (tVar 5) tNil))) (tVar 1))) (tSeq (tAsg (tMeth c_LineTable "pair" (toSp K ap_LineTable_pair) [] E0 (tVar 0) (tCons (tVar 2) (tCons (tVar 3) (tCons (tVar 5) tNil)))) (gName 7))
    (tIfS (tB (tNotN (tVar 7))) (tSeq (tAsg (tNGet K w (tVar 1) (tTup (tCons (tVar 3) (tCons (tVar 5) tNil)))) (gTup K 3 (gCons (gName 8) (gCons (gName 9) (gCons (gName 10) gNil)))))
    (tDrop (tBM K "list" rAppend (tVar 4) (tCons (tTup (tCons (tOp (rAddG K) (tOp (rAddG K) (tVar 7) (tVar 6)) (tVar 8)) (tCons (tOp (rAddG K) (tVar 9) (tC (.int 1))) (tCons (tVar 5) tNil)))) tNil)))) tNext)) tNext))
    (tRet (tVar 4))))
def t_best_continuations (K : PySem.W.Frag) (w : World) (ap_continuations : AP) : TS :=
    (tSeq (tAsg (tNNew w) (gName 1))
    (tSeq (tFor (iList K (tOp (rIx K) (tFld K (tVar 0) "starts_to") (tFld K (tVar 0) "boxes"))) (gName 2) (sNPut K w (tVar 1) (tTup (tCons (tVar 2) (tCons (tFld K (tVar 0) "boxes") tNil))) (tTup (tCons (tC (.int 0)) (tCons (tC (.int 0)) (tCons (tC .non) tNil))))))
    (tSeq (tFor (iRng3 (tCons (tOp rSubI (tFld K (tVar 0) "boxes") (tC (.int 1))) (tCons (tC (.int 0)) (tCons (tUn rNegI (tC (.int 1))) tNil)))) (gName 3) (tSeq (tAsg (tC .non) (gName 4))
    (tFor (iList K (tOp (rIx K) (tFld K (tVar 0) "starts_to") (tVar 3))) (gName 2) (tSeq (tIfS (tOr (tB (tIsN (tVar 4))) (tB (tFld K (tVar 0) "rivers"))) (tAsg (tCall (toSp K ap_continuations) [] E0 (tCons (tVar 0) (tCons (tVar 1) (tCons (tVar 2) (tCons (tVar 3) tNil))))) (gName 4)) tNext)
    (tIfS (tTest (tOp rGtI (tCB (rLenV K) (tCons (tVar 4) tNil)) (tC (.int 0)))) (sNPut K w (tVar 1) (tTup (tCons (tVar 2) (tCons (tVar 3) tNil))) (tCB (rMinD K) (tCons (tVar 4) tNil))) tNext)))))
    (tRet (tVar 1)))))
def t_break_lines (K : PySem.W.Frag) (w : World) (c_LineTable : Addr) (c_Blocked : Addr) (ai_LineTable : AI) (ap_best_continuations : AP) (ap_continuations : AP) (ap_stretch_of : AP) (W : WX) : TS :=
    (tSeq (tAsg (tMake c_LineTable (toSpI K c_LineTable ai_LineTable) [] E0 (tCons (tVar 0) (tCons (tVar 1) tNil))) (gName 2))
    (tSeq (tIfS (tTest (tOp (rEqG K) (tFld K (tVar 2) "boxes") (tC (.int 0)))) (tRet (tTup (tCons (tC (.int 0)) (tCons (tTup tNil) tNil)))) tNext)
    (tSeq (tAsg (tCall (toSp K ap_best_continuations) [] E0 (tCons (tVar 2) tNil)) (gName 3))
    (tSeq (tAsg (tCall (toSp K ap_continuations) [] E0 (tCons (tVar 2) (tCons (tVar 3) (tCons (tC .non) (tCons (tC (.int 0)) tNil))))) (gName 4))
    (tSeq (tIfS (tTest (tOp (rEqG K) (tCB (rLenV K) (tCons (tVar 4) tNil)) (tC (.int 0)))) (tSeq (tAsg (tCall (toSp K ap_stretch_of) [] E0 (tCons (tVar 2) tNil)) (gTup K 2 (gCons (gName 5) (gCons (gName 6) gNil))))
    (tRaiseO W c_Blocked (spE2 c_Blocked "start" "end") (tCons (tVar 5) (tCons (tVar 6) tNil)))) tNext)
    (tSeq (tAsg (tCB (rMinD K) (tCons (tVar 4) tNil)) (gTup K 3 (gCons (gName 7) (gCons (gName 8) (gCons (gName 6) gNil)))))
    (tSeq (tAsg (tC (.int 0)) (gName 5))
    (tSeq (tAsg (tLst (tCons (tVar 6) tNil)) (gName 9))
    (tSeq (tWhile (tTest (tOp (rLtG K) (tVar 6) (tFld K (tVar 2) "boxes"))) (tSeq (tPar 5 6 (tCons (tVar 6) (tCons (tOp (rIx K) (tNGet K w (tVar 3) (tTup (tCons (tVar 5) (tCons (tVar 6) tNil)))) (tC (.int 2))) tNil)))
    (tDrop (tBM K "list" rAppend (tVar 9) (tCons (tVar 6) tNil)))))
    (tRet (tTup (tCons (tVar 7) (tCons (tCB (rTupleOf K) (tCons (tVar 9) tNil)) tNil)))))))))))))
def t_prefixes_to (K : PySem.W.Frag) (w : World) : TS :=
    (tSeq (tIfS (tTest (tOp (rEqG K) (tVar 2) (tC (.int 0)))) (tRet (tLst (tCons (tTup (tCons (tC (.int 0)) (tCons (tC (.int 0)) (tCons (tTup tNil) (tCons (tC .non) tNil))))) tNil))) tNext)
    (tSeq (tAsg (tLc (iList K (tOp (rIx K) (tFld K (tVar 0) "starts_to") (tVar 2))) (gName 4) (tB (tNIn K w (tTup (tCons (tVar 4) (tCons (tVar 2) tNil))) (tVar 1))) (tOp (rAddG K) (tNGet K w (tVar 1) (tTup (tCons (tVar 4) (tCons (tVar 2) tNil)))) (tTup (tCons (tVar 4) tNil))) [4]) (gName 3))
    (tSeq (tIfS (tAnd (tTest (tOp rGtI (tCB (rLenV K) (tCons (tVar 3) tNil)) (tC (.int 0)))) (tNot (tB (tFld K (tVar 0) "rivers")))) (tRet (tLst (tCons (tCB (rMinD K) (tCons (tVar 3) tNil)) tNil))) tNext)
    (tRet (tVar 3)))))
def t_best_prefixes (K : PySem.W.Frag) (w : World) (c_LineTable : Addr) (ap_prefixes_to : AP) (ap_LineTable_pair : AP) : TS :=
    (tSeq (tAsg (tNNew w) (gName 1))
    (tSeq (tFor (iRng1 (tCons (tFld K (tVar 0) "boxes") tNil)) (gName 2) (tSeq (tAsg (tCall (toSp K ap_prefixes_to) [] E0 (tCons (tVar 0) (tCons (tVar 1) (tCons (tVar 2) tNil)))) (gName 3))
    (tFor (iList K (tOp (rIx K) (tFld K (tVar 0) "ends_from") (tVar 2))) (gTup K 2 (gCons (gName 4) (gCons (gName 5) gNil))) (tSeq (tAsg (tLst tNil) (gName 6))
    (tSeq (tFor (iList K (tVar 3)) (gTup K 4 (gCons (gName 7) (gCons (gName 8) (gCons (gName 9) (gCons (gName 10) gNil))))) (tSeq (tAsg (tMeth c_LineTable "pair" (toSp K ap_LineTable_pair) [] E0 (tVar 0) (tCons (tVar 10) (tCons (tVar 2) (tCons (tVar 4) tNil)))) (gName 11))
    (tIfS (tB (tNotN (tVar 11))) (tDrop (tBM K "list" rAppend (tVar 6) (tCons (tTup (tCons (tOp (rAddG K) (tOp (rAddG K) (tVar 7) (tVar 11)) (tVar 5)) (tCons (tOp (rAddG K) (tVar 8) (tC (.int 1))) (tCons (tOp (rAddG K) (tVar 9) (tTup (tCons (tVar 4) tNil))) tNil)))) tNil))) tNext)))
    (tIfS (tTest (tOp rGtI (tCB (rLenV K) (tCons (tVar 6) tNil)) (tC (.int 0)))) (sNPut K w (tVar 1) (tTup (tCons (tVar 2) (tCons (tVar 4) tNil))) (tCB (rMinD K) (tCons (tVar 6) tNil))) tNext))))))
    (tRet (tVar 1))))
def t_line_certificate (K : PySem.W.Frag) (w : World) (c_LineTable : Addr) (ai_LineTable : AI) (ap_best_prefixes : AP) (ap_best_continuations : AP) : TS :=
    (tSeq (tAsg (tMake c_LineTable (toSpI K c_LineTable ai_LineTable) [] E0 (tCons (tVar 0) (tCons (tVar 1) tNil))) (gName 2))
    (tSeq (tAsg (tCall (toSp K ap_best_prefixes) [] E0 (tCons (tVar 2) tNil)) (gName 3))
    (tSeq (tAsg (tCall (toSp K ap_best_continuations) [] E0 (tCons (tVar 2) tNil)) (gName 4))
    (tSeq (tAsg (tLst tNil) (gName 5))
    (tSeq (tFor (iRng1 (tCons (tFld K (tVar 2) "boxes") tNil)) (gName 6) (tFor (iList K (tOp (rIx K) (tFld K (tVar 2) "ends_from") (tVar 6))) (gTup K 2 (gCons (gName 7) (gCons (gName 8) gNil))) (tIfS (tB (tNIn K w (tTup (tCons (tVar 6) (tCons (tVar 7) tNil))) (tVar 3))) (tSeq (tAsg (tIf (tB (tNIn K w (tTup (tCons (tVar 6) (tCons (tVar 7) tNil))) (tVar 4))) (tOp (rIx K) (tNGet K w (tVar 4) (tTup (tCons (tVar 6) (tCons (tVar 7) tNil)))) (tC (.int 0))) (tC .non)) (gName 9))
    (tDrop (tBM K "list" rAppend (tVar 5) (tCons (tTup (tCons (tVar 6) (tCons (tVar 7) (tCons (tVar 8) (tCons (tVar 9) tNil))))) tNil)))) tNext)))
    (tRet (tVar 5)))))))
def t_Measure___init__ (K : PySem.W.Frag) : TS :=
    (tSeq (sFld K (tVar 0) (tVar 1) "width")
    (tSeq (sFld K (tVar 0) (tVar 2) "indent")
    (tSeq (sFld K (tVar 0) (tVar 3) "align")
    (tSeq (sFld K (tVar 0) (tVar 4) "hyphen")
    (tSeq (sFld K (tVar 0) (tVar 5) "twin")
    (tSeq (sFld K (tVar 0) (tVar 6) "river")
    (sFld K (tVar 0) (tVar 7) "loose")))))))
def t_Measure_of (K : PySem.W.Frag) (c_Measure : Addr) (ai_Measure : AI) : TS :=
    (tSeq (tAsg (tVar 0) (gTup K 7 (gCons (gName 1) (gCons (gName 2) (gCons (gName 3) (gCons (gName 4) (gCons (gName 5) (gCons (gName 6) (gCons (gName 7) gNil)))))))))
    (tRet (tMakeK c_Measure 1 6 (toSpI K c_Measure ai_Measure) (fun (vs zs : List V) => pick (0 :: upO ([0, 1, 2, 3, 4, 5, 6] : List Nat)) (vs ++ ([] : List V) ++ zs)) E0 (tCons (tVar 1) tNil) (tCons (tVar 2) (tCons (tVar 3) (tCons (tVar 4) (tCons (tVar 5) (tCons (tVar 6) (tCons (tVar 7) tNil)))))))))
def t__law_pool (K : PySem.W.Frag) : TS :=
    (tSeq (tAsg (tC (.int 0)) (gName 2))
    (tSeq (tIfS (tTest (tOp (rLtG K) (tVar 1) (tCB (rLenV K) (tCons (tVar 0) tNil)))) (tAsg (tCB rAbs (tCons (tCB rInt1 (tCons (tOp (rIx K) (tVar 0) (tVar 1)) tNil)) tNil)) (gName 2)) tNext)
    (tRet (tLst (tCons (tVar 2) (tCons (tC (.int 0)) (tCons (tCB rInt1 (tCons (tOp rGeI (tVar 2) (tOp rPowI (tC (.int 10)) (tC (.int 18)))) tNil)) (tCons (tOp rModI (tCB rInt1 (tCons (tOp (rAddG K) (tVar 2) (tOp (rMulG K) (tVar 1) (tC (.int 7919)))) tNil)) (tC (.int 2147483647))) (tCons (tC (.int 3)) tNil)))))))))
def t__law_take (K : PySem.W.Frag) : TS :=
    (tSeq (tAsg (tOp (rAddG K) (tOp (rIx K) (tVar 0) (tC (.int 1))) (tC (.int 1))) (gSub (tVar 0) (tC (.int 1)) rSetL))
    (tSeq (tIfS (tTest (tOp (rEqG K) (tOp (rIx K) (tVar 0) (tC (.int 2))) (tC (.int 1)))) (tSeq (tAsg (tOp rModI (tCB rInt1 (tCons (tOp (rIx K) (tVar 0) (tC (.int 0))) tNil)) (tVar 1)) (gName 2))
    (tSeq (tAsg (tOp rDivI (tOp (rIx K) (tVar 0) (tC (.int 0))) (tVar 1)) (gSub (tVar 0) (tC (.int 0)) rSetL))
    (tRet (tVar 2)))) tNext)
    (tSeq (tAsg (tOp rModI (tCB rInt1 (tCons (tOp (rAddG K) (tOp (rAddG K) (tOp (rMulG K) (tOp (rIx K) (tVar 0) (tC (.int 3))) (tC (.int 48271))) (tOp (rMulG K) (tOp (rIx K) (tVar 0) (tC (.int 1))) (tC (.int 69621)))) (tC (.int 11))) tNil)) (tC (.int 2147483647))) (gName 3))
    (tSeq (tAsg (tOp rModI (tCB rInt1 (tCons (tOp (rAddG K) (tOp (rAddG K) (tOp (rMulG K) (tVar 3) (tC (.int 16807))) (tOp rDivI (tVar 3) (tC (.int 65536)))) (tOp (rMulG K) (tOp (rMulG K) (tOp (rIx K) (tVar 0) (tC (.int 1))) (tOp (rIx K) (tVar 0) (tC (.int 1)))) (tC (.int 40692)))) tNil)) (tC (.int 2147483399))) (gName 4))
    (tRet (tOp rModI (tCB rInt1 (tCons (tOp rDivI (tVar 4) (tOp (rAddG K) (tOp (rIx K) (tVar 0) (tC (.int 1))) (tC (.int 6)))) tNil)) (tVar 1)))))))
def t__law_same (K : PySem.W.Frag) (ap__law_same : AP) : TS :=
    (tSeq (tIfS (tOr (tB (tCB (rIsi K) (tCons (tVar 0) (tCons (tC (.ty "bool")) tNil)))) (tB (tCB (rIsi K) (tCons (tVar 1) (tCons (tC (.ty "bool")) tNil))))) (tRet (tAndV (tCB (rIsi K) (tCons (tVar 0) (tCons (tC (.ty "bool")) tNil))) (tAndV (tCB (rIsi K) (tCons (tVar 1) (tCons (tC (.ty "bool")) tNil))) (tOp (rEqG K) (tVar 0) (tVar 1))))) tNext)
    (tSeq (tIfS (tAnd (tB (tCB (rIsi K) (tCons (tVar 0) (tCons (tC (.ty "int")) tNil)))) (tB (tCB (rIsi K) (tCons (tVar 1) (tCons (tC (.ty "int")) tNil))))) (tRet (tOp (rEqG K) (tVar 0) (tVar 1))) tNext)
    (tSeq (tIfS (tAnd (tB (tCB (rIsi K) (tCons (tVar 0) (tCons (tC (.ty "str")) tNil)))) (tB (tCB (rIsi K) (tCons (tVar 1) (tCons (tC (.ty "str")) tNil))))) (tRet (tOp (rEqG K) (tVar 0) (tVar 1))) tNext)
    (tSeq (tAsg (tAndV (tCB (rIsi K) (tCons (tVar 0) (tCons (tC (.ty "tuple")) tNil))) (tCB (rIsi K) (tCons (tVar 1) (tCons (tC (.ty "tuple")) tNil)))) (gName 2))
    (tSeq (tIfS (tOr (tB (tVar 2)) (tAnd (tB (tCB (rIsi K) (tCons (tVar 0) (tCons (tC (.ty "list")) tNil)))) (tB (tCB (rIsi K) (tCons (tVar 1) (tCons (tC (.ty "list")) tNil)))))) (tSeq (tIfS (tTest (tOp (rNeG K) (tCB (rLenV K) (tCons (tVar 0) tNil)) (tCB (rLenV K) (tCons (tVar 1) tNil)))) (tRet (tC (.bl false))) tNext)
    (tSeq (tFor (iRng1 (tCons (tCB (rLenV K) (tCons (tVar 0) tNil)) tNil)) (gName 3) (tIfS (tNot (tB (tCall (toSp K ap__law_same) [] E0 (tCons (tOp (rIx K) (tVar 0) (tVar 3)) (tCons (tOp (rIx K) (tVar 1) (tVar 3)) tNil))))) (tRet (tC (.bl false))) tNext))
    (tRet (tC (.bl true))))) tNext)
    (tRet (tAndV (tIsN (tVar 0)) (tIsN (tVar 1)))))))))
def t__law_joint (K : PySem.W.Frag) (ap__law_take : AP) : TS :=
    (tSeq (tIfS (tTest (tOp (rEqG K) (tCall (toSp K ap__law_take) [] E0 (tCons (tVar 0) (tCons (tC (.int 3)) tNil))) (tC (.int 0)))) (tSeq (tAsg (tOp (rAddG K) (tC (.int 1)) (tCall (toSp K ap__law_take) [] E0 (tCons (tVar 0) (tCons (tOp (rIx K) (tLst (tCons (tC (.int 9)) (tCons (tC (.int 500)) tNil))) (tVar 2)) tNil)))) (gName 3))
    (tRet (tTup (tCons (tC (.str "hyphen")) (tCons (tVar 3) (tCons (tCall (toSp K ap__law_take) [] E0 (tCons (tVar 0) (tCons (tVar 1) tNil))) tNil)))))) tNext)
    (tSeq (tAsg (tOp (rAddG K) (tC (.int 1)) (tCall (toSp K ap__law_take) [] E0 (tCons (tVar 0) (tCons (tOp (rIx K) (tLst (tCons (tC (.int 12)) (tCons (tC (.int 500)) tNil))) (tVar 2)) tNil)))) (gName 4))
    (tSeq (tAsg (tCall (toSp K ap__law_take) [] E0 (tCons (tVar 0) (tCons (tOp (rIx K) (tLst (tCons (tC (.int 12)) (tCons (tC (.int 501)) tNil))) (tVar 2)) tNil))) (gName 3))
    (tRet (tTup (tCons (tC (.str "gap")) (tCons (tVar 4) (tCons (tVar 3) (tCons (tCall (toSp K ap__law_take) [] E0 (tCons (tVar 0) (tCons (tVar 4) tNil))) tNil)))))))))
def t__law_bare (K : PySem.W.Frag) (ap__law_take : AP) (ap__law_joint : AP) : TS :=
    (tSeq (tAsg (tCB rMx2 (tCons (tCB rInt1 (tCons (tVar 1) tNil)) (tCons (tCall (toSp K ap__law_take) [] E0 (tCons (tVar 0) (tCons (tC (.int 9)) tNil))) tNil))) (gName 3))
    (tSeq (tIfS (tTest (tOp (rEqG K) (tCall (toSp K ap__law_take) [] E0 (tCons (tVar 0) (tCons (tVar 2) tNil))) (tOp rSubI (tVar 2) (tC (.int 1))))) (tAsg (tCB rMx2 (tCons (tCB rInt1 (tCons (tVar 1) tNil)) (tCons (tCall (toSp K ap__law_take) [] E0 (tCons (tVar 0) (tCons (tC (.int 41)) tNil))) tNil))) (gName 3)) tNext)
    (tSeq (tAsg (tCB rInt1 (tCons (tOp (rEqG K) (tCall (toSp K ap__law_take) [] E0 (tCons (tVar 0) (tCons (tC (.int 8)) tNil))) (tC (.int 7))) tNil)) (gName 4))
    (tSeq (tAsg (tOp (rIx K) (tLst (tCons (tC (.int 0)) (tCons (tC (.int 0)) (tCons (tC (.int 1)) (tCons (tC (.int 2)) tNil))))) (tCall (toSp K ap__law_take) [] E0 (tCons (tVar 0) (tCons (tC (.int 4)) tNil)))) (gName 5))
    (tSeq (tAsg (tLst tNil) (gName 6))
    (tSeq (tFor (iRng1 (tCons (tVar 3) tNil)) (gName 7) (tIfS (tTest (tChain rLtI rLeI (tC (.int 0)) (tVar 5) (tVar 7))) (tDrop (tBM K "list" rAppend (tVar 6) (tCons (tOp (rIx K) (tVar 6) (tOp rSubI (tVar 7) (tVar 5))) tNil))) (tDrop (tBM K "list" rAppend (tVar 6) (tCons (tOp (rAddG K) (tC (.int 1)) (tCall (toSp K ap__law_take) [] E0 (tCons (tVar 0) (tCons (tOp (rIx K) (tLst (tCons (tC (.int 40)) (tCons (tC (.int 5000)) tNil))) (tVar 4)) tNil)))) tNil)))))
    (tSeq (tAsg (tLst tNil) (gName 8))
    (tSeq (tFor (iRng1 (tCons (tOp rSubI (tVar 3) (tC (.int 1))) tNil)) (gName 7) (tIfS (tTest (tChain rLtI rLeI (tC (.int 0)) (tVar 5) (tVar 7))) (tDrop (tBM K "list" rAppend (tVar 8) (tCons (tOp (rIx K) (tVar 8) (tOp rSubI (tVar 7) (tVar 5))) tNil))) (tSeq (tAsg (tCB rMn2 (tCons (tCB rInt1 (tCons (tOp (rIx K) (tVar 6) (tVar 7)) tNil)) (tCons (tCB rInt1 (tCons (tOp (rIx K) (tVar 6) (tOp (rAddG K) (tVar 7) (tC (.int 1)))) tNil)) tNil))) (gName 9))
    (tDrop (tBM K "list" rAppend (tVar 8) (tCons (tCall (toSp K ap__law_joint) [] E0 (tCons (tVar 0) (tCons (tVar 9) (tCons (tVar 4) tNil)))) tNil))))))
    (tRet (tTup (tCons (tCB (rTupleOf K) (tCons (tVar 6) tNil)) (tCons (tCB (rTupleOf K) (tCons (tVar 8) tNil)) tNil))))))))))))
def t__law_glue (K : PySem.W.Frag) : TS :=
    (tSeq (tAsg (tCB (rSumG K) (tCons (tSl (rSlG K) (tOp (rIx K) (tVar 0) (tC (.int 0))) (tPart (tVar 1)) (tPart (tVar 2))) tNil)) (gName 3))
    (tSeq (tAsg (tC (.int 0)) (gName 4))
    (tSeq (tAsg (tC (.int 0)) (gName 5))
    (tSeq (tFor (iRng2 (tCons (tVar 1) (tCons (tOp rSubI (tVar 2) (tC (.int 1))) tNil))) (gName 6) (tSeq (tAsg (tOp (rIx K) (tOp (rIx K) (tVar 0) (tC (.int 1))) (tVar 6)) (gName 7))
    (tIfS (tTest (tOp (rEqG K) (tOp (rIx K) (tVar 7) (tC (.int 0))) (tC (.str "gap")))) (tSeq (tAsg (tOp (rAddG K) (tVar 3) (tOp (rIx K) (tVar 7) (tC (.int 1)))) (gName 3))
    (tSeq (tAsg (tOp (rAddG K) (tVar 4) (tOp (rIx K) (tVar 7) (tC (.int 2)))) (gName 4))
    (tAsg (tOp (rAddG K) (tVar 5) (tOp (rIx K) (tVar 7) (tC (.int 3)))) (gName 5)))) (tAsg (tOp rSubI (tVar 3) (tOp (rIx K) (tVar 7) (tC (.int 2)))) (gName 3)))))
    (tSeq (tIfS (tAnd (tTest (tOp (rLtG K) (tVar 2) (tCB (rLenV K) (tCons (tOp (rIx K) (tVar 0) (tC (.int 0))) tNil)))) (tTest (tOp (rEqG K) (tOp (rIx K) (tOp (rIx K) (tOp (rIx K) (tVar 0) (tC (.int 1))) (tOp rSubI (tVar 2) (tC (.int 1)))) (tC (.int 0))) (tC (.str "hyphen"))))) (tAsg (tOp (rAddG K) (tVar 3) (tOp (rIx K) (tOp (rIx K) (tOp (rIx K) (tVar 0) (tC (.int 1))) (tOp rSubI (tVar 2) (tC (.int 1)))) (tC (.int 1)))) (gName 3)) tNext)
    (tRet (tLst (tCons (tVar 3) (tCons (tVar 4) (tCons (tVar 5) tNil))))))))))
def t__law_line_key (K : PySem.W.Frag) (ap__law_take : AP) (ap__law_glue : AP) : TS :=
    (tSeq (tAsg (tLc (iTup K (tOp (rIx K) (tVar 1) (tC (.int 1)))) (gName 15) (tTest (tOp (rEqG K) (tOp (rIx K) (tVar 15) (tC (.int 0))) (tC (.str "gap")))) (tOp (rIx K) (tVar 15) (tC (.int 1))) [15]) (gName 2))
    (tSeq (tAsg (tOp (rAddG K) (tCB (rSumG K) (tCons (tOp (rIx K) (tVar 1) (tC (.int 0))) tNil)) (tCB (rSumG K) (tCons (tVar 2) tNil))) (gName 3))
    (tSeq (tAsg (tCall (toSp K ap__law_take) [] E0 (tCons (tVar 0) (tCons (tC (.int 8)) tNil))) (gName 4))
    (tSeq (tAsg (tOp (rAddG K) (tC (.int 5)) (tCall (toSp K ap__law_take) [] E0 (tCons (tVar 0) (tCons (tC (.int 150)) tNil)))) (gName 5))
    (tSeq (tIfS (tTest (tOp (rInG K) (tVar 4) (tLst (tCons (tC (.int 2)) (tCons (tC (.int 4)) (tCons (tC (.int 5)) (tCons (tC (.int 6)) tNil))))))) (tAsg (tOp (rAddG K) (tOp rDivI (tVar 3) (tVar 4)) (tCall (toSp K ap__law_take) [] E0 (tCons (tVar 0) (tCons (tC (.int 24)) tNil)))) (gName 5)) tNext)
    (tSeq (tIfS (tAnd (tTest (tOp (rInG K) (tVar 4) (tLst (tCons (tC (.int 1)) (tCons (tC (.int 3)) tNil))))) (tTest (tOp rGtI (tCB (rLenV K) (tCons (tOp (rIx K) (tVar 1) (tC (.int 0))) tNil)) (tC (.int 0))))) (tSeq (tAsg (tCall (toSp K ap__law_take) [] E0 (tCons (tVar 0) (tCons (tCB (rLenV K) (tCons (tOp (rIx K) (tVar 1) (tC (.int 0))) tNil)) tNil))) (gName 6))
    (tSeq (tAsg (tOp (rAddG K) (tOp (rAddG K) (tVar 6) (tC (.int 1))) (tCall (toSp K ap__law_take) [] E0 (tCons (tVar 0) (tCons (tOp rSubI (tCB (rLenV K) (tCons (tOp (rIx K) (tVar 1) (tC (.int 0))) tNil)) (tVar 6)) tNil)))) (gName 7))
    (tAsg (tOp (rIx K) (tCall (toSp K ap__law_glue) [] E0 (tCons (tVar 1) (tCons (tVar 6) (tCons (tVar 7) tNil)))) (tC (.int 0))) (gName 5)))) tNext)
    (tSeq (tIfS (tTest (tOp (rEqG K) (tVar 4) (tC (.int 7)))) (tAsg (tOp (rAddG K) (tC (.int 1)) (tCall (toSp K ap__law_take) [] E0 (tCons (tVar 0) (tCons (tC (.int 10500)) tNil)))) (gName 5)) tNext)
    (tSeq (tAsg (tOp (rIx K) (tLst (tCons (tC (.int 1)) (tCons (tC (.int 1)) (tCons (tC (.int 12)) (tCons (tC (.int 100)) tNil))))) (tCall (toSp K ap__law_take) [] E0 (tCons (tVar 0) (tCons (tC (.int 4)) tNil)))) (gName 8))
    (tSeq (tAsg (tCall (toSp K ap__law_take) [] E0 (tCons (tVar 0) (tCons (tVar 8) tNil))) (gName 9))
    (tSeq (tAsg (tOp (rIx K) (tLst (tCons (tC (.str "both")) (tCons (tC (.str "both")) (tCons (tC (.str "left")) tNil)))) (tCall (toSp K ap__law_take) [] E0 (tCons (tVar 0) (tCons (tC (.int 3)) tNil)))) (gName 10))
    (tSeq (tAsg (tOp (rMulG K) (tC (.int 25)) (tCall (toSp K ap__law_take) [] E0 (tCons (tVar 0) (tCons (tC (.int 4)) tNil)))) (gName 11))
    (tSeq (tAsg (tOp (rMulG K) (tC (.int 50)) (tCall (toSp K ap__law_take) [] E0 (tCons (tVar 0) (tCons (tC (.int 4)) tNil)))) (gName 12))
    (tSeq (tIfS (tTest (tOp (rEqG K) (tCall (toSp K ap__law_take) [] E0 (tCons (tVar 0) (tCons (tC (.int 8)) tNil))) (tC (.int 7)))) (tSeq (tAsg (tCall (toSp K ap__law_take) [] E0 (tCons (tVar 0) (tCons (tC (.int 10000)) tNil))) (gName 11))
    (tAsg (tCall (toSp K ap__law_take) [] E0 (tCons (tVar 0) (tCons (tC (.int 10000)) tNil))) (gName 12))) tNext)
    (tSeq (tAsg (tCall (toSp K ap__law_take) [] E0 (tCons (tVar 0) (tCons (tC (.int 4)) tNil))) (gName 13))
    (tSeq (tAsg (tCall (toSp K ap__law_take) [] E0 (tCons (tVar 0) (tCons (tC (.int 4)) tNil))) (gName 14))
    (tSeq (tIfS (tTest (tOp (rEqG K) (tCall (toSp K ap__law_take) [] E0 (tCons (tVar 0) (tCons (tC (.int 8)) tNil))) (tC (.int 7)))) (tSeq (tAsg (tCall (toSp K ap__law_take) [] E0 (tCons (tVar 0) (tCons (tC (.int 10)) tNil))) (gName 13))
    (tAsg (tCall (toSp K ap__law_take) [] E0 (tCons (tVar 0) (tCons (tC (.int 10)) tNil))) (gName 14))) tNext)
    (tSeq (tIfS (tAnd (tTest (tOp rGtI (tCB (rLenV K) (tCons (tOp (rIx K) (tVar 1) (tC (.int 0))) tNil)) (tC (.int 12)))) (tTest (tOp rGtI (tCall (toSp K ap__law_take) [] E0 (tCons (tVar 0) (tCons (tC (.int 8)) tNil))) (tC (.int 0))))) (tAsg (tC (.int 0)) (gName 13)) tNext)
    (tRet (tTup (tCons (tCB rMn2 (tCons (tC (.int 10500)) (tCons (tCB rMx2 (tCons (tC (.int 1)) (tCons (tVar 5) tNil))) tNil))) (tCons (tVar 9) (tCons (tVar 10) (tCons (tVar 11) (tCons (tVar 12) (tCons (tVar 13) (tCons (tVar 14) tNil))))))))))))))))))))))))))
def t__law_allowed (K : PySem.W.Frag) : TS :=
    (tSeq (tAsg (tOp rDivI (tC (.int 10500)) (tOp (rIx K) (tVar 1) (tC (.int 0)))) (gName 2))
    (tSeq (tIfS (tTest (tOp rGtI (tOp (rIx K) (tVar 1) (tC (.int 1))) (tC (.int 0)))) (tAsg (tCB rMn2 (tCons (tCB rInt1 (tCons (tVar 2) tNil)) (tCons (tOp rDivI (tC (.int 99)) (tOp (rIx K) (tVar 1) (tC (.int 1)))) tNil))) (gName 2)) tNext)
    (tSeq (tFor (iTup K (tOp (rIx K) (tVar 0) (tC (.int 0)))) (gName 3) (tAsg (tCB rMn2 (tCons (tCB rInt1 (tCons (tVar 2) tNil)) (tCons (tOp rDivI (tC (.int 5000)) (tVar 3)) tNil))) (gName 2)))
    (tSeq (tFor (iTup K (tOp (rIx K) (tVar 0) (tC (.int 1)))) (gName 4) (tSeq (tAsg (tCB rMn2 (tCons (tCB rInt1 (tCons (tVar 2) tNil)) (tCons (tOp rDivI (tC (.int 500)) (tOp (rIx K) (tVar 4) (tC (.int 1)))) tNil))) (gName 2))
    (tIfS (tAnd (tTest (tOp (rEqG K) (tOp (rIx K) (tVar 4) (tC (.int 0))) (tC (.str "gap")))) (tTest (tOp rGtI (tOp (rIx K) (tVar 4) (tC (.int 2))) (tC (.int 0))))) (tAsg (tCB rMn2 (tCons (tCB rInt1 (tCons (tVar 2) tNil)) (tCons (tOp rDivI (tC (.int 500)) (tOp (rIx K) (tVar 4) (tC (.int 2)))) tNil))) (gName 2)) tNext)))
    (tRet (tVar 2))))))
def t__law_times (K : PySem.W.Frag) : TS :=
    (tSeq (tAsg (tLst tNil) (gName 2))
    (tSeq (tFor (iTup K (tOp (rIx K) (tVar 0) (tC (.int 1)))) (gName 3) (tSeq (tAsg (tLc (iTup K (tSl (rSlG K) (tVar 3) (tPart (tC (.int 1))) tNoPart)) (gName 5) tYes (tOp (rMulG K) (tVar 1) (tVar 5)) [5]) (gName 4))
    (tDrop (tBM K "list" rAppend (tVar 2) (tCons (tOp (rAddG K) (tTup (tCons (tOp (rIx K) (tVar 3) (tC (.int 0))) tNil)) (tCB (rTupleOf K) (tCons (tVar 4) tNil))) tNil)))))
    (tRet (tTup (tCons (tCB (rTupleOf K) (tCons (tLc (iTup K (tOp (rIx K) (tVar 0) (tC (.int 0)))) (gName 6) tYes (tOp (rMulG K) (tVar 1) (tVar 6)) [6]) tNil)) (tCons (tCB (rTupleOf K) (tCons (tVar 2) tNil)) tNil))))))
def t__law_answer (K : PySem.W.Frag) (c_Blocked : Addr) (ap_break_lines : APX) : TS :=
    (tSeq (tAsg (tC .non) (gName 2))
    (tSeq (tAsg (tC .non) (gName 3))
    (tSeq (tTryAd K ["start", "end"] (.ref c_Blocked) 4 (fun W1 => (tAsg (tCallX K ap_break_lines W1 (tCons (tVar 0) (tCons (tVar 1) tNil))) (gName 2))) (fun a C d => (tAsg (tTup (tCons (tXf a (.ref C) d C "start" (tVar 4)) (tCons (tXf a (.ref C) d C "end" (tVar 4)) tNil))) (gName 3))) (fun _ _ _ _ => False))
    (tRet (tLst (tCons (tVar 2) (tCons (tVar 3) tNil)))))))
def t_law (K : PySem.W.Frag) (c_Measure : Addr) (ap__law_bare : AP) (ap__law_pool : AP) (ap__law_line_key : AP) (ap__law_allowed : AP) (ap__law_take : AP) (ap__law_times : AP) (ap_Measure_of : AP) (ap__law_answer : AP) (ap__law_same : AP) (ap_line_certificate : AP) : TS :=
    (tSeq (tAsg (tCall (toSp K ap__law_bare) [] E0 (tCons (tCall (toSp K ap__law_pool) [] E0 (tCons (tVar 0) (tCons (tC (.int 0)) tNil))) (tCons (tC (.int 0)) (tCons (tC (.int 8)) tNil)))) (gName 1))
    (tSeq (tAsg (tCall (toSp K ap__law_line_key) [] E0 (tCons (tCall (toSp K ap__law_pool) [] E0 (tCons (tVar 0) (tCons (tC (.int 1)) tNil))) (tCons (tVar 1) tNil))) (gName 2))
    (tSeq (tAsg (tOp (rAddG K) (tOp (rAddG K) (tTup (tCons (tOp (rIx K) (tVar 2) (tC (.int 0))) (tCons (tOp rModI (tCB rInt1 (tCons (tOp (rIx K) (tVar 2) (tC (.int 1))) tNil)) (tC (.int 50))) tNil))) (tSl (rSlG K) (tVar 2) (tPart (tC (.int 2))) (tPart (tC (.int 5))))) (tTup (tCons (tC (.int 0)) (tCons (tOp (rIx K) (tVar 2) (tC (.int 6))) tNil)))) (gName 2))
    (tSeq (tAsg (tCall (toSp K ap__law_allowed) [] E0 (tCons (tVar 1) (tCons (tVar 2) tNil))) (gName 3))
    (tSeq (tIfS (tTest (tOp (rLtG K) (tVar 3) (tC (.int 2)))) (tRet (tC (.bl true))) tNext)
    (tSeq (tAsg (tOp (rAddG K) (tC (.int 2)) (tCall (toSp K ap__law_take) [] E0 (tCons (tCall (toSp K ap__law_pool) [] E0 (tCons (tVar 0) (tCons (tC (.int 2)) tNil))) (tCons (tOp rSubI (tVar 3) (tC (.int 1))) tNil)))) (gName 4))
    (tSeq (tAsg (tCall (toSp K ap__law_times) [] E0 (tCons (tVar 1) (tCons (tVar 4) tNil))) (gName 5))
    (tSeq (tAsg (tOp (rAddG K) (tTup (tCons (tOp (rMulG K) (tVar 4) (tOp (rIx K) (tVar 2) (tC (.int 0)))) (tCons (tOp (rMulG K) (tVar 4) (tOp (rIx K) (tVar 2) (tC (.int 1)))) tNil))) (tSl (rSlG K) (tVar 2) (tPart (tC (.int 2))) tNoPart)) (gName 6))
    (tSeq (tAsg (tSMeth c_Measure (toSp K ap_Measure_of) E0 (tC (.ref c_Measure)) (tCons (tVar 2) tNil)) (gName 7))
    (tSeq (tAsg (tSMeth c_Measure (toSp K ap_Measure_of) E0 (tC (.ref c_Measure)) (tCons (tVar 6) tNil)) (gName 8))
    (tSeq (tAsg (tCall (toSp K ap__law_answer) [] E0 (tCons (tVar 1) (tCons (tVar 7) tNil))) (gName 9))
    (tSeq (tIfS (tNot (tB (tCall (toSp K ap__law_same) [] E0 (tCons (tCall (toSp K ap__law_answer) [] E0 (tCons (tVar 5) (tCons (tVar 8) tNil))) (tCons (tVar 9) tNil))))) (tRet (tC (.bl false))) tNext)
    (tSeq (tAsg (tCall (toSp K ap_line_certificate) [] E0 (tCons (tVar 1) (tCons (tVar 7) tNil))) (gName 10))
    (tSeq (tIfS (tNot (tB (tCall (toSp K ap__law_same) [] E0 (tCons (tCall (toSp K ap_line_certificate) [] E0 (tCons (tVar 5) (tCons (tVar 8) tNil))) (tCons (tVar 10) tNil))))) (tRet (tC (.bl false))) tNext)
    (tRet (tCall (toSp K ap__law_same) [] E0 (tCons (tCall (toSp K ap__law_answer) [] E0 (tCons (tVar 1) (tCons (tVar 7) tNil))) (tCons (tVar 9) tNil))))))))))))))))))
section
variable {P : Program} {w : World} {K : PySem.W.Frag} {mg : Str → Option Value} {base : Heap}
theorem kb_0 (T : Txt P K mg) : ∃ mv : List Value, KBn K T.fd_Measure___init__ ["self", "width", "indent", "align", "hyphen", "twin", "river", "loose"] 2 ["indent", "align", "hyphen", "twin", "river", "loose"] (fun us ws => pick (0 :: upO ([0, 1, 2, 3, 4, 5, 6] : List Nat)) (us ++ mv ++ ws)) (fun vs zs => pick (0 :: upO ([0, 1, 2, 3, 4, 5, 6] : List Nat)) (vs ++ ([] : List V) ++ zs)) :=
  FunD.kbinds0 (ps := ["self", "width", "indent", "align", "hyphen", "twin", "river", "loose"]) T.fk_Measure 2 ["indent", "align", "hyphen", "twin", "river", "loose"] [] (fun us mv ws => pick (0 :: upO ([0, 1, 2, 3, 4, 5, 6] : List Nat)) (us ++ mv ++ ws)) (fun z => nomatch z) sub_nil (fun r1 r2 r3 => pick_vals ((r1.append r2).append r3) _) (fun D doc pm an cdv ct us mv ws h1 h2 h3 => match us, mv, ws, h1, h2, h3 with | [_, _], [], [_, _, _, _, _, _], _, _, _ => rfl)
theorem tm_Glue___init__ (T : Txt P K mg) (cdv : Value) (A : Around) (outer : List PySem.Env) (s : Shared) (H : Hp) (E : XK) (hr : Room 0 (A.deeper (PyProof.Rows.envOfC "Glue.__init__" (defScope s_Glue___init__) s.heap.objs.size T.f_Glue___init__ cdv))) :
    PSs (cxOf CX0 P w K mg base ["self", "width", "stretch", "shrink"] "Glue.__init__" (defScope s_Glue___init__) T.f_Glue___init__ cdv A outer s H E).nox (defBody s_Glue___init__) (t_Glue___init__ K) := 
      (pss_cons (ps_fld (pv 0) (pv 1) rfl)
      (pss_cons (ps_fld (pv 0) (pv 2) rfl)
      (pss_one (ps_fld (pv 0) (pv 3) rfl))))
theorem tm_Glue___add__ {ai_Glue : AI} (T : Txt P K mg) (G_Glue___init__ : FnOk P w K mg base CX0 1 T.f_Glue___init__ T.fd_Glue___init__ ["self", "width", "stretch", "shrink"] (toSpI K T.c_Glue ai_Glue)) (cdv : Value) (A : Around) (outer : List PySem.Env) (s : Shared) (H : Hp) (E : XK) (hr : Room 2 (A.deeper (PyProof.Rows.envOfC "Glue.__add__" (defScope s_Glue___add__) s.heap.objs.size T.f_Glue___add__ cdv))) :
    PSs (cxOf CX0 P w K mg base ["self", "other"] "Glue.__add__" (defScope s_Glue___add__) T.f_Glue___add__ cdv A outer s H E).nox (defBody s_Glue___add__) (t_Glue___add__ K T.c_Glue ai_Glue) := 
      (pss_cons (ps_if (pt_not (pt_val (pe_callB call_isi (by rfl) T.m_isinstance bi_isinstance (pa_cons (pv 1) (pa_cons (pe_glob (v := .ref T.c_Glue) (by rfl) T.g_Glue rfl) pa_nil))))) (pss_one ps_never) pss_nil)
      (pss_one (ps_ret (pe_make T.mk_Glue G_Glue___init__ (hr.mono (by decide)) (by rfl) T.g_Glue T.b_Glue___init__ .nil pass0 (pa_cons (pe_op op_addG (pe_fld (pv 0) rfl) (pe_fld (pv 1) rfl)) (pa_cons (pe_op op_addG (pe_fld (pv 0) rfl) (pe_fld (pv 1) rfl)) (pa_cons (pe_op op_addG (pe_fld (pv 0) rfl) (pe_fld (pv 1) rfl)) pa_nil)))))))
theorem tm_ends_at_hyphen (T : Txt P K mg) (cdv : Value) (A : Around) (outer : List PySem.Env) (s : Shared) (H : Hp) (E : XK) (hr : Room 0 (A.deeper (PyProof.Rows.envOfC "ends_at_hyphen" (defScope s_ends_at_hyphen) s.heap.objs.size T.f_ends_at_hyphen cdv))) :
    PSs (cxOf CX0 P w K mg base ["row", "end", "widths", "joints"] "ends_at_hyphen" (defScope s_ends_at_hyphen) T.f_ends_at_hyphen cdv A outer s H E).nox (defBody s_ends_at_hyphen) (t_ends_at_hyphen K) := 
      (pss_cons (ps_asg (pv 0) (pg_tup (by rfl) (pgs_cons (pg_name (i := 2) sc_ends_at_hyphen.nd rfl (Or.inl rfl)) (pgs_cons (pg_name (i := 3) sc_ends_at_hyphen.nd rfl (Or.inl rfl)) pgs_nil))))
      (pss_one (ps_ret (pe_and (pe_cmpR (op_ltG hr.units0) (pv 1) (pe_callB call_len (by rfl) T.m_len bi_len (pa_cons (pv 2) pa_nil)) (nomark _)) (pe_one (pe_cmpR (op_eqG hr.units) (pe_ix ix_seq (pe_ix ix_seq (pv 3) (pe_op op_sub (pv 1) pe_int) (fun _ _ => rfl)) pe_int (fun _ _ => rfl)) pe_str (nomark _)))))))
theorem tm_joint_glue {ai_Glue : AI} (T : Txt P K mg) (G_Glue___init__ : FnOk P w K mg base CX0 1 T.f_Glue___init__ T.fd_Glue___init__ ["self", "width", "stretch", "shrink"] (toSpI K T.c_Glue ai_Glue)) (cdv : Value) (A : Around) (outer : List PySem.Env) (s : Shared) (H : Hp) (E : XK) (hr : Room 2 (A.deeper (PyProof.Rows.envOfC "joint_glue" (defScope s_joint_glue) s.heap.objs.size T.f_joint_glue cdv))) :
    PSs (cxOf CX0 P w K mg base ["joint"] "joint_glue" (defScope s_joint_glue) T.f_joint_glue cdv A outer s H E).nox (defBody s_joint_glue) (t_joint_glue K T.c_Glue ai_Glue) := 
      (pss_cons (ps_if (pt_cmpR (op_eqG hr.units) (pe_ix ix_seq (pv 0) pe_int (fun _ _ => rfl)) pe_str (nomark _)) (pss_one (ps_ret (pe_make T.mk_Glue G_Glue___init__ (hr.mono (by decide)) (by rfl) T.g_Glue T.b_Glue___init__ .nil pass0 (pa_cons (pe_ix ix_seq (pv 0) pe_int (fun _ _ => rfl)) (pa_cons (pe_ix ix_seq (pv 0) pe_int (fun _ _ => rfl)) (pa_cons (pe_ix ix_seq (pv 0) pe_int (fun _ _ => rfl)) pa_nil)))))) pss_nil)
      (pss_one (ps_ret (pe_make T.mk_Glue G_Glue___init__ (hr.mono (by decide)) (by rfl) T.g_Glue T.b_Glue___init__ .nil pass0 (pa_cons (pe_un un_neg (pe_ix ix_seq (pv 0) pe_int (fun _ _ => rfl))) (pa_cons pe_int (pa_cons pe_int pa_nil)))))))
theorem tm_extended_glue {ap_joint_glue : AP} {ap_Glue___add__ : AP} {ai_Glue : AI} (T : Txt P K mg) (G_joint_glue : FnOk P w K mg base CX0 3 T.f_joint_glue T.fd_joint_glue ["joint"] (toSp K ap_joint_glue)) (G_Glue___add__ : FnOk P w K mg base CX0 3 T.f_Glue___add__ T.fd_Glue___add__ ["self", "other"] (toSp K ap_Glue___add__)) (G_Glue___init__ : FnOk P w K mg base CX0 1 T.f_Glue___init__ T.fd_Glue___init__ ["self", "width", "stretch", "shrink"] (toSpI K T.c_Glue ai_Glue)) (cdv : Value) (A : Around) (outer : List PySem.Env) (s : Shared) (H : Hp) (E : XK) (hr : Room 3 (A.deeper (PyProof.Rows.envOfC "extended_glue" (defScope s_extended_glue) s.heap.objs.size T.f_extended_glue cdv))) :
    PSs (cxOf CX0 P w K mg base ["row", "inner", "box", "widths", "joints"] "extended_glue" (defScope s_extended_glue) T.f_extended_glue cdv A outer s H E).nox (defBody s_extended_glue) (t_extended_glue K T.c_Glue ap_joint_glue ap_Glue___add__ ai_Glue) := 
      (pss_cons (ps_asg (pv 0) (pg_tup (by rfl) (pgs_cons (pg_name (i := 3) sc_extended_glue.nd rfl (Or.inl rfl)) (pgs_cons (pg_name (i := 4) sc_extended_glue.nd rfl (Or.inl rfl)) pgs_nil))))
      (pss_one (ps_ret (pe_op (op_own G_Glue___add__ (hr.mono (by decide)) T.sf_Glue T.op_Glue___add__ T.mt_Glue___add__.fn T.b_Glue___add__ pass0) (pe_op (op_own G_Glue___add__ (hr.mono (by decide)) T.sf_Glue T.op_Glue___add__ T.mt_Glue___add__.fn T.b_Glue___add__ pass0) (pv 1) (pe_call G_joint_glue (hr.mono (by decide)) (by rfl) T.g_joint_glue T.F_joint_glue.kp T.b_joint_glue .nil pass0 (pa_cons (pe_ix ix_seq (pv 4) (pe_op op_sub (pv 2) pe_int) (fun _ _ => rfl)) pa_nil))) (pe_make T.mk_Glue G_Glue___init__ (hr.mono (by decide)) (by rfl) T.g_Glue T.b_Glue___init__ .nil pass0 (pa_cons (pe_ix ix_seq (pv 3) (pv 2) (fun _ _ => rfl)) (pa_cons pe_int (pa_cons pe_int pa_nil))))))))
theorem tm_finished_glue {ap_ends_at_hyphen : AP} {ai_Glue : AI} {ap_Glue___add__ : AP} (T : Txt P K mg) (G_ends_at_hyphen : FnOk P w K mg base CX0 1 T.f_ends_at_hyphen T.fd_ends_at_hyphen ["row", "end"] (toSp K ap_ends_at_hyphen)) (G_Glue___init__ : FnOk P w K mg base CX0 1 T.f_Glue___init__ T.fd_Glue___init__ ["self", "width", "stretch", "shrink"] (toSpI K T.c_Glue ai_Glue)) (G_Glue___add__ : FnOk P w K mg base CX0 3 T.f_Glue___add__ T.fd_Glue___add__ ["self", "other"] (toSp K ap_Glue___add__)) (cdv : Value) (A : Around) (outer : List PySem.Env) (s : Shared) (H : Hp) (E : XK) (hr : Room 3 (A.deeper (PyProof.Rows.envOfC "finished_glue" (defScope s_finished_glue) s.heap.objs.size T.f_finished_glue cdv))) :
    PSs (cxOf CX0 P w K mg base ["row", "inner", "end"] "finished_glue" (defScope s_finished_glue) T.f_finished_glue cdv A outer s H E).nox (defBody s_finished_glue) (t_finished_glue K T.c_Glue ap_ends_at_hyphen ai_Glue ap_Glue___add__) := 
      (pss_cons (ps_if (pt_val (pe_call G_ends_at_hyphen (hr.mono (by decide)) (by rfl) T.g_ends_at_hyphen T.F_ends_at_hyphen.kp T.b_ends_at_hyphen .nil pass0 (pa_cons (pv 0) (pa_cons (pv 2) pa_nil)))) (pss_one (ps_ret (pe_op (op_own G_Glue___add__ (hr.mono (by decide)) T.sf_Glue T.op_Glue___add__ T.mt_Glue___add__.fn T.b_Glue___add__ pass0) (pv 1) (pe_make T.mk_Glue G_Glue___init__ (hr.mono (by decide)) (by rfl) T.g_Glue T.b_Glue___init__ .nil pass0 (pa_cons (pe_ix ix_seq (pe_ix ix_seq (pe_ix ix_seq (pv 0) pe_int (fun _ _ => rfl)) (pe_op op_sub (pv 2) pe_int) (fun _ _ => rfl)) pe_int (fun _ _ => rfl)) (pa_cons pe_int (pa_cons pe_int pa_nil))))))) pss_nil)
      (pss_one (ps_ret (pv 1))))
theorem tm_line_glue {ai_Glue : AI} {ap_extended_glue : AP} {ap_finished_glue : AP} (T : Txt P K mg) (G_Glue___init__ : FnOk P w K mg base CX0 1 T.f_Glue___init__ T.fd_Glue___init__ ["self", "width", "stretch", "shrink"] (toSpI K T.c_Glue ai_Glue)) (G_extended_glue : FnOk P w K mg base CX0 4 T.f_extended_glue T.fd_extended_glue ["row", "inner", "box"] (toSp K ap_extended_glue)) (G_finished_glue : FnOk P w K mg base CX0 4 T.f_finished_glue T.fd_finished_glue ["row", "inner", "end"] (toSp K ap_finished_glue)) (cdv : Value) (A : Around) (outer : List PySem.Env) (s : Shared) (H : Hp) (E : XK) (hr : Room 4 (A.deeper (PyProof.Rows.envOfC "line_glue" (defScope s_line_glue) s.heap.objs.size T.f_line_glue cdv))) :
    PSs (cxOf CX0 P w K mg base ["row", "start", "end", "inner", "box"] "line_glue" (defScope s_line_glue) T.f_line_glue cdv A outer s H E).nox (defBody s_line_glue) (t_line_glue K T.c_Glue ai_Glue ap_extended_glue ap_finished_glue) := 
      (pss_cons (ps_set (i := 3) sc_line_glue.nd rfl (Or.inl rfl) (pe_make T.mk_Glue G_Glue___init__ (hr.mono (by decide)) (by rfl) T.g_Glue T.b_Glue___init__ .nil pass0 (pa_cons (pe_ix ix_seq (pe_ix ix_seq (pv 0) pe_int (fun _ _ => rfl)) (pv 1) (fun _ _ => rfl)) (pa_cons pe_int (pa_cons pe_int pa_nil)))))
      (pss_cons (ps_for PassesOwn.never rfl (pi_range2 (by rfl) T.m_range (pa_cons (pe_op op_addG (pv 1) pe_int) (pa_cons (pv 2) pa_nil))) (pg_name (i := 4) sc_line_glue.nd rfl (Or.inl rfl)) (pss_one (ps_set (i := 3) sc_line_glue.nd rfl (Or.inl rfl) (pe_call G_extended_glue (hr.mono (by decide)) (by rfl) T.g_extended_glue T.F_extended_glue.kp T.b_extended_glue .nil pass0 (pa_cons (pv 0) (pa_cons (pv 3) (pa_cons (pv 4) pa_nil)))))))
      (pss_one (ps_ret (pe_call G_finished_glue (hr.mono (by decide)) (by rfl) T.g_finished_glue T.F_finished_glue.kp T.b_finished_glue .nil pass0 (pa_cons (pv 0) (pa_cons (pv 3) (pa_cons (pv 2) pa_nil))))))))
theorem tm_room_of (T : Txt P K mg) (cdv : Value) (A : Around) (outer : List PySem.Env) (s : Shared) (H : Hp) (E : XK) (hr : Room 0 (A.deeper (PyProof.Rows.envOfC "room_of" (defScope s_room_of) s.heap.objs.size T.f_room_of cdv))) :
    PSs (cxOf CX0 P w K mg base ["start", "measure"] "room_of" (defScope s_room_of) T.f_room_of cdv A outer s H E).nox (defBody s_room_of) (t_room_of K) := 
      (pss_cons (ps_if (pt_cmpR (op_eqG hr.units) (pv 0) pe_int (nomark _)) (pss_one (ps_ret (pe_op op_sub (pe_fld (pv 1) rfl) (pe_fld (pv 1) rfl)))) pss_nil)
      (pss_one (ps_ret (pe_fld (pv 1) rfl))))
theorem tm_both_price (T : Txt P K mg) (cdv : Value) (A : Around) (outer : List PySem.Env) (s : Shared) (H : Hp) (E : XK) (hr : Room 0 (A.deeper (PyProof.Rows.envOfC "both_price" (defScope s_both_price) s.heap.objs.size T.f_both_price cdv))) :
    PSs (cxOf CX0 P w K mg base ["glue", "room", "last", "loose", "rest"] "both_price" (defScope s_both_price) T.f_both_price cdv A outer s H E).nox (defBody s_both_price) (t_both_price K) := 
      (pss_cons (ps_set (i := 4) sc_both_price.nd rfl (Or.inl rfl) (pe_op op_sub (pv 1) (pe_fld (pv 0) rfl)))
      (pss_cons (ps_if (pt_cmpR (op_ltG hr.units0) (pv 4) pe_int (nomark _)) (pss_cons (ps_if (pt_cmpR op_gt (pe_un un_neg (pv 4)) (pe_fld (pv 0) rfl) (nomark _)) (pss_one (ps_ret pe_non)) pss_nil)
      (pss_one (ps_ret (pe_op op_fdivW (pe_op op_mulG (pe_op op_mulG pe_int (pv 4)) (pv 4)) (pe_op op_mulG (pe_fld (pv 0) rfl) (pe_fld (pv 0) rfl)))))) pss_nil)
      (pss_cons (ps_if (PW.pt (pw_or (pt_cmpR (op_eqG hr.units) (pv 4) pe_int (nomark _)) (pw_or1 (pt_val (pv 2))))) (pss_one (ps_ret pe_int)) pss_nil)
      (pss_cons (ps_if (pt_cmpR op_gt (pv 4) (pe_op op_mulG (pv 3) (pe_fld (pv 0) rfl)) (nomark _)) (pss_one (ps_ret pe_non)) pss_nil)
      (pss_one (ps_ret (pe_op op_fdivW (pe_op op_mulG (pe_op op_mulG pe_int (pv 4)) (pv 4)) (pe_op op_mulG (pe_fld (pv 0) rfl) (pe_fld (pv 0) rfl)))))))))
theorem tm_left_price (T : Txt P K mg) (cdv : Value) (A : Around) (outer : List PySem.Env) (s : Shared) (H : Hp) (E : XK) (hr : Room 0 (A.deeper (PyProof.Rows.envOfC "left_price" (defScope s_left_price) s.heap.objs.size T.f_left_price cdv))) :
    PSs (cxOf CX0 P w K mg base ["glue", "room", "last", "rest"] "left_price" (defScope s_left_price) T.f_left_price cdv A outer s H E).nox (defBody s_left_price) (t_left_price K) := 
      (pss_cons (ps_set (i := 3) sc_left_price.nd rfl (Or.inl rfl) (pe_op op_sub (pv 1) (pe_fld (pv 0) rfl)))
      (pss_cons (ps_if (pt_cmpR (op_ltG hr.units0) (pv 3) pe_int (nomark _)) (pss_one (ps_ret pe_non)) pss_nil)
      (pss_cons (ps_if (pt_val (pv 2)) (pss_one (ps_ret pe_int)) pss_nil)
      (pss_one (ps_ret (pe_op op_fdivW (pe_op op_mulG (pe_op op_mulG pe_int (pv 3)) (pv 3)) (pe_op op_mulG (pv 1) (pv 1))))))))
theorem tm_price_with_glue {ap_both_price : AP} {ap_left_price : AP} {ap_ends_at_hyphen : AP} (T : Txt P K mg) (G_both_price : FnOk P w K mg base CX0 1 T.f_both_price T.fd_both_price ["glue", "room", "last", "loose"] (toSp K ap_both_price)) (G_left_price : FnOk P w K mg base CX0 1 T.f_left_price T.fd_left_price ["glue", "room", "last"] (toSp K ap_left_price)) (G_ends_at_hyphen : FnOk P w K mg base CX0 1 T.f_ends_at_hyphen T.fd_ends_at_hyphen ["row", "end"] (toSp K ap_ends_at_hyphen)) (cdv : Value) (A : Around) (outer : List PySem.Env) (s : Shared) (H : Hp) (E : XK) (hr : Room 1 (A.deeper (PyProof.Rows.envOfC "price_with_glue" (defScope s_price_with_glue) s.heap.objs.size T.f_price_with_glue cdv))) :
    PSs (cxOf CX0 P w K mg base ["row", "end", "glue", "room", "measure", "last", "price"] "price_with_glue" (defScope s_price_with_glue) T.f_price_with_glue cdv A outer s H E).nox (defBody s_price_with_glue) (t_price_with_glue K ap_both_price ap_left_price ap_ends_at_hyphen) := 
      (pss_cons (ps_set (i := 5) sc_price_with_glue.nd rfl (Or.inl rfl) (pe_cmpR (op_eqG hr.units) (pv 1) (pe_callB call_len (by rfl) T.m_len bi_len (pa_cons (pe_ix ix_seq (pv 0) pe_int (fun _ _ => rfl)) pa_nil)) (nomark _)))
      (pss_cons (ps_if (pt_cmpR (op_eqG hr.units) (pe_fld (pv 4) rfl) pe_str (nomark _)) (pss_one (ps_set (i := 6) sc_price_with_glue.nd rfl (Or.inl rfl) (pe_call G_both_price (hr.mono (by decide)) (by rfl) T.g_both_price T.F_both_price.kp T.b_both_price .nil pass0 (pa_cons (pv 2) (pa_cons (pv 3) (pa_cons (pv 5) (pa_cons (pe_fld (pv 4) rfl) pa_nil))))))) (pss_one (ps_set (i := 6) sc_price_with_glue.nd rfl (Or.inl rfl) (pe_call G_left_price (hr.mono (by decide)) (by rfl) T.g_left_price T.F_left_price.kp T.b_left_price .nil pass0 (pa_cons (pv 2) (pa_cons (pv 3) (pa_cons (pv 5) pa_nil)))))))
      (pss_cons (ps_if (PW.pt (pw_and (pt_cmp (pc_notN (pv 6))) (pw_and1 (pt_val (pe_call G_ends_at_hyphen (hr.mono (by decide)) (by rfl) T.g_ends_at_hyphen T.F_ends_at_hyphen.kp T.b_ends_at_hyphen .nil pass0 (pa_cons (pv 0) (pa_cons (pv 1) pa_nil))))))) (pss_one (ps_ret (pe_op op_addG (pv 6) (pe_fld (pv 4) rfl)))) pss_nil)
      (pss_one (ps_ret (pv 6))))))
theorem tm_extra_of (T : Txt P K mg) (cdv : Value) (A : Around) (outer : List PySem.Env) (s : Shared) (H : Hp) (E : XK) (hr : Room 0 (A.deeper (PyProof.Rows.envOfC "extra_of" (defScope s_extra_of) s.heap.objs.size T.f_extra_of cdv))) :
    PSs (cxOf CX0 P w K mg base ["rest", "glue", "before", "last", "measure"] "extra_of" (defScope s_extra_of) T.f_extra_of cdv A outer s H E).nox (defBody s_extra_of) (t_extra_of K) := 
      (pss_cons (ps_if (PW.pt (pw_and (pt_cmpR (op_eqG hr.units) (pe_fld (pv 4) rfl) pe_str (nomark _)) (pw_and1 (pt_cmpR (op_ltG hr.units0) (pv 0) pe_int (nomark _))))) (pss_one (ps_ret (pe_un un_neg (pe_op op_fdivW (pe_op op_mulG (pe_un un_neg (pv 0)) (pe_fld (pv 2) rfl)) (pe_fld (pv 1) rfl))))) pss_nil)
      (pss_cons (ps_if (PW.pt (pw_and (pt_cmpR (op_eqG hr.units) (pe_fld (pv 4) rfl) pe_str (nomark _)) (pw_and (pt_cmpR op_gt (pv 0) pe_int (nomark _)) (pw_and1 (pt_not (pt_val (pv 3))))))) (pss_one (ps_ret (pe_op op_fdivW (pe_op op_mulG (pv 0) (pe_fld (pv 2) rfl)) (pe_fld (pv 1) rfl)))) pss_nil)
      (pss_one (ps_ret pe_int))))
theorem tm_box_places {ap_line_glue : AP} {ap_room_of : AP} {ai_Glue : AI} {ap_joint_glue : AP} {ap_Glue___add__ : AP} {ap_extra_of : AP} (T : Txt P K mg) (G_line_glue : FnOk P w K mg base CX0 5 T.f_line_glue T.fd_line_glue ["row", "start", "end"] (toSp K ap_line_glue)) (G_room_of : FnOk P w K mg base CX0 1 T.f_room_of T.fd_room_of ["start", "measure"] (toSp K ap_room_of)) (G_Glue___init__ : FnOk P w K mg base CX0 1 T.f_Glue___init__ T.fd_Glue___init__ ["self", "width", "stretch", "shrink"] (toSpI K T.c_Glue ai_Glue)) (G_joint_glue : FnOk P w K mg base CX0 3 T.f_joint_glue T.fd_joint_glue ["joint"] (toSp K ap_joint_glue)) (G_Glue___add__ : FnOk P w K mg base CX0 3 T.f_Glue___add__ T.fd_Glue___add__ ["self", "other"] (toSp K ap_Glue___add__)) (G_extra_of : FnOk P w K mg base CX0 1 T.f_extra_of T.fd_extra_of ["rest", "glue", "before", "last", "measure"] (toSp K ap_extra_of)) (cdv : Value) (A : Around) (outer : List PySem.Env) (s : Shared) (H : Hp) (E : XK) (hr : Room 5 (A.deeper (PyProof.Rows.envOfC "box_places" (defScope s_box_places) s.heap.objs.size T.f_box_places cdv))) :
    PSs (cxOf CX0 P w K mg base ["row", "start", "end", "measure", "widths", "joints", "glue", "rest", "last", "plain", "before", "places", "box", "joint"] "box_places" (defScope s_box_places) T.f_box_places cdv A outer s H E).nox (defBody s_box_places) (t_box_places K T.c_Glue ap_line_glue ap_room_of ai_Glue ap_joint_glue ap_Glue___add__ ap_extra_of) := 
      (pss_cons (ps_asg (pv 0) (pg_tup (by rfl) (pgs_cons (pg_name (i := 4) sc_box_places.nd rfl (Or.inl rfl)) (pgs_cons (pg_name (i := 5) sc_box_places.nd rfl (Or.inl rfl)) pgs_nil))))
      (pss_cons (ps_set (i := 6) sc_box_places.nd rfl (Or.inl rfl) (pe_call G_line_glue (hr.mono (by decide)) (by rfl) T.g_line_glue T.F_line_glue.kp T.b_line_glue .nil pass0 (pa_cons (pv 0) (pa_cons (pv 1) (pa_cons (pv 2) pa_nil)))))
      (pss_cons (ps_set (i := 7) sc_box_places.nd rfl (Or.inl rfl) (pe_op op_sub (pe_call G_room_of (hr.mono (by decide)) (by rfl) T.g_room_of T.F_room_of.kp T.b_room_of .nil pass0 (pa_cons (pv 1) (pa_cons (pv 3) pa_nil))) (pe_fld (pv 6) rfl)))
      (pss_cons (ps_set (i := 8) sc_box_places.nd rfl (Or.inl rfl) (pe_cmpR (op_eqG hr.units) (pv 2) (pe_callB call_len (by rfl) T.m_len bi_len (pa_cons (pv 4) pa_nil)) (nomark _)))
      (pss_cons (ps_set (i := 9) sc_box_places.nd rfl (Or.inl rfl) (pe_ifExp (pt_cmpR (op_eqG hr.units) (pv 1) pe_int (nomark _)) (pe_fld (pv 3) rfl) pe_int))
      (pss_cons (ps_set (i := 10) sc_box_places.nd rfl (Or.inl rfl) (pe_make T.mk_Glue G_Glue___init__ (hr.mono (by decide)) (by rfl) T.g_Glue T.b_Glue___init__ .nil pass0 (pa_cons pe_int (pa_cons pe_int (pa_cons pe_int pa_nil)))))
      (pss_cons (ps_set (i := 11) sc_box_places.nd rfl (Or.inl rfl) (pe_lst pa_nil))
      (pss_cons (ps_for PassesOwn.never rfl (pi_range2 (by rfl) T.m_range (pa_cons (pv 1) (pa_cons (pv 2) pa_nil))) (pg_name (i := 12) sc_box_places.nd rfl (Or.inl rfl)) (pss_cons (ps_if (pt_cmpR op_gt (pv 12) (pv 1) (nomark _)) (pss_cons (ps_set (i := 13) sc_box_places.nd rfl (Or.inl rfl) (pe_call G_joint_glue (hr.mono (by decide)) (by rfl) T.g_joint_glue T.F_joint_glue.kp T.b_joint_glue .nil pass0 (pa_cons (pe_ix ix_seq (pv 5) (pe_op op_sub (pv 12) pe_int) (fun _ _ => rfl)) pa_nil)))
      (pss_cons (ps_set (i := 9) sc_box_places.nd rfl (Or.inl rfl) (pe_op op_addG (pe_op op_addG (pv 9) (pe_ix ix_seq (pv 4) (pe_op op_sub (pv 12) pe_int) (fun _ _ => rfl))) (pe_fld (pv 13) rfl)))
      (pss_one (ps_set (i := 10) sc_box_places.nd rfl (Or.inl rfl) (pe_op (op_own G_Glue___add__ (hr.mono (by decide)) T.sf_Glue T.op_Glue___add__ T.mt_Glue___add__.fn T.b_Glue___add__ pass0) (pv 10) (pv 13)))))) pss_nil)
      (pss_one (ps_expr (pe_bm PySem.F.plainAttrs_list PySem.F.slot_list_append PySem.F.type_list_append mt_append (pv 11) (pa_cons (pe_op op_addG (pv 9) (pe_call G_extra_of (hr.mono (by decide)) (by rfl) T.g_extra_of T.F_extra_of.kp T.b_extra_of .nil pass0 (pa_cons (pv 7) (pa_cons (pv 6) (pa_cons (pv 10) (pa_cons (pv 8) (pa_cons (pv 3) pa_nil))))))) pa_nil))))))
      (pss_one (ps_ret (pv 11)))))))))))
theorem tm_gap_spans {ap_box_places : AP} (T : Txt P K mg) (G_box_places : FnOk P w K mg base CX0 6 T.f_box_places T.fd_box_places ["row", "start", "end", "measure"] (toSp K ap_box_places)) (cdv : Value) (A : Around) (outer : List PySem.Env) (s : Shared) (H : Hp) (E : XK) (hr : Room 6 (A.deeper (PyProof.Rows.envOfC "gap_spans" (defScope s_gap_spans) s.heap.objs.size T.f_gap_spans cdv))) :
    PSs (cxOf CX0 P w K mg base ["row", "start", "end", "measure", "widths", "joints", "places", "spans", "box", "right_end"] "gap_spans" (defScope s_gap_spans) T.f_gap_spans cdv A outer s H E).nox (defBody s_gap_spans) (t_gap_spans K ap_box_places) := 
      (pss_cons (ps_asg (pv 0) (pg_tup (by rfl) (pgs_cons (pg_name (i := 4) sc_gap_spans.nd rfl (Or.inl rfl)) (pgs_cons (pg_name (i := 5) sc_gap_spans.nd rfl (Or.inl rfl)) pgs_nil))))
      (pss_cons (ps_set (i := 6) sc_gap_spans.nd rfl (Or.inl rfl) (pe_call G_box_places (hr.mono (by decide)) (by rfl) T.g_box_places T.F_box_places.kp T.b_box_places .nil pass0 (pa_cons (pv 0) (pa_cons (pv 1) (pa_cons (pv 2) (pa_cons (pv 3) pa_nil))))))
      (pss_cons (ps_set (i := 7) sc_gap_spans.nd rfl (Or.inl rfl) (pe_lst pa_nil))
      (pss_cons (ps_for PassesOwn.never rfl (pi_range2 (by rfl) T.m_range (pa_cons (pv 1) (pa_cons (pe_op op_sub (pv 2) pe_int) pa_nil))) (pg_name (i := 8) sc_gap_spans.nd rfl (Or.inl rfl)) (pss_one (ps_if (pt_cmpR (op_eqG hr.units) (pe_ix ix_seq (pe_ix ix_seq (pv 5) (pv 8) (fun _ _ => rfl)) pe_int (fun _ _ => rfl)) pe_str (nomark _)) (pss_cons (ps_set (i := 9) sc_gap_spans.nd rfl (Or.inl rfl) (pe_op op_addG (pe_ix ix_seq (pv 6) (pe_op op_sub (pv 8) (pv 1)) (fun _ _ => rfl)) (pe_ix ix_seq (pv 4) (pv 8) (fun _ _ => rfl))))
      (pss_one (ps_expr (pe_bm PySem.F.plainAttrs_list PySem.F.slot_list_append PySem.F.type_list_append mt_append (pv 7) (pa_cons (pe_tup (pa_cons (pv 9) (pa_cons (pe_ix ix_seq (pv 6) (pe_op op_addG (pe_op op_sub (pv 8) (pv 1)) pe_int) (fun _ _ => rfl)) pa_nil))) pa_nil))))) pss_nil)))
      (pss_one (ps_ret (pv 7)))))))
theorem tm_count_overlapping (T : Txt P K mg) (cdv : Value) (A : Around) (outer : List PySem.Env) (s : Shared) (H : Hp) (E : XK) (hr : Room 0 (A.deeper (PyProof.Rows.envOfC "count_overlapping" (defScope s_count_overlapping) s.heap.objs.size T.f_count_overlapping cdv))) :
    PSs (cxOf CX0 P w K mg base ["upper", "lower", "count", "at", "first", "end"] "count_overlapping" (defScope s_count_overlapping) T.f_count_overlapping cdv A outer s H E).nox (defBody s_count_overlapping) (t_count_overlapping K) := 
      (pss_cons (ps_set (i := 2) sc_count_overlapping.nd rfl (Or.inl rfl) pe_int)
      (pss_cons (ps_set (i := 3) sc_count_overlapping.nd rfl (Or.inl rfl) pe_int)
      (pss_cons (ps_for PassesOwn.never rfl (pi_list (pv 1)) (pg_tup (by rfl) (pgs_cons (pg_name (i := 4) sc_count_overlapping.nd rfl (Or.inl rfl)) (pgs_cons (pg_name (i := 5) sc_count_overlapping.nd rfl (Or.inl rfl)) pgs_nil))) (pss_cons (ps_while PassesOwn.never (PW.pt (pw_and (pt_cmpR (op_ltG hr.units0) (pv 3) (pe_callB call_len (by rfl) T.m_len bi_len (pa_cons (pv 0) pa_nil)) (nomark _)) (pw_and1 (pt_cmpR op_le (pe_ix ix_seq (pe_ix ix_seq (pv 0) (pv 3) (fun _ _ => rfl)) pe_int (fun _ _ => rfl)) (pv 4) (nomark _))))) (pss_one (ps_set (i := 3) sc_count_overlapping.nd rfl (Or.inl rfl) (pe_op op_addG (pv 3) pe_int))))
      (pss_one (ps_if (PW.pt (pw_and (pt_cmpR (op_ltG hr.units0) (pv 3) (pe_callB call_len (by rfl) T.m_len bi_len (pa_cons (pv 0) pa_nil)) (nomark _)) (pw_and1 (pt_cmpR (op_ltG hr.units0) (pe_ix ix_seq (pe_ix ix_seq (pv 0) (pv 3) (fun _ _ => rfl)) pe_int (fun _ _ => rfl)) (pv 5) (nomark _))))) (pss_one (ps_set (i := 2) sc_count_overlapping.nd rfl (Or.inl rfl) (pe_op op_addG (pv 2) pe_int))) pss_nil))))
      (pss_one (ps_ret (pv 2))))))
theorem tm_price_with_count {ap_ends_at_hyphen : AP} (T : Txt P K mg) (G_ends_at_hyphen : FnOk P w K mg base CX0 1 T.f_ends_at_hyphen T.fd_ends_at_hyphen ["row", "end"] (toSp K ap_ends_at_hyphen)) (cdv : Value) (A : Around) (outer : List PySem.Env) (s : Shared) (H : Hp) (E : XK) (hr : Room 1 (A.deeper (PyProof.Rows.envOfC "price_with_count" (defScope s_price_with_count) s.heap.objs.size T.f_price_with_count cdv))) :
    PSs (cxOf CX0 P w K mg base ["row", "middle", "end", "measure", "count"] "price_with_count" (defScope s_price_with_count) T.f_price_with_count cdv A outer s H E).nox (defBody s_price_with_count) (t_price_with_count K ap_ends_at_hyphen) := 
      (pss_cons (ps_if (PW.pt (pw_and (pt_cmpR op_gt (pe_fld (pv 3) rfl) pe_int (nomark _)) (pw_and1 (pt_cmpR op_ge (pv 4) (pe_fld (pv 3) rfl) (nomark _))))) (pss_one (ps_ret pe_non)) pss_nil)
      (pss_cons (ps_if (PW.pt (pw_and (pt_val (pe_call G_ends_at_hyphen (hr.mono (by decide)) (by rfl) T.g_ends_at_hyphen T.F_ends_at_hyphen.kp T.b_ends_at_hyphen .nil pass0 (pa_cons (pv 0) (pa_cons (pv 1) pa_nil)))) (pw_and1 (pt_val (pe_call G_ends_at_hyphen (hr.mono (by decide)) (by rfl) T.g_ends_at_hyphen T.F_ends_at_hyphen.kp T.b_ends_at_hyphen .nil pass0 (pa_cons (pv 0) (pa_cons (pv 2) pa_nil))))))) (pss_one (ps_ret (pe_fld (pv 3) rfl))) pss_nil)
      (pss_one (ps_ret pe_int))))
theorem tm_lines_from {ap_room_of : AP} {ai_Glue : AI} {ap_price_with_glue : AP} {ap_finished_glue : AP} {ap_extended_glue : AP} (T : Txt P K mg) (G_room_of : FnOk P w K mg base CX0 1 T.f_room_of T.fd_room_of ["start", "measure"] (toSp K ap_room_of)) (G_Glue___init__ : FnOk P w K mg base CX0 1 T.f_Glue___init__ T.fd_Glue___init__ ["self", "width", "stretch", "shrink"] (toSpI K T.c_Glue ai_Glue)) (G_price_with_glue : FnOk P w K mg base CX0 2 T.f_price_with_glue T.fd_price_with_glue ["row", "end", "glue", "room", "measure"] (toSp K ap_price_with_glue)) (G_finished_glue : FnOk P w K mg base CX0 4 T.f_finished_glue T.fd_finished_glue ["row", "inner", "end"] (toSp K ap_finished_glue)) (G_extended_glue : FnOk P w K mg base CX0 4 T.f_extended_glue T.fd_extended_glue ["row", "inner", "box"] (toSp K ap_extended_glue)) (cdv : Value) (A : Around) (outer : List PySem.Env) (s : Shared) (H : Hp) (E : XK) (hr : Room 4 (A.deeper (PyProof.Rows.envOfC "lines_from" (defScope s_lines_from) s.heap.objs.size T.f_lines_from cdv))) :
    PSs (cxOf CX0 P w K mg base ["row", "start", "measure", "widths", "room", "inner", "found", "end", "price"] "lines_from" (defScope s_lines_from) T.f_lines_from cdv A outer s H E).nox (defBody s_lines_from) (t_lines_from K T.c_Glue ap_room_of ai_Glue ap_price_with_glue ap_finished_glue ap_extended_glue) := 
      (pss_cons (ps_set (i := 3) sc_lines_from.nd rfl (Or.inl rfl) (pe_ix ix_seq (pv 0) pe_int (fun _ _ => rfl)))
      (pss_cons (ps_set (i := 4) sc_lines_from.nd rfl (Or.inl rfl) (pe_call G_room_of (hr.mono (by decide)) (by rfl) T.g_room_of T.F_room_of.kp T.b_room_of .nil pass0 (pa_cons (pv 1) (pa_cons (pv 2) pa_nil))))
      (pss_cons (ps_set (i := 5) sc_lines_from.nd rfl (Or.inl rfl) (pe_make T.mk_Glue G_Glue___init__ (hr.mono (by decide)) (by rfl) T.g_Glue T.b_Glue___init__ .nil pass0 (pa_cons (pe_ix ix_seq (pv 3) (pv 1) (fun _ _ => rfl)) (pa_cons pe_int (pa_cons pe_int pa_nil)))))
      (pss_cons (ps_set (i := 6) sc_lines_from.nd rfl (Or.inl rfl) (pe_lst pa_nil))
      (pss_cons (ps_for PassesOwn.never rfl (pi_range2 (by rfl) T.m_range (pa_cons (pe_op op_addG (pv 1) pe_int) (pa_cons (pe_op op_addG (pe_callB call_len (by rfl) T.m_len bi_len (pa_cons (pv 3) pa_nil)) pe_int) pa_nil))) (pg_name (i := 7) sc_lines_from.nd rfl (Or.inl rfl)) (pss_cons (ps_set (i := 8) sc_lines_from.nd rfl (Or.inl rfl) (pe_call G_price_with_glue (hr.mono (by decide)) (by rfl) T.g_price_with_glue T.F_price_with_glue.kp T.b_price_with_glue .nil pass0 (pa_cons (pv 0) (pa_cons (pv 7) (pa_cons (pe_call G_finished_glue (hr.mono (by decide)) (by rfl) T.g_finished_glue T.F_finished_glue.kp T.b_finished_glue .nil pass0 (pa_cons (pv 0) (pa_cons (pv 5) (pa_cons (pv 7) pa_nil)))) (pa_cons (pv 4) (pa_cons (pv 2) pa_nil)))))))
      (pss_cons (ps_if (pt_cmp (pc_notN (pv 8))) (pss_one (ps_expr (pe_bm PySem.F.plainAttrs_list PySem.F.slot_list_append PySem.F.type_list_append mt_append (pv 6) (pa_cons (pe_tup (pa_cons (pv 7) (pa_cons (pv 8) pa_nil))) pa_nil)))) pss_nil)
      (pss_cons (ps_if (PW.pt (pw_or (pt_cmpR (op_eqG hr.units) (pv 7) (pe_callB call_len (by rfl) T.m_len bi_len (pa_cons (pv 3) pa_nil)) (nomark _)) (pw_or1 (pt_cmpR op_gt (pe_op op_sub (pe_fld (pv 5) rfl) (pe_fld (pv 5) rfl)) (pv 4) (nomark _))))) (pss_one ps_break) pss_nil)
      (pss_one (ps_set (i := 5) sc_lines_from.nd rfl (Or.inl rfl) (pe_call G_extended_glue (hr.mono (by decide)) (by rfl) T.g_extended_glue T.F_extended_glue.kp T.b_extended_glue .nil pass0 (pa_cons (pv 0) (pa_cons (pv 5) (pa_cons (pv 7) pa_nil))))))))))
      (pss_one (ps_ret (pv 6))))))))
theorem tm_LineTable___init__ {ap_lines_from : AP} {ap_gap_spans : AP} (T : Txt P K mg) (G_lines_from : FnOk P w K mg base CX0 5 T.f_lines_from T.fd_lines_from ["row", "start", "measure"] (toSp K ap_lines_from)) (G_gap_spans : FnOk P w K mg base CX0 7 T.f_gap_spans T.fd_gap_spans ["row", "start", "end", "measure"] (toSp K ap_gap_spans)) (cdv : Value) (A : Around) (outer : List PySem.Env) (s : Shared) (H : Hp) (E : XK) (hr : Room 7 (A.deeper (PyProof.Rows.envOfC "LineTable.__init__" (defScope s_LineTable___init__) s.heap.objs.size T.f_LineTable___init__ cdv))) :
    PSs (cxOf CX0 P w K mg base ["self", "row", "measure", "start", "end", "price", "place"] "LineTable.__init__" (defScope s_LineTable___init__) T.f_LineTable___init__ cdv A outer s H E).nox (defBody s_LineTable___init__) (t_LineTable___init__ K w ap_lines_from ap_gap_spans) := 
      (pss_cons (ps_fld (pv 0) (pv 1) rfl)
      (pss_cons (ps_fld (pv 0) (pv 2) rfl)
      (pss_cons (ps_fld (pv 0) (pe_callB call_len (by rfl) T.m_len bi_len (pa_cons (pe_ix ix_seq (pv 1) pe_int (fun _ _ => rfl)) pa_nil)) rfl)
      (pss_cons (ps_fld (pv 0) (pe_cmpR op_gt (pe_fld (pv 2) rfl) pe_int (nomark _)) rfl)
      (pss_cons (ps_fld (pv 0) (pe_op op_addG (pe_lc (own := [("place", 6)]) (g := (gName 6)) (tt := tYes) (by rfl) sc_LineTable___init__.nd (pi_range1 (by rfl) T.m_range (pa_cons (pe_fld (pv 0) rfl) pa_nil)) (blkOk_by (own := [("place", 6)]) (N := ["self", "row", "measure", "start", "end", "price", "place"]) (sc := defScope s_LineTable___init__) (by decide +kernel)) (fun _ _ _ _ _ => (pg_name (i := 6) sc_LineTable___init__.nd rfl (Or.inl rfl))) (fun _ _ _ _ _ => pts_nil) (fun _ _ _ _ _ => (pe_call G_lines_from (hr.mono (by decide)) (by rfl) T.g_lines_from T.F_lines_from.kp T.b_lines_from .nil pass0 (pa_cons (pv 1) (pa_cons (pv 6) (pa_cons (pv 2) pa_nil)))))) (pe_lst (pa_cons (pe_lst pa_nil) pa_nil))) rfl)
      (pss_cons (ps_fld (pv 0) (pe_lc (own := [("place", 6)]) (g := (gName 6)) (tt := tYes) (by rfl) sc_LineTable___init__.nd (pi_range1 (by rfl) T.m_range (pa_cons (pe_op op_addG (pe_fld (pv 0) rfl) pe_int) pa_nil)) (blkOk_by (own := [("place", 6)]) (N := ["self", "row", "measure", "start", "end", "price", "place"]) (sc := defScope s_LineTable___init__) (by decide +kernel)) (fun _ _ _ _ _ => (pg_name (i := 6) sc_LineTable___init__.nd rfl (Or.inl rfl))) (fun _ _ _ _ _ => pts_nil) (fun _ _ _ _ _ => (pe_lst pa_nil))) rfl)
      (pss_cons (ps_fld (pv 0) (pe_nnew rfl) rfl)
      (pss_one (ps_for PassesOwn.never rfl (pi_range1 (by rfl) T.m_range (pa_cons (pe_fld (pv 0) rfl) pa_nil)) (pg_name (i := 3) sc_LineTable___init__.nd rfl (Or.inl rfl)) (pss_one (ps_for PassesOwn.never rfl (pi_list (pe_ix ix_seq (pe_fld (pv 0) rfl) (pv 3) (fun _ _ => rfl))) (pg_tup (by rfl) (pgs_cons (pg_name (i := 4) sc_LineTable___init__.nd rfl (Or.inl rfl)) (pgs_cons (pg_name (i := 5) sc_LineTable___init__.nd rfl (Or.inl rfl)) pgs_nil))) (pss_cons (ps_expr (pe_bm PySem.F.plainAttrs_list PySem.F.slot_list_append PySem.F.type_list_append mt_append (pe_ix ix_seq (pe_fld (pv 0) rfl) (pv 4) (fun _ _ => rfl)) (pa_cons (pv 3) pa_nil)))
      (pss_one (ps_if (pt_val (pe_fld (pv 0) rfl)) (pss_one (ps_nput rfl rfl (Nat.lt_of_le_of_lt (Nat.add_le_add_left (Nat.le_of_ble_eq_true rfl : 9 ≤ 64) _) hr.units) (pe_fld (pv 0) rfl) (pe_tup (pa_cons (pv 3) (pa_cons (pv 4) pa_nil))) (pe_call G_gap_spans (hr.mono (by decide)) (by rfl) T.g_gap_spans T.F_gap_spans.kp T.b_gap_spans .nil pass0 (pa_cons (pv 1) (pa_cons (pv 3) (pa_cons (pv 4) (pa_cons (pv 2) pa_nil))))) rfl)) pss_nil))))))))))))))
theorem tm_LineTable_pair {ap_count_overlapping : AP} {ap_price_with_count : AP} (T : Txt P K mg) (G_count_overlapping : FnOk P w K mg base CX0 1 T.f_count_overlapping T.fd_count_overlapping ["upper", "lower"] (toSp K ap_count_overlapping)) (G_price_with_count : FnOk P w K mg base CX0 2 T.f_price_with_count T.fd_price_with_count ["row", "middle", "end", "measure", "count"] (toSp K ap_price_with_count)) (cdv : Value) (A : Around) (outer : List PySem.Env) (s : Shared) (H : Hp) (E : XK) (hr : Room 2 (A.deeper (PyProof.Rows.envOfC "LineTable.pair" (defScope s_LineTable_pair) s.heap.objs.size T.f_LineTable_pair cdv))) :
    PSs (cxOf CX0 P w K mg base ["self", "start", "middle", "end", "count"] "LineTable.pair" (defScope s_LineTable_pair) T.f_LineTable_pair cdv A outer s H E).nox (defBody s_LineTable_pair) (t_LineTable_pair K w ap_count_overlapping ap_price_with_count) := 
      (pss_cons (ps_if (pt_cmp (pc_isN (pv 1))) (pss_one (ps_ret pe_int)) pss_nil)
      (pss_cons (ps_set (i := 4) sc_LineTable_pair.nd rfl (Or.inl rfl) pe_int)
      (pss_cons (ps_if (pt_val (pe_fld (pv 0) rfl)) (pss_one (ps_set (i := 4) sc_LineTable_pair.nd rfl (Or.inl rfl) (pe_call G_count_overlapping (hr.mono (by decide)) (by rfl) T.g_count_overlapping T.F_count_overlapping.kp T.b_count_overlapping .nil pass0 (pa_cons (pe_nget rfl rfl (Nat.lt_of_le_of_lt (Nat.add_le_add_left (Nat.le_of_ble_eq_true rfl : 9 ≤ 64) _) hr.units) (pe_fld (pv 0) rfl) (pe_tup (pa_cons (pv 1) (pa_cons (pv 2) pa_nil))) (fun _ _ => rfl)) (pa_cons (pe_nget rfl rfl (Nat.lt_of_le_of_lt (Nat.add_le_add_left (Nat.le_of_ble_eq_true rfl : 9 ≤ 64) _) hr.units) (pe_fld (pv 0) rfl) (pe_tup (pa_cons (pv 2) (pa_cons (pv 3) pa_nil))) (fun _ _ => rfl)) pa_nil))))) pss_nil)
      (pss_one (ps_ret (pe_call G_price_with_count (hr.mono (by decide)) (by rfl) T.g_price_with_count T.F_price_with_count.kp T.b_price_with_count .nil pass0 (pa_cons (pe_fld (pv 0) rfl) (pa_cons (pv 2) (pa_cons (pv 3) (pa_cons (pe_fld (pv 0) rfl) (pa_cons (pv 4) pa_nil)))))))))))
theorem tm_farthest_ends {ap_LineTable_pair : AP} (T : Txt P K mg) (G_LineTable_pair : FnOk P w K mg base CX0 3 T.f_LineTable_pair T.fd_LineTable_pair ["self", "start", "middle", "end"] (toSp K ap_LineTable_pair)) (cdv : Value) (A : Around) (outer : List PySem.Env) (s : Shared) (H : Hp) (E : XK) (hr : Room 3 (A.deeper (PyProof.Rows.envOfC "farthest_ends" (defScope s_farthest_ends) s.heap.objs.size T.f_farthest_ends cdv))) :
    PSs (cxOf CX0 P w K mg base ["table", "farthest", "middle", "best", "start", "end", "price"] "farthest_ends" (defScope s_farthest_ends) T.f_farthest_ends cdv A outer s H E).nox (defBody s_farthest_ends) (t_farthest_ends K w T.c_LineTable ap_LineTable_pair) := 
      (pss_cons (ps_set (i := 1) sc_farthest_ends.nd rfl (Or.inl rfl) (pe_nnew rfl))
      (pss_cons (ps_for PassesOwn.never rfl (pi_range3 (by rfl) T.m_range (pa_cons (pe_fld (pv 0) rfl) (pa_cons pe_int (pa_cons (pe_un un_neg pe_int) pa_nil)))) (pg_name (i := 2) sc_farthest_ends.nd rfl (Or.inl rfl)) (pss_cons (ps_set (i := 3) sc_farthest_ends.nd rfl (Or.inl rfl) pe_non)
      (pss_one (ps_for PassesOwn.never rfl (pi_list (pe_ix ix_seq (pe_fld (pv 0) rfl) (pv 2) (fun _ _ => rfl))) (pg_name (i := 4) sc_farthest_ends.nd rfl (Or.inl rfl)) (pss_cons (ps_if (PW.pt (pw_or (pt_cmp (pc_isN (pv 3))) (pw_or1 (pt_val (pe_fld (pv 0) rfl))))) (pss_cons (ps_set (i := 3) sc_farthest_ends.nd rfl (Or.inl rfl) (pv 2))
      (pss_one (ps_for PassesOwn.never rfl (pi_list (pe_ix ix_seq (pe_fld (pv 0) rfl) (pv 2) (fun _ _ => rfl))) (pg_tup (by rfl) (pgs_cons (pg_name (i := 5) sc_farthest_ends.nd rfl (Or.inl rfl)) (pgs_cons (pg_name (i := 6) sc_farthest_ends.nd rfl (Or.inl rfl)) pgs_nil))) (pss_one (ps_if (PW.pt (pw_and (pt_cmpR op_gt (pe_nget rfl rfl (Nat.lt_of_le_of_lt (Nat.add_le_add_left (Nat.le_of_ble_eq_true rfl : 9 ≤ 64) _) hr.units) (pv 1) (pe_tup (pa_cons (pv 2) (pa_cons (pv 5) pa_nil))) (fun _ _ => rfl)) (pv 3) (nomark _)) (pw_and1 (pt_cmp (pc_notN (pe_meth (pv 0) T.co_LineTable.cl T.mt_LineTable_pair G_LineTable_pair (hr.mono (by decide)) T.b_LineTable_pair .nil pass0 (pa_cons (pv 4) (pa_cons (pv 2) (pa_cons (pv 5) pa_nil))))))))) (pss_one (ps_set (i := 3) sc_farthest_ends.nd rfl (Or.inl rfl) (pe_nget rfl rfl (Nat.lt_of_le_of_lt (Nat.add_le_add_left (Nat.le_of_ble_eq_true rfl : 9 ≤ 64) _) hr.units) (pv 1) (pe_tup (pa_cons (pv 2) (pa_cons (pv 5) pa_nil))) (fun _ _ => rfl)))) pss_nil))))) pss_nil)
      (pss_one (ps_nput rfl rfl (Nat.lt_of_le_of_lt (Nat.add_le_add_left (Nat.le_of_ble_eq_true rfl : 9 ≤ 64) _) hr.units) (pv 1) (pe_tup (pa_cons (pv 4) (pa_cons (pv 2) pa_nil))) (pv 3) rfl)))))))
      (pss_one (ps_ret (pv 1)))))
theorem tm_stretch_of {ap_farthest_ends : AP} (T : Txt P K mg) (G_farthest_ends : FnOk P w K mg base CX0 4 T.f_farthest_ends T.fd_farthest_ends ["table"] (toSp K ap_farthest_ends)) (cdv : Value) (A : Around) (outer : List PySem.Env) (s : Shared) (H : Hp) (E : XK) (hr : Room 4 (A.deeper (PyProof.Rows.envOfC "stretch_of" (defScope s_stretch_of) s.heap.objs.size T.f_stretch_of cdv))) :
    PSs (cxOf CX0 P w K mg base ["table", "farthest", "covered", "shortest", "start", "length", "end", "price"] "stretch_of" (defScope s_stretch_of) T.f_stretch_of cdv A outer s H E).nox (defBody s_stretch_of) (t_stretch_of K w ap_farthest_ends) := 
      (pss_cons (ps_set (i := 1) sc_stretch_of.nd rfl (Or.inr rfl) (pe_call G_farthest_ends (hr.mono (by decide)) (by rfl) T.g_farthest_ends T.F_farthest_ends.kp T.b_farthest_ends .nil pass0 (pa_cons (pv 0) pa_nil)))
      (pss_cons (ps_set (i := 2) sc_stretch_of.nd rfl (Or.inl rfl) pe_int)
      (pss_cons (ps_set (i := 3) sc_stretch_of.nd rfl (Or.inl rfl) pe_non)
      (pss_cons (ps_for PassesOwn.never rfl (pi_range1 (by rfl) T.m_range (pa_cons (pe_fld (pv 0) rfl) pa_nil)) (pg_name (i := 4) sc_stretch_of.nd rfl (Or.inr rfl)) (pss_cons (ps_set (i := 2) sc_stretch_of.nd rfl (Or.inl rfl) (pe_callB (cr_max rfl) (by rfl) T.m_max bi_max (pa_cons (pe_op op_addG (pe_lst (pa_cons (pv 2) (pa_cons (pv 4) pa_nil))) (pe_lc (own := [("end", 6), ("price", 7)]) (g := (gTup K 2 (gCons (gName 6) (gCons (gName 7) gNil)))) (tt := tYes) (by rfl) sc_stretch_of.nd (pi_list (pe_ix ix_seq (pe_fld (pv 0) rfl) (pv 4) (fun _ _ => rfl))) (blkOk_by (own := [("end", 6), ("price", 7)]) (N := ["table", "farthest", "covered", "shortest", "start", "length", "end", "price"]) (sc := defScope s_stretch_of) (by decide +kernel)) (fun _ _ _ _ _ => (pg_tup (by rfl) (pgs_cons (pg_name (i := 6) sc_stretch_of.nd rfl (Or.inl rfl)) (pgs_cons (pg_name (i := 7) sc_stretch_of.nd rfl (Or.inl rfl)) pgs_nil)))) (fun _ _ _ _ _ => pts_nil) (fun _ _ _ _ _ => (pe_nget rfl rfl (Nat.lt_of_le_of_lt (Nat.add_le_add_left (Nat.le_of_ble_eq_true rfl : 9 ≤ 64) _) hr.units) (pv 1) (pe_tup (pa_cons (pv 4) (pa_cons (pv 6) pa_nil))) (fun _ _ => rfl))))) pa_nil)))
      (pss_cons (ps_set (i := 5) sc_stretch_of.nd rfl (Or.inl rfl) (pe_op op_sub (pe_op op_addG (pv 2) pe_int) (pv 4)))
      (pss_one (ps_if (PW.pt (pw_and (pt_cmpR (op_ltG hr.units0) (pv 2) (pe_fld (pv 0) rfl) (nomark _)) (pw_and1 (PW.pt (pw_or (pt_cmp (pc_isN (pv 3))) (pw_or1 (pt_cmpR (op_ltG hr.units0) (pv 5) (pe_op op_sub (pe_ix ix_seq (pv 3) pe_int (fun _ _ => rfl)) (pe_ix ix_seq (pv 3) pe_int (fun _ _ => rfl))) (nomark _)))))))) (pss_one (ps_set (i := 3) sc_stretch_of.nd rfl (Or.inl rfl) (pe_tup (pa_cons (pv 4) (pa_cons (pe_op op_addG (pv 2) pe_int) pa_nil))))) pss_nil)))))
      (pss_one (ps_ret (pv 3)))))))
theorem tm_continuations {ap_LineTable_pair : AP} (T : Txt P K mg) (G_LineTable_pair : FnOk P w K mg base CX0 3 T.f_LineTable_pair T.fd_LineTable_pair ["self", "start", "middle", "end"] (toSp K ap_LineTable_pair)) (cdv : Value) (A : Around) (outer : List PySem.Env) (s : Shared) (H : Hp) (E : XK) (hr : Room 3 (A.deeper (PyProof.Rows.envOfC "continuations" (defScope s_continuations) s.heap.objs.size T.f_continuations cdv))) :
    PSs (cxOf CX0 P w K mg base ["table", "best", "start", "middle", "found", "end", "price", "pair", "rest", "lines", "next_end"] "continuations" (defScope s_continuations) T.f_continuations cdv A outer s H E).nox (defBody s_continuations) (t_continuations K w T.c_LineTable ap_LineTable_pair) := 
      (pss_cons (ps_set (i := 4) sc_continuations.nd rfl (Or.inl rfl) (pe_lst pa_nil))
      (pss_cons (ps_for PassesOwn.never rfl (pi_list (pe_ix ix_seq (pe_fld (pv 0) rfl) (pv 3) (fun _ _ => rfl))) (pg_tup (by rfl) (pgs_cons (pg_name (i := 5) sc_continuations.nd rfl (Or.inl rfl)) (pgs_cons (pg_name (i := 6) sc_continuations.nd rfl (Or.inl rfl)) pgs_nil))) (pss_one (ps_if (pt_cmp (pc_nin rfl rfl (Nat.lt_of_le_of_lt (Nat.add_le_add_left (Nat.le_of_ble_eq_true rfl : 9 ≤ 64) _) hr.units) (pe_tup (pa_cons (pv 3) (pa_cons (pv 5) pa_nil))) (pv 1))) (pss_cons (ps_set (i := 7) sc_continuations.nd rfl (Or.inl rfl) (pe_meth (pv 0) T.co_LineTable.cl T.mt_LineTable_pair G_LineTable_pair (hr.mono (by decide)) T.b_LineTable_pair .nil pass0 (pa_cons (pv 2) (pa_cons (pv 3) (pa_cons (pv 5) pa_nil)))))
      (pss_one (ps_if (pt_cmp (pc_notN (pv 7))) (pss_cons (ps_asg (pe_nget rfl rfl (Nat.lt_of_le_of_lt (Nat.add_le_add_left (Nat.le_of_ble_eq_true rfl : 9 ≤ 64) _) hr.units) (pv 1) (pe_tup (pa_cons (pv 3) (pa_cons (pv 5) pa_nil))) (fun _ _ => rfl)) (pg_tup (by rfl) (pgs_cons (pg_name (i := 8) sc_continuations.nd rfl (Or.inl rfl)) (pgs_cons (pg_name (i := 9) sc_continuations.nd rfl (Or.inl rfl)) (pgs_cons (pg_name (i := 10) sc_continuations.nd rfl (Or.inl rfl)) pgs_nil)))))
      (pss_one (ps_expr (pe_bm PySem.F.plainAttrs_list PySem.F.slot_list_append PySem.F.type_list_append mt_append (pv 4) (pa_cons (pe_tup (pa_cons (pe_op op_addG (pe_op op_addG (pv 7) (pv 6)) (pv 8)) (pa_cons (pe_op op_addG (pv 9) pe_int) (pa_cons (pv 5) pa_nil)))) pa_nil))))) pss_nil))) pss_nil)))
      (pss_one (ps_ret (pv 4)))))
theorem tm_best_continuations {ap_continuations : AP} (T : Txt P K mg) (G_continuations : FnOk P w K mg base CX0 4 T.f_continuations T.fd_continuations ["table", "best", "start", "middle"] (toSp K ap_continuations)) (cdv : Value) (A : Around) (outer : List PySem.Env) (s : Shared) (H : Hp) (E : XK) (hr : Room 4 (A.deeper (PyProof.Rows.envOfC "best_continuations" (defScope s_best_continuations) s.heap.objs.size T.f_best_continuations cdv))) :
    PSs (cxOf CX0 P w K mg base ["table", "best", "start", "middle", "found"] "best_continuations" (defScope s_best_continuations) T.f_best_continuations cdv A outer s H E).nox (defBody s_best_continuations) (t_best_continuations K w ap_continuations) := 
      (pss_cons (ps_set (i := 1) sc_best_continuations.nd rfl (Or.inl rfl) (pe_nnew rfl))
      (pss_cons (ps_for PassesOwn.never rfl (pi_list (pe_ix ix_seq (pe_fld (pv 0) rfl) (pe_fld (pv 0) rfl) (fun _ _ => rfl))) (pg_name (i := 2) sc_best_continuations.nd rfl (Or.inl rfl)) (pss_one (ps_nput rfl rfl (Nat.lt_of_le_of_lt (Nat.add_le_add_left (Nat.le_of_ble_eq_true rfl : 9 ≤ 64) _) hr.units) (pv 1) (pe_tup (pa_cons (pv 2) (pa_cons (pe_fld (pv 0) rfl) pa_nil))) (pe_tup (pa_cons pe_int (pa_cons pe_int (pa_cons pe_non pa_nil)))) rfl)))
      (pss_cons (ps_for PassesOwn.never rfl (pi_range3 (by rfl) T.m_range (pa_cons (pe_op op_sub (pe_fld (pv 0) rfl) pe_int) (pa_cons pe_int (pa_cons (pe_un un_neg pe_int) pa_nil)))) (pg_name (i := 3) sc_best_continuations.nd rfl (Or.inl rfl)) (pss_cons (ps_set (i := 4) sc_best_continuations.nd rfl (Or.inl rfl) pe_non)
      (pss_one (ps_for PassesOwn.never rfl (pi_list (pe_ix ix_seq (pe_fld (pv 0) rfl) (pv 3) (fun _ _ => rfl))) (pg_name (i := 2) sc_best_continuations.nd rfl (Or.inl rfl)) (pss_cons (ps_if (PW.pt (pw_or (pt_cmp (pc_isN (pv 4))) (pw_or1 (pt_val (pe_fld (pv 0) rfl))))) (pss_one (ps_set (i := 4) sc_best_continuations.nd rfl (Or.inl rfl) (pe_call G_continuations (hr.mono (by decide)) (by rfl) T.g_continuations T.F_continuations.kp T.b_continuations .nil pass0 (pa_cons (pv 0) (pa_cons (pv 1) (pa_cons (pv 2) (pa_cons (pv 3) pa_nil))))))) pss_nil)
      (pss_one (ps_if (pt_cmpR op_gt (pe_callB call_len (by rfl) T.m_len bi_len (pa_cons (pv 4) pa_nil)) pe_int (nomark _)) (pss_one (ps_nput rfl rfl (Nat.lt_of_le_of_lt (Nat.add_le_add_left (Nat.le_of_ble_eq_true rfl : 9 ≤ 64) _) hr.units) (pv 1) (pe_tup (pa_cons (pv 2) (pa_cons (pv 3) pa_nil))) (pe_callB (cr_minD rfl (Nat.lt_of_le_of_lt (Nat.add_le_add_left (Nat.le_of_ble_eq_true rfl : 12 ≤ 64) _) hr.units)) (by rfl) T.m_min bi_min (pa_cons (pv 4) pa_nil)) rfl)) pss_nil)))))))
      (pss_one (ps_ret (pv 1))))))
theorem tm_break_lines {ai_LineTable : AI} {ap_best_continuations : AP} {ap_continuations : AP} {ap_stretch_of : AP} (T : Txt P K mg) (G_LineTable___init__ : FnOk P w K mg base CX0 8 T.f_LineTable___init__ T.fd_LineTable___init__ ["self", "row", "measure"] (toSpI K T.c_LineTable ai_LineTable)) (G_best_continuations : FnOk P w K mg base CX0 5 T.f_best_continuations T.fd_best_continuations ["table"] (toSp K ap_best_continuations)) (G_continuations : FnOk P w K mg base CX0 4 T.f_continuations T.fd_continuations ["table", "best", "start", "middle"] (toSp K ap_continuations)) (G_stretch_of : FnOk P w K mg base CX0 5 T.f_stretch_of T.fd_stretch_of ["table"] (toSp K ap_stretch_of)) (GE_Blocked : FnOk P w K mg base CX0 1 T.fi_Blocked T.fe_Blocked ["self", "start", "end"] (spE2 T.c_Blocked "start" "end")) (cdv : Value) (A : Around) (outer : List PySem.Env) (s : Shared) (H : Hp) (E : XK) (hr : Room 9 (A.deeper (PyProof.Rows.envOfC "break_lines" (defScope s_break_lines) s.heap.objs.size T.f_break_lines cdv))) :
    PSs (cxOf (L2.CX P w) P w K mg base ["row", "measure", "table", "best", "found", "start", "end", "price", "lines", "ends"] "break_lines" (defScope s_break_lines) T.f_break_lines cdv A outer s H E) (defBody s_break_lines) (t_break_lines K w T.c_LineTable T.c_Blocked ai_LineTable ap_best_continuations ap_continuations ap_stretch_of (fun cls d _ H' => E cls d H')) := 
      (pss_cons (ps_set (i := 2) sc_break_lines.nd rfl (Or.inl rfl) (pe_make T.mk_LineTable G_LineTable___init__ (hr.mono (by decide)) (by rfl) T.g_LineTable T.b_LineTable___init__ .nil pass0 (pa_cons (pv 0) (pa_cons (pv 1) pa_nil))))
      (pss_cons (ps_if (pt_cmpR (op_eqG hr.units) (pe_fld (pv 2) rfl) pe_int (nomark _)) (pss_one (ps_ret (pe_tup (pa_cons pe_int (pa_cons (pe_tup pa_nil) pa_nil))))) pss_nil)
      (pss_cons (ps_set (i := 3) sc_break_lines.nd rfl (Or.inl rfl) (pe_call G_best_continuations (hr.mono (by decide)) (by rfl) T.g_best_continuations T.F_best_continuations.kp T.b_best_continuations .nil pass0 (pa_cons (pv 2) pa_nil)))
      (pss_cons (ps_set (i := 4) sc_break_lines.nd rfl (Or.inl rfl) (pe_call G_continuations (hr.mono (by decide)) (by rfl) T.g_continuations T.F_continuations.kp T.b_continuations .nil pass0 (pa_cons (pv 2) (pa_cons (pv 3) (pa_cons pe_non (pa_cons pe_int pa_nil))))))
      (pss_cons (ps_if (pt_cmpR (op_eqG hr.units) (pe_callB call_len (by rfl) T.m_len bi_len (pa_cons (pv 4) pa_nil)) pe_int (nomark _)) (pss_cons (ps_asg (pe_call G_stretch_of (hr.mono (by decide)) (by rfl) T.g_stretch_of T.F_stretch_of.kp T.b_stretch_of .nil pass0 (pa_cons (pv 2) pa_nil)) (pg_tup (by rfl) (pgs_cons (pg_name (i := 5) sc_break_lines.nd rfl (Or.inl rfl)) (pgs_cons (pg_name (i := 6) sc_break_lines.nd rfl (Or.inl rfl)) pgs_nil))))
      (pss_one (ps_raise rfl (takes_of rfl rfl rfl rfl) (pmk_oex T.ox_Blocked T.ic_Blocked T.ti_Blocked GE_Blocked (hr.mono (by decide)) T.be_Blocked .nil pass0 (by rfl) T.g_Blocked (pa_cons (pv 5) (pa_cons (pv 6) pa_nil)))))) pss_nil)
      (pss_cons (ps_asg (pe_callB (cr_minD rfl (Nat.lt_of_le_of_lt (Nat.add_le_add_left (Nat.le_of_ble_eq_true rfl : 12 ≤ 64) _) hr.units)) (by rfl) T.m_min bi_min (pa_cons (pv 4) pa_nil)) (pg_tup (by rfl) (pgs_cons (pg_name (i := 7) sc_break_lines.nd rfl (Or.inl rfl)) (pgs_cons (pg_name (i := 8) sc_break_lines.nd rfl (Or.inl rfl)) (pgs_cons (pg_name (i := 6) sc_break_lines.nd rfl (Or.inl rfl)) pgs_nil)))))
      (pss_cons (ps_set (i := 5) sc_break_lines.nd rfl (Or.inl rfl) pe_int)
      (pss_cons (ps_set (i := 9) sc_break_lines.nd rfl (Or.inl rfl) (pe_lst (pa_cons (pv 6) pa_nil)))
      (pss_cons (ps_while (passes_of rfl) (pt_cmpR (op_ltG hr.units0) (pv 6) (pe_fld (pv 2) rfl) (nomark _)) (pss_cons (ps_par (i := 5) (j := 6) rfl sc_break_lines.nd rfl rfl (by decide) rfl rfl (pa_cons (pv 6) (pa_cons (pe_ix ix_seq (pe_nget rfl rfl (Nat.lt_of_le_of_lt (Nat.add_le_add_left (Nat.le_of_ble_eq_true rfl : 9 ≤ 64) _) hr.units) (pv 3) (pe_tup (pa_cons (pv 5) (pa_cons (pv 6) pa_nil))) (fun _ _ => rfl)) pe_int (fun _ _ => rfl)) pa_nil)) rfl)
      (pss_one (ps_expr (pe_bm PySem.F.plainAttrs_list PySem.F.slot_list_append PySem.F.type_list_append mt_append (pv 9) (pa_cons (pv 6) pa_nil))))))
      (pss_one (ps_ret (pe_tup (pa_cons (pv 7) (pa_cons (pe_callTy call_tuple_of (by rfl) T.m_tuple bi_tuple (pa_cons (pv 9) pa_nil)) pa_nil))))))))))))))
theorem tm_prefixes_to (T : Txt P K mg) (cdv : Value) (A : Around) (outer : List PySem.Env) (s : Shared) (H : Hp) (E : XK) (hr : Room 0 (A.deeper (PyProof.Rows.envOfC "prefixes_to" (defScope s_prefixes_to) s.heap.objs.size T.f_prefixes_to cdv))) :
    PSs (cxOf CX0 P w K mg base ["table", "best", "place", "found", "start"] "prefixes_to" (defScope s_prefixes_to) T.f_prefixes_to cdv A outer s H E).nox (defBody s_prefixes_to) (t_prefixes_to K w) := 
      (pss_cons (ps_if (pt_cmpR (op_eqG hr.units) (pv 2) pe_int (nomark _)) (pss_one (ps_ret (pe_lst (pa_cons (pe_tup (pa_cons pe_int (pa_cons pe_int (pa_cons (pe_tup pa_nil) (pa_cons pe_non pa_nil))))) pa_nil)))) pss_nil)
      (pss_cons (ps_setLc (i := 3) (own := [("start", 4)]) (g := (gName 4)) (tt := (tB (tNIn K w (tTup (tCons (tVar 4) (tCons (tVar 2) tNil))) (tVar 1)))) (by rfl) sc_prefixes_to.nd rfl rfl (sw_true rfl rfl rfl (by decide +kernel)) (pi_list (pe_ix ix_seq (pe_fld (pv 0) rfl) (pv 2) (fun _ _ => rfl))) (blkOk_by (own := [("start", 4)]) (N := ["table", "best", "place", "found", "start"]) (sc := defScope s_prefixes_to) (by decide +kernel)) (fun _ _ _ _ _ => (pg_name (i := 4) sc_prefixes_to.nd rfl (Or.inl rfl))) (fun _ _ _ _ _ => (pts_one (pt_cmp (pc_nin rfl rfl (Nat.lt_of_le_of_lt (Nat.add_le_add_left (Nat.le_of_ble_eq_true rfl : 9 ≤ 64) _) hr.units) (pe_tup (pa_cons (pv 4) (pa_cons (pv 2) pa_nil))) (pv 1))))) (fun _ _ _ _ _ => (pe_op op_addG (pe_nget rfl rfl (Nat.lt_of_le_of_lt (Nat.add_le_add_left (Nat.le_of_ble_eq_true rfl : 9 ≤ 64) _) hr.units) (pv 1) (pe_tup (pa_cons (pv 4) (pa_cons (pv 2) pa_nil))) (fun _ _ => rfl)) (pe_tup (pa_cons (pv 4) pa_nil)))))
      (pss_cons (ps_if (PW.pt (pw_and (pt_cmpR op_gt (pe_callB call_len (by rfl) T.m_len bi_len (pa_cons (pv 3) pa_nil)) pe_int (nomark _)) (pw_and1 (pt_not (pt_val (pe_fld (pv 0) rfl)))))) (pss_one (ps_ret (pe_lst (pa_cons (pe_callB (cr_minD rfl (Nat.lt_of_le_of_lt (Nat.add_le_add_left (Nat.le_of_ble_eq_true rfl : 12 ≤ 64) _) hr.units)) (by rfl) T.m_min bi_min (pa_cons (pv 3) pa_nil)) pa_nil)))) pss_nil)
      (pss_one (ps_ret (pv 3))))))
theorem tm_best_prefixes {ap_prefixes_to : AP} {ap_LineTable_pair : AP} (T : Txt P K mg) (G_prefixes_to : FnOk P w K mg base CX0 1 T.f_prefixes_to T.fd_prefixes_to ["table", "best", "place"] (toSp K ap_prefixes_to)) (G_LineTable_pair : FnOk P w K mg base CX0 3 T.f_LineTable_pair T.fd_LineTable_pair ["self", "start", "middle", "end"] (toSp K ap_LineTable_pair)) (cdv : Value) (A : Around) (outer : List PySem.Env) (s : Shared) (H : Hp) (E : XK) (hr : Room 3 (A.deeper (PyProof.Rows.envOfC "best_prefixes" (defScope s_best_prefixes) s.heap.objs.size T.f_best_prefixes cdv))) :
    PSs (cxOf CX0 P w K mg base ["table", "best", "middle", "prefixes", "end", "price", "found", "spent", "lines", "ends", "start", "pair"] "best_prefixes" (defScope s_best_prefixes) T.f_best_prefixes cdv A outer s H E).nox (defBody s_best_prefixes) (t_best_prefixes K w T.c_LineTable ap_prefixes_to ap_LineTable_pair) := 
      (pss_cons (ps_set (i := 1) sc_best_prefixes.nd rfl (Or.inl rfl) (pe_nnew rfl))
      (pss_cons (ps_for PassesOwn.never rfl (pi_range1 (by rfl) T.m_range (pa_cons (pe_fld (pv 0) rfl) pa_nil)) (pg_name (i := 2) sc_best_prefixes.nd rfl (Or.inl rfl)) (pss_cons (ps_set (i := 3) sc_best_prefixes.nd rfl (Or.inl rfl) (pe_call G_prefixes_to (hr.mono (by decide)) (by rfl) T.g_prefixes_to T.F_prefixes_to.kp T.b_prefixes_to .nil pass0 (pa_cons (pv 0) (pa_cons (pv 1) (pa_cons (pv 2) pa_nil)))))
      (pss_one (ps_for PassesOwn.never rfl (pi_list (pe_ix ix_seq (pe_fld (pv 0) rfl) (pv 2) (fun _ _ => rfl))) (pg_tup (by rfl) (pgs_cons (pg_name (i := 4) sc_best_prefixes.nd rfl (Or.inl rfl)) (pgs_cons (pg_name (i := 5) sc_best_prefixes.nd rfl (Or.inl rfl)) pgs_nil))) (pss_cons (ps_set (i := 6) sc_best_prefixes.nd rfl (Or.inl rfl) (pe_lst pa_nil))
      (pss_cons (ps_for PassesOwn.never rfl (pi_list (pv 3)) (pg_tup (by rfl) (pgs_cons (pg_name (i := 7) sc_best_prefixes.nd rfl (Or.inl rfl)) (pgs_cons (pg_name (i := 8) sc_best_prefixes.nd rfl (Or.inl rfl)) (pgs_cons (pg_name (i := 9) sc_best_prefixes.nd rfl (Or.inl rfl)) (pgs_cons (pg_name (i := 10) sc_best_prefixes.nd rfl (Or.inl rfl)) pgs_nil))))) (pss_cons (ps_set (i := 11) sc_best_prefixes.nd rfl (Or.inl rfl) (pe_meth (pv 0) T.co_LineTable.cl T.mt_LineTable_pair G_LineTable_pair (hr.mono (by decide)) T.b_LineTable_pair .nil pass0 (pa_cons (pv 10) (pa_cons (pv 2) (pa_cons (pv 4) pa_nil)))))
      (pss_one (ps_if (pt_cmp (pc_notN (pv 11))) (pss_one (ps_expr (pe_bm PySem.F.plainAttrs_list PySem.F.slot_list_append PySem.F.type_list_append mt_append (pv 6) (pa_cons (pe_tup (pa_cons (pe_op op_addG (pe_op op_addG (pv 7) (pv 11)) (pv 5)) (pa_cons (pe_op op_addG (pv 8) pe_int) (pa_cons (pe_op op_addG (pv 9) (pe_tup (pa_cons (pv 4) pa_nil))) pa_nil)))) pa_nil)))) pss_nil))))
      (pss_one (ps_if (pt_cmpR op_gt (pe_callB call_len (by rfl) T.m_len bi_len (pa_cons (pv 6) pa_nil)) pe_int (nomark _)) (pss_one (ps_nput rfl rfl (Nat.lt_of_le_of_lt (Nat.add_le_add_left (Nat.le_of_ble_eq_true rfl : 9 ≤ 64) _) hr.units) (pv 1) (pe_tup (pa_cons (pv 2) (pa_cons (pv 4) pa_nil))) (pe_callB (cr_minD rfl (Nat.lt_of_le_of_lt (Nat.add_le_add_left (Nat.le_of_ble_eq_true rfl : 12 ≤ 64) _) hr.units)) (by rfl) T.m_min bi_min (pa_cons (pv 6) pa_nil)) rfl)) pss_nil))))))))
      (pss_one (ps_ret (pv 1)))))
theorem tm_line_certificate {ai_LineTable : AI} {ap_best_prefixes : AP} {ap_best_continuations : AP} (T : Txt P K mg) (G_LineTable___init__ : FnOk P w K mg base CX0 8 T.f_LineTable___init__ T.fd_LineTable___init__ ["self", "row", "measure"] (toSpI K T.c_LineTable ai_LineTable)) (G_best_prefixes : FnOk P w K mg base CX0 4 T.f_best_prefixes T.fd_best_prefixes ["table"] (toSp K ap_best_prefixes)) (G_best_continuations : FnOk P w K mg base CX0 5 T.f_best_continuations T.fd_best_continuations ["table"] (toSp K ap_best_continuations)) (cdv : Value) (A : Around) (outer : List PySem.Env) (s : Shared) (H : Hp) (E : XK) (hr : Room 9 (A.deeper (PyProof.Rows.envOfC "line_certificate" (defScope s_line_certificate) s.heap.objs.size T.f_line_certificate cdv))) :
    PSs (cxOf CX0 P w K mg base ["row", "measure", "table", "reached", "behind", "certificate", "start", "end", "price", "rest"] "line_certificate" (defScope s_line_certificate) T.f_line_certificate cdv A outer s H E).nox (defBody s_line_certificate) (t_line_certificate K w T.c_LineTable ai_LineTable ap_best_prefixes ap_best_continuations) := 
      (pss_cons (ps_set (i := 2) sc_line_certificate.nd rfl (Or.inl rfl) (pe_make T.mk_LineTable G_LineTable___init__ (hr.mono (by decide)) (by rfl) T.g_LineTable T.b_LineTable___init__ .nil pass0 (pa_cons (pv 0) (pa_cons (pv 1) pa_nil))))
      (pss_cons (ps_set (i := 3) sc_line_certificate.nd rfl (Or.inl rfl) (pe_call G_best_prefixes (hr.mono (by decide)) (by rfl) T.g_best_prefixes T.F_best_prefixes.kp T.b_best_prefixes .nil pass0 (pa_cons (pv 2) pa_nil)))
      (pss_cons (ps_set (i := 4) sc_line_certificate.nd rfl (Or.inl rfl) (pe_call G_best_continuations (hr.mono (by decide)) (by rfl) T.g_best_continuations T.F_best_continuations.kp T.b_best_continuations .nil pass0 (pa_cons (pv 2) pa_nil)))
      (pss_cons (ps_set (i := 5) sc_line_certificate.nd rfl (Or.inl rfl) (pe_lst pa_nil))
      (pss_cons (ps_for PassesOwn.never rfl (pi_range1 (by rfl) T.m_range (pa_cons (pe_fld (pv 2) rfl) pa_nil)) (pg_name (i := 6) sc_line_certificate.nd rfl (Or.inl rfl)) (pss_one (ps_for PassesOwn.never rfl (pi_list (pe_ix ix_seq (pe_fld (pv 2) rfl) (pv 6) (fun _ _ => rfl))) (pg_tup (by rfl) (pgs_cons (pg_name (i := 7) sc_line_certificate.nd rfl (Or.inl rfl)) (pgs_cons (pg_name (i := 8) sc_line_certificate.nd rfl (Or.inl rfl)) pgs_nil))) (pss_one (ps_if (pt_cmp (pc_nin rfl rfl (Nat.lt_of_le_of_lt (Nat.add_le_add_left (Nat.le_of_ble_eq_true rfl : 9 ≤ 64) _) hr.units) (pe_tup (pa_cons (pv 6) (pa_cons (pv 7) pa_nil))) (pv 3))) (pss_cons (ps_set (i := 9) sc_line_certificate.nd rfl (Or.inl rfl) (pe_ifExp (pt_cmp (pc_nin rfl rfl (Nat.lt_of_le_of_lt (Nat.add_le_add_left (Nat.le_of_ble_eq_true rfl : 9 ≤ 64) _) hr.units) (pe_tup (pa_cons (pv 6) (pa_cons (pv 7) pa_nil))) (pv 4))) (pe_ix ix_seq (pe_nget rfl rfl (Nat.lt_of_le_of_lt (Nat.add_le_add_left (Nat.le_of_ble_eq_true rfl : 9 ≤ 64) _) hr.units) (pv 4) (pe_tup (pa_cons (pv 6) (pa_cons (pv 7) pa_nil))) (fun _ _ => rfl)) pe_int (fun _ _ => rfl)) pe_non))
      (pss_one (ps_expr (pe_bm PySem.F.plainAttrs_list PySem.F.slot_list_append PySem.F.type_list_append mt_append (pv 5) (pa_cons (pe_tup (pa_cons (pv 6) (pa_cons (pv 7) (pa_cons (pv 8) (pa_cons (pv 9) pa_nil))))) pa_nil))))) pss_nil)))))
      (pss_one (ps_ret (pv 5))))))))
theorem tm_Measure___init__ (T : Txt P K mg) (cdv : Value) (A : Around) (outer : List PySem.Env) (s : Shared) (H : Hp) (E : XK) (hr : Room 0 (A.deeper (PyProof.Rows.envOfC "Measure.__init__" (defScope s_Measure___init__) s.heap.objs.size T.f_Measure___init__ cdv))) :
    PSs (cxOf CX0 P w K mg base ["self", "width", "indent", "align", "hyphen", "twin", "river", "loose"] "Measure.__init__" (defScope s_Measure___init__) T.f_Measure___init__ cdv A outer s H E).nox (defBody s_Measure___init__) (t_Measure___init__ K) := 
      (pss_cons (ps_fld (pv 0) (pv 1) rfl)
      (pss_cons (ps_fld (pv 0) (pv 2) rfl)
      (pss_cons (ps_fld (pv 0) (pv 3) rfl)
      (pss_cons (ps_fld (pv 0) (pv 4) rfl)
      (pss_cons (ps_fld (pv 0) (pv 5) rfl)
      (pss_cons (ps_fld (pv 0) (pv 6) rfl)
      (pss_one (ps_fld (pv 0) (pv 7) rfl))))))))
theorem tm_Measure_of {ai_Measure : AI} (T : Txt P K mg) (G_Measure___init__ : FnOk P w K mg base CX0 1 T.f_Measure___init__ T.fd_Measure___init__ ["self", "width", "indent", "align", "hyphen", "twin", "river", "loose"] (toSpI K T.c_Measure ai_Measure)) (cdv : Value) (A : Around) (outer : List PySem.Env) (s : Shared) (H : Hp) (E : XK) (hr : Room 2 (A.deeper (PyProof.Rows.envOfC "Measure.of" (defScope s_Measure_of) s.heap.objs.size T.f_Measure_of cdv))) :
    PSs (cxOf CX0 P w K mg base ["key", "width", "indent", "align", "hyphen", "twin", "river", "loose"] "Measure.of" (defScope s_Measure_of) T.f_Measure_of cdv A outer s H E).nox (defBody s_Measure_of) (t_Measure_of K T.c_Measure ai_Measure) := by
      obtain ⟨mv_0, KB_0⟩ := kb_0 T
      exact
      (pss_cons (ps_asg (pv 0) (pg_tup (by rfl) (pgs_cons (pg_name (i := 1) sc_Measure_of.nd rfl (Or.inl rfl)) (pgs_cons (pg_name (i := 2) sc_Measure_of.nd rfl (Or.inl rfl)) (pgs_cons (pg_name (i := 3) sc_Measure_of.nd rfl (Or.inl rfl)) (pgs_cons (pg_name (i := 4) sc_Measure_of.nd rfl (Or.inl rfl)) (pgs_cons (pg_name (i := 5) sc_Measure_of.nd rfl (Or.inl rfl)) (pgs_cons (pg_name (i := 6) sc_Measure_of.nd rfl (Or.inl rfl)) (pgs_cons (pg_name (i := 7) sc_Measure_of.nd rfl (Or.inl rfl)) pgs_nil)))))))))
      (pss_one (ps_ret (pe_makeKm T.mk_Measure G_Measure___init__ (hr.mono (by decide)) (by rfl) T.g_Measure KB_0 pass0 (pa_cons (pv 1) pa_nil) (pk_cons (pv 2) (pk_cons (pv 3) (pk_cons (pv 4) (pk_cons (pv 5) (pk_cons (pv 6) (pk_cons (pv 7) pk_nil)))))) rfl))))
theorem tm__law_pool (T : Txt P K mg) (cdv : Value) (A : Around) (outer : List PySem.Env) (s : Shared) (H : Hp) (E : XK) (hr : Room 0 (A.deeper (PyProof.Rows.envOfC "_law_pool" (defScope s__law_pool) s.heap.objs.size T.f__law_pool cdv))) :
    PSs (cxOf CX0 P w K mg base ["_law_script", "_law_at", "_law_cell"] "_law_pool" (defScope s__law_pool) T.f__law_pool cdv A outer s H E).nox (defBody s__law_pool) (t__law_pool K) := 
      (pss_cons (ps_set (i := 2) sc__law_pool.nd rfl (Or.inl rfl) pe_int)
      (pss_cons (ps_if (pt_cmpR (op_ltG hr.units0) (pv 1) (pe_callB call_len (by rfl) T.m_len bi_len (pa_cons (pv 0) pa_nil)) (nomark _)) (pss_one (ps_set (i := 2) sc__law_pool.nd rfl (Or.inl rfl) (pe_callB call_abs (by rfl) T.m_abs bi_abs (pa_cons (pe_callTy call_int1 (by rfl) T.m_int bi_int (pa_cons (pe_ix ix_seq (pv 0) (pv 1) (fun _ _ => rfl)) pa_nil)) pa_nil)))) pss_nil)
      (pss_one (ps_ret (pe_lst (pa_cons (pv 2) (pa_cons pe_int (pa_cons (pe_callTy call_int1 (by rfl) T.m_int bi_int (pa_cons (pe_cmpR op_ge (pv 2) (pe_op op_pow pe_int pe_int) (nomark _)) pa_nil)) (pa_cons (pe_op op_mod (pe_callTy call_int1 (by rfl) T.m_int bi_int (pa_cons (pe_op op_addG (pv 2) (pe_op op_mulG (pv 1) pe_int)) pa_nil)) pe_int) (pa_cons pe_int pa_nil))))))))))
theorem tm__law_take (T : Txt P K mg) (cdv : Value) (A : Around) (outer : List PySem.Env) (s : Shared) (H : Hp) (E : XK) (hr : Room 0 (A.deeper (PyProof.Rows.envOfC "_law_take" (defScope s__law_take) s.heap.objs.size T.f__law_take cdv))) :
    PSs (cxOf CX0 P w K mg base ["_law_pool_here", "_law_many", "_law_got", "_law_one", "_law_two"] "_law_take" (defScope s__law_take) T.f__law_take cdv A outer s H E).nox (defBody s__law_take) (t__law_take K) := 
      (pss_cons (ps_asg (pe_op op_addG (pe_ix ix_seq (pv 0) pe_int (fun _ _ => rfl)) pe_int) (pg_sub (pv 0) pe_int set_list))
      (pss_cons (ps_if (pt_cmpR (op_eqG hr.units) (pe_ix ix_seq (pv 0) pe_int (fun _ _ => rfl)) pe_int (nomark _)) (pss_cons (ps_set (i := 2) sc__law_take.nd rfl (Or.inl rfl) (pe_op op_mod (pe_callTy call_int1 (by rfl) T.m_int bi_int (pa_cons (pe_ix ix_seq (pv 0) pe_int (fun _ _ => rfl)) pa_nil)) (pv 1)))
      (pss_cons (ps_asg (pe_op op_fdivW (pe_ix ix_seq (pv 0) pe_int (fun _ _ => rfl)) (pv 1)) (pg_sub (pv 0) pe_int set_list))
      (pss_one (ps_ret (pv 2))))) pss_nil)
      (pss_cons (ps_set (i := 3) sc__law_take.nd rfl (Or.inl rfl) (pe_op op_mod (pe_callTy call_int1 (by rfl) T.m_int bi_int (pa_cons (pe_op op_addG (pe_op op_addG (pe_op op_mulG (pe_ix ix_seq (pv 0) pe_int (fun _ _ => rfl)) pe_int) (pe_op op_mulG (pe_ix ix_seq (pv 0) pe_int (fun _ _ => rfl)) pe_int)) pe_int) pa_nil)) pe_int))
      (pss_cons (ps_set (i := 4) sc__law_take.nd rfl (Or.inl rfl) (pe_op op_mod (pe_callTy call_int1 (by rfl) T.m_int bi_int (pa_cons (pe_op op_addG (pe_op op_addG (pe_op op_mulG (pv 3) pe_int) (pe_op op_fdivW (pv 3) pe_int)) (pe_op op_mulG (pe_op op_mulG (pe_ix ix_seq (pv 0) pe_int (fun _ _ => rfl)) (pe_ix ix_seq (pv 0) pe_int (fun _ _ => rfl))) pe_int)) pa_nil)) pe_int))
      (pss_one (ps_ret (pe_op op_mod (pe_callTy call_int1 (by rfl) T.m_int bi_int (pa_cons (pe_op op_fdivW (pv 4) (pe_op op_addG (pe_ix ix_seq (pv 0) pe_int (fun _ _ => rfl)) pe_int)) pa_nil)) (pv 1))))))))
theorem tm__law_same {ap__law_same : AP} (T : Txt P K mg) {k : Nat} (G__law_same : FnOk P w K mg base CX0 k T.f__law_same T.fd__law_same ["_law_one", "_law_two"] (toSp K ap__law_same)) (cdv : Value) (A : Around) (outer : List PySem.Env) (s : Shared) (H : Hp) (E : XK) (hr : Room k (A.deeper (PyProof.Rows.envOfC "_law_same" (defScope s__law_same) s.heap.objs.size T.f__law_same cdv))) :
    PSs (cxOf CX0 P w K mg base ["_law_one", "_law_two", "_law_both", "_law_k"] "_law_same" (defScope s__law_same) T.f__law_same cdv A outer s H E).nox (defBody s__law_same) (t__law_same K ap__law_same) := 
      (pss_cons (ps_if (PW.pt (pw_or (pt_val (pe_callB call_isi (by rfl) T.m_isinstance bi_isinstance (pa_cons (pv 0) (pa_cons (pe_bltn (v := .ty "bool") (by rfl) T.m_bool bi_bool rfl) pa_nil)))) (pw_or1 (pt_val (pe_callB call_isi (by rfl) T.m_isinstance bi_isinstance (pa_cons (pv 1) (pa_cons (pe_bltn (v := .ty "bool") (by rfl) T.m_bool bi_bool rfl) pa_nil))))))) (pss_one (ps_ret (pe_and (pe_callB call_isi (by rfl) T.m_isinstance bi_isinstance (pa_cons (pv 0) (pa_cons (pe_bltn (v := .ty "bool") (by rfl) T.m_bool bi_bool rfl) pa_nil))) (pe_and (pe_callB call_isi (by rfl) T.m_isinstance bi_isinstance (pa_cons (pv 1) (pa_cons (pe_bltn (v := .ty "bool") (by rfl) T.m_bool bi_bool rfl) pa_nil))) (pe_one (pe_cmpR (op_eqG hr.units) (pv 0) (pv 1) (nomark _))))))) pss_nil)
      (pss_cons (ps_if (PW.pt (pw_and (pt_val (pe_callB call_isi (by rfl) T.m_isinstance bi_isinstance (pa_cons (pv 0) (pa_cons (pe_bltn (v := .ty "int") (by rfl) T.m_int bi_int rfl) pa_nil)))) (pw_and1 (pt_val (pe_callB call_isi (by rfl) T.m_isinstance bi_isinstance (pa_cons (pv 1) (pa_cons (pe_bltn (v := .ty "int") (by rfl) T.m_int bi_int rfl) pa_nil))))))) (pss_one (ps_ret (pe_cmpR (op_eqG hr.units) (pv 0) (pv 1) (nomark _)))) pss_nil)
      (pss_cons (ps_if (PW.pt (pw_and (pt_val (pe_callB call_isi (by rfl) T.m_isinstance bi_isinstance (pa_cons (pv 0) (pa_cons (pe_bltn (v := .ty "str") (by rfl) T.m_str bi_str rfl) pa_nil)))) (pw_and1 (pt_val (pe_callB call_isi (by rfl) T.m_isinstance bi_isinstance (pa_cons (pv 1) (pa_cons (pe_bltn (v := .ty "str") (by rfl) T.m_str bi_str rfl) pa_nil))))))) (pss_one (ps_ret (pe_cmpR (op_eqG hr.units) (pv 0) (pv 1) (nomark _)))) pss_nil)
      (pss_cons (ps_set (i := 2) sc__law_same.nd rfl (Or.inl rfl) (pe_and (pe_callB call_isi (by rfl) T.m_isinstance bi_isinstance (pa_cons (pv 0) (pa_cons (pe_bltn (v := .ty "tuple") (by rfl) T.m_tuple bi_tuple rfl) pa_nil))) (pe_one (pe_callB call_isi (by rfl) T.m_isinstance bi_isinstance (pa_cons (pv 1) (pa_cons (pe_bltn (v := .ty "tuple") (by rfl) T.m_tuple bi_tuple rfl) pa_nil))))))
      (pss_cons (ps_if (PW.pt (pw_or (pt_val (pv 2)) (pw_or1 (PW.pt (pw_and (pt_val (pe_callB call_isi (by rfl) T.m_isinstance bi_isinstance (pa_cons (pv 0) (pa_cons (pe_bltn (v := .ty "list") (by rfl) T.m_list bi_list rfl) pa_nil)))) (pw_and1 (pt_val (pe_callB call_isi (by rfl) T.m_isinstance bi_isinstance (pa_cons (pv 1) (pa_cons (pe_bltn (v := .ty "list") (by rfl) T.m_list bi_list rfl) pa_nil)))))))))) (pss_cons (ps_if (pt_cmpR (op_neG hr.units) (pe_callB call_len (by rfl) T.m_len bi_len (pa_cons (pv 0) pa_nil)) (pe_callB call_len (by rfl) T.m_len bi_len (pa_cons (pv 1) pa_nil)) (nomark _)) (pss_one (ps_ret pe_bl)) pss_nil)
      (pss_cons (ps_for PassesOwn.never rfl (pi_range1 (by rfl) T.m_range (pa_cons (pe_callB call_len (by rfl) T.m_len bi_len (pa_cons (pv 0) pa_nil)) pa_nil)) (pg_name (i := 3) sc__law_same.nd rfl (Or.inl rfl)) (pss_one (ps_if (pt_not (pt_val (pe_call G__law_same hr (by rfl) T.g__law_same T.F__law_same.kp T.b__law_same .nil pass0 (pa_cons (pe_ix ix_seq (pv 0) (pv 3) (fun _ _ => rfl)) (pa_cons (pe_ix ix_seq (pv 1) (pv 3) (fun _ _ => rfl)) pa_nil))))) (pss_one (ps_ret pe_bl)) pss_nil)))
      (pss_one (ps_ret pe_bl)))) pss_nil)
      (pss_one (ps_ret (pe_and (pe_cmp (pc_isN (pv 0))) (pe_one (pe_cmp (pc_isN (pv 1))))))))))))
theorem tm__law_joint {ap__law_take : AP} (T : Txt P K mg) (G__law_take : FnOk P w K mg base CX0 1 T.f__law_take T.fd__law_take ["_law_pool_here", "_law_many"] (toSp K ap__law_take)) (cdv : Value) (A : Around) (outer : List PySem.Env) (s : Shared) (H : Hp) (E : XK) (hr : Room 1 (A.deeper (PyProof.Rows.envOfC "_law_joint" (defScope s__law_joint) s.heap.objs.size T.f__law_joint cdv))) :
    PSs (cxOf CX0 P w K mg base ["_law_pool_here", "_law_below", "_law_broad", "_law_more", "_law_wide"] "_law_joint" (defScope s__law_joint) T.f__law_joint cdv A outer s H E).nox (defBody s__law_joint) (t__law_joint K ap__law_take) := 
      (pss_cons (ps_if (pt_cmpR (op_eqG hr.units) (pe_call G__law_take (hr.mono (by decide)) (by rfl) T.g__law_take T.F__law_take.kp T.b__law_take .nil pass0 (pa_cons (pv 0) (pa_cons pe_int pa_nil))) pe_int (nomark _)) (pss_cons (ps_set (i := 3) sc__law_joint.nd rfl (Or.inl rfl) (pe_op op_addG pe_int (pe_call G__law_take (hr.mono (by decide)) (by rfl) T.g__law_take T.F__law_take.kp T.b__law_take .nil pass0 (pa_cons (pv 0) (pa_cons (pe_ix ix_seq (pe_lst (pa_cons pe_int (pa_cons pe_int pa_nil))) (pv 2) (fun _ _ => rfl)) pa_nil)))))
      (pss_one (ps_ret (pe_tup (pa_cons pe_str (pa_cons (pv 3) (pa_cons (pe_call G__law_take (hr.mono (by decide)) (by rfl) T.g__law_take T.F__law_take.kp T.b__law_take .nil pass0 (pa_cons (pv 0) (pa_cons (pv 1) pa_nil))) pa_nil))))))) pss_nil)
      (pss_cons (ps_set (i := 4) sc__law_joint.nd rfl (Or.inl rfl) (pe_op op_addG pe_int (pe_call G__law_take (hr.mono (by decide)) (by rfl) T.g__law_take T.F__law_take.kp T.b__law_take .nil pass0 (pa_cons (pv 0) (pa_cons (pe_ix ix_seq (pe_lst (pa_cons pe_int (pa_cons pe_int pa_nil))) (pv 2) (fun _ _ => rfl)) pa_nil)))))
      (pss_cons (ps_set (i := 3) sc__law_joint.nd rfl (Or.inl rfl) (pe_call G__law_take (hr.mono (by decide)) (by rfl) T.g__law_take T.F__law_take.kp T.b__law_take .nil pass0 (pa_cons (pv 0) (pa_cons (pe_ix ix_seq (pe_lst (pa_cons pe_int (pa_cons pe_int pa_nil))) (pv 2) (fun _ _ => rfl)) pa_nil))))
      (pss_one (ps_ret (pe_tup (pa_cons pe_str (pa_cons (pv 4) (pa_cons (pv 3) (pa_cons (pe_call G__law_take (hr.mono (by decide)) (by rfl) T.g__law_take T.F__law_take.kp T.b__law_take .nil pass0 (pa_cons (pv 0) (pa_cons (pv 4) pa_nil))) pa_nil))))))))))
theorem tm__law_bare {ap__law_take : AP} {ap__law_joint : AP} (T : Txt P K mg) (G__law_take : FnOk P w K mg base CX0 1 T.f__law_take T.fd__law_take ["_law_pool_here", "_law_many"] (toSp K ap__law_take)) (G__law_joint : FnOk P w K mg base CX0 2 T.f__law_joint T.fd__law_joint ["_law_pool_here", "_law_below", "_law_broad"] (toSp K ap__law_joint)) (cdv : Value) (A : Around) (outer : List PySem.Env) (s : Shared) (H : Hp) (E : XK) (hr : Room 2 (A.deeper (PyProof.Rows.envOfC "_law_bare" (defScope s__law_bare) s.heap.objs.size T.f__law_bare cdv))) :
    PSs (cxOf CX0 P w K mg base ["_law_pool_here", "_law_least", "_law_often", "_law_many", "_law_broad", "_law_period", "_law_widths", "_law_k", "_law_joints", "_law_below"] "_law_bare" (defScope s__law_bare) T.f__law_bare cdv A outer s H E).nox (defBody s__law_bare) (t__law_bare K ap__law_take ap__law_joint) := 
      (pss_cons (ps_set (i := 3) sc__law_bare.nd rfl (Or.inl rfl) (pe_callB (call_max2 rfl) (by rfl) T.m_max bi_max (pa_cons (pe_callTy call_int1 (by rfl) T.m_int bi_int (pa_cons (pv 1) pa_nil)) (pa_cons (pe_call G__law_take (hr.mono (by decide)) (by rfl) T.g__law_take T.F__law_take.kp T.b__law_take .nil pass0 (pa_cons (pv 0) (pa_cons pe_int pa_nil))) pa_nil))))
      (pss_cons (ps_if (pt_cmpR (op_eqG hr.units) (pe_call G__law_take (hr.mono (by decide)) (by rfl) T.g__law_take T.F__law_take.kp T.b__law_take .nil pass0 (pa_cons (pv 0) (pa_cons (pv 2) pa_nil))) (pe_op op_sub (pv 2) pe_int) (nomark _)) (pss_one (ps_set (i := 3) sc__law_bare.nd rfl (Or.inl rfl) (pe_callB (call_max2 rfl) (by rfl) T.m_max bi_max (pa_cons (pe_callTy call_int1 (by rfl) T.m_int bi_int (pa_cons (pv 1) pa_nil)) (pa_cons (pe_call G__law_take (hr.mono (by decide)) (by rfl) T.g__law_take T.F__law_take.kp T.b__law_take .nil pass0 (pa_cons (pv 0) (pa_cons pe_int pa_nil))) pa_nil))))) pss_nil)
      (pss_cons (ps_set (i := 4) sc__law_bare.nd rfl (Or.inl rfl) (pe_callTy call_int1 (by rfl) T.m_int bi_int (pa_cons (pe_cmpR (op_eqG hr.units) (pe_call G__law_take (hr.mono (by decide)) (by rfl) T.g__law_take T.F__law_take.kp T.b__law_take .nil pass0 (pa_cons (pv 0) (pa_cons pe_int pa_nil))) pe_int (nomark _)) pa_nil)))
      (pss_cons (ps_set (i := 5) sc__law_bare.nd rfl (Or.inl rfl) (pe_ix ix_seq (pe_lst (pa_cons pe_int (pa_cons pe_int (pa_cons pe_int (pa_cons pe_int pa_nil))))) (pe_call G__law_take (hr.mono (by decide)) (by rfl) T.g__law_take T.F__law_take.kp T.b__law_take .nil pass0 (pa_cons (pv 0) (pa_cons pe_int pa_nil))) (fun _ _ => rfl)))
      (pss_cons (ps_set (i := 6) sc__law_bare.nd rfl (Or.inl rfl) (pe_lst pa_nil))
      (pss_cons (ps_for PassesOwn.never rfl (pi_range1 (by rfl) T.m_range (pa_cons (pv 3) pa_nil)) (pg_name (i := 7) sc__law_bare.nd rfl (Or.inl rfl)) (pss_one (ps_if (pt_chain op_lt op_le pe_int (pv 5) (pv 7)) (pss_one (ps_expr (pe_bm PySem.F.plainAttrs_list PySem.F.slot_list_append PySem.F.type_list_append mt_append (pv 6) (pa_cons (pe_ix ix_seq (pv 6) (pe_op op_sub (pv 7) (pv 5)) (fun _ _ => rfl)) pa_nil)))) (pss_one (ps_expr (pe_bm PySem.F.plainAttrs_list PySem.F.slot_list_append PySem.F.type_list_append mt_append (pv 6) (pa_cons (pe_op op_addG pe_int (pe_call G__law_take (hr.mono (by decide)) (by rfl) T.g__law_take T.F__law_take.kp T.b__law_take .nil pass0 (pa_cons (pv 0) (pa_cons (pe_ix ix_seq (pe_lst (pa_cons pe_int (pa_cons pe_int pa_nil))) (pv 4) (fun _ _ => rfl)) pa_nil)))) pa_nil)))))))
      (pss_cons (ps_set (i := 8) sc__law_bare.nd rfl (Or.inl rfl) (pe_lst pa_nil))
      (pss_cons (ps_for PassesOwn.never rfl (pi_range1 (by rfl) T.m_range (pa_cons (pe_op op_sub (pv 3) pe_int) pa_nil)) (pg_name (i := 7) sc__law_bare.nd rfl (Or.inl rfl)) (pss_one (ps_if (pt_chain op_lt op_le pe_int (pv 5) (pv 7)) (pss_one (ps_expr (pe_bm PySem.F.plainAttrs_list PySem.F.slot_list_append PySem.F.type_list_append mt_append (pv 8) (pa_cons (pe_ix ix_seq (pv 8) (pe_op op_sub (pv 7) (pv 5)) (fun _ _ => rfl)) pa_nil)))) (pss_cons (ps_set (i := 9) sc__law_bare.nd rfl (Or.inl rfl) (pe_callB (call_min2 rfl) (by rfl) T.m_min bi_min (pa_cons (pe_callTy call_int1 (by rfl) T.m_int bi_int (pa_cons (pe_ix ix_seq (pv 6) (pv 7) (fun _ _ => rfl)) pa_nil)) (pa_cons (pe_callTy call_int1 (by rfl) T.m_int bi_int (pa_cons (pe_ix ix_seq (pv 6) (pe_op op_addG (pv 7) pe_int) (fun _ _ => rfl)) pa_nil)) pa_nil))))
      (pss_one (ps_expr (pe_bm PySem.F.plainAttrs_list PySem.F.slot_list_append PySem.F.type_list_append mt_append (pv 8) (pa_cons (pe_call G__law_joint (hr.mono (by decide)) (by rfl) T.g__law_joint T.F__law_joint.kp T.b__law_joint .nil pass0 (pa_cons (pv 0) (pa_cons (pv 9) (pa_cons (pv 4) pa_nil)))) pa_nil))))))))
      (pss_one (ps_ret (pe_tup (pa_cons (pe_callTy call_tuple_of (by rfl) T.m_tuple bi_tuple (pa_cons (pv 6) pa_nil)) (pa_cons (pe_callTy call_tuple_of (by rfl) T.m_tuple bi_tuple (pa_cons (pv 8) pa_nil)) pa_nil)))))))))))))
theorem tm__law_glue (T : Txt P K mg) (cdv : Value) (A : Around) (outer : List PySem.Env) (s : Shared) (H : Hp) (E : XK) (hr : Room 0 (A.deeper (PyProof.Rows.envOfC "_law_glue" (defScope s__law_glue) s.heap.objs.size T.f__law_glue cdv))) :
    PSs (cxOf CX0 P w K mg base ["_law_row", "_law_start", "_law_end", "_law_wide", "_law_more", "_law_less", "_law_k", "_law_joint_here"] "_law_glue" (defScope s__law_glue) T.f__law_glue cdv A outer s H E).nox (defBody s__law_glue) (t__law_glue K) := 
      (pss_cons (ps_set (i := 3) sc__law_glue.nd rfl (Or.inl rfl) (pe_callB (cr_sumG rfl) (by rfl) T.m_sum bi_sum (pa_cons (pe_slice sl_G (pe_ix ix_seq (pv 0) pe_int (fun _ _ => rfl)) (po_some (pv 1)) (po_some (pv 2))) pa_nil)))
      (pss_cons (ps_set (i := 4) sc__law_glue.nd rfl (Or.inl rfl) pe_int)
      (pss_cons (ps_set (i := 5) sc__law_glue.nd rfl (Or.inl rfl) pe_int)
      (pss_cons (ps_for PassesOwn.never rfl (pi_range2 (by rfl) T.m_range (pa_cons (pv 1) (pa_cons (pe_op op_sub (pv 2) pe_int) pa_nil))) (pg_name (i := 6) sc__law_glue.nd rfl (Or.inl rfl)) (pss_cons (ps_set (i := 7) sc__law_glue.nd rfl (Or.inl rfl) (pe_ix ix_seq (pe_ix ix_seq (pv 0) pe_int (fun _ _ => rfl)) (pv 6) (fun _ _ => rfl)))
      (pss_one (ps_if (pt_cmpR (op_eqG hr.units) (pe_ix ix_seq (pv 7) pe_int (fun _ _ => rfl)) pe_str (nomark _)) (pss_cons (ps_set (i := 3) sc__law_glue.nd rfl (Or.inl rfl) (pe_op op_addG (pv 3) (pe_ix ix_seq (pv 7) pe_int (fun _ _ => rfl))))
      (pss_cons (ps_set (i := 4) sc__law_glue.nd rfl (Or.inl rfl) (pe_op op_addG (pv 4) (pe_ix ix_seq (pv 7) pe_int (fun _ _ => rfl))))
      (pss_one (ps_set (i := 5) sc__law_glue.nd rfl (Or.inl rfl) (pe_op op_addG (pv 5) (pe_ix ix_seq (pv 7) pe_int (fun _ _ => rfl))))))) (pss_one (ps_set (i := 3) sc__law_glue.nd rfl (Or.inl rfl) (pe_op op_sub (pv 3) (pe_ix ix_seq (pv 7) pe_int (fun _ _ => rfl)))))))))
      (pss_cons (ps_if (PW.pt (pw_and (pt_cmpR (op_ltG hr.units0) (pv 2) (pe_callB call_len (by rfl) T.m_len bi_len (pa_cons (pe_ix ix_seq (pv 0) pe_int (fun _ _ => rfl)) pa_nil)) (nomark _)) (pw_and1 (pt_cmpR (op_eqG hr.units) (pe_ix ix_seq (pe_ix ix_seq (pe_ix ix_seq (pv 0) pe_int (fun _ _ => rfl)) (pe_op op_sub (pv 2) pe_int) (fun _ _ => rfl)) pe_int (fun _ _ => rfl)) pe_str (nomark _))))) (pss_one (ps_set (i := 3) sc__law_glue.nd rfl (Or.inl rfl) (pe_op op_addG (pv 3) (pe_ix ix_seq (pe_ix ix_seq (pe_ix ix_seq (pv 0) pe_int (fun _ _ => rfl)) (pe_op op_sub (pv 2) pe_int) (fun _ _ => rfl)) pe_int (fun _ _ => rfl))))) pss_nil)
      (pss_one (ps_ret (pe_lst (pa_cons (pv 3) (pa_cons (pv 4) (pa_cons (pv 5) pa_nil)))))))))))
theorem tm__law_line_key {ap__law_take : AP} {ap__law_glue : AP} (T : Txt P K mg) (G__law_take : FnOk P w K mg base CX0 1 T.f__law_take T.fd__law_take ["_law_pool_here", "_law_many"] (toSp K ap__law_take)) (G__law_glue : FnOk P w K mg base CX0 1 T.f__law_glue T.fd__law_glue ["_law_row", "_law_start", "_law_end"] (toSp K ap__law_glue)) (cdv : Value) (A : Around) (outer : List PySem.Env) (s : Shared) (H : Hp) (E : XK) (hr : Room 1 (A.deeper (PyProof.Rows.envOfC "_law_line_key" (defScope s__law_line_key) s.heap.objs.size T.f__law_line_key cdv))) :
    PSs (cxOf CX0 P w K mg base ["_law_pool_here", "_law_row", "_law_gaps", "_law_whole", "_law_sort", "_law_wide", "_law_start", "_law_end", "_law_reach", "_law_begin", "_law_side", "_law_one", "_law_two", "_law_stream", "_law_slack", "_law_joint_here"] "_law_line_key" (defScope s__law_line_key) T.f__law_line_key cdv A outer s H E).nox (defBody s__law_line_key) (t__law_line_key K ap__law_take ap__law_glue) := 
      (pss_cons (ps_setLc (i := 2) (own := [("_law_joint_here", 15)]) (g := (gName 15)) (tt := (tTest (tOp (rEqG K) (tOp (rIx K) (tVar 15) (tC (.int 0))) (tC (.str "gap"))))) (by rfl) sc__law_line_key.nd rfl rfl (sw_true rfl rfl rfl (by decide +kernel)) (pi_tup (pe_ix ix_seq (pv 1) pe_int (fun _ _ => rfl))) (blkOk_by (own := [("_law_joint_here", 15)]) (N := ["_law_pool_here", "_law_row", "_law_gaps", "_law_whole", "_law_sort", "_law_wide", "_law_start", "_law_end", "_law_reach", "_law_begin", "_law_side", "_law_one", "_law_two", "_law_stream", "_law_slack", "_law_joint_here"]) (sc := defScope s__law_line_key) (by decide +kernel)) (fun _ _ _ _ _ => (pg_name (i := 15) sc__law_line_key.nd rfl (Or.inl rfl))) (fun _ _ _ _ _ => (pts_one (pt_cmpR (op_eqG hr.units) (pe_ix ix_seq (pv 15) pe_int (fun _ _ => rfl)) pe_str (nomark _)))) (fun _ _ _ _ _ => (pe_ix ix_seq (pv 15) pe_int (fun _ _ => rfl))))
      (pss_cons (ps_set (i := 3) sc__law_line_key.nd rfl (Or.inl rfl) (pe_op op_addG (pe_callB (cr_sumG rfl) (by rfl) T.m_sum bi_sum (pa_cons (pe_ix ix_seq (pv 1) pe_int (fun _ _ => rfl)) pa_nil)) (pe_callB (cr_sumG rfl) (by rfl) T.m_sum bi_sum (pa_cons (pv 2) pa_nil))))
      (pss_cons (ps_set (i := 4) sc__law_line_key.nd rfl (Or.inl rfl) (pe_call G__law_take (hr.mono (by decide)) (by rfl) T.g__law_take T.F__law_take.kp T.b__law_take .nil pass0 (pa_cons (pv 0) (pa_cons pe_int pa_nil))))
      (pss_cons (ps_set (i := 5) sc__law_line_key.nd rfl (Or.inl rfl) (pe_op op_addG pe_int (pe_call G__law_take (hr.mono (by decide)) (by rfl) T.g__law_take T.F__law_take.kp T.b__law_take .nil pass0 (pa_cons (pv 0) (pa_cons pe_int pa_nil)))))
      (pss_cons (ps_if (pt_cmpR op_inG (pv 4) (pe_lst (pa_cons pe_int (pa_cons pe_int (pa_cons pe_int (pa_cons pe_int pa_nil))))) (by rfl)) (pss_one (ps_set (i := 5) sc__law_line_key.nd rfl (Or.inl rfl) (pe_op op_addG (pe_op op_fdivW (pv 3) (pv 4)) (pe_call G__law_take (hr.mono (by decide)) (by rfl) T.g__law_take T.F__law_take.kp T.b__law_take .nil pass0 (pa_cons (pv 0) (pa_cons pe_int pa_nil)))))) pss_nil)
      (pss_cons (ps_if (PW.pt (pw_and (pt_cmpR op_inG (pv 4) (pe_lst (pa_cons pe_int (pa_cons pe_int pa_nil))) (by rfl)) (pw_and1 (pt_cmpR op_gt (pe_callB call_len (by rfl) T.m_len bi_len (pa_cons (pe_ix ix_seq (pv 1) pe_int (fun _ _ => rfl)) pa_nil)) pe_int (nomark _))))) (pss_cons (ps_set (i := 6) sc__law_line_key.nd rfl (Or.inl rfl) (pe_call G__law_take (hr.mono (by decide)) (by rfl) T.g__law_take T.F__law_take.kp T.b__law_take .nil pass0 (pa_cons (pv 0) (pa_cons (pe_callB call_len (by rfl) T.m_len bi_len (pa_cons (pe_ix ix_seq (pv 1) pe_int (fun _ _ => rfl)) pa_nil)) pa_nil))))
      (pss_cons (ps_set (i := 7) sc__law_line_key.nd rfl (Or.inl rfl) (pe_op op_addG (pe_op op_addG (pv 6) pe_int) (pe_call G__law_take (hr.mono (by decide)) (by rfl) T.g__law_take T.F__law_take.kp T.b__law_take .nil pass0 (pa_cons (pv 0) (pa_cons (pe_op op_sub (pe_callB call_len (by rfl) T.m_len bi_len (pa_cons (pe_ix ix_seq (pv 1) pe_int (fun _ _ => rfl)) pa_nil)) (pv 6)) pa_nil)))))
      (pss_one (ps_set (i := 5) sc__law_line_key.nd rfl (Or.inl rfl) (pe_ix ix_seq (pe_call G__law_glue (hr.mono (by decide)) (by rfl) T.g__law_glue T.F__law_glue.kp T.b__law_glue .nil pass0 (pa_cons (pv 1) (pa_cons (pv 6) (pa_cons (pv 7) pa_nil)))) pe_int (fun _ _ => rfl)))))) pss_nil)
      (pss_cons (ps_if (pt_cmpR (op_eqG hr.units) (pv 4) pe_int (nomark _)) (pss_one (ps_set (i := 5) sc__law_line_key.nd rfl (Or.inl rfl) (pe_op op_addG pe_int (pe_call G__law_take (hr.mono (by decide)) (by rfl) T.g__law_take T.F__law_take.kp T.b__law_take .nil pass0 (pa_cons (pv 0) (pa_cons pe_int pa_nil)))))) pss_nil)
      (pss_cons (ps_set (i := 8) sc__law_line_key.nd rfl (Or.inl rfl) (pe_ix ix_seq (pe_lst (pa_cons pe_int (pa_cons pe_int (pa_cons pe_int (pa_cons pe_int pa_nil))))) (pe_call G__law_take (hr.mono (by decide)) (by rfl) T.g__law_take T.F__law_take.kp T.b__law_take .nil pass0 (pa_cons (pv 0) (pa_cons pe_int pa_nil))) (fun _ _ => rfl)))
      (pss_cons (ps_set (i := 9) sc__law_line_key.nd rfl (Or.inl rfl) (pe_call G__law_take (hr.mono (by decide)) (by rfl) T.g__law_take T.F__law_take.kp T.b__law_take .nil pass0 (pa_cons (pv 0) (pa_cons (pv 8) pa_nil))))
      (pss_cons (ps_set (i := 10) sc__law_line_key.nd rfl (Or.inl rfl) (pe_ix ix_seq (pe_lst (pa_cons pe_str (pa_cons pe_str (pa_cons pe_str pa_nil)))) (pe_call G__law_take (hr.mono (by decide)) (by rfl) T.g__law_take T.F__law_take.kp T.b__law_take .nil pass0 (pa_cons (pv 0) (pa_cons pe_int pa_nil))) (fun _ _ => rfl)))
      (pss_cons (ps_set (i := 11) sc__law_line_key.nd rfl (Or.inl rfl) (pe_op op_mulG pe_int (pe_call G__law_take (hr.mono (by decide)) (by rfl) T.g__law_take T.F__law_take.kp T.b__law_take .nil pass0 (pa_cons (pv 0) (pa_cons pe_int pa_nil)))))
      (pss_cons (ps_set (i := 12) sc__law_line_key.nd rfl (Or.inl rfl) (pe_op op_mulG pe_int (pe_call G__law_take (hr.mono (by decide)) (by rfl) T.g__law_take T.F__law_take.kp T.b__law_take .nil pass0 (pa_cons (pv 0) (pa_cons pe_int pa_nil)))))
      (pss_cons (ps_if (pt_cmpR (op_eqG hr.units) (pe_call G__law_take (hr.mono (by decide)) (by rfl) T.g__law_take T.F__law_take.kp T.b__law_take .nil pass0 (pa_cons (pv 0) (pa_cons pe_int pa_nil))) pe_int (nomark _)) (pss_cons (ps_set (i := 11) sc__law_line_key.nd rfl (Or.inl rfl) (pe_call G__law_take (hr.mono (by decide)) (by rfl) T.g__law_take T.F__law_take.kp T.b__law_take .nil pass0 (pa_cons (pv 0) (pa_cons pe_int pa_nil))))
      (pss_one (ps_set (i := 12) sc__law_line_key.nd rfl (Or.inl rfl) (pe_call G__law_take (hr.mono (by decide)) (by rfl) T.g__law_take T.F__law_take.kp T.b__law_take .nil pass0 (pa_cons (pv 0) (pa_cons pe_int pa_nil)))))) pss_nil)
      (pss_cons (ps_set (i := 13) sc__law_line_key.nd rfl (Or.inl rfl) (pe_call G__law_take (hr.mono (by decide)) (by rfl) T.g__law_take T.F__law_take.kp T.b__law_take .nil pass0 (pa_cons (pv 0) (pa_cons pe_int pa_nil))))
      (pss_cons (ps_set (i := 14) sc__law_line_key.nd rfl (Or.inl rfl) (pe_call G__law_take (hr.mono (by decide)) (by rfl) T.g__law_take T.F__law_take.kp T.b__law_take .nil pass0 (pa_cons (pv 0) (pa_cons pe_int pa_nil))))
      (pss_cons (ps_if (pt_cmpR (op_eqG hr.units) (pe_call G__law_take (hr.mono (by decide)) (by rfl) T.g__law_take T.F__law_take.kp T.b__law_take .nil pass0 (pa_cons (pv 0) (pa_cons pe_int pa_nil))) pe_int (nomark _)) (pss_cons (ps_set (i := 13) sc__law_line_key.nd rfl (Or.inl rfl) (pe_call G__law_take (hr.mono (by decide)) (by rfl) T.g__law_take T.F__law_take.kp T.b__law_take .nil pass0 (pa_cons (pv 0) (pa_cons pe_int pa_nil))))
      (pss_one (ps_set (i := 14) sc__law_line_key.nd rfl (Or.inl rfl) (pe_call G__law_take (hr.mono (by decide)) (by rfl) T.g__law_take T.F__law_take.kp T.b__law_take .nil pass0 (pa_cons (pv 0) (pa_cons pe_int pa_nil)))))) pss_nil)
      (pss_cons (ps_if (PW.pt (pw_and (pt_cmpR op_gt (pe_callB call_len (by rfl) T.m_len bi_len (pa_cons (pe_ix ix_seq (pv 1) pe_int (fun _ _ => rfl)) pa_nil)) pe_int (nomark _)) (pw_and1 (pt_cmpR op_gt (pe_call G__law_take (hr.mono (by decide)) (by rfl) T.g__law_take T.F__law_take.kp T.b__law_take .nil pass0 (pa_cons (pv 0) (pa_cons pe_int pa_nil))) pe_int (nomark _))))) (pss_one (ps_set (i := 13) sc__law_line_key.nd rfl (Or.inl rfl) pe_int)) pss_nil)
      (pss_one (ps_ret (pe_tup (pa_cons (pe_callB (call_min2 rfl) (by rfl) T.m_min bi_min (pa_cons pe_int (pa_cons (pe_callB (call_max2 rfl) (by rfl) T.m_max bi_max (pa_cons pe_int (pa_cons (pv 5) pa_nil))) pa_nil))) (pa_cons (pv 9) (pa_cons (pv 10) (pa_cons (pv 11) (pa_cons (pv 12) (pa_cons (pv 13) (pa_cons (pv 14) pa_nil)))))))))))))))))))))))))))
theorem tm__law_allowed (T : Txt P K mg) (cdv : Value) (A : Around) (outer : List PySem.Env) (s : Shared) (H : Hp) (E : XK) (hr : Room 0 (A.deeper (PyProof.Rows.envOfC "_law_allowed" (defScope s__law_allowed) s.heap.objs.size T.f__law_allowed cdv))) :
    PSs (cxOf CX0 P w K mg base ["_law_row", "_law_key", "_law_allowed_here", "_law_wide", "_law_joint_here"] "_law_allowed" (defScope s__law_allowed) T.f__law_allowed cdv A outer s H E).nox (defBody s__law_allowed) (t__law_allowed K) := 
      (pss_cons (ps_set (i := 2) sc__law_allowed.nd rfl (Or.inl rfl) (pe_op op_fdivW pe_int (pe_ix ix_seq (pv 1) pe_int (fun _ _ => rfl))))
      (pss_cons (ps_if (pt_cmpR op_gt (pe_ix ix_seq (pv 1) pe_int (fun _ _ => rfl)) pe_int (nomark _)) (pss_one (ps_set (i := 2) sc__law_allowed.nd rfl (Or.inl rfl) (pe_callB (call_min2 rfl) (by rfl) T.m_min bi_min (pa_cons (pe_callTy call_int1 (by rfl) T.m_int bi_int (pa_cons (pv 2) pa_nil)) (pa_cons (pe_op op_fdivW pe_int (pe_ix ix_seq (pv 1) pe_int (fun _ _ => rfl))) pa_nil))))) pss_nil)
      (pss_cons (ps_for PassesOwn.never rfl (pi_tup (pe_ix ix_seq (pv 0) pe_int (fun _ _ => rfl))) (pg_name (i := 3) sc__law_allowed.nd rfl (Or.inl rfl)) (pss_one (ps_set (i := 2) sc__law_allowed.nd rfl (Or.inl rfl) (pe_callB (call_min2 rfl) (by rfl) T.m_min bi_min (pa_cons (pe_callTy call_int1 (by rfl) T.m_int bi_int (pa_cons (pv 2) pa_nil)) (pa_cons (pe_op op_fdivW pe_int (pv 3)) pa_nil))))))
      (pss_cons (ps_for PassesOwn.never rfl (pi_tup (pe_ix ix_seq (pv 0) pe_int (fun _ _ => rfl))) (pg_name (i := 4) sc__law_allowed.nd rfl (Or.inl rfl)) (pss_cons (ps_set (i := 2) sc__law_allowed.nd rfl (Or.inl rfl) (pe_callB (call_min2 rfl) (by rfl) T.m_min bi_min (pa_cons (pe_callTy call_int1 (by rfl) T.m_int bi_int (pa_cons (pv 2) pa_nil)) (pa_cons (pe_op op_fdivW pe_int (pe_ix ix_seq (pv 4) pe_int (fun _ _ => rfl))) pa_nil))))
      (pss_one (ps_if (PW.pt (pw_and (pt_cmpR (op_eqG hr.units) (pe_ix ix_seq (pv 4) pe_int (fun _ _ => rfl)) pe_str (nomark _)) (pw_and1 (pt_cmpR op_gt (pe_ix ix_seq (pv 4) pe_int (fun _ _ => rfl)) pe_int (nomark _))))) (pss_one (ps_set (i := 2) sc__law_allowed.nd rfl (Or.inl rfl) (pe_callB (call_min2 rfl) (by rfl) T.m_min bi_min (pa_cons (pe_callTy call_int1 (by rfl) T.m_int bi_int (pa_cons (pv 2) pa_nil)) (pa_cons (pe_op op_fdivW pe_int (pe_ix ix_seq (pv 4) pe_int (fun _ _ => rfl))) pa_nil))))) pss_nil))))
      (pss_one (ps_ret (pv 2)))))))
theorem tm__law_times (T : Txt P K mg) (cdv : Value) (A : Around) (outer : List PySem.Env) (s : Shared) (H : Hp) (E : XK) (hr : Room 0 (A.deeper (PyProof.Rows.envOfC "_law_times" (defScope s__law_times) s.heap.objs.size T.f__law_times cdv))) :
    PSs (cxOf CX0 P w K mg base ["_law_row", "_law_times_here", "_law_joints", "_law_joint_here", "_law_numbers", "_law_number", "_law_wide"] "_law_times" (defScope s__law_times) T.f__law_times cdv A outer s H E).nox (defBody s__law_times) (t__law_times K) := 
      (pss_cons (ps_set (i := 2) sc__law_times.nd rfl (Or.inl rfl) (pe_lst pa_nil))
      (pss_cons (ps_for PassesOwn.never rfl (pi_tup (pe_ix ix_seq (pv 0) pe_int (fun _ _ => rfl))) (pg_name (i := 3) sc__law_times.nd rfl (Or.inl rfl)) (pss_cons (ps_setLc (i := 4) (own := [("_law_number", 5)]) (g := (gName 5)) (tt := tYes) (by rfl) sc__law_times.nd rfl rfl (sw_true rfl rfl rfl (by decide +kernel)) (pi_tup (pe_slice sl_G (pv 3) (po_some pe_int) po_none)) (blkOk_by (own := [("_law_number", 5)]) (N := ["_law_row", "_law_times_here", "_law_joints", "_law_joint_here", "_law_numbers", "_law_number", "_law_wide"]) (sc := defScope s__law_times) (by decide +kernel)) (fun _ _ _ _ _ => (pg_name (i := 5) sc__law_times.nd rfl (Or.inl rfl))) (fun _ _ _ _ _ => pts_nil) (fun _ _ _ _ _ => (pe_op op_mulG (pv 1) (pv 5))))
      (pss_one (ps_expr (pe_bm PySem.F.plainAttrs_list PySem.F.slot_list_append PySem.F.type_list_append mt_append (pv 2) (pa_cons (pe_op op_addG (pe_tup (pa_cons (pe_ix ix_seq (pv 3) pe_int (fun _ _ => rfl)) pa_nil)) (pe_callTy call_tuple_of (by rfl) T.m_tuple bi_tuple (pa_cons (pv 4) pa_nil))) pa_nil))))))
      (pss_one (ps_ret (pe_tup (pa_cons (pe_callTy call_tuple_of (by rfl) T.m_tuple bi_tuple (pa_cons (pe_lc (own := [("_law_wide", 6)]) (g := (gName 6)) (tt := tYes) (by rfl) sc__law_times.nd (pi_tup (pe_ix ix_seq (pv 0) pe_int (fun _ _ => rfl))) (blkOk_by (own := [("_law_wide", 6)]) (N := ["_law_row", "_law_times_here", "_law_joints", "_law_joint_here", "_law_numbers", "_law_number", "_law_wide"]) (sc := defScope s__law_times) (by decide +kernel)) (fun _ _ _ _ _ => (pg_name (i := 6) sc__law_times.nd rfl (Or.inl rfl))) (fun _ _ _ _ _ => pts_nil) (fun _ _ _ _ _ => (pe_op op_mulG (pv 1) (pv 6)))) pa_nil)) (pa_cons (pe_callTy call_tuple_of (by rfl) T.m_tuple bi_tuple (pa_cons (pv 2) pa_nil)) pa_nil)))))))
theorem tm__law_answer {ap_break_lines : APX} (T : Txt P K mg) (G_break_lines : FnOk P w K mg base (L2.CX P w) 10 T.f_break_lines T.fd_break_lines ["row", "measure"] (toSpX K ap_break_lines)) (cdv : Value) (A : Around) (outer : List PySem.Env) (s : Shared) (H : Hp) (E : XK) (hr : Room 10 (A.deeper (PyProof.Rows.envOfC "_law_answer" (defScope s__law_answer) s.heap.objs.size T.f__law_answer cdv))) :
    PSs (cxOf CX0 P w K mg base ["_law_row", "_law_measure", "_law_told", "_law_stop", "e"] "_law_answer" (defScope s__law_answer) T.f__law_answer cdv A outer s H E).nox (defBody s__law_answer) (t__law_answer K T.c_Blocked ap_break_lines) := 
      (pss_cons (ps_set (i := 2) sc__law_answer.nd rfl (Or.inl rfl) pe_non)
      (pss_cons (ps_set (i := 3) sc__law_answer.nd rfl (Or.inl rfl) pe_non)
      (pss_cons (ps_try_as (i := 4) rfl rfl sc__law_answer.nd rfl rfl ⟨by rfl, by decide, .inl T.g_Blocked⟩ takes00 (fun W1 pn xe tk po => (pss_one (ps_set (i := 2) sc__law_answer.nd rfl (Or.inl rfl) (pe_callS G_break_lines (hr.mono (by decide)) (by rfl) T.g_break_lines T.F_break_lines.kp T.b_break_lines (fun σ => passAt tk σ) (pa_cons (pv 0) (pa_cons (pv 1) pa_nil)))))) (fun a oe cls d pn hz hf => pss_excD (fs := ["start", "end"]) fun C eC hC hX hN => by subst eC; exact (pss_one (ps_set (i := 3) sc__law_answer.nd rfl (Or.inl rfl) (pe_tup (pa_cons (pe_xf hX (hN _ (.head _)) hz hf (pv 4)) (pa_cons (pe_xf hX (hN _ (.tail _ (.head _))) hz hf (pv 4)) pa_nil)))))))
      (pss_one (ps_ret (pe_lst (pa_cons (pv 2) (pa_cons (pv 3) pa_nil))))))))
theorem tm_law {ap__law_bare : AP} {ap__law_pool : AP} {ap__law_line_key : AP} {ap__law_allowed : AP} {ap__law_take : AP} {ap__law_times : AP} {ap_Measure_of : AP} {ap__law_answer : AP} {ap__law_same : AP} {ap_line_certificate : AP} (T : Txt P K mg) (G__law_bare : FnOk P w K mg base CX0 3 T.f__law_bare T.fd__law_bare ["_law_pool_here", "_law_least", "_law_often"] (toSp K ap__law_bare)) (G__law_pool : FnOk P w K mg base CX0 1 T.f__law_pool T.fd__law_pool ["_law_script", "_law_at"] (toSp K ap__law_pool)) (G__law_line_key : FnOk P w K mg base CX0 2 T.f__law_line_key T.fd__law_line_key ["_law_pool_here", "_law_row"] (toSp K ap__law_line_key)) (G__law_allowed : FnOk P w K mg base CX0 1 T.f__law_allowed T.fd__law_allowed ["_law_row", "_law_key"] (toSp K ap__law_allowed)) (G__law_take : FnOk P w K mg base CX0 1 T.f__law_take T.fd__law_take ["_law_pool_here", "_law_many"] (toSp K ap__law_take)) (G__law_times : FnOk P w K mg base CX0 1 T.f__law_times T.fd__law_times ["_law_row", "_law_times_here"] (toSp K ap__law_times)) (G_Measure_of : FnOk P w K mg base CX0 3 T.f_Measure_of T.fd_Measure_of ["key"] (toSp K ap_Measure_of)) (G__law_answer : FnOk P w K mg base CX0 11 T.f__law_answer T.fd__law_answer ["_law_row", "_law_measure"] (toSp K ap__law_answer)) (G__law_same : FnOk P w K mg base CX0 6 T.f__law_same T.fd__law_same ["_law_one", "_law_two"] (toSp K ap__law_same)) (G_line_certificate : FnOk P w K mg base CX0 10 T.f_line_certificate T.fd_line_certificate ["row", "measure"] (toSp K ap_line_certificate)) (cdv : Value) (A : Around) (outer : List PySem.Env) (s : Shared) (H : Hp) (E : XK) (hr : Room 11 (A.deeper (PyProof.Rows.envOfC "law" (defScope s_law) s.heap.objs.size T.f_law cdv))) :
    PSs (cxOf CX0 P w K mg base ["_law_script", "_law_row", "_law_key", "_law_allowed_here", "_law_times_here", "_law_great", "_law_great_key", "_law_measure", "_law_great_measure", "_law_answer_here", "_law_listed"] "law" (defScope s_law) T.f_law cdv A outer s H E).nox (defBody s_law) (t_law K T.c_Measure ap__law_bare ap__law_pool ap__law_line_key ap__law_allowed ap__law_take ap__law_times ap_Measure_of ap__law_answer ap__law_same ap_line_certificate) := 
      (pss_cons (ps_set (i := 1) sc_law.nd rfl (Or.inl rfl) (pe_call G__law_bare (hr.mono (by decide)) (by rfl) T.g__law_bare T.F__law_bare.kp T.b__law_bare .nil pass0 (pa_cons (pe_call G__law_pool (hr.mono (by decide)) (by rfl) T.g__law_pool T.F__law_pool.kp T.b__law_pool .nil pass0 (pa_cons (pv 0) (pa_cons pe_int pa_nil))) (pa_cons pe_int (pa_cons pe_int pa_nil)))))
      (pss_cons (ps_set (i := 2) sc_law.nd rfl (Or.inl rfl) (pe_call G__law_line_key (hr.mono (by decide)) (by rfl) T.g__law_line_key T.F__law_line_key.kp T.b__law_line_key .nil pass0 (pa_cons (pe_call G__law_pool (hr.mono (by decide)) (by rfl) T.g__law_pool T.F__law_pool.kp T.b__law_pool .nil pass0 (pa_cons (pv 0) (pa_cons pe_int pa_nil))) (pa_cons (pv 1) pa_nil))))
      (pss_cons (ps_set (i := 2) sc_law.nd rfl (Or.inl rfl) (pe_op op_addG (pe_op op_addG (pe_tup (pa_cons (pe_ix ix_seq (pv 2) pe_int (fun _ _ => rfl)) (pa_cons (pe_op op_mod (pe_callTy call_int1 (by rfl) T.m_int bi_int (pa_cons (pe_ix ix_seq (pv 2) pe_int (fun _ _ => rfl)) pa_nil)) pe_int) pa_nil))) (pe_slice sl_G (pv 2) (po_some pe_int) (po_some pe_int))) (pe_tup (pa_cons pe_int (pa_cons (pe_ix ix_seq (pv 2) pe_int (fun _ _ => rfl)) pa_nil)))))
      (pss_cons (ps_set (i := 3) sc_law.nd rfl (Or.inl rfl) (pe_call G__law_allowed (hr.mono (by decide)) (by rfl) T.g__law_allowed T.F__law_allowed.kp T.b__law_allowed .nil pass0 (pa_cons (pv 1) (pa_cons (pv 2) pa_nil))))
      (pss_cons (ps_if (pt_cmpR (op_ltG hr.units0) (pv 3) pe_int (nomark _)) (pss_one (ps_ret pe_bl)) pss_nil)
      (pss_cons (ps_set (i := 4) sc_law.nd rfl (Or.inl rfl) (pe_op op_addG pe_int (pe_call G__law_take (hr.mono (by decide)) (by rfl) T.g__law_take T.F__law_take.kp T.b__law_take .nil pass0 (pa_cons (pe_call G__law_pool (hr.mono (by decide)) (by rfl) T.g__law_pool T.F__law_pool.kp T.b__law_pool .nil pass0 (pa_cons (pv 0) (pa_cons pe_int pa_nil))) (pa_cons (pe_op op_sub (pv 3) pe_int) pa_nil)))))
      (pss_cons (ps_set (i := 5) sc_law.nd rfl (Or.inl rfl) (pe_call G__law_times (hr.mono (by decide)) (by rfl) T.g__law_times T.F__law_times.kp T.b__law_times .nil pass0 (pa_cons (pv 1) (pa_cons (pv 4) pa_nil))))
      (pss_cons (ps_set (i := 6) sc_law.nd rfl (Or.inl rfl) (pe_op op_addG (pe_tup (pa_cons (pe_op op_mulG (pv 4) (pe_ix ix_seq (pv 2) pe_int (fun _ _ => rfl))) (pa_cons (pe_op op_mulG (pv 4) (pe_ix ix_seq (pv 2) pe_int (fun _ _ => rfl))) pa_nil))) (pe_slice sl_G (pv 2) (po_some pe_int) po_none)))
      (pss_cons (ps_set (i := 7) sc_law.nd rfl (Or.inl rfl) (pe_smeth (pe_glob (v := .ref T.c_Measure) (by rfl) T.g_Measure rfl) T.sm_Measure_of G_Measure_of (hr.mono (by decide)) T.F_Measure_of.kp T.b_Measure_of pass0 (pa_cons (pv 2) pa_nil)))
      (pss_cons (ps_set (i := 8) sc_law.nd rfl (Or.inl rfl) (pe_smeth (pe_glob (v := .ref T.c_Measure) (by rfl) T.g_Measure rfl) T.sm_Measure_of G_Measure_of (hr.mono (by decide)) T.F_Measure_of.kp T.b_Measure_of pass0 (pa_cons (pv 6) pa_nil)))
      (pss_cons (ps_set (i := 9) sc_law.nd rfl (Or.inl rfl) (pe_call G__law_answer (hr.mono (by decide)) (by rfl) T.g__law_answer T.F__law_answer.kp T.b__law_answer .nil pass0 (pa_cons (pv 1) (pa_cons (pv 7) pa_nil))))
      (pss_cons (ps_if (pt_not (pt_val (pe_call G__law_same (hr.mono (by decide)) (by rfl) T.g__law_same T.F__law_same.kp T.b__law_same .nil pass0 (pa_cons (pe_call G__law_answer (hr.mono (by decide)) (by rfl) T.g__law_answer T.F__law_answer.kp T.b__law_answer .nil pass0 (pa_cons (pv 5) (pa_cons (pv 8) pa_nil))) (pa_cons (pv 9) pa_nil))))) (pss_one (ps_ret pe_bl)) pss_nil)
      (pss_cons (ps_set (i := 10) sc_law.nd rfl (Or.inl rfl) (pe_call G_line_certificate (hr.mono (by decide)) (by rfl) T.g_line_certificate T.F_line_certificate.kp T.b_line_certificate .nil pass0 (pa_cons (pv 1) (pa_cons (pv 7) pa_nil))))
      (pss_cons (ps_if (pt_not (pt_val (pe_call G__law_same (hr.mono (by decide)) (by rfl) T.g__law_same T.F__law_same.kp T.b__law_same .nil pass0 (pa_cons (pe_call G_line_certificate (hr.mono (by decide)) (by rfl) T.g_line_certificate T.F_line_certificate.kp T.b_line_certificate .nil pass0 (pa_cons (pv 5) (pa_cons (pv 8) pa_nil))) (pa_cons (pv 10) pa_nil))))) (pss_one (ps_ret pe_bl)) pss_nil)
      (pss_one (ps_ret (pe_call G__law_same (hr.mono (by decide)) (by rfl) T.g__law_same T.F__law_same.kp T.b__law_same .nil pass0 (pa_cons (pe_call G__law_answer (hr.mono (by decide)) (by rfl) T.g__law_answer T.F__law_answer.kp T.b__law_answer .nil pass0 (pa_cons (pv 1) (pa_cons (pv 7) pa_nil))) (pa_cons (pv 9) pa_nil)))))))))))))))))))
end
theorem beE_Blocked {K : PySem.W.Frag} {cc cda : Addr} {kV dc pm ct : Value} {an : Option Addr} : Binds K (PySem.W.fnX "__init__" "Blocked.__init__" (defArgs s_Blocked___init__) (defBody s_Blocked___init__) (defScope s_Blocked___init__) [("__class__", cc)] .none kV dc pm an (.ref cda) ct) ["self", "start", "end"] [] :=
  Binds.all fun us hl => match us, hl with | [_, _, _], _ => rfl
theorem txt_mk {P : Program} {K : PySem.W.Frag} {h : Heap} {mg : Str → Option Value} (X : K.In h) (G : h.Ns mainGlobals mg)
    {c_Glue : Addr} (aGlue : PySem.W.nsIn K mainGlobals "Glue" = some (some (.ref c_Glue)))
    (pgGlue : PySem.W.plainGet K c_Glue Str.empty = true) (hdGlue : PySem.W.hasDictIn K c_Glue = true) (poGlue : PySem.W.plainOver K c_Glue = true) (saGlue : PySem.W.findIn K (.ref c_Glue) "__setattr__" = some (some (.builtin "object.__setattr__"))) (mkGlue : PySem.W.makesIn K c_Glue = true) (kcGlue : PySem.W.keepIn K (.ref c_Glue) = true)
    (haGlue : PySem.W.findIn K (.ref c_Glue) "__class__" = some (some (.builtin "object.__class__"))) (hmGlue : PySem.W.mroIn K c_Glue (.type "object") = some true)
    (sfGlue : PySem.W.selfFirst K c_Glue = true)
    (naGlue_width : PySem.W.findIn K (.ref c_Glue) "width" = some none)
    (naGlue_stretch : PySem.W.findIn K (.ref c_Glue) "stretch" = some none)
    (naGlue_shrink : PySem.W.findIn K (.ref c_Glue) "shrink" = some none)
    {c_LineTable : Addr} (aLineTable : PySem.W.nsIn K mainGlobals "LineTable" = some (some (.ref c_LineTable)))
    (pgLineTable : PySem.W.plainGet K c_LineTable Str.empty = true) (hdLineTable : PySem.W.hasDictIn K c_LineTable = true) (poLineTable : PySem.W.plainOver K c_LineTable = true) (saLineTable : PySem.W.findIn K (.ref c_LineTable) "__setattr__" = some (some (.builtin "object.__setattr__"))) (mkLineTable : PySem.W.makesIn K c_LineTable = true) (kcLineTable : PySem.W.keepIn K (.ref c_LineTable) = true)
    (haLineTable : PySem.W.findIn K (.ref c_LineTable) "__class__" = some (some (.builtin "object.__class__"))) (hmLineTable : PySem.W.mroIn K c_LineTable (.type "object") = some true)
    (naLineTable_row : PySem.W.findIn K (.ref c_LineTable) "row" = some none)
    (naLineTable_fitting : PySem.W.findIn K (.ref c_LineTable) "fitting" = some none)
    (naLineTable_boxes : PySem.W.findIn K (.ref c_LineTable) "boxes" = some none)
    (naLineTable_rivers : PySem.W.findIn K (.ref c_LineTable) "rivers" = some none)
    (naLineTable_ends_from : PySem.W.findIn K (.ref c_LineTable) "ends_from" = some none)
    (naLineTable_starts_to : PySem.W.findIn K (.ref c_LineTable) "starts_to" = some none)
    (naLineTable_gaps : PySem.W.findIn K (.ref c_LineTable) "gaps" = some none)
    {c_Measure : Addr} (aMeasure : PySem.W.nsIn K mainGlobals "Measure" = some (some (.ref c_Measure)))
    (pgMeasure : PySem.W.plainGet K c_Measure Str.empty = true) (hdMeasure : PySem.W.hasDictIn K c_Measure = true) (poMeasure : PySem.W.plainOver K c_Measure = true) (saMeasure : PySem.W.findIn K (.ref c_Measure) "__setattr__" = some (some (.builtin "object.__setattr__"))) (mkMeasure : PySem.W.makesIn K c_Measure = true) (kcMeasure : PySem.W.keepIn K (.ref c_Measure) = true)
    (haMeasure : PySem.W.findIn K (.ref c_Measure) "__class__" = some (some (.builtin "object.__class__"))) (hmMeasure : PySem.W.mroIn K c_Measure (.type "object") = some true)
    (rdMeasure : PySem.W.readsIn K c_Measure (.type "type") = true) (gaMeasure : PySem.W.specialIn K (.ref c_Measure) "__getattribute__" = some (some (.builtin "type.__getattribute__")))
    (naMeasure_width : PySem.W.findIn K (.ref c_Measure) "width" = some none)
    (naMeasure_indent : PySem.W.findIn K (.ref c_Measure) "indent" = some none)
    (naMeasure_align : PySem.W.findIn K (.ref c_Measure) "align" = some none)
    (naMeasure_hyphen : PySem.W.findIn K (.ref c_Measure) "hyphen" = some none)
    (naMeasure_twin : PySem.W.findIn K (.ref c_Measure) "twin" = some none)
    (naMeasure_river : PySem.W.findIn K (.ref c_Measure) "river" = some none)
    (naMeasure_loose : PySem.W.findIn K (.ref c_Measure) "loose" = some none)
    (hnO : PySem.W.specialIn K (.builtin "object.__class__") "__get__" = some (some (.builtin "getset_descriptor.__get__"))) (htO : PySem.W.takesIn K (.builtin "object.__class__") = some true)
    {f0 : Addr} {od0 an0 : Option Addr} {sl0 : Array (Option Value)} {oc0 kV0 dc0 pm0 cd0 ct0 : Value}
    (a0 : PySem.W.findIn K (.ref c_Glue) "__init__" = some (some (.ref f0))) (l0 : K.lookup f0 = some ⟨oc0, od0, .func (PySem.W.fnOf "__init__" "Glue.__init__" (defArgs s_Glue___init__) (defBody s_Glue___init__) (defScope s_Glue___init__) .none kV0 dc0 pm0 an0 cd0 ct0), sl0⟩) (c0 : PySem.W.codeIn K cd0 "Glue.__init__" = true) (k0 : PySem.W.keepIn K (.ref f0) = true)
    (i0 : PySem.W.isFn K (.ref f0) = true)
    {f1 : Addr} {od1 an1 : Option Addr} {sl1 : Array (Option Value)} {oc1 kV1 dc1 pm1 cd1 ct1 : Value}
    (a1 : PySem.W.findIn K (.ref c_Glue) "__add__" = some (some (.ref f1))) (l1 : K.lookup f1 = some ⟨oc1, od1, .func (PySem.W.fnOf "__add__" "Glue.__add__" (defArgs s_Glue___add__) (defBody s_Glue___add__) (defScope s_Glue___add__) .none kV1 dc1 pm1 an1 cd1 ct1), sl1⟩) (c1 : PySem.W.codeIn K cd1 "Glue.__add__" = true) (k1 : PySem.W.keepIn K (.ref f1) = true)
    (i1 : PySem.W.isFn K (.ref f1) = true)
    (o1 : PySem.W.findIn K (.ref c_Glue) (PySem.dunder (PySem.Operator.Add).info.2) = some (some (.ref f1)))
    {f2 : Addr} {od2 an2 : Option Addr} {sl2 : Array (Option Value)} {oc2 kV2 dc2 pm2 cd2 ct2 : Value}
    (a2 : PySem.W.nsIn K mainGlobals "ends_at_hyphen" = some (some (.ref f2))) (l2 : K.lookup f2 = some ⟨oc2, od2, .func (PySem.W.fnOf "ends_at_hyphen" "ends_at_hyphen" (defArgs s_ends_at_hyphen) (defBody s_ends_at_hyphen) (defScope s_ends_at_hyphen) .none kV2 dc2 pm2 an2 cd2 ct2), sl2⟩) (c2 : PySem.W.codeIn K cd2 "ends_at_hyphen" = true) (k2 : PySem.W.keepIn K (.ref f2) = true)
    {f3 : Addr} {od3 an3 : Option Addr} {sl3 : Array (Option Value)} {oc3 kV3 dc3 pm3 cd3 ct3 : Value}
    (a3 : PySem.W.nsIn K mainGlobals "joint_glue" = some (some (.ref f3))) (l3 : K.lookup f3 = some ⟨oc3, od3, .func (PySem.W.fnOf "joint_glue" "joint_glue" (defArgs s_joint_glue) (defBody s_joint_glue) (defScope s_joint_glue) .none kV3 dc3 pm3 an3 cd3 ct3), sl3⟩) (c3 : PySem.W.codeIn K cd3 "joint_glue" = true) (k3 : PySem.W.keepIn K (.ref f3) = true)
    {f4 : Addr} {od4 an4 : Option Addr} {sl4 : Array (Option Value)} {oc4 kV4 dc4 pm4 cd4 ct4 : Value}
    (a4 : PySem.W.nsIn K mainGlobals "extended_glue" = some (some (.ref f4))) (l4 : K.lookup f4 = some ⟨oc4, od4, .func (PySem.W.fnOf "extended_glue" "extended_glue" (defArgs s_extended_glue) (defBody s_extended_glue) (defScope s_extended_glue) .none kV4 dc4 pm4 an4 cd4 ct4), sl4⟩) (c4 : PySem.W.codeIn K cd4 "extended_glue" = true) (k4 : PySem.W.keepIn K (.ref f4) = true)
    {f5 : Addr} {od5 an5 : Option Addr} {sl5 : Array (Option Value)} {oc5 kV5 dc5 pm5 cd5 ct5 : Value}
    (a5 : PySem.W.nsIn K mainGlobals "finished_glue" = some (some (.ref f5))) (l5 : K.lookup f5 = some ⟨oc5, od5, .func (PySem.W.fnOf "finished_glue" "finished_glue" (defArgs s_finished_glue) (defBody s_finished_glue) (defScope s_finished_glue) .none kV5 dc5 pm5 an5 cd5 ct5), sl5⟩) (c5 : PySem.W.codeIn K cd5 "finished_glue" = true) (k5 : PySem.W.keepIn K (.ref f5) = true)
    {f6 : Addr} {od6 an6 : Option Addr} {sl6 : Array (Option Value)} {oc6 kV6 dc6 pm6 cd6 ct6 : Value}
    (a6 : PySem.W.nsIn K mainGlobals "line_glue" = some (some (.ref f6))) (l6 : K.lookup f6 = some ⟨oc6, od6, .func (PySem.W.fnOf "line_glue" "line_glue" (defArgs s_line_glue) (defBody s_line_glue) (defScope s_line_glue) .none kV6 dc6 pm6 an6 cd6 ct6), sl6⟩) (c6 : PySem.W.codeIn K cd6 "line_glue" = true) (k6 : PySem.W.keepIn K (.ref f6) = true)
    {f7 : Addr} {od7 an7 : Option Addr} {sl7 : Array (Option Value)} {oc7 kV7 dc7 pm7 cd7 ct7 : Value}
    (a7 : PySem.W.nsIn K mainGlobals "room_of" = some (some (.ref f7))) (l7 : K.lookup f7 = some ⟨oc7, od7, .func (PySem.W.fnOf "room_of" "room_of" (defArgs s_room_of) (defBody s_room_of) (defScope s_room_of) .none kV7 dc7 pm7 an7 cd7 ct7), sl7⟩) (c7 : PySem.W.codeIn K cd7 "room_of" = true) (k7 : PySem.W.keepIn K (.ref f7) = true)
    {f8 : Addr} {od8 an8 : Option Addr} {sl8 : Array (Option Value)} {oc8 kV8 dc8 pm8 cd8 ct8 : Value}
    (a8 : PySem.W.nsIn K mainGlobals "both_price" = some (some (.ref f8))) (l8 : K.lookup f8 = some ⟨oc8, od8, .func (PySem.W.fnOf "both_price" "both_price" (defArgs s_both_price) (defBody s_both_price) (defScope s_both_price) .none kV8 dc8 pm8 an8 cd8 ct8), sl8⟩) (c8 : PySem.W.codeIn K cd8 "both_price" = true) (k8 : PySem.W.keepIn K (.ref f8) = true)
    {f9 : Addr} {od9 an9 : Option Addr} {sl9 : Array (Option Value)} {oc9 kV9 dc9 pm9 cd9 ct9 : Value}
    (a9 : PySem.W.nsIn K mainGlobals "left_price" = some (some (.ref f9))) (l9 : K.lookup f9 = some ⟨oc9, od9, .func (PySem.W.fnOf "left_price" "left_price" (defArgs s_left_price) (defBody s_left_price) (defScope s_left_price) .none kV9 dc9 pm9 an9 cd9 ct9), sl9⟩) (c9 : PySem.W.codeIn K cd9 "left_price" = true) (k9 : PySem.W.keepIn K (.ref f9) = true)
    {f10 : Addr} {od10 an10 : Option Addr} {sl10 : Array (Option Value)} {oc10 kV10 dc10 pm10 cd10 ct10 : Value}
    (a10 : PySem.W.nsIn K mainGlobals "price_with_glue" = some (some (.ref f10))) (l10 : K.lookup f10 = some ⟨oc10, od10, .func (PySem.W.fnOf "price_with_glue" "price_with_glue" (defArgs s_price_with_glue) (defBody s_price_with_glue) (defScope s_price_with_glue) .none kV10 dc10 pm10 an10 cd10 ct10), sl10⟩) (c10 : PySem.W.codeIn K cd10 "price_with_glue" = true) (k10 : PySem.W.keepIn K (.ref f10) = true)
    {f11 : Addr} {od11 an11 : Option Addr} {sl11 : Array (Option Value)} {oc11 kV11 dc11 pm11 cd11 ct11 : Value}
    (a11 : PySem.W.nsIn K mainGlobals "extra_of" = some (some (.ref f11))) (l11 : K.lookup f11 = some ⟨oc11, od11, .func (PySem.W.fnOf "extra_of" "extra_of" (defArgs s_extra_of) (defBody s_extra_of) (defScope s_extra_of) .none kV11 dc11 pm11 an11 cd11 ct11), sl11⟩) (c11 : PySem.W.codeIn K cd11 "extra_of" = true) (k11 : PySem.W.keepIn K (.ref f11) = true)
    {f12 : Addr} {od12 an12 : Option Addr} {sl12 : Array (Option Value)} {oc12 kV12 dc12 pm12 cd12 ct12 : Value}
    (a12 : PySem.W.nsIn K mainGlobals "box_places" = some (some (.ref f12))) (l12 : K.lookup f12 = some ⟨oc12, od12, .func (PySem.W.fnOf "box_places" "box_places" (defArgs s_box_places) (defBody s_box_places) (defScope s_box_places) .none kV12 dc12 pm12 an12 cd12 ct12), sl12⟩) (c12 : PySem.W.codeIn K cd12 "box_places" = true) (k12 : PySem.W.keepIn K (.ref f12) = true)
    {f13 : Addr} {od13 an13 : Option Addr} {sl13 : Array (Option Value)} {oc13 kV13 dc13 pm13 cd13 ct13 : Value}
    (a13 : PySem.W.nsIn K mainGlobals "gap_spans" = some (some (.ref f13))) (l13 : K.lookup f13 = some ⟨oc13, od13, .func (PySem.W.fnOf "gap_spans" "gap_spans" (defArgs s_gap_spans) (defBody s_gap_spans) (defScope s_gap_spans) .none kV13 dc13 pm13 an13 cd13 ct13), sl13⟩) (c13 : PySem.W.codeIn K cd13 "gap_spans" = true) (k13 : PySem.W.keepIn K (.ref f13) = true)
    {f14 : Addr} {od14 an14 : Option Addr} {sl14 : Array (Option Value)} {oc14 kV14 dc14 pm14 cd14 ct14 : Value}
    (a14 : PySem.W.nsIn K mainGlobals "count_overlapping" = some (some (.ref f14))) (l14 : K.lookup f14 = some ⟨oc14, od14, .func (PySem.W.fnOf "count_overlapping" "count_overlapping" (defArgs s_count_overlapping) (defBody s_count_overlapping) (defScope s_count_overlapping) .none kV14 dc14 pm14 an14 cd14 ct14), sl14⟩) (c14 : PySem.W.codeIn K cd14 "count_overlapping" = true) (k14 : PySem.W.keepIn K (.ref f14) = true)
    {f15 : Addr} {od15 an15 : Option Addr} {sl15 : Array (Option Value)} {oc15 kV15 dc15 pm15 cd15 ct15 : Value}
    (a15 : PySem.W.nsIn K mainGlobals "price_with_count" = some (some (.ref f15))) (l15 : K.lookup f15 = some ⟨oc15, od15, .func (PySem.W.fnOf "price_with_count" "price_with_count" (defArgs s_price_with_count) (defBody s_price_with_count) (defScope s_price_with_count) .none kV15 dc15 pm15 an15 cd15 ct15), sl15⟩) (c15 : PySem.W.codeIn K cd15 "price_with_count" = true) (k15 : PySem.W.keepIn K (.ref f15) = true)
    {f16 : Addr} {od16 an16 : Option Addr} {sl16 : Array (Option Value)} {oc16 kV16 dc16 pm16 cd16 ct16 : Value}
    (a16 : PySem.W.nsIn K mainGlobals "lines_from" = some (some (.ref f16))) (l16 : K.lookup f16 = some ⟨oc16, od16, .func (PySem.W.fnOf "lines_from" "lines_from" (defArgs s_lines_from) (defBody s_lines_from) (defScope s_lines_from) .none kV16 dc16 pm16 an16 cd16 ct16), sl16⟩) (c16 : PySem.W.codeIn K cd16 "lines_from" = true) (k16 : PySem.W.keepIn K (.ref f16) = true)
    {f17 : Addr} {od17 an17 : Option Addr} {sl17 : Array (Option Value)} {oc17 kV17 dc17 pm17 cd17 ct17 : Value}
    (a17 : PySem.W.findIn K (.ref c_LineTable) "__init__" = some (some (.ref f17))) (l17 : K.lookup f17 = some ⟨oc17, od17, .func (PySem.W.fnOf "__init__" "LineTable.__init__" (defArgs s_LineTable___init__) (defBody s_LineTable___init__) (defScope s_LineTable___init__) .none kV17 dc17 pm17 an17 cd17 ct17), sl17⟩) (c17 : PySem.W.codeIn K cd17 "LineTable.__init__" = true) (k17 : PySem.W.keepIn K (.ref f17) = true)
    (i17 : PySem.W.isFn K (.ref f17) = true)
    {f18 : Addr} {od18 an18 : Option Addr} {sl18 : Array (Option Value)} {oc18 kV18 dc18 pm18 cd18 ct18 : Value}
    (a18 : PySem.W.findIn K (.ref c_LineTable) "pair" = some (some (.ref f18))) (l18 : K.lookup f18 = some ⟨oc18, od18, .func (PySem.W.fnOf "pair" "LineTable.pair" (defArgs s_LineTable_pair) (defBody s_LineTable_pair) (defScope s_LineTable_pair) .none kV18 dc18 pm18 an18 cd18 ct18), sl18⟩) (c18 : PySem.W.codeIn K cd18 "LineTable.pair" = true) (k18 : PySem.W.keepIn K (.ref f18) = true)
    (i18 : PySem.W.isFn K (.ref f18) = true)
    {f19 : Addr} {od19 an19 : Option Addr} {sl19 : Array (Option Value)} {oc19 kV19 dc19 pm19 cd19 ct19 : Value}
    (a19 : PySem.W.nsIn K mainGlobals "farthest_ends" = some (some (.ref f19))) (l19 : K.lookup f19 = some ⟨oc19, od19, .func (PySem.W.fnOf "farthest_ends" "farthest_ends" (defArgs s_farthest_ends) (defBody s_farthest_ends) (defScope s_farthest_ends) .none kV19 dc19 pm19 an19 cd19 ct19), sl19⟩) (c19 : PySem.W.codeIn K cd19 "farthest_ends" = true) (k19 : PySem.W.keepIn K (.ref f19) = true)
    {f20 : Addr} {od20 an20 : Option Addr} {sl20 : Array (Option Value)} {oc20 kV20 dc20 pm20 cd20 ct20 : Value}
    (a20 : PySem.W.nsIn K mainGlobals "stretch_of" = some (some (.ref f20))) (l20 : K.lookup f20 = some ⟨oc20, od20, .func (PySem.W.fnOf "stretch_of" "stretch_of" (defArgs s_stretch_of) (defBody s_stretch_of) (defScope s_stretch_of) .none kV20 dc20 pm20 an20 cd20 ct20), sl20⟩) (c20 : PySem.W.codeIn K cd20 "stretch_of" = true) (k20 : PySem.W.keepIn K (.ref f20) = true)
    {f21 : Addr} {od21 an21 : Option Addr} {sl21 : Array (Option Value)} {oc21 kV21 dc21 pm21 cd21 ct21 : Value}
    (a21 : PySem.W.nsIn K mainGlobals "continuations" = some (some (.ref f21))) (l21 : K.lookup f21 = some ⟨oc21, od21, .func (PySem.W.fnOf "continuations" "continuations" (defArgs s_continuations) (defBody s_continuations) (defScope s_continuations) .none kV21 dc21 pm21 an21 cd21 ct21), sl21⟩) (c21 : PySem.W.codeIn K cd21 "continuations" = true) (k21 : PySem.W.keepIn K (.ref f21) = true)
    {f22 : Addr} {od22 an22 : Option Addr} {sl22 : Array (Option Value)} {oc22 kV22 dc22 pm22 cd22 ct22 : Value}
    (a22 : PySem.W.nsIn K mainGlobals "best_continuations" = some (some (.ref f22))) (l22 : K.lookup f22 = some ⟨oc22, od22, .func (PySem.W.fnOf "best_continuations" "best_continuations" (defArgs s_best_continuations) (defBody s_best_continuations) (defScope s_best_continuations) .none kV22 dc22 pm22 an22 cd22 ct22), sl22⟩) (c22 : PySem.W.codeIn K cd22 "best_continuations" = true) (k22 : PySem.W.keepIn K (.ref f22) = true)
    {f23 : Addr} {od23 an23 : Option Addr} {sl23 : Array (Option Value)} {oc23 kV23 dc23 pm23 cd23 ct23 : Value}
    (a23 : PySem.W.nsIn K mainGlobals "break_lines" = some (some (.ref f23))) (l23 : K.lookup f23 = some ⟨oc23, od23, .func (PySem.W.fnOf "break_lines" "break_lines" (defArgs s_break_lines) (defBody s_break_lines) (defScope s_break_lines) .none kV23 dc23 pm23 an23 cd23 ct23), sl23⟩) (c23 : PySem.W.codeIn K cd23 "break_lines" = true) (k23 : PySem.W.keepIn K (.ref f23) = true)
    {f24 : Addr} {od24 an24 : Option Addr} {sl24 : Array (Option Value)} {oc24 kV24 dc24 pm24 cd24 ct24 : Value}
    (a24 : PySem.W.nsIn K mainGlobals "prefixes_to" = some (some (.ref f24))) (l24 : K.lookup f24 = some ⟨oc24, od24, .func (PySem.W.fnOf "prefixes_to" "prefixes_to" (defArgs s_prefixes_to) (defBody s_prefixes_to) (defScope s_prefixes_to) .none kV24 dc24 pm24 an24 cd24 ct24), sl24⟩) (c24 : PySem.W.codeIn K cd24 "prefixes_to" = true) (k24 : PySem.W.keepIn K (.ref f24) = true)
    {f25 : Addr} {od25 an25 : Option Addr} {sl25 : Array (Option Value)} {oc25 kV25 dc25 pm25 cd25 ct25 : Value}
    (a25 : PySem.W.nsIn K mainGlobals "best_prefixes" = some (some (.ref f25))) (l25 : K.lookup f25 = some ⟨oc25, od25, .func (PySem.W.fnOf "best_prefixes" "best_prefixes" (defArgs s_best_prefixes) (defBody s_best_prefixes) (defScope s_best_prefixes) .none kV25 dc25 pm25 an25 cd25 ct25), sl25⟩) (c25 : PySem.W.codeIn K cd25 "best_prefixes" = true) (k25 : PySem.W.keepIn K (.ref f25) = true)
    {f26 : Addr} {od26 an26 : Option Addr} {sl26 : Array (Option Value)} {oc26 kV26 dc26 pm26 cd26 ct26 : Value}
    (a26 : PySem.W.nsIn K mainGlobals "line_certificate" = some (some (.ref f26))) (l26 : K.lookup f26 = some ⟨oc26, od26, .func (PySem.W.fnOf "line_certificate" "line_certificate" (defArgs s_line_certificate) (defBody s_line_certificate) (defScope s_line_certificate) .none kV26 dc26 pm26 an26 cd26 ct26), sl26⟩) (c26 : PySem.W.codeIn K cd26 "line_certificate" = true) (k26 : PySem.W.keepIn K (.ref f26) = true)
    {f27 : Addr} {od27 an27 : Option Addr} {sl27 : Array (Option Value)} {oc27  dc27 pm27 cd27 ct27 : Value}
    {D_Measure : Addr} {t_Measure_indent : Tok} {t_Measure_align : Tok} {t_Measure_hyphen : Tok} {t_Measure_twin : Tok} {t_Measure_river : Tok} {t_Measure_loose : Tok}
    (a27 : PySem.W.findIn K (.ref c_Measure) "__init__" = some (some (.ref f27))) (l27 : K.lookup f27 = some ⟨oc27, od27, .func (PySem.W.fnOf "__init__" "Measure.__init__" (defArgs s_Measure___init__) (defBody s_Measure___init__) (defScope s_Measure___init__) .none (.ref D_Measure) dc27 pm27 an27 cd27 ct27), sl27⟩) (c27 : PySem.W.codeIn K cd27 "Measure.__init__" = true) (k27 : PySem.W.keepIn K (.ref f27) = true)
    (i27 : PySem.W.isFn K (.ref f27) = true)
    (kd_Measure_indent : PySem.W.nsIn K D_Measure "indent" = some (some (.int 0 t_Measure_indent))) (kd_Measure_align : PySem.W.nsIn K D_Measure "align" = some (some (.str "both" t_Measure_align))) (kd_Measure_hyphen : PySem.W.nsIn K D_Measure "hyphen" = some (some (.int 50 t_Measure_hyphen))) (kd_Measure_twin : PySem.W.nsIn K D_Measure "twin" = some (some (.int 100 t_Measure_twin))) (kd_Measure_river : PySem.W.nsIn K D_Measure "river" = some (some (.int 0 t_Measure_river))) (kd_Measure_loose : PySem.W.nsIn K D_Measure "loose" = some (some (.int 2 t_Measure_loose)))
    {f28 : Addr} {od28 an28 : Option Addr} {sl28 : Array (Option Value)} {oc28 kV28 dc28 pm28 cd28 ct28 : Value}
    {p28 : Addr} {rest28 : List Value} (sa28 : PySem.W.findCls K (.ref c_Measure) (.type "type") "of" = some (.get (.builtin "staticmethod.__get__") (.ref p28) .none (.ref c_Measure))) (sr28 : PySem.W.recIn K p28 "staticmethod" = some (.ref f28 :: rest28))
    (l28 : K.lookup f28 = some ⟨oc28, od28, .func (PySem.W.fnOf "of" "Measure.of" (defArgs s_Measure_of) (defBody s_Measure_of) (defScope s_Measure_of) .none kV28 dc28 pm28 an28 cd28 ct28), sl28⟩) (c28 : PySem.W.codeIn K cd28 "Measure.of" = true) (k28 : PySem.W.keepIn K (.ref f28) = true)
    {f29 : Addr} {od29 an29 : Option Addr} {sl29 : Array (Option Value)} {oc29 kV29 dc29 pm29 cd29 ct29 : Value}
    (a29 : PySem.W.nsIn K mainGlobals "_law_pool" = some (some (.ref f29))) (l29 : K.lookup f29 = some ⟨oc29, od29, .func (PySem.W.fnOf "_law_pool" "_law_pool" (defArgs s__law_pool) (defBody s__law_pool) (defScope s__law_pool) .none kV29 dc29 pm29 an29 cd29 ct29), sl29⟩) (c29 : PySem.W.codeIn K cd29 "_law_pool" = true) (k29 : PySem.W.keepIn K (.ref f29) = true)
    {f30 : Addr} {od30 an30 : Option Addr} {sl30 : Array (Option Value)} {oc30 kV30 dc30 pm30 cd30 ct30 : Value}
    (a30 : PySem.W.nsIn K mainGlobals "_law_take" = some (some (.ref f30))) (l30 : K.lookup f30 = some ⟨oc30, od30, .func (PySem.W.fnOf "_law_take" "_law_take" (defArgs s__law_take) (defBody s__law_take) (defScope s__law_take) .none kV30 dc30 pm30 an30 cd30 ct30), sl30⟩) (c30 : PySem.W.codeIn K cd30 "_law_take" = true) (k30 : PySem.W.keepIn K (.ref f30) = true)
    {f31 : Addr} {od31 an31 : Option Addr} {sl31 : Array (Option Value)} {oc31 kV31 dc31 pm31 cd31 ct31 : Value}
    (a31 : PySem.W.nsIn K mainGlobals "_law_same" = some (some (.ref f31))) (l31 : K.lookup f31 = some ⟨oc31, od31, .func (PySem.W.fnOf "_law_same" "_law_same" (defArgs s__law_same) (defBody s__law_same) (defScope s__law_same) .none kV31 dc31 pm31 an31 cd31 ct31), sl31⟩) (c31 : PySem.W.codeIn K cd31 "_law_same" = true) (k31 : PySem.W.keepIn K (.ref f31) = true)
    {f32 : Addr} {od32 an32 : Option Addr} {sl32 : Array (Option Value)} {oc32 kV32 dc32 pm32 cd32 ct32 : Value}
    (a32 : PySem.W.nsIn K mainGlobals "_law_joint" = some (some (.ref f32))) (l32 : K.lookup f32 = some ⟨oc32, od32, .func (PySem.W.fnOf "_law_joint" "_law_joint" (defArgs s__law_joint) (defBody s__law_joint) (defScope s__law_joint) .none kV32 dc32 pm32 an32 cd32 ct32), sl32⟩) (c32 : PySem.W.codeIn K cd32 "_law_joint" = true) (k32 : PySem.W.keepIn K (.ref f32) = true)
    {f33 : Addr} {od33 an33 : Option Addr} {sl33 : Array (Option Value)} {oc33 kV33 dc33 pm33 cd33 ct33 : Value}
    (a33 : PySem.W.nsIn K mainGlobals "_law_bare" = some (some (.ref f33))) (l33 : K.lookup f33 = some ⟨oc33, od33, .func (PySem.W.fnOf "_law_bare" "_law_bare" (defArgs s__law_bare) (defBody s__law_bare) (defScope s__law_bare) .none kV33 dc33 pm33 an33 cd33 ct33), sl33⟩) (c33 : PySem.W.codeIn K cd33 "_law_bare" = true) (k33 : PySem.W.keepIn K (.ref f33) = true)
    {f34 : Addr} {od34 an34 : Option Addr} {sl34 : Array (Option Value)} {oc34 kV34 dc34 pm34 cd34 ct34 : Value}
    (a34 : PySem.W.nsIn K mainGlobals "_law_glue" = some (some (.ref f34))) (l34 : K.lookup f34 = some ⟨oc34, od34, .func (PySem.W.fnOf "_law_glue" "_law_glue" (defArgs s__law_glue) (defBody s__law_glue) (defScope s__law_glue) .none kV34 dc34 pm34 an34 cd34 ct34), sl34⟩) (c34 : PySem.W.codeIn K cd34 "_law_glue" = true) (k34 : PySem.W.keepIn K (.ref f34) = true)
    {f35 : Addr} {od35 an35 : Option Addr} {sl35 : Array (Option Value)} {oc35 kV35 dc35 pm35 cd35 ct35 : Value}
    (a35 : PySem.W.nsIn K mainGlobals "_law_line_key" = some (some (.ref f35))) (l35 : K.lookup f35 = some ⟨oc35, od35, .func (PySem.W.fnOf "_law_line_key" "_law_line_key" (defArgs s__law_line_key) (defBody s__law_line_key) (defScope s__law_line_key) .none kV35 dc35 pm35 an35 cd35 ct35), sl35⟩) (c35 : PySem.W.codeIn K cd35 "_law_line_key" = true) (k35 : PySem.W.keepIn K (.ref f35) = true)
    {f36 : Addr} {od36 an36 : Option Addr} {sl36 : Array (Option Value)} {oc36 kV36 dc36 pm36 cd36 ct36 : Value}
    (a36 : PySem.W.nsIn K mainGlobals "_law_allowed" = some (some (.ref f36))) (l36 : K.lookup f36 = some ⟨oc36, od36, .func (PySem.W.fnOf "_law_allowed" "_law_allowed" (defArgs s__law_allowed) (defBody s__law_allowed) (defScope s__law_allowed) .none kV36 dc36 pm36 an36 cd36 ct36), sl36⟩) (c36 : PySem.W.codeIn K cd36 "_law_allowed" = true) (k36 : PySem.W.keepIn K (.ref f36) = true)
    {f37 : Addr} {od37 an37 : Option Addr} {sl37 : Array (Option Value)} {oc37 kV37 dc37 pm37 cd37 ct37 : Value}
    (a37 : PySem.W.nsIn K mainGlobals "_law_times" = some (some (.ref f37))) (l37 : K.lookup f37 = some ⟨oc37, od37, .func (PySem.W.fnOf "_law_times" "_law_times" (defArgs s__law_times) (defBody s__law_times) (defScope s__law_times) .none kV37 dc37 pm37 an37 cd37 ct37), sl37⟩) (c37 : PySem.W.codeIn K cd37 "_law_times" = true) (k37 : PySem.W.keepIn K (.ref f37) = true)
    {f38 : Addr} {od38 an38 : Option Addr} {sl38 : Array (Option Value)} {oc38 kV38 dc38 pm38 cd38 ct38 : Value}
    (a38 : PySem.W.nsIn K mainGlobals "_law_answer" = some (some (.ref f38))) (l38 : K.lookup f38 = some ⟨oc38, od38, .func (PySem.W.fnOf "_law_answer" "_law_answer" (defArgs s__law_answer) (defBody s__law_answer) (defScope s__law_answer) .none kV38 dc38 pm38 an38 cd38 ct38), sl38⟩) (c38 : PySem.W.codeIn K cd38 "_law_answer" = true) (k38 : PySem.W.keepIn K (.ref f38) = true)
    {f39 : Addr} {od39 an39 : Option Addr} {sl39 : Array (Option Value)} {oc39 kV39 dc39 pm39 cd39 ct39 : Value}
    (a39 : PySem.W.nsIn K mainGlobals "law" = some (some (.ref f39))) (l39 : K.lookup f39 = some ⟨oc39, od39, .func (PySem.W.fnOf "law" "law" (defArgs s_law) (defBody s_law) (defScope s_law) .none kV39 dc39 pm39 an39 cd39 ct39), sl39⟩) (c39 : PySem.W.codeIn K cd39 "law" = true) (k39 : PySem.W.keepIn K (.ref f39) = true)
    (z_abs : PySem.W.nsIn K mainGlobals "abs" = some none)
    (z_bool : PySem.W.nsIn K mainGlobals "bool" = some none)
    (z_int : PySem.W.nsIn K mainGlobals "int" = some none)
    (z_isinstance : PySem.W.nsIn K mainGlobals "isinstance" = some none)
    (z_len : PySem.W.nsIn K mainGlobals "len" = some none)
    (z_list : PySem.W.nsIn K mainGlobals "list" = some none)
    (z_max : PySem.W.nsIn K mainGlobals "max" = some none)
    (z_min : PySem.W.nsIn K mainGlobals "min" = some none)
    (z_range : PySem.W.nsIn K mainGlobals "range" = some none)
    (z_str : PySem.W.nsIn K mainGlobals "str" = some none)
    (z_sum : PySem.W.nsIn K mainGlobals "sum" = some none)
    (z_super : PySem.W.nsIn K mainGlobals "super" = some none)
    (z_tuple : PySem.W.nsIn K mainGlobals "tuple" = some none)
    {c_Blocked : Addr} (a_Blocked : PySem.W.nsIn K mainGlobals "Blocked" = some (some (.ref c_Blocked))) (bs_Blocked : PySem.W.subIn K (.ref c_Blocked) (.type "BaseException") = some true) (tx_Blocked : PySem.W.typeIn K (.ref c_Blocked) = some (.type "type")) (hd_Blocked : PySem.W.hasDictIn K c_Blocked = true)
    (ga_Blocked : PySem.W.findIn K (.ref c_Blocked) "__getattribute__" = some (some (.builtin "BaseException.__getattribute__"))) (gg_Blocked : PySem.W.findIn K (.ref c_Blocked) "__getattr__" = some none) (cl_Blocked : PySem.W.findIn K (.ref c_Blocked) "__class__" = some (some (.builtin "object.__class__"))) (mo_Blocked : PySem.W.mroIn K c_Blocked (.type "object") = some true) (kx_Blocked : PySem.W.keepIn K (.ref c_Blocked) = true)
    (va_Blocked : PySem.W.subIn K (.ref c_Blocked) (.type "ValueError") = some true)
    (ks_ev : subTab K [c_Blocked] = true)
    (opq : PySem.W.nsIn K cStatics "thirdparty.any" = some none) (top0 : (P.main.scope.names.lookup ("super" : Str)).isSome = false)
    {nm_Blocked qn_Blocked : Str} {N_Blocked : Addr} {bs__Blocked bm_Blocked : List Value} {sn_Blocked : List Str} {sub_Blocked : List Value} {ab_Blocked : Bool} {col_Blocked : Option Bool} {dd_Blocked : Option Addr} {k0_Blocked k1_Blocked k2_Blocked k3_Blocked k5_Blocked : Option Value} (oc_Blocked : K.lookup c_Blocked = some (excClassObj nm_Blocked qn_Blocked c_Blocked N_Blocked bs__Blocked bm_Blocked true sn_Blocked sub_Blocked ab_Blocked col_Blocked dd_Blocked k0_Blocked k1_Blocked k2_Blocked k3_Blocked k5_Blocked "ValueError.__new__")) (rv_Blocked : PySem.HandSPX.refsVE bm_Blocked = true) (oa_Blocked : PySem.W.findIn K (.ref c_Blocked) "__setattr__" = some (some (.builtin "object.__setattr__")))
    {fi_Blocked cc_Blocked cda_Blocked : Addr} {fo_Blocked kV_Blocked dc_Blocked pm_Blocked ct_Blocked ccl_Blocked cl__Blocked : Value} {fd_Blocked an_Blocked cdd_Blocked cld_Blocked : Option Addr} {fs_Blocked ccs_Blocked csl_Blocked : Array (Option Value)} {vs_Blocked : Array Value} {file_Blocked : Str} {tf_Blocked : Tok} (ic_Blocked : PySem.W.findIn K (.ref c_Blocked) "__init__" = some (some (.ref fi_Blocked))) (ti_Blocked : PySem.W.typeIn K (.ref fi_Blocked) = some (.type "function"))
    (lk_Blocked : K.lookup fi_Blocked = some ⟨fo_Blocked, fd_Blocked, .func (PySem.W.fnX "__init__" "Blocked.__init__" (defArgs s_Blocked___init__) (defBody s_Blocked___init__) (defScope s_Blocked___init__) [("__class__", cc_Blocked)] .none kV_Blocked dc_Blocked pm_Blocked an_Blocked (.ref cda_Blocked) ct_Blocked), fs_Blocked⟩) (cq_Blocked : PySem.W.codeIn K (.ref cda_Blocked) "Blocked.__init__" = true)
    (co_Blocked : K.lookup cda_Blocked = some ⟨ccl_Blocked, cdd_Blocked, .fields vs_Blocked, ccs_Blocked⟩) (fv_Blocked : vs_Blocked[2]? = some (.str file_Blocked tf_Blocked)) (fe_Blocked : ((P.main.file : Str) == file_Blocked) = true) (ce_Blocked : K.lookup cc_Blocked = some ⟨cl__Blocked, cld_Blocked, .cell (some (.ref c_Blocked)), csl_Blocked⟩) (su_Blocked : PySem.W.ks_superIn K c_Blocked c_Blocked "__init__" = some (some (.builtin "ValueError.__init__")))
    (na_Blocked_start : PySem.W.findIn K (.ref c_Blocked) "start" = some none)
    (na_Blocked_end : PySem.W.findIn K (.ref c_Blocked) "end" = some none)
    : ∃ T : Txt P K mg, T.f_law = f39 ∧ ∀ (s : Shared) (v : Value), BindsTo s T.fd_law ⟨[v], []⟩ [("_law_script", v)] := by
  have F0 := fun_mk (st := s_Glue___init__) l0 c0 k0
  have b0 := F0.binds (ps := ["self", "width", "stretch", "shrink"]) fun _ _ _ _ _ _ us hl => match us, hl with | [_, _, _, _], _ => rfl
  have F1 := fun_mk (st := s_Glue___add__) l1 c1 k1
  have b1 := F1.binds (ps := ["self", "other"]) fun _ _ _ _ _ _ us hl => match us, hl with | [_, _], _ => rfl
  have F2 := fun_mk (st := s_ends_at_hyphen) l2 c2 k2
  have b2 := F2.binds (ps := ["row", "end"]) fun _ _ _ _ _ _ us hl => match us, hl with | [_, _], _ => rfl
  have F3 := fun_mk (st := s_joint_glue) l3 c3 k3
  have b3 := F3.binds (ps := ["joint"]) fun _ _ _ _ _ _ us hl => match us, hl with | [_], _ => rfl
  have F4 := fun_mk (st := s_extended_glue) l4 c4 k4
  have b4 := F4.binds (ps := ["row", "inner", "box"]) fun _ _ _ _ _ _ us hl => match us, hl with | [_, _, _], _ => rfl
  have F5 := fun_mk (st := s_finished_glue) l5 c5 k5
  have b5 := F5.binds (ps := ["row", "inner", "end"]) fun _ _ _ _ _ _ us hl => match us, hl with | [_, _, _], _ => rfl
  have F6 := fun_mk (st := s_line_glue) l6 c6 k6
  have b6 := F6.binds (ps := ["row", "start", "end"]) fun _ _ _ _ _ _ us hl => match us, hl with | [_, _, _], _ => rfl
  have F7 := fun_mk (st := s_room_of) l7 c7 k7
  have b7 := F7.binds (ps := ["start", "measure"]) fun _ _ _ _ _ _ us hl => match us, hl with | [_, _], _ => rfl
  have F8 := fun_mk (st := s_both_price) l8 c8 k8
  have b8 := F8.binds (ps := ["glue", "room", "last", "loose"]) fun _ _ _ _ _ _ us hl => match us, hl with | [_, _, _, _], _ => rfl
  have F9 := fun_mk (st := s_left_price) l9 c9 k9
  have b9 := F9.binds (ps := ["glue", "room", "last"]) fun _ _ _ _ _ _ us hl => match us, hl with | [_, _, _], _ => rfl
  have F10 := fun_mk (st := s_price_with_glue) l10 c10 k10
  have b10 := F10.binds (ps := ["row", "end", "glue", "room", "measure"]) fun _ _ _ _ _ _ us hl => match us, hl with | [_, _, _, _, _], _ => rfl
  have F11 := fun_mk (st := s_extra_of) l11 c11 k11
  have b11 := F11.binds (ps := ["rest", "glue", "before", "last", "measure"]) fun _ _ _ _ _ _ us hl => match us, hl with | [_, _, _, _, _], _ => rfl
  have F12 := fun_mk (st := s_box_places) l12 c12 k12
  have b12 := F12.binds (ps := ["row", "start", "end", "measure"]) fun _ _ _ _ _ _ us hl => match us, hl with | [_, _, _, _], _ => rfl
  have F13 := fun_mk (st := s_gap_spans) l13 c13 k13
  have b13 := F13.binds (ps := ["row", "start", "end", "measure"]) fun _ _ _ _ _ _ us hl => match us, hl with | [_, _, _, _], _ => rfl
  have F14 := fun_mk (st := s_count_overlapping) l14 c14 k14
  have b14 := F14.binds (ps := ["upper", "lower"]) fun _ _ _ _ _ _ us hl => match us, hl with | [_, _], _ => rfl
  have F15 := fun_mk (st := s_price_with_count) l15 c15 k15
  have b15 := F15.binds (ps := ["row", "middle", "end", "measure", "count"]) fun _ _ _ _ _ _ us hl => match us, hl with | [_, _, _, _, _], _ => rfl
  have F16 := fun_mk (st := s_lines_from) l16 c16 k16
  have b16 := F16.binds (ps := ["row", "start", "measure"]) fun _ _ _ _ _ _ us hl => match us, hl with | [_, _, _], _ => rfl
  have F17 := fun_mk (st := s_LineTable___init__) l17 c17 k17
  have b17 := F17.binds (ps := ["self", "row", "measure"]) fun _ _ _ _ _ _ us hl => match us, hl with | [_, _, _], _ => rfl
  have F18 := fun_mk (st := s_LineTable_pair) l18 c18 k18
  have b18 := F18.binds (ps := ["self", "start", "middle", "end"]) fun _ _ _ _ _ _ us hl => match us, hl with | [_, _, _, _], _ => rfl
  have F19 := fun_mk (st := s_farthest_ends) l19 c19 k19
  have b19 := F19.binds (ps := ["table"]) fun _ _ _ _ _ _ us hl => match us, hl with | [_], _ => rfl
  have F20 := fun_mk (st := s_stretch_of) l20 c20 k20
  have b20 := F20.binds (ps := ["table"]) fun _ _ _ _ _ _ us hl => match us, hl with | [_], _ => rfl
  have F21 := fun_mk (st := s_continuations) l21 c21 k21
  have b21 := F21.binds (ps := ["table", "best", "start", "middle"]) fun _ _ _ _ _ _ us hl => match us, hl with | [_, _, _, _], _ => rfl
  have F22 := fun_mk (st := s_best_continuations) l22 c22 k22
  have b22 := F22.binds (ps := ["table"]) fun _ _ _ _ _ _ us hl => match us, hl with | [_], _ => rfl
  have F23 := fun_mk (st := s_break_lines) l23 c23 k23
  have b23 := F23.binds (ps := ["row", "measure"]) fun _ _ _ _ _ _ us hl => match us, hl with | [_, _], _ => rfl
  have F24 := fun_mk (st := s_prefixes_to) l24 c24 k24
  have b24 := F24.binds (ps := ["table", "best", "place"]) fun _ _ _ _ _ _ us hl => match us, hl with | [_, _, _], _ => rfl
  have F25 := fun_mk (st := s_best_prefixes) l25 c25 k25
  have b25 := F25.binds (ps := ["table"]) fun _ _ _ _ _ _ us hl => match us, hl with | [_], _ => rfl
  have F26 := fun_mk (st := s_line_certificate) l26 c26 k26
  have b26 := F26.binds (ps := ["row", "measure"]) fun _ _ _ _ _ _ us hl => match us, hl with | [_, _], _ => rfl
  have F27 := fun_mk (st := s_Measure___init__) l27 c27 k27
  have F28 := fun_mk (st := s_Measure_of) l28 c28 k28
  have b28 := F28.binds (ps := ["key"]) fun _ _ _ _ _ _ us hl => match us, hl with | [_], _ => rfl
  have F29 := fun_mk (st := s__law_pool) l29 c29 k29
  have b29 := F29.binds (ps := ["_law_script", "_law_at"]) fun _ _ _ _ _ _ us hl => match us, hl with | [_, _], _ => rfl
  have F30 := fun_mk (st := s__law_take) l30 c30 k30
  have b30 := F30.binds (ps := ["_law_pool_here", "_law_many"]) fun _ _ _ _ _ _ us hl => match us, hl with | [_, _], _ => rfl
  have F31 := fun_mk (st := s__law_same) l31 c31 k31
  have b31 := F31.binds (ps := ["_law_one", "_law_two"]) fun _ _ _ _ _ _ us hl => match us, hl with | [_, _], _ => rfl
  have F32 := fun_mk (st := s__law_joint) l32 c32 k32
  have b32 := F32.binds (ps := ["_law_pool_here", "_law_below", "_law_broad"]) fun _ _ _ _ _ _ us hl => match us, hl with | [_, _, _], _ => rfl
  have F33 := fun_mk (st := s__law_bare) l33 c33 k33
  have b33 := F33.binds (ps := ["_law_pool_here", "_law_least", "_law_often"]) fun _ _ _ _ _ _ us hl => match us, hl with | [_, _, _], _ => rfl
  have F34 := fun_mk (st := s__law_glue) l34 c34 k34
  have b34 := F34.binds (ps := ["_law_row", "_law_start", "_law_end"]) fun _ _ _ _ _ _ us hl => match us, hl with | [_, _, _], _ => rfl
  have F35 := fun_mk (st := s__law_line_key) l35 c35 k35
  have b35 := F35.binds (ps := ["_law_pool_here", "_law_row"]) fun _ _ _ _ _ _ us hl => match us, hl with | [_, _], _ => rfl
  have F36 := fun_mk (st := s__law_allowed) l36 c36 k36
  have b36 := F36.binds (ps := ["_law_row", "_law_key"]) fun _ _ _ _ _ _ us hl => match us, hl with | [_, _], _ => rfl
  have F37 := fun_mk (st := s__law_times) l37 c37 k37
  have b37 := F37.binds (ps := ["_law_row", "_law_times_here"]) fun _ _ _ _ _ _ us hl => match us, hl with | [_, _], _ => rfl
  have F38 := fun_mk (st := s__law_answer) l38 c38 k38
  have b38 := F38.binds (ps := ["_law_row", "_law_measure"]) fun _ _ _ _ _ _ us hl => match us, hl with | [_, _], _ => rfl
  have F39 := fun_mk (st := s_law) l39 c39 k39
  have b39 := F39.binds (ps := ["_law_script"]) fun _ _ _ _ _ _ us hl => match us, hl with | [_], _ => rfl
  exact ⟨{ c_Blocked := c_Blocked, g_Blocked := PySem.W.mg_of X G a_Blocked, bs_Blocked := bs_Blocked, tx_Blocked := tx_Blocked, hd_Blocked := hd_Blocked, m_abs := PySem.W.mg_none_of X G z_abs, m_bool := PySem.W.mg_none_of X G z_bool, m_int := PySem.W.mg_none_of X G z_int, m_isinstance := PySem.W.mg_none_of X G z_isinstance, m_len := PySem.W.mg_none_of X G z_len, m_list := PySem.W.mg_none_of X G z_list, m_max := PySem.W.mg_none_of X G z_max, m_min := PySem.W.mg_none_of X G z_min, m_range := PySem.W.mg_none_of X G z_range, m_str := PySem.W.mg_none_of X G z_str, m_sum := PySem.W.mg_none_of X G z_sum, m_super := PySem.W.mg_none_of X G z_super, m_tuple := PySem.W.mg_none_of X G z_tuple, c_Glue := c_Glue, g_Glue := PySem.W.mg_of X G aGlue, co_Glue := ⟨⟨pgGlue, hdGlue, poGlue, saGlue⟩, haGlue, hnO, htO, hmGlue⟩, sf_Glue := sfGlue, na_Glue_width := naGlue_width, na_Glue_stretch := naGlue_stretch, na_Glue_shrink := naGlue_shrink, c_LineTable := c_LineTable, g_LineTable := PySem.W.mg_of X G aLineTable, co_LineTable := ⟨⟨pgLineTable, hdLineTable, poLineTable, saLineTable⟩, haLineTable, hnO, htO, hmLineTable⟩, na_LineTable_row := naLineTable_row, na_LineTable_fitting := naLineTable_fitting, na_LineTable_boxes := naLineTable_boxes, na_LineTable_rivers := naLineTable_rivers, na_LineTable_ends_from := naLineTable_ends_from, na_LineTable_starts_to := naLineTable_starts_to, na_LineTable_gaps := naLineTable_gaps, c_Measure := c_Measure, g_Measure := PySem.W.mg_of X G aMeasure, co_Measure := ⟨⟨pgMeasure, hdMeasure, poMeasure, saMeasure⟩, haMeasure, hnO, htO, hmMeasure⟩, na_Measure_width := naMeasure_width, na_Measure_indent := naMeasure_indent, na_Measure_align := naMeasure_align, na_Measure_hyphen := naMeasure_hyphen, na_Measure_twin := naMeasure_twin, na_Measure_river := naMeasure_river, na_Measure_loose := naMeasure_loose, f_Glue___init__ := f0, fd_Glue___init__ := _, F_Glue___init__ := F0, b_Glue___init__ := b0, mk_Glue := ⟨mkGlue, a0, i0, kcGlue⟩, f_Glue___add__ := f1, fd_Glue___add__ := _, F_Glue___add__ := F1, b_Glue___add__ := b1, mt_Glue___add__ := ⟨a1, i1, k1⟩, op_Glue___add__ := o1, f_ends_at_hyphen := f2, fd_ends_at_hyphen := _, F_ends_at_hyphen := F2, b_ends_at_hyphen := b2, g_ends_at_hyphen := PySem.W.mg_of X G a2, f_joint_glue := f3, fd_joint_glue := _, F_joint_glue := F3, b_joint_glue := b3, g_joint_glue := PySem.W.mg_of X G a3, f_extended_glue := f4, fd_extended_glue := _, F_extended_glue := F4, b_extended_glue := b4, g_extended_glue := PySem.W.mg_of X G a4, f_finished_glue := f5, fd_finished_glue := _, F_finished_glue := F5, b_finished_glue := b5, g_finished_glue := PySem.W.mg_of X G a5, f_line_glue := f6, fd_line_glue := _, F_line_glue := F6, b_line_glue := b6, g_line_glue := PySem.W.mg_of X G a6, f_room_of := f7, fd_room_of := _, F_room_of := F7, b_room_of := b7, g_room_of := PySem.W.mg_of X G a7, f_both_price := f8, fd_both_price := _, F_both_price := F8, b_both_price := b8, g_both_price := PySem.W.mg_of X G a8, f_left_price := f9, fd_left_price := _, F_left_price := F9, b_left_price := b9, g_left_price := PySem.W.mg_of X G a9, f_price_with_glue := f10, fd_price_with_glue := _, F_price_with_glue := F10, b_price_with_glue := b10, g_price_with_glue := PySem.W.mg_of X G a10, f_extra_of := f11, fd_extra_of := _, F_extra_of := F11, b_extra_of := b11, g_extra_of := PySem.W.mg_of X G a11, f_box_places := f12, fd_box_places := _, F_box_places := F12, b_box_places := b12, g_box_places := PySem.W.mg_of X G a12, f_gap_spans := f13, fd_gap_spans := _, F_gap_spans := F13, b_gap_spans := b13, g_gap_spans := PySem.W.mg_of X G a13, f_count_overlapping := f14, fd_count_overlapping := _, F_count_overlapping := F14, b_count_overlapping := b14, g_count_overlapping := PySem.W.mg_of X G a14, f_price_with_count := f15, fd_price_with_count := _, F_price_with_count := F15, b_price_with_count := b15, g_price_with_count := PySem.W.mg_of X G a15, f_lines_from := f16, fd_lines_from := _, F_lines_from := F16, b_lines_from := b16, g_lines_from := PySem.W.mg_of X G a16, f_LineTable___init__ := f17, fd_LineTable___init__ := _, F_LineTable___init__ := F17, b_LineTable___init__ := b17, mk_LineTable := ⟨mkLineTable, a17, i17, kcLineTable⟩, f_LineTable_pair := f18, fd_LineTable_pair := _, F_LineTable_pair := F18, b_LineTable_pair := b18, mt_LineTable_pair := ⟨a18, i18, k18⟩, f_farthest_ends := f19, fd_farthest_ends := _, F_farthest_ends := F19, b_farthest_ends := b19, g_farthest_ends := PySem.W.mg_of X G a19, f_stretch_of := f20, fd_stretch_of := _, F_stretch_of := F20, b_stretch_of := b20, g_stretch_of := PySem.W.mg_of X G a20, f_continuations := f21, fd_continuations := _, F_continuations := F21, b_continuations := b21, g_continuations := PySem.W.mg_of X G a21, f_best_continuations := f22, fd_best_continuations := _, F_best_continuations := F22, b_best_continuations := b22, g_best_continuations := PySem.W.mg_of X G a22, f_break_lines := f23, fd_break_lines := _, F_break_lines := F23, b_break_lines := b23, g_break_lines := PySem.W.mg_of X G a23, f_prefixes_to := f24, fd_prefixes_to := _, F_prefixes_to := F24, b_prefixes_to := b24, g_prefixes_to := PySem.W.mg_of X G a24, f_best_prefixes := f25, fd_best_prefixes := _, F_best_prefixes := F25, b_best_prefixes := b25, g_best_prefixes := PySem.W.mg_of X G a25, f_line_certificate := f26, fd_line_certificate := _, F_line_certificate := F26, b_line_certificate := b26, g_line_certificate := PySem.W.mg_of X G a26, f_Measure___init__ := f27, fd_Measure___init__ := _, F_Measure___init__ := F27, fk_Measure := ⟨⟨_, _, _, _, _, _, _, _, _, _, rfl, l27, c27, .inl ⟨rfl, rfl⟩, .inr ⟨D_Measure, rfl, (kw_cons ⟨_, kd_Measure_indent, _, rfl⟩ (kw_cons ⟨_, kd_Measure_align, _, rfl⟩ (kw_cons ⟨_, kd_Measure_hyphen, _, rfl⟩ (kw_cons ⟨_, kd_Measure_twin, _, rfl⟩ (kw_cons ⟨_, kd_Measure_river, _, rfl⟩ (kw_cons ⟨_, kd_Measure_loose, _, rfl⟩ kw_nil))))))⟩⟩, k27⟩, mk_Measure := ⟨mkMeasure, a27, i27, kcMeasure⟩, f_Measure_of := f28, fd_Measure_of := _, F_Measure_of := F28, b_Measure_of := b28, p_Measure_of := p28, sm_Measure_of := ⟨rdMeasure, gaMeasure, sa28, ⟨_, sr28⟩⟩, f__law_pool := f29, fd__law_pool := _, F__law_pool := F29, b__law_pool := b29, g__law_pool := PySem.W.mg_of X G a29, f__law_take := f30, fd__law_take := _, F__law_take := F30, b__law_take := b30, g__law_take := PySem.W.mg_of X G a30, f__law_same := f31, fd__law_same := _, F__law_same := F31, b__law_same := b31, g__law_same := PySem.W.mg_of X G a31, f__law_joint := f32, fd__law_joint := _, F__law_joint := F32, b__law_joint := b32, g__law_joint := PySem.W.mg_of X G a32, f__law_bare := f33, fd__law_bare := _, F__law_bare := F33, b__law_bare := b33, g__law_bare := PySem.W.mg_of X G a33, f__law_glue := f34, fd__law_glue := _, F__law_glue := F34, b__law_glue := b34, g__law_glue := PySem.W.mg_of X G a34, f__law_line_key := f35, fd__law_line_key := _, F__law_line_key := F35, b__law_line_key := b35, g__law_line_key := PySem.W.mg_of X G a35, f__law_allowed := f36, fd__law_allowed := _, F__law_allowed := F36, b__law_allowed := b36, g__law_allowed := PySem.W.mg_of X G a36, f__law_times := f37, fd__law_times := _, F__law_times := F37, b__law_times := b37, g__law_times := PySem.W.mg_of X G a37, f__law_answer := f38, fd__law_answer := _, F__law_answer := F38, b__law_answer := b38, g__law_answer := PySem.W.mg_of X G a38, f_law := f39, fd_law := _, F_law := F39, b_law := b39, g_law := PySem.W.mg_of X G a39, ks_ev := ks_ev, va_Blocked := va_Blocked, xc_Blocked := ⟨ga_Blocked, gg_Blocked, bs_Blocked, hd_Blocked, cl_Blocked, hnO, htO, mo_Blocked⟩, xf_Blocked := ⟨ga_Blocked, gg_Blocked, bs_Blocked, hd_Blocked⟩, kx_Blocked := kx_Blocked, ox_Blocked := ⟨⟨_, _, _, _, _, _, _, _, _, _, _, _, _, _, _, oc_Blocked, rv_Blocked⟩, oa_Blocked, bs_Blocked, tx_Blocked, kx_Blocked⟩, fi_Blocked := fi_Blocked, fe_Blocked := PySem.W.fnX "__init__" "Blocked.__init__" (defArgs s_Blocked___init__) (defBody s_Blocked___init__) (defScope s_Blocked___init__) [("__class__", cc_Blocked)] .none kV_Blocked dc_Blocked pm_Blocked an_Blocked (.ref cda_Blocked) ct_Blocked, cc_Blocked := cc_Blocked, cd_Blocked := cda_Blocked, ic_Blocked := ic_Blocked, ti_Blocked := ti_Blocked, be_Blocked := beE_Blocked, su_Blocked := ⟨⟨_, _, _, _, _, _, _, _, _, rfl, lk_Blocked⟩, cq_Blocked, ⟨_, _, _, _, _, _, co_Blocked, fv_Blocked, fe_Blocked⟩, top0, ⟨_, _, _, _, rfl, ce_Blocked⟩, ⟨_, rfl, rfl⟩, su_Blocked, opq⟩, na_Blocked_start := na_Blocked_start, na_Blocked_end := na_Blocked_end }, rfl, fun s v => .of_eq rfl⟩
theorem okE_Blocked {P : Program} {w : World} {K : PySem.W.Frag} {mg : Str → Option Value} {base : Heap} (T : Txt P K mg) : FnOk P w K mg base CX0 1 T.fi_Blocked T.fe_Blocked ["self", "start", "end"] (spE2 T.c_Blocked "start" "end") :=
  ok_e2 T.su_Blocked T.ox_Blocked T.m_super rfl (NdefX.nscope_by (sc := defScope s_Blocked___init__) (by decide +kernel)) (by rfl) T.na_Blocked_start (by decide) (by decide) (fun _ => rfl) T.na_Blocked_end (by decide) (by decide) (fun _ => rfl) (fun _ => ⟨_, rfl⟩) (fun _ => rfl)
abbrev fs_Glue (d0 d1 d2 : Dt) : List (Str × Dt) := [("width", d0), ("stretch", d1), ("shrink", d2)]
theorem lk_Glue_width {d0 d1 d2 : Dt} : List.lookup ("width" : Str) (fs_Glue d0 d1 d2) = some d0 := lk_hit
theorem ne_Glue_1_0 : ¬ (("stretch" : Str) = "width") := by decide +kernel
theorem lk_Glue_stretch {d0 d1 d2 : Dt} : List.lookup ("stretch" : Str) (fs_Glue d0 d1 d2) = some d1 := (lk_miss ne_Glue_1_0).trans (lk_hit)
theorem ne_Glue_2_0 : ¬ (("shrink" : Str) = "width") := by decide +kernel
theorem ne_Glue_2_1 : ¬ (("shrink" : Str) = "stretch") := by decide +kernel
theorem lk_Glue_shrink {d0 d1 d2 : Dt} : List.lookup ("shrink" : Str) (fs_Glue d0 d1 d2) = some d2 := (lk_miss ne_Glue_2_0).trans ((lk_miss ne_Glue_2_1).trans (lk_hit))
theorem lk_Glue_no___add__ {d0 d1 d2 : Dt} : List.lookup ("__add__" : Str) (fs_Glue d0 d1 d2) = none := (lk_miss (by decide +kernel)).trans ((lk_miss (by decide +kernel)).trans ((lk_miss (by decide +kernel)).trans (rfl)))
def ai_Glue : AI := fun ds Post => ∃ e0 e1 e2, ds = [e0, e1, e2] ∧ Post [("width", e0), ("stretch", e1), ("shrink", e2)]
theorem ok_Glue___init__ {P : Program} {w : World} {K : PySem.W.Frag} {mg : Str → Option Value} {base : Heap} (T : Txt P K mg) : FnOk P w K mg base CX0 1 T.f_Glue___init__ T.fd_Glue___init__ ["self", "width", "stretch", "shrink"] (toSpI K T.c_Glue ai_Glue) := by
  refine fn_init T.F_Glue___init__ sc_Glue___init__ (by rintro ds Post ⟨e0, e1, e2, rfl, _⟩; rfl) rfl (fun cdv A outer s H E hr => ⟨_, tm_Glue___init__ T cdv A outer s H E hr, ?_⟩)
  rintro ds Post ⟨e0, e1, e2, rfl, k⟩
  unfold t_Glue___init__
  show WI K T.c_Glue _ [.un, .val e0, .val e1, .val e2] [] _
  refine wi_seq (wi_set T.co_Glue.cl T.na_Glue_width (rfl) (Nat.le_of_ble_eq_true rfl) (we_var rfl ⟨_, rfl, rfl, ?_⟩))
  refine wi_seq (wi_set T.co_Glue.cl T.na_Glue_stretch ((lk_miss ne_Glue_1_0).trans (rfl)) (Nat.le_of_ble_eq_true rfl) (we_var rfl ⟨_, rfl, rfl, ?_⟩))
  refine wi_set T.co_Glue.cl T.na_Glue_shrink ((lk_miss ne_Glue_2_0).trans ((lk_miss ne_Glue_2_1).trans (rfl))) (Nat.le_of_ble_eq_true rfl) (we_var rfl ⟨_, rfl, rfl, ?_⟩)
  exact k
abbrev fs_LineTable (d0 d1 d2 d3 d4 d5 d6 : Dt) : List (Str × Dt) := [("row", d0), ("fitting", d1), ("boxes", d2), ("rivers", d3), ("ends_from", d4), ("starts_to", d5), ("gaps", d6)]
theorem lk_LineTable_row {d0 d1 d2 d3 d4 d5 d6 : Dt} : List.lookup ("row" : Str) (fs_LineTable d0 d1 d2 d3 d4 d5 d6) = some d0 := lk_hit
theorem ne_LineTable_1_0 : ¬ (("fitting" : Str) = "row") := by decide +kernel
theorem lk_LineTable_fitting {d0 d1 d2 d3 d4 d5 d6 : Dt} : List.lookup ("fitting" : Str) (fs_LineTable d0 d1 d2 d3 d4 d5 d6) = some d1 := (lk_miss ne_LineTable_1_0).trans (lk_hit)
theorem ne_LineTable_2_0 : ¬ (("boxes" : Str) = "row") := by decide +kernel
theorem ne_LineTable_2_1 : ¬ (("boxes" : Str) = "fitting") := by decide +kernel
theorem lk_LineTable_boxes {d0 d1 d2 d3 d4 d5 d6 : Dt} : List.lookup ("boxes" : Str) (fs_LineTable d0 d1 d2 d3 d4 d5 d6) = some d2 := (lk_miss ne_LineTable_2_0).trans ((lk_miss ne_LineTable_2_1).trans (lk_hit))
theorem ne_LineTable_3_0 : ¬ (("rivers" : Str) = "row") := by decide +kernel
theorem ne_LineTable_3_1 : ¬ (("rivers" : Str) = "fitting") := by decide +kernel
theorem ne_LineTable_3_2 : ¬ (("rivers" : Str) = "boxes") := by decide +kernel
theorem lk_LineTable_rivers {d0 d1 d2 d3 d4 d5 d6 : Dt} : List.lookup ("rivers" : Str) (fs_LineTable d0 d1 d2 d3 d4 d5 d6) = some d3 := (lk_miss ne_LineTable_3_0).trans ((lk_miss ne_LineTable_3_1).trans ((lk_miss ne_LineTable_3_2).trans (lk_hit)))
theorem ne_LineTable_4_0 : ¬ (("ends_from" : Str) = "row") := by decide +kernel
theorem ne_LineTable_4_1 : ¬ (("ends_from" : Str) = "fitting") := by decide +kernel
theorem ne_LineTable_4_2 : ¬ (("ends_from" : Str) = "boxes") := by decide +kernel
theorem ne_LineTable_4_3 : ¬ (("ends_from" : Str) = "rivers") := by decide +kernel
theorem lk_LineTable_ends_from {d0 d1 d2 d3 d4 d5 d6 : Dt} : List.lookup ("ends_from" : Str) (fs_LineTable d0 d1 d2 d3 d4 d5 d6) = some d4 := (lk_miss ne_LineTable_4_0).trans ((lk_miss ne_LineTable_4_1).trans ((lk_miss ne_LineTable_4_2).trans ((lk_miss ne_LineTable_4_3).trans (lk_hit))))
theorem ne_LineTable_5_0 : ¬ (("starts_to" : Str) = "row") := by decide +kernel
theorem ne_LineTable_5_1 : ¬ (("starts_to" : Str) = "fitting") := by decide +kernel
theorem ne_LineTable_5_2 : ¬ (("starts_to" : Str) = "boxes") := by decide +kernel
theorem ne_LineTable_5_3 : ¬ (("starts_to" : Str) = "rivers") := by decide +kernel
theorem ne_LineTable_5_4 : ¬ (("starts_to" : Str) = "ends_from") := by decide +kernel
theorem lk_LineTable_starts_to {d0 d1 d2 d3 d4 d5 d6 : Dt} : List.lookup ("starts_to" : Str) (fs_LineTable d0 d1 d2 d3 d4 d5 d6) = some d5 := (lk_miss ne_LineTable_5_0).trans ((lk_miss ne_LineTable_5_1).trans ((lk_miss ne_LineTable_5_2).trans ((lk_miss ne_LineTable_5_3).trans ((lk_miss ne_LineTable_5_4).trans (lk_hit)))))
theorem ne_LineTable_6_0 : ¬ (("gaps" : Str) = "row") := by decide +kernel
theorem ne_LineTable_6_1 : ¬ (("gaps" : Str) = "fitting") := by decide +kernel
theorem ne_LineTable_6_2 : ¬ (("gaps" : Str) = "boxes") := by decide +kernel
theorem ne_LineTable_6_3 : ¬ (("gaps" : Str) = "rivers") := by decide +kernel
theorem ne_LineTable_6_4 : ¬ (("gaps" : Str) = "ends_from") := by decide +kernel
theorem ne_LineTable_6_5 : ¬ (("gaps" : Str) = "starts_to") := by decide +kernel
theorem lk_LineTable_gaps {d0 d1 d2 d3 d4 d5 d6 : Dt} : List.lookup ("gaps" : Str) (fs_LineTable d0 d1 d2 d3 d4 d5 d6) = some d6 := (lk_miss ne_LineTable_6_0).trans ((lk_miss ne_LineTable_6_1).trans ((lk_miss ne_LineTable_6_2).trans ((lk_miss ne_LineTable_6_3).trans ((lk_miss ne_LineTable_6_4).trans ((lk_miss ne_LineTable_6_5).trans (lk_hit))))))
theorem lk_LineTable_no_pair {d0 d1 d2 d3 d4 d5 d6 : Dt} : List.lookup ("pair" : Str) (fs_LineTable d0 d1 d2 d3 d4 d5 d6) = none := (lk_miss (by decide +kernel)).trans ((lk_miss (by decide +kernel)).trans ((lk_miss (by decide +kernel)).trans ((lk_miss (by decide +kernel)).trans ((lk_miss (by decide +kernel)).trans ((lk_miss (by decide +kernel)).trans ((lk_miss (by decide +kernel)).trans (rfl)))))))
abbrev fs_Measure (d0 d1 d2 d3 d4 d5 d6 : Dt) : List (Str × Dt) := [("width", d0), ("indent", d1), ("align", d2), ("hyphen", d3), ("twin", d4), ("river", d5), ("loose", d6)]
theorem lk_Measure_width {d0 d1 d2 d3 d4 d5 d6 : Dt} : List.lookup ("width" : Str) (fs_Measure d0 d1 d2 d3 d4 d5 d6) = some d0 := lk_hit
theorem ne_Measure_1_0 : ¬ (("indent" : Str) = "width") := by decide +kernel
theorem lk_Measure_indent {d0 d1 d2 d3 d4 d5 d6 : Dt} : List.lookup ("indent" : Str) (fs_Measure d0 d1 d2 d3 d4 d5 d6) = some d1 := (lk_miss ne_Measure_1_0).trans (lk_hit)
theorem ne_Measure_2_0 : ¬ (("align" : Str) = "width") := by decide +kernel
theorem ne_Measure_2_1 : ¬ (("align" : Str) = "indent") := by decide +kernel
theorem lk_Measure_align {d0 d1 d2 d3 d4 d5 d6 : Dt} : List.lookup ("align" : Str) (fs_Measure d0 d1 d2 d3 d4 d5 d6) = some d2 := (lk_miss ne_Measure_2_0).trans ((lk_miss ne_Measure_2_1).trans (lk_hit))
theorem ne_Measure_3_0 : ¬ (("hyphen" : Str) = "width") := by decide +kernel
theorem ne_Measure_3_1 : ¬ (("hyphen" : Str) = "indent") := by decide +kernel
theorem ne_Measure_3_2 : ¬ (("hyphen" : Str) = "align") := by decide +kernel
theorem lk_Measure_hyphen {d0 d1 d2 d3 d4 d5 d6 : Dt} : List.lookup ("hyphen" : Str) (fs_Measure d0 d1 d2 d3 d4 d5 d6) = some d3 := (lk_miss ne_Measure_3_0).trans ((lk_miss ne_Measure_3_1).trans ((lk_miss ne_Measure_3_2).trans (lk_hit)))
theorem ne_Measure_4_0 : ¬ (("twin" : Str) = "width") := by decide +kernel
theorem ne_Measure_4_1 : ¬ (("twin" : Str) = "indent") := by decide +kernel
theorem ne_Measure_4_2 : ¬ (("twin" : Str) = "align") := by decide +kernel
theorem ne_Measure_4_3 : ¬ (("twin" : Str) = "hyphen") := by decide +kernel
theorem lk_Measure_twin {d0 d1 d2 d3 d4 d5 d6 : Dt} : List.lookup ("twin" : Str) (fs_Measure d0 d1 d2 d3 d4 d5 d6) = some d4 := (lk_miss ne_Measure_4_0).trans ((lk_miss ne_Measure_4_1).trans ((lk_miss ne_Measure_4_2).trans ((lk_miss ne_Measure_4_3).trans (lk_hit))))
theorem ne_Measure_5_0 : ¬ (("river" : Str) = "width") := by decide +kernel
theorem ne_Measure_5_1 : ¬ (("river" : Str) = "indent") := by decide +kernel
theorem ne_Measure_5_2 : ¬ (("river" : Str) = "align") := by decide +kernel
theorem ne_Measure_5_3 : ¬ (("river" : Str) = "hyphen") := by decide +kernel
theorem ne_Measure_5_4 : ¬ (("river" : Str) = "twin") := by decide +kernel
theorem lk_Measure_river {d0 d1 d2 d3 d4 d5 d6 : Dt} : List.lookup ("river" : Str) (fs_Measure d0 d1 d2 d3 d4 d5 d6) = some d5 := (lk_miss ne_Measure_5_0).trans ((lk_miss ne_Measure_5_1).trans ((lk_miss ne_Measure_5_2).trans ((lk_miss ne_Measure_5_3).trans ((lk_miss ne_Measure_5_4).trans (lk_hit)))))
theorem ne_Measure_6_0 : ¬ (("loose" : Str) = "width") := by decide +kernel
theorem ne_Measure_6_1 : ¬ (("loose" : Str) = "indent") := by decide +kernel
theorem ne_Measure_6_2 : ¬ (("loose" : Str) = "align") := by decide +kernel
theorem ne_Measure_6_3 : ¬ (("loose" : Str) = "hyphen") := by decide +kernel
theorem ne_Measure_6_4 : ¬ (("loose" : Str) = "twin") := by decide +kernel
theorem ne_Measure_6_5 : ¬ (("loose" : Str) = "river") := by decide +kernel
theorem lk_Measure_loose {d0 d1 d2 d3 d4 d5 d6 : Dt} : List.lookup ("loose" : Str) (fs_Measure d0 d1 d2 d3 d4 d5 d6) = some d6 := (lk_miss ne_Measure_6_0).trans ((lk_miss ne_Measure_6_1).trans ((lk_miss ne_Measure_6_2).trans ((lk_miss ne_Measure_6_3).trans ((lk_miss ne_Measure_6_4).trans ((lk_miss ne_Measure_6_5).trans (lk_hit))))))
theorem lk_Measure_no_of {d0 d1 d2 d3 d4 d5 d6 : Dt} : List.lookup ("of" : Str) (fs_Measure d0 d1 d2 d3 d4 d5 d6) = none := (lk_miss (by decide +kernel)).trans ((lk_miss (by decide +kernel)).trans ((lk_miss (by decide +kernel)).trans ((lk_miss (by decide +kernel)).trans ((lk_miss (by decide +kernel)).trans ((lk_miss (by decide +kernel)).trans ((lk_miss (by decide +kernel)).trans (rfl)))))))
def ai_Measure : AI := fun ds Post => ∃ e0 e1 e2 e3 e4 e5 e6, ds = [e0, e1, e2, e3, e4, e5, e6] ∧ Post [("width", e0), ("indent", e1), ("align", e2), ("hyphen", e3), ("twin", e4), ("river", e5), ("loose", e6)]
theorem ok_Measure___init__ {P : Program} {w : World} {K : PySem.W.Frag} {mg : Str → Option Value} {base : Heap} (T : Txt P K mg) : FnOk P w K mg base CX0 1 T.f_Measure___init__ T.fd_Measure___init__ ["self", "width", "indent", "align", "hyphen", "twin", "river", "loose"] (toSpI K T.c_Measure ai_Measure) := by
  refine fn_init T.F_Measure___init__ sc_Measure___init__ (by rintro ds Post ⟨e0, e1, e2, e3, e4, e5, e6, rfl, _⟩; rfl) rfl (fun cdv A outer s H E hr => ⟨_, tm_Measure___init__ T cdv A outer s H E hr, ?_⟩)
  rintro ds Post ⟨e0, e1, e2, e3, e4, e5, e6, rfl, k⟩
  unfold t_Measure___init__
  show WI K T.c_Measure _ [.un, .val e0, .val e1, .val e2, .val e3, .val e4, .val e5, .val e6] [] _
  refine wi_seq (wi_set T.co_Measure.cl T.na_Measure_width (rfl) (Nat.le_of_ble_eq_true rfl) (we_var rfl ⟨_, rfl, rfl, ?_⟩))
  refine wi_seq (wi_set T.co_Measure.cl T.na_Measure_indent ((lk_miss ne_Measure_1_0).trans (rfl)) (Nat.le_of_ble_eq_true rfl) (we_var rfl ⟨_, rfl, rfl, ?_⟩))
  refine wi_seq (wi_set T.co_Measure.cl T.na_Measure_align ((lk_miss ne_Measure_2_0).trans ((lk_miss ne_Measure_2_1).trans (rfl))) (Nat.le_of_ble_eq_true rfl) (we_var rfl ⟨_, rfl, rfl, ?_⟩))
  refine wi_seq (wi_set T.co_Measure.cl T.na_Measure_hyphen ((lk_miss ne_Measure_3_0).trans ((lk_miss ne_Measure_3_1).trans ((lk_miss ne_Measure_3_2).trans (rfl)))) (Nat.le_of_ble_eq_true rfl) (we_var rfl ⟨_, rfl, rfl, ?_⟩))
  refine wi_seq (wi_set T.co_Measure.cl T.na_Measure_twin ((lk_miss ne_Measure_4_0).trans ((lk_miss ne_Measure_4_1).trans ((lk_miss ne_Measure_4_2).trans ((lk_miss ne_Measure_4_3).trans (rfl))))) (Nat.le_of_ble_eq_true rfl) (we_var rfl ⟨_, rfl, rfl, ?_⟩))
  refine wi_seq (wi_set T.co_Measure.cl T.na_Measure_river ((lk_miss ne_Measure_5_0).trans ((lk_miss ne_Measure_5_1).trans ((lk_miss ne_Measure_5_2).trans ((lk_miss ne_Measure_5_3).trans ((lk_miss ne_Measure_5_4).trans (rfl)))))) (Nat.le_of_ble_eq_true rfl) (we_var rfl ⟨_, rfl, rfl, ?_⟩))
  refine wi_set T.co_Measure.cl T.na_Measure_loose ((lk_miss ne_Measure_6_0).trans ((lk_miss ne_Measure_6_1).trans ((lk_miss ne_Measure_6_2).trans ((lk_miss ne_Measure_6_3).trans ((lk_miss ne_Measure_6_4).trans ((lk_miss ne_Measure_6_5).trans (rfl))))))) (Nat.le_of_ble_eq_true rfl) (we_var rfl ⟨_, rfl, rfl, ?_⟩)
  exact k
end Lk59

section
open PySem L2 Ab
def tq_Glue___add__ (K : PySem.W.Frag) (c_Glue : Addr) (ai_Glue : AI) : TS :=
    (tSeq (tIfS (tNot (tB (tCB (rIsi K) (tCons (tVar 1) (tCons (tC (.ref c_Glue)) tNil))))) tNever tNext)
    (tRet (tMake c_Glue (toSpI K c_Glue ai_Glue) [] E0 (tCons (tOp (rAddG K) (tFld K (tVar 0) "width") (tFld K (tVar 1) "width")) (tCons (tOp (rAddG K) (tFld K (tVar 0) "stretch") (tFld K (tVar 1) "stretch")) (tCons (tOp (rAddG K) (tFld K (tVar 0) "shrink") (tFld K (tVar 1) "shrink")) tNil))))))
def tq_ends_at_hyphen (K : PySem.W.Frag) : TS :=
    (tSeq (tAsg (tVar 0) (gTup K 2 (gCons (gName 2) (gCons (gName 3) gNil))))
    (tRet (tAndV (tOp (rLtG K) (tVar 1) (tCB (rLenV K) (tCons (tVar 2) tNil))) (tOp (rEqG K) (tOp (rIx K) (tOp (rIx K) (tVar 3) (tOp rSubI (tVar 1) (tC (.int 1)))) (tC (.int 0))) (tC (.str "hyphen"))))))
def tq_joint_glue (K : PySem.W.Frag) (c_Glue : Addr) (ai_Glue : AI) : TS :=
    (tSeq (tIfS (tTest (tOp (rEqG K) (tOp (rIx K) (tVar 0) (tC (.int 0))) (tC (.str "gap")))) (tRet (tMake c_Glue (toSpI K c_Glue ai_Glue) [] E0 (tCons (tOp (rIx K) (tVar 0) (tC (.int 1))) (tCons (tOp (rIx K) (tVar 0) (tC (.int 2))) (tCons (tOp (rIx K) (tVar 0) (tC (.int 3))) tNil))))) tNext)
    (tRet (tMake c_Glue (toSpI K c_Glue ai_Glue) [] E0 (tCons (tUn rNegI (tOp (rIx K) (tVar 0) (tC (.int 2)))) (tCons (tC (.int 0)) (tCons (tC (.int 0)) tNil))))))
def tq_extended_glue (K : PySem.W.Frag) (c_Glue : Addr) (ap_joint_glue : AP) (ap_Glue___add__ : AP) (ai_Glue : AI) : TS :=
    (tSeq (tAsg (tVar 0) (gTup K 2 (gCons (gName 3) (gCons (gName 4) gNil))))
    (tRet (tOp (rOwn c_Glue (toSp K ap_Glue___add__) E0) (tOp (rOwn c_Glue (toSp K ap_Glue___add__) E0) (tVar 1) (tCall (toSp K ap_joint_glue) [] E0 (tCons (tOp (rIx K) (tVar 4) (tOp rSubI (tVar 2) (tC (.int 1)))) tNil))) (tMake c_Glue (toSpI K c_Glue ai_Glue) [] E0 (tCons (tOp (rIx K) (tVar 3) (tVar 2)) (tCons (tC (.int 0)) (tCons (tC (.int 0)) tNil)))))))
def tq_finished_glue (K : PySem.W.Frag) (c_Glue : Addr) (ap_ends_at_hyphen : AP) (ai_Glue : AI) (ap_Glue___add__ : AP) : TS :=
    (tSeq (tIfS (tB (tCall (toSp K ap_ends_at_hyphen) [] E0 (tCons (tVar 0) (tCons (tVar 2) tNil)))) (tRet (tOp (rOwn c_Glue (toSp K ap_Glue___add__) E0) (tVar 1) (tMake c_Glue (toSpI K c_Glue ai_Glue) [] E0 (tCons (tOp (rIx K) (tOp (rIx K) (tOp (rIx K) (tVar 0) (tC (.int 1))) (tOp rSubI (tVar 2) (tC (.int 1)))) (tC (.int 1))) (tCons (tC (.int 0)) (tCons (tC (.int 0)) tNil)))))) tNext)
    (tRet (tVar 1)))
def tq_line_glue (K : PySem.W.Frag) (c_Glue : Addr) (ai_Glue : AI) (ap_extended_glue : AP) (ap_finished_glue : AP) : TS :=
    (tSeq (tAsg (tMake c_Glue (toSpI K c_Glue ai_Glue) [] E0 (tCons (tOp (rIx K) (tOp (rIx K) (tVar 0) (tC (.int 0))) (tVar 1)) (tCons (tC (.int 0)) (tCons (tC (.int 0)) tNil)))) (gName 3))
    (tSeq (tFor (iRng2 (tCons (tOp (rAddG K) (tVar 1) (tC (.int 1))) (tCons (tVar 2) tNil))) (gName 4) (tAsg (tCall (toSp K ap_extended_glue) [] E0 (tCons (tVar 0) (tCons (tVar 3) (tCons (tVar 4) tNil)))) (gName 3)))
    (tRet (tCall (toSp K ap_finished_glue) [] E0 (tCons (tVar 0) (tCons (tVar 3) (tCons (tVar 2) tNil)))))))
def tq_joint (K : PySem.W.Frag) (ap__law_take : AP) : TS :=
    (tSeq (tIfS (tTest (tOp (rEqG K) (tCall (toSp K ap__law_take) [] E0 (tCons (tVar 0) (tCons (tC (.int 3)) tNil))) (tC (.int 0)))) (tSeq (tAsg (tOp (rAddG K) (tC (.int 1)) (tCall (toSp K ap__law_take) [] E0 (tCons (tVar 0) (tCons (tOp (rIx K) (tLst (tCons (tC (.int 9)) (tCons (tC (.int 500)) tNil))) (tVar 2)) tNil)))) (gName 3))
    (tRet (tTup (tCons (tC (.str "hyphen")) (tCons (tVar 3) (tCons (tCall (toSp K ap__law_take) [] E0 (tCons (tVar 0) (tCons (tVar 1) tNil))) tNil)))))) tNext)
    (tSeq (tAsg (tOp (rAddG K) (tC (.int 1)) (tCall (toSp K ap__law_take) [] E0 (tCons (tVar 0) (tCons (tOp (rIx K) (tLst (tCons (tC (.int 12)) (tCons (tC (.int 500)) tNil))) (tVar 2)) tNil)))) (gName 4))
    (tSeq (tAsg (tCall (toSp K ap__law_take) [] E0 (tCons (tVar 0) (tCons (tOp (rIx K) (tLst (tCons (tC (.int 12)) (tCons (tC (.int 501)) tNil))) (tVar 2)) tNil))) (gName 3))
    (tRet (tTup (tCons (tC (.str "gap")) (tCons (tVar 4) (tCons (tVar 3) (tCons (tCall (toSp K ap__law_take) [] E0 (tCons (tVar 0) (tCons (tVar 4) tNil))) tNil)))))))))
abbrev fs_Glue (d0 d1 d2 : Dt) : List (Str × Dt) := [("width", d0), ("stretch", d1), ("shrink", d2)]
theorem lk_Glue_width {d0 d1 d2 : Dt} : List.lookup ("width" : Str) (fs_Glue d0 d1 d2) = some d0 := lk_hit
theorem ne_Glue_1_0 : ¬ (("stretch" : Str) = "width") := by decide +kernel
theorem lk_Glue_stretch {d0 d1 d2 : Dt} : List.lookup ("stretch" : Str) (fs_Glue d0 d1 d2) = some d1 := (lk_miss ne_Glue_1_0).trans (lk_hit)
theorem ne_Glue_2_0 : ¬ (("shrink" : Str) = "width") := by decide +kernel
theorem ne_Glue_2_1 : ¬ (("shrink" : Str) = "stretch") := by decide +kernel
theorem lk_Glue_shrink {d0 d1 d2 : Dt} : List.lookup ("shrink" : Str) (fs_Glue d0 d1 d2) = some d2 := (lk_miss ne_Glue_2_0).trans ((lk_miss ne_Glue_2_1).trans (lk_hit))
theorem lk_Glue_no_parts {d0 d1 d2 : Dt} : List.lookup ("parts" : Str) (fs_Glue d0 d1 d2) = none := (lk_miss (by decide +kernel)).trans ((lk_miss (by decide +kernel)).trans ((lk_miss (by decide +kernel)).trans (rfl)))
theorem lk_Glue_no___add__ {d0 d1 d2 : Dt} : List.lookup ("__add__" : Str) (fs_Glue d0 d1 d2) = none := (lk_miss (by decide +kernel)).trans ((lk_miss (by decide +kernel)).trans ((lk_miss (by decide +kernel)).trans (rfl)))
def ai_Glue : AI := fun ds Post => ∃ e0 e1 e2, ds = [e0, e1, e2] ∧ Post [("width", e0), ("stretch", e1), ("shrink", e2)]
inductive Jt where
  | hy (a b : Int)
  | gap (w s h : Int)
def Jt.dt : Jt → Dt
  | .hy a b => .tup [.str "hyphen", .int a, .int b]
  | .gap w s h => .tup [.str "gap", .int w, .int s, .int h]
structure G3 where
  w : Int
  s : Int
  h : Int
def G3.add (a b : G3) : G3 := ⟨a.w + b.w, a.s + b.s, a.h + b.h⟩
abbrev gD (c : Addr) (g : G3) : Dt := .obj c [("width", .int g.w), ("stretch", .int g.s), ("shrink", .int g.h)]
def Jt.g : Jt → G3
  | .gap w s h => ⟨w, s, h⟩
  | .hy _ b => ⟨-b, 0, 0⟩
def Jt.isHy : Jt → Bool
  | .hy _ _ => true
  | _ => false
def Jt.hyW : Jt → Int
  | .hy a _ => a
  | _ => 0
structure Row where
  ws : List Int
  js : List Jt
abbrev Row.dt (r : Row) : Dt := .tup [.tup (r.ws.map Dt.int), .tup (r.js.map Jt.dt)]
def Row.W (r : Row) (k : Nat) : Int := r.ws.getD k 0
def Row.J (r : Row) (k : Nat) : Jt := r.js.getD k (.hy 0 0)
def JtOk : Jt → Int → Int → Prop
  | .hy a b, x, y => 1 ≤ a ∧ a ≤ 500 ∧ 0 ≤ b ∧ b < x ∧ b < y
  | .gap w s h, _, _ => 1 ≤ w ∧ w ≤ 500 ∧ 0 ≤ s ∧ s ≤ 500 ∧ 0 ≤ h ∧ h < w
structure RowOk (r : Row) : Prop where
  len : r.js.length = r.ws.length - 1
  n : r.ws.length ≤ 100
  w : ∀ k, k < r.ws.length → 1 ≤ r.W k ∧ r.W k ≤ 5000
  j : ∀ k, k < r.js.length → JtOk (r.J k) (r.W k) (r.W (k + 1))
def Row.hyE (r : Row) (e : Nat) : Bool := decide (e < r.ws.length) && (r.J (e - 1)).isHy
def sumTo : Nat → (Nat → Int) → Int
  | 0, _ => 0
  | n + 1, f => sumTo n f + f n
def inn (r : Row) (s n : Nat) : G3 := ⟨sumTo (n + 1) (fun k => r.W (s + k)) + sumTo n (fun k => (r.J (s + k)).g.w), sumTo n (fun k => (r.J (s + k)).g.s), sumTo n (fun k => (r.J (s + k)).g.h)⟩
def fin (r : Row) (g : G3) (e : Nat) : G3 := if r.hyE e = true then g.add ⟨(r.J (e - 1)).hyW, 0, 0⟩ else g
def lineG (r : Row) (s e : Nat) : G3 := fin r (inn r s (e - s - 1)) e
theorem at_W {r : Row} {k : Nat} {i : Int} (e : i = (k : Int)) (h : k < r.ws.length) : atI (r.ws.map Dt.int) i = some (.int (r.W k)) := atI_of e (by rw [List.getElem?_map, List.getElem?_eq_getElem h]; unfold Row.W; rw [List.getD_eq_getElem?_getD, List.getElem?_eq_getElem h]; rfl)
theorem at_J {r : Row} {k : Nat} {i : Int} (e : i = (k : Int)) (h : k < r.js.length) : atI (r.js.map Jt.dt) i = some (r.J k).dt := atI_of e (by rw [List.getElem?_map, List.getElem?_eq_getElem h]; unfold Row.J; rw [List.getD_eq_getElem?_getD, List.getElem?_eq_getElem h]; rfl)
structure GlueOk (K : PySem.W.Frag) (c : Addr) : Prop where
  co : ClsOk K c
  n1 : NoAttr K c "width"
  n2 : NoAttr K c "stretch"
  n3 : NoAttr K c "shrink"
def ap_add (c : Addr) : AP := fun as Post => ∃ a b : G3, as = [.val (gD c a), .val (gD c b)] ∧ Post (.val (gD c (a.add b))) as
def ap_ends : AP := fun as Post => ∃ (r : Row) (e : Nat), as = [.val r.dt, .val (.int e)] ∧ RowOk r ∧ 1 ≤ e ∧ Post (.val (.bl (r.hyE e))) as
def ap_jg (c : Addr) : AP := fun as Post => ∃ j : Jt, as = [.val j.dt] ∧ Post (.val (gD c j.g)) as
def ap_ext (c : Addr) : AP := fun as Post => ∃ (r : Row) (g : G3) (b : Nat), as = [.val r.dt, .val (gD c g), .val (.int b)] ∧ RowOk r ∧ 1 ≤ b ∧ b < r.ws.length ∧ Post (.val (gD c ((g.add (r.J (b - 1)).g).add ⟨r.W b, 0, 0⟩))) as
def ap_fin (c : Addr) : AP := fun as Post => ∃ (r : Row) (g : G3) (e : Nat), as = [.val r.dt, .val (gD c g), .val (.int e)] ∧ RowOk r ∧ 1 ≤ e ∧ Post (.val (gD c (fin r g e))) as
def ap_line (c : Addr) : AP := fun as Post => ∃ (r : Row) (s e : Nat), as = [.val r.dt, .val (.int s), .val (.int e)] ∧ RowOk r ∧ s < e ∧ e ≤ r.ws.length ∧ Post (.val (gD c (lineG r s e))) as
def ap_joint : AP := fun as Post => ∃ (ds : List Dt) (c x b : Int), as = [.acc ds, .val (.int x), .val (.int b)] ∧ PoolIs c ds ∧ 0 ≤ c ∧ c < 100000 ∧ 1 ≤ x ∧ x ≤ 5000 ∧ 0 ≤ b ∧ b ≤ 1 ∧ ∀ ds' c' (j : Jt), PoolIs c' ds' → c < c' → c' ≤ c + 4 → JtOk j x x → Post (.val j.dt) [.acc ds', .val (.int x), .val (.int b)]
def ap_bare : AP := fun as Post => ∃ (ds : List Dt) (c m o : Int), as = [.acc ds, .val (.int m), .val (.int o)] ∧ PoolIs c ds ∧ 0 ≤ c ∧ c < 10000 ∧ 0 ≤ m ∧ m ≤ 40 ∧ 1 ≤ o ∧ o ≤ 1000 ∧ ∀ ds' (r : Row), RowOk r → m ≤ r.ws.length → r.ws.length ≤ 100 → Post (.val r.dt) [.acc ds', .val (.int m), .val (.int o)]
theorem hyp_gap : (false ^^ decide (V.str "hyphen" = V.str "gap")) = false := by rw [decide_eq_false (str_ne (by decide +kernel))]; rfl
theorem gap_gap : (false ^^ decide (V.str "gap" = V.str "gap")) = true := by rw [decide_eq_true rfl]; rfl
theorem hyp_hyp : (false ^^ decide (V.str "hyphen" = V.str "hyphen")) = true := by rw [decide_eq_true rfl]; rfl
theorem gap_hyp : (false ^^ decide (V.str "gap" = V.str "hyphen")) = false := by rw [decide_eq_false (str_ne (by decide +kernel))]; rfl
end
local macro_rules | `(tactic| walk_at "no") => `(tactic| first
  | with_reducible exact fun h => Bool.noConfusion (show true = false from h)
  | with_reducible exact fun h => Bool.noConfusion (show false = true from h)
  | exact fun h => absurd h (by decide)
  | exact fun h => absurd (of_decide_eq_true h) (by omega)
  | exact fun h => absurd (by omega) (of_decide_eq_false h)
  | exact fun h => absurd (by omega) (nd_t h)
  | exact fun h => absurd (nd_f h) (by omega)
  | fail "no")
section
open PySem L2 Ab
end
local macro_rules | `(tactic| walk_at "kb") => `(tactic| first | exact kb_tt | exact kb_ll | exact kb_ii | exact kb_ib | exact kb_ss | exact kb_sb | exact kb_si | exact kb_tb | exact kb_ti | exact kb_ts | exact kb_tl | exact kb_lb | exact kb_li | exact kb_ls | exact kb_lt | exact kb_is | exact kb_it | exact kb_il | exact kb_st | exact kb_sl | exact kb_bb | exact kb_bi | exact kb_nb | exact kb_ni | exact kb_ns | exact kb_nt | exact kb_nl | exact kb_bs | exact kb_bt | exact kb_bl | fail "kb")
section
open PySem L2 Ab
end
local macro_rules | `(tactic| walk_at "norm") => `(tactic| first
  | ((refine' norm_cons (rfl : _ = _ :: _) ?ea ?et); (case ea => first | with_reducible exact (rfl : Sl.val _ = _) | with_reducible exact (rfl : Sl.cel _ = _) | with_reducible exact (rfl : Sl.un = _) | with_reducible exact norm_v | with_reducible exact norm_n | with_reducible exact norm_o | exact norm_v | exact norm_n | exact norm_o | exact rfl | fail "norm"); (case et => walk_at "norm"))
  | exact (rfl : _ = ([] : List Sl))
  | fail "norm")
section
open PySem L2 Ab
end
local macro_rules | `(tactic| walk_at "x") => `(tactic| first
  | ((with_reducible refine' norm_intro ?hn ?_); (case hn => walk_at "norm"))
  | ((with_reducible refine' we_var ?hh ?_); (case hh => exact rfl))
  | ((with_reducible refine' we_own ?hh ?_); (case hh => exact rfl))
  | with_reducible refine we_c ?_
  | with_reducible refine we_addG ?_
  | with_reducible refine addp_i ?_
  | with_reducible refine we_opI0 ?_
  | with_reducible refine we_opI ?_
  | with_reducible refine we_mulG ?_
  | ((with_reducible refine' mulp_r ?h1 ?_); (case h1 => first | decide | omega | fail "m"))
  | ((with_reducible refine' mulp_l ?h1 ?_); (case h1 => first | decide | omega | fail "m"))
  | with_reducible refine we_neg ?_
  | with_reducible refine we_ltG ?_
  | with_reducible refine ltp_i ?_
  | with_reducible refine we_eqG ?_
  | with_reducible refine we_neG ?_
  | with_reducible refine eqp_i ?_
  | with_reducible refine nep_i ?_
  | with_reducible refine we_ixG ?_
  | ((with_reducible refine' ixp ?h1 ?h2 ?_); (case h1 => exact rfl); (case h2 => exact rfl))
  | with_reducible refine we_lenG ?_
  | ((with_reducible refine' lenp ?hh ?_); (case hh => exact rfl))
  | with_reducible refine we_intG ?_
  | with_reducible refine intp_i ?_
  | with_reducible refine intp_b ?_
  | with_reducible refine we_abs ?_
  | with_reducible refine we_tup ?_
  | with_reducible refine we_lst ?_
  | with_reducible refine we_tuple ?_
  | with_reducible refine we_list ?_
  | with_reducible refine we_sum ?_
  | with_reducible refine we_max2 ?_
  | with_reducible refine we_min2 ?_
  | with_reducible refine wd_cons ?_
  | with_reducible refine wd_nil ?_
  | with_reducible refine wa_cons ?_
  | with_reducible refine wa_nil ?_
  | with_reducible refine we_callH ?_
  | with_reducible refine we_isiG ?_
  | ((with_reducible refine' isi_own ?h1 ?h2 ?_); (case h1 => exact rfl); (case h2 => walk_at "kb"))
  | ((with_reducible refine' isi_val ?h1 ?h2 ?_); (case h1 => exact rfl); (case h2 => walk_at "kb"))
  | ((with_reducible refine' isi_new ?h2 ?_); (case h2 => walk_at "kb"))
  | with_reducible refine we_chainI ?_
  | with_reducible refine we_andV ?_
  | with_reducible refine we_orV ?_
  | with_reducible refine we_notV ?_
  | with_reducible refine wt_test ?_
  | with_reducible refine wt_B ?_
  | with_reducible refine wt_yes ?_
  | with_reducible refine wt_and ?_
  | with_reducible refine wt_or ?_
  | with_reducible refine wt_not ?_
  | ((with_reducible refine' ws_retA ?hh ?_); (case hh => exact rfl))
  | with_reducible refine ws_ret ?_
  | with_reducible refine ws_if ?_
  | with_reducible refine ws_nil ?_
  | with_reducible refine ws_expr ?_
  | with_reducible refine ws_asgN rfl rfl ?_
  | with_reducible refine ws_setN ?_
  | with_reducible refine ws_asgG ?_
  | ((with_reducible refine' wg_tup ?hh ?_); (case hh => exact rfl))
  | with_reducible refine wgs_cons ?_
  | with_reducible refine wgs_nil ?_
  | with_reducible refine wg_nameN rfl rfl ?_
  | ((with_reducible refine' we_appendN ?hh ?_); (case hh => exact rfl))
  | ((with_reducible refine' we_reverseN ?hh ?_); (case hh => exact rfl))
  | ((with_reducible refine' ws_augN ?h1 ?h2 ?_); (case h1 => exact rfl); (case h2 => exact rfl))
  | (refine ⟨_, rfl, ⟨_, rfl⟩, ?_⟩)
  | (refine ⟨_, rfl, ?_⟩)
  | (refine ⟨_, _, _, rfl, rfl, rfl, ?_⟩)
  | (refine ⟨_, _, rfl, rfl, (Nat.le_of_ble_eq_true rfl : _ ≤ _), ?_⟩)
  | (refine ⟨_, _, rfl, rfl, ?_⟩)
  | (refine ⟨(Nat.le_of_ble_eq_true rfl : _ ≤ _), ?_⟩)
  | (refine ⟨(rfl : _ = true), ?_⟩)
  | ((refine' ⟨fun _ => ?_, fun hY => absurd hY ?k2⟩); (case k2 => walk_at "no"))
  | ((refine' ⟨fun hY => absurd hY ?k2, fun _ => ?_⟩); (case k2 => walk_at "no"))
  | (refine ⟨⟨(by omega), (by omega)⟩, ?_⟩)
  | (refine ⟨⟨(by decide), (by decide), (by decide)⟩, ?_⟩)
  | (refine ⟨(show (_ : Prop) from by first | decide | omega | fail "c"), ?_⟩)
  | fail "stop")
section
open PySem L2 Ab
end
local macro_rules | `(tactic| walk_at "e") => `(tactic| first | with_reducible refine ws_seq ?_ | walk_at "x" | fail "stop")
section
open PySem L2 Ab
end
local macro_rules | `(tactic| walk_at "xs") => `(tactic| repeat' walk_at "x")
section
open PySem L2 Ab
end
local macro_rules | `(tactic| walk_at "es") => `(tactic| repeat' walk_at "e")
section
open PySem L2 Ab
end
local macro_rules | `(tactic| walk_at "len") => `(tactic| ((intro as Post h); (repeat (first | (obtain ⟨e, _⟩ := h; exact (congrArg List.length e).trans rfl) | (obtain ⟨_, h⟩ := h)))))
section
open PySem L2 Ab
end
local macro_rules | `(tactic| walk_at "x") => `(tactic| first
  | with_reducible refine we_isN ?_
  | with_reducible refine we_notN ?_
  | with_reducible refine we_slG ?_
  | with_reducible refine wo_none ?_
  | with_reducible refine wo_some ?_
  | ((with_reducible refine' ixp ?h1 ?h2 ?_); (case h1 => exact rfl); (case h2 => assumption))
  | ((with_reducible refine' ixp_s ?h1 ?h2 ?_); (case h1 => assumption); (case h2 => assumption))
  | ((with_reducible refine' lenp_s ?h1 ?_); (case h1 => assumption))
  | ((with_reducible refine' slp_s ?h1 ?_); (case h1 => assumption))
  | with_reducible refine we_join ?_
  | with_reducible refine we_gtS ?_
  | ((with_reducible refine' we_ktup ?h1 ?_); (case h1 => assumption))
  | fail "x3")
section
open PySem L2 Ab
end
local macro_rules | `(tactic| walk_at "x") => `(tactic| first
  | with_reducible refine we_fldG ?_
  | ((with_reducible refine' fldp ?h1 ?h2 ?h3 ?_); (case h1 => assumption); (case h2 => assumption); (case h3 => walk_at "lk"))
  | with_reducible refine we_methG ?_
  | ((with_reducible refine' metp ?h3 ?_); (case h3 => walk_at "lk"))
  | with_reducible refine we_make ?_
  | with_reducible refine we_own2 ?_
  | with_reducible refine we_isoG ?_
  | ((with_reducible refine' isop ?h1 ?_); (case h1 => assumption))
  | fail "x4")
section
open PySem L2 Ab
end
local macro_rules | `(tactic| walk_at "lk") => `(tactic| first | exact lk_Glue_width | exact lk_Glue_stretch | exact lk_Glue_shrink | exact lk_Glue_no_parts | exact lk_Glue_no___add__ | fail "lk")
section
open PySem L2 Ab
section
variable {K : PySem.W.Frag} {c : Addr}
theorem run_add (go : GlueOk K c) (as : List Sl) (Post : Re → List Sl → Prop) (h : ap_add c as Post) : WS K [] (tq_Glue___add__ K c ai_Glue) (as ++ List.replicate (2 - as.length) .un) ⟨fun G => Post (.val .non) (exitArgs [] G as), fun r G => Post r (exitArgs [] G as), fun _ => False, fun _ => False, .no⟩ := by
  obtain ⟨a, b, rfl, k⟩ := h
  have co := go.co; have cl := go.co.cl; have n1 := go.n1; have n2 := go.n2; have n3 := go.n3
  unfold tq_Glue___add__
  show WS K [] _ [.val (gD c a), .val (gD c b)] _
  walk_at "es"
  refine .a ⟨_, _, _, rfl, ?_⟩
  walk_at "es"
  exact k
theorem run_ends (as : List Sl) (Post : Re → List Sl → Prop) (h : ap_ends as Post) : WS K [] (tq_ends_at_hyphen K) (as ++ List.replicate (4 - as.length) .un) ⟨fun G => Post (.val .non) (exitArgs [] G as), fun r G => Post r (exitArgs [] G as), fun _ => False, fun _ => False, .no⟩ := by
  obtain ⟨r, e, rfl, ok, he, k⟩ := h
  unfold tq_ends_at_hyphen
  show WS K [] _ [.val r.dt, .val (.int e), .un, .un] _
  have hl : ((r.ws.map Dt.int).length : Int) = r.ws.length := by rw [List.length_map]
  have ol := ok.len
  unfold Row.hyE at k
  by_cases hlt : (e : Int) < r.ws.length
  · have hj := at_J (r := r) (k := e - 1) (i := (e : Int) - 1) (by omega) (by omega)
    rw [decide_eq_true (show e < r.ws.length by omega), Bool.true_and] at k
    cases q : r.J (e - 1) with
    | hy a b =>
      rw [q] at hj k
      unfold Jt.dt at hj
      walk_at "es"
      refine eqp_s rfl ?_
      rw [hyp_hyp]
      walk_at "es"
      exact k
    | gap x y z =>
      rw [q] at hj k
      unfold Jt.dt at hj
      walk_at "es"
      refine eqp_s rfl ?_
      rw [gap_hyp]
      walk_at "es"
      exact k
  · rw [decide_eq_false (show ¬ e < r.ws.length by omega), Bool.false_and] at k
    walk_at "es"
    exact k
theorem run_jg (as : List Sl) (Post : Re → List Sl → Prop) (h : ap_jg c as Post) : WS K [] (tq_joint_glue K c ai_Glue) (as ++ List.replicate (1 - as.length) .un) ⟨fun G => Post (.val .non) (exitArgs [] G as), fun r G => Post r (exitArgs [] G as), fun _ => False, fun _ => False, .no⟩ := by
  obtain ⟨j, rfl, k⟩ := h
  unfold tq_joint_glue
  show WS K [] _ [.val j.dt] _
  cases j with
  | hy a b =>
    unfold Jt.dt at k ⊢
    walk_at "es"
    refine eqp_s rfl ?_
    rw [hyp_gap]
    walk_at "es"
    refine .a ⟨_, _, _, rfl, ?_⟩
    walk_at "es"
    exact k
  | gap x y z =>
    unfold Jt.dt at k ⊢
    walk_at "es"
    refine eqp_s rfl ?_
    rw [gap_gap]
    walk_at "es"
    refine .a ⟨_, _, _, rfl, ?_⟩
    walk_at "es"
    exact k
theorem run_ext (as : List Sl) (Post : Re → List Sl → Prop) (h : ap_ext c as Post) : WS K [] (tq_extended_glue K c (ap_jg c) (ap_add c) ai_Glue) (as ++ List.replicate (5 - as.length) .un) ⟨fun G => Post (.val .non) (exitArgs [] G as), fun r G => Post r (exitArgs [] G as), fun _ => False, fun _ => False, .no⟩ := by
  obtain ⟨r, g, b, rfl, ok, hb, hb2, k⟩ := h
  unfold tq_extended_glue
  show WS K [] _ [.val r.dt, .val (gD c g), .val (.int b), .un, .un] _
  have ol := ok.len
  have hj := at_J (r := r) (k := b - 1) (i := (b : Int) - 1) (by omega) (by omega)
  have hw := at_W (r := r) (k := b) (i := (b : Int)) rfl hb2
  walk_at "es"
  refine .a ⟨r.J (b - 1), rfl, ?_⟩
  walk_at "es"
  refine .a ⟨g, (r.J (b - 1)).g, rfl, ?_⟩
  walk_at "es"
  refine .a ⟨_, _, _, rfl, ?_⟩
  walk_at "es"
  refine .a ⟨g.add (r.J (b - 1)).g, ⟨r.W b, 0, 0⟩, rfl, ?_⟩
  walk_at "es"
  exact k
theorem run_fin (as : List Sl) (Post : Re → List Sl → Prop) (h : ap_fin c as Post) : WS K [] (tq_finished_glue K c ap_ends ai_Glue (ap_add c)) (as ++ List.replicate (3 - as.length) .un) ⟨fun G => Post (.val .non) (exitArgs [] G as), fun r G => Post r (exitArgs [] G as), fun _ => False, fun _ => False, .no⟩ := by
  obtain ⟨r, g, e, rfl, ok, he, k⟩ := h
  unfold tq_finished_glue
  show WS K [] _ [.val r.dt, .val (gD c g), .val (.int e)] _
  have ol := ok.len
  walk_at "es"
  refine .a ⟨r, e, rfl, ok, he, ?_⟩
  walk_at "es"
  unfold fin at k
  refine ⟨fun h => ?_, fun h => ?_⟩
  · rw [if_pos h] at k
    unfold Row.hyE at h
    rw [Bool.and_eq_true] at h
    have h1 := of_decide_eq_true h.1
    have hj := at_J (r := r) (k := e - 1) (i := (e : Int) - 1) (by omega) (by omega)
    cases q : r.J (e - 1) with
    | hy a b =>
      rw [q] at hj k
      unfold Jt.dt at hj
      walk_at "es"
      refine .a ⟨_, _, _, rfl, ?_⟩
      walk_at "es"
      refine .a ⟨g, ⟨a, 0, 0⟩, rfl, ?_⟩
      walk_at "es"
      exact k
    | gap x y z => rw [q] at h; exact absurd h.2 (fun z => nomatch z)
  · rw [if_neg (by rw [h]; exact fun z => nomatch z)] at k
    walk_at "es"
    exact k
theorem run_line (as : List Sl) (Post : Re → List Sl → Prop) (h : ap_line c as Post) : WS K [] (tq_line_glue K c ai_Glue (ap_ext c) (ap_fin c)) (as ++ List.replicate (5 - as.length) .un) ⟨fun G => Post (.val .non) (exitArgs [] G as), fun r G => Post r (exitArgs [] G as), fun _ => False, fun _ => False, .no⟩ := by
  obtain ⟨r, s, e, rfl, ok, hs, he, k⟩ := h
  unfold tq_line_glue
  show WS K [] _ [.val r.dt, .val (.int s), .val (.int e), .un, .un] _
  have ol := ok.len
  have on := ok.n
  have hw := at_W (r := r) (k := s) (i := (s : Int)) rfl (by omega)
  walk_at "es"
  refine .a ⟨_, _, _, rfl, ?_⟩
  walk_at "es"
  refine for_range2 ((s : Int) + 1) (e : Int) (fun i G => ∃ s4, G = [.val r.dt, .val (.int s), .val (.int e), .val (gD c (inn r s i)), s4]) ?_ ?_ ?_
  · walk_at "es"
    refine .a ⟨rfl, ⟨by omega, by omega, by omega, by omega⟩, .un, ?_⟩
    have : inn r s 0 = ⟨r.W s, 0, 0⟩ := by unfold inn sumTo sumTo; simp
    rw [this]
  · rintro i G hi ⟨s4, rfl⟩
    walk_at "es"
    refine .a ⟨r, inn r s i, s + 1 + i, by rw [show ((s + 1 + i : Nat) : Int) = (s : Int) + 1 + i by omega]; rfl, ok, by omega, by omega, ?_⟩
    walk_at "es"
    refine .a ⟨.val (.int ((s : Int) + 1 + i)), ?_⟩
    have : ((inn r s i).add (r.J (s + 1 + i - 1)).g).add ⟨r.W (s + 1 + i), 0, 0⟩ = inn r s (i + 1) := by
      rw [show s + 1 + i - 1 = s + i by omega, show s + 1 + i = s + (i + 1) by omega]
      unfold inn G3.add
      have e1 : sumTo (i + 1 + 1) (fun k => r.W (s + k)) = sumTo (i + 1) (fun k => r.W (s + k)) + r.W (s + (i + 1)) := rfl
      have e2 : ∀ f : Nat → Int, sumTo (i + 1) f = sumTo i f + f i := fun _ => rfl
      rw [e1, e2 (fun k => (r.J (s + k)).g.w), e2 (fun k => (r.J (s + k)).g.s), e2 (fun k => (r.J (s + k)).g.h)]
      congr 1
      · simp only; omega
      · simp only; omega
      · simp only; omega
    rw [this]
  · rintro G ⟨s4, rfl⟩
    walk_at "es"
    refine .a ⟨r, _, e, rfl, ok, by omega, ?_⟩
    walk_at "es"
    unfold lineG at k
    rw [show ((e : Int) - ((s : Int) + 1)).toNat = e - s - 1 by omega]
    exact k
theorem at_two {a b k : Int} (h0 : 0 ≤ k) (h1 : k ≤ 1) : ∃ u : Int, (u = a ∨ u = b) ∧ atI [Dt.int a, Dt.int b] k = some (.int u) := by
  rcases (show k = 0 ∨ k = 1 by omega) with rfl | rfl
  · exact ⟨a, .inl rfl, rfl⟩
  · exact ⟨b, .inr rfl, rfl⟩
theorem run_joint (as : List Sl) (Post : Re → List Sl → Prop) (h : ap_joint as Post) : WS K [0] (tq_joint K ap_take) (as ++ List.replicate (5 - as.length) .un) ⟨fun G => Post (.val .non) (exitArgs [0] G as), fun r G => Post r (exitArgs [0] G as), fun _ => False, fun _ => False, .no⟩ := by
  obtain ⟨ds, c, x, b, rfl, h0, c0, c1, x1, x2, b0, b1, k⟩ := h
  unfold tq_joint
  show WS K [0] _ [.acc ds, .val (.int x), .val (.int b), .un, .un] _
  obtain ⟨u1, hu1, e1⟩ := at_two (a := 9) (b := 500) b0 b1
  obtain ⟨u2, hu2, e2⟩ := at_two (a := 12) (b := 500) b0 b1
  obtain ⟨u3, hu3, e3⟩ := at_two (a := 12) (b := 501) b0 b1
  walk_at "es"
  refine .a ⟨ds, c, 3, rfl, h0, by omega, by omega, by omega, by omega, fun d1 g1 h1 g10 g11 => ?_⟩
  walk_at "es"
  refine ⟨fun e => ?_, fun e => ?_⟩
  · walk_at "es"
    refine .a ⟨d1, c + 1, u1, rfl, h1, by omega, by omega, by omega, by omega, fun d2 g2 h2 g20 g21 => ?_⟩
    walk_at "es"
    refine .a ⟨d2, c + 1 + 1, x, rfl, h2, by omega, by omega, by omega, by omega, fun d3 g3 h3 g30 g31 => ?_⟩
    walk_at "es"
    exact k d3 _ (.hy (1 + g2) g3) h3 (by omega) (by omega) ⟨by omega, by omega, by omega, by omega, by omega⟩
  · walk_at "es"
    refine .a ⟨d1, c + 1, u2, rfl, h1, by omega, by omega, by omega, by omega, fun d2 g2 h2 g20 g21 => ?_⟩
    walk_at "es"
    refine .a ⟨d2, c + 1 + 1, u3, rfl, h2, by omega, by omega, by omega, by omega, fun d3 g3 h3 g30 g31 => ?_⟩
    walk_at "es"
    refine .a ⟨d3, c + 1 + 1 + 1, 1 + g2, rfl, h3, by omega, by omega, by omega, by omega, fun d4 g4 h4 g40 g41 => ?_⟩
    walk_at "es"
    exact k d4 _ (.gap (1 + g2) g3 g4) h4 (by omega) (by omega) ⟨by omega, by omega, by omega, by omega, by omega, by omega⟩
theorem JtOk.min {j : Jt} {x y z : Int} (h : JtOk j z z) (hx : z ≤ x) (hy : z ≤ y) : JtOk j x y := by
  cases j with
  | hy a b => obtain ⟨h1, h2, h3, h4, h5⟩ := h; exact ⟨h1, h2, h3, by omega, by omega⟩
  | gap w s h => exact h
end
end
section
open PySem L2 Ab
end
local macro_rules | `(tactic| walk_at "nd") => `(tactic| first
  | exact (rfl : _ = ([] : List Dt))
  | ((refine' normD_cons (rfl : _ = _ :: _) ?et); (case et => walk_at "nd"))
  | fail "nd")
section
open PySem L2 Ab
end
local macro_rules | `(tactic| walk_at "x") => `(tactic| first
  | with_reducible refine we_sumG ?_
  | with_reducible refine eqp_st ?_
  | with_reducible refine nep_st ?_
  | ((with_reducible refine' eqp_sf ?h1 ?_); (case h1 => first | assumption | decide +kernel))
  | ((with_reducible refine' nep_sf ?h1 ?_); (case h1 => first | assumption | decide +kernel))
  | with_reducible refine we_inG ?_
  | with_reducible refine we_if ?_
  | ((with_reducible refine' we_clearN ?hh ?_); (case hh => exact rfl))
  | with_reducible refine we_notInG ?_
  | with_reducible refine we_smeth ?_
  | with_reducible refine we_makeD ?_
  | with_reducible refine we_makeK ?_
  | ((with_reducible refine' slp_tE ?h ?_); (case h => walk_at "nd"))
  | ((with_reducible refine' addp_tE ?hz ?h ?_); (case h => walk_at "nd"); (case hz => exact Nat.le_of_ble_eq_true rfl))
  | fail "x5")
section
open PySem L2 Ab
end
local macro_rules | `(tactic| walk_at "tk") => `(tactic| refine .a (tk (by assumption) (by omega) (by omega) (by omega) fun _ _ _ _ _ => ?_))
section
open PySem L2 Ab
def tq_Measure_of (K : PySem.W.Frag) (c_Measure : Addr) (ai_Measure : AI) : TS :=
    (tSeq (tAsg (tVar 0) (gTup K 7 (gCons (gName 1) (gCons (gName 2) (gCons (gName 3) (gCons (gName 4) (gCons (gName 5) (gCons (gName 6) (gCons (gName 7) gNil)))))))))
    (tRet (tMakeK c_Measure 1 6 (toSpI K c_Measure ai_Measure) (fun (vs zs : List V) => pick (0 :: upO ([0, 1, 2, 3, 4, 5, 6] : List Nat)) (vs ++ ([] : List V) ++ zs)) E0 (tCons (tVar 1) tNil) (tCons (tVar 2) (tCons (tVar 3) (tCons (tVar 4) (tCons (tVar 5) (tCons (tVar 6) (tCons (tVar 7) tNil)))))))))
def tq_room_of (K : PySem.W.Frag) : TS :=
    (tSeq (tIfS (tTest (tOp (rEqG K) (tVar 0) (tC (.int 0)))) (tRet (tOp rSubI (tFld K (tVar 1) "width") (tFld K (tVar 1) "indent"))) tNext)
    (tRet (tFld K (tVar 1) "width")))
def tq_both_price (K : PySem.W.Frag) : TS :=
    (tSeq (tAsg (tOp rSubI (tVar 1) (tFld K (tVar 0) "width")) (gName 4))
    (tSeq (tIfS (tTest (tOp (rLtG K) (tVar 4) (tC (.int 0)))) (tSeq (tIfS (tTest (tOp rGtI (tUn rNegI (tVar 4)) (tFld K (tVar 0) "shrink"))) (tRet (tC .non)) tNext)
    (tRet (tOp rDivI (tOp (rMulG K) (tOp (rMulG K) (tC (.int 100)) (tVar 4)) (tVar 4)) (tOp (rMulG K) (tFld K (tVar 0) "shrink") (tFld K (tVar 0) "shrink"))))) tNext)
    (tSeq (tIfS (tOr (tTest (tOp (rEqG K) (tVar 4) (tC (.int 0)))) (tB (tVar 2))) (tRet (tC (.int 0))) tNext)
    (tSeq (tIfS (tTest (tOp rGtI (tVar 4) (tOp (rMulG K) (tVar 3) (tFld K (tVar 0) "stretch")))) (tRet (tC .non)) tNext)
    (tRet (tOp rDivI (tOp (rMulG K) (tOp (rMulG K) (tC (.int 100)) (tVar 4)) (tVar 4)) (tOp (rMulG K) (tFld K (tVar 0) "stretch") (tFld K (tVar 0) "stretch"))))))))
def tq_left_price (K : PySem.W.Frag) : TS :=
    (tSeq (tAsg (tOp rSubI (tVar 1) (tFld K (tVar 0) "width")) (gName 3))
    (tSeq (tIfS (tTest (tOp (rLtG K) (tVar 3) (tC (.int 0)))) (tRet (tC .non)) tNext)
    (tSeq (tIfS (tB (tVar 2)) (tRet (tC (.int 0))) tNext)
    (tRet (tOp rDivI (tOp (rMulG K) (tOp (rMulG K) (tC (.int 100)) (tVar 3)) (tVar 3)) (tOp (rMulG K) (tVar 1) (tVar 1)))))))
def tq_price_with_glue (K : PySem.W.Frag) (ap_both_price : AP) (ap_left_price : AP) (ap_ends_at_hyphen : AP) : TS :=
    (tSeq (tAsg (tOp (rEqG K) (tVar 1) (tCB (rLenV K) (tCons (tOp (rIx K) (tVar 0) (tC (.int 0))) tNil))) (gName 5))
    (tSeq (tIfS (tTest (tOp (rEqG K) (tFld K (tVar 4) "align") (tC (.str "both")))) (tAsg (tCall (toSp K ap_both_price) [] E0 (tCons (tVar 2) (tCons (tVar 3) (tCons (tVar 5) (tCons (tFld K (tVar 4) "loose") tNil))))) (gName 6)) (tAsg (tCall (toSp K ap_left_price) [] E0 (tCons (tVar 2) (tCons (tVar 3) (tCons (tVar 5) tNil)))) (gName 6)))
    (tSeq (tIfS (tAnd (tB (tNotN (tVar 6))) (tB (tCall (toSp K ap_ends_at_hyphen) [] E0 (tCons (tVar 0) (tCons (tVar 1) tNil))))) (tRet (tOp (rAddG K) (tVar 6) (tFld K (tVar 4) "hyphen"))) tNext)
    (tRet (tVar 6)))))
def tq_glue (K : PySem.W.Frag) : TS :=
    (tSeq (tAsg (tCB (rSumG K) (tCons (tSl (rSlG K) (tOp (rIx K) (tVar 0) (tC (.int 0))) (tPart (tVar 1)) (tPart (tVar 2))) tNil)) (gName 3))
    (tSeq (tAsg (tC (.int 0)) (gName 4))
    (tSeq (tAsg (tC (.int 0)) (gName 5))
    (tSeq (tFor (iRng2 (tCons (tVar 1) (tCons (tOp rSubI (tVar 2) (tC (.int 1))) tNil))) (gName 6) (tSeq (tAsg (tOp (rIx K) (tOp (rIx K) (tVar 0) (tC (.int 1))) (tVar 6)) (gName 7))
    (tIfS (tTest (tOp (rEqG K) (tOp (rIx K) (tVar 7) (tC (.int 0))) (tC (.str "gap")))) (tSeq (tAsg (tOp (rAddG K) (tVar 3) (tOp (rIx K) (tVar 7) (tC (.int 1)))) (gName 3))
    (tSeq (tAsg (tOp (rAddG K) (tVar 4) (tOp (rIx K) (tVar 7) (tC (.int 2)))) (gName 4))
    (tAsg (tOp (rAddG K) (tVar 5) (tOp (rIx K) (tVar 7) (tC (.int 3)))) (gName 5)))) (tAsg (tOp rSubI (tVar 3) (tOp (rIx K) (tVar 7) (tC (.int 2)))) (gName 3)))))
    (tSeq (tIfS (tAnd (tTest (tOp (rLtG K) (tVar 2) (tCB (rLenV K) (tCons (tOp (rIx K) (tVar 0) (tC (.int 0))) tNil)))) (tTest (tOp (rEqG K) (tOp (rIx K) (tOp (rIx K) (tOp (rIx K) (tVar 0) (tC (.int 1))) (tOp rSubI (tVar 2) (tC (.int 1)))) (tC (.int 0))) (tC (.str "hyphen"))))) (tAsg (tOp (rAddG K) (tVar 3) (tOp (rIx K) (tOp (rIx K) (tOp (rIx K) (tVar 0) (tC (.int 1))) (tOp rSubI (tVar 2) (tC (.int 1)))) (tC (.int 1)))) (gName 3)) tNext)
    (tRet (tLst (tCons (tVar 3) (tCons (tVar 4) (tCons (tVar 5) tNil))))))))))
abbrev fs_Measure (d0 d1 d2 d3 d4 d5 d6 : Dt) : List (Str × Dt) := [("width", d0), ("indent", d1), ("align", d2), ("hyphen", d3), ("twin", d4), ("river", d5), ("loose", d6)]
theorem lk_Measure_width {d0 d1 d2 d3 d4 d5 d6 : Dt} : List.lookup ("width" : Str) (fs_Measure d0 d1 d2 d3 d4 d5 d6) = some d0 := lk_hit
theorem ne_Measure_1_0 : ¬ (("indent" : Str) = "width") := by decide +kernel
theorem lk_Measure_indent {d0 d1 d2 d3 d4 d5 d6 : Dt} : List.lookup ("indent" : Str) (fs_Measure d0 d1 d2 d3 d4 d5 d6) = some d1 := (lk_miss ne_Measure_1_0).trans (lk_hit)
theorem ne_Measure_2_0 : ¬ (("align" : Str) = "width") := by decide +kernel
theorem ne_Measure_2_1 : ¬ (("align" : Str) = "indent") := by decide +kernel
theorem lk_Measure_align {d0 d1 d2 d3 d4 d5 d6 : Dt} : List.lookup ("align" : Str) (fs_Measure d0 d1 d2 d3 d4 d5 d6) = some d2 := (lk_miss ne_Measure_2_0).trans ((lk_miss ne_Measure_2_1).trans (lk_hit))
theorem ne_Measure_3_0 : ¬ (("hyphen" : Str) = "width") := by decide +kernel
theorem ne_Measure_3_1 : ¬ (("hyphen" : Str) = "indent") := by decide +kernel
theorem ne_Measure_3_2 : ¬ (("hyphen" : Str) = "align") := by decide +kernel
theorem lk_Measure_hyphen {d0 d1 d2 d3 d4 d5 d6 : Dt} : List.lookup ("hyphen" : Str) (fs_Measure d0 d1 d2 d3 d4 d5 d6) = some d3 := (lk_miss ne_Measure_3_0).trans ((lk_miss ne_Measure_3_1).trans ((lk_miss ne_Measure_3_2).trans (lk_hit)))
theorem ne_Measure_4_0 : ¬ (("twin" : Str) = "width") := by decide +kernel
theorem ne_Measure_4_1 : ¬ (("twin" : Str) = "indent") := by decide +kernel
theorem ne_Measure_4_2 : ¬ (("twin" : Str) = "align") := by decide +kernel
theorem ne_Measure_4_3 : ¬ (("twin" : Str) = "hyphen") := by decide +kernel
theorem lk_Measure_twin {d0 d1 d2 d3 d4 d5 d6 : Dt} : List.lookup ("twin" : Str) (fs_Measure d0 d1 d2 d3 d4 d5 d6) = some d4 := (lk_miss ne_Measure_4_0).trans ((lk_miss ne_Measure_4_1).trans ((lk_miss ne_Measure_4_2).trans ((lk_miss ne_Measure_4_3).trans (lk_hit))))
theorem ne_Measure_5_0 : ¬ (("river" : Str) = "width") := by decide +kernel
theorem ne_Measure_5_1 : ¬ (("river" : Str) = "indent") := by decide +kernel
theorem ne_Measure_5_2 : ¬ (("river" : Str) = "align") := by decide +kernel
theorem ne_Measure_5_3 : ¬ (("river" : Str) = "hyphen") := by decide +kernel
theorem ne_Measure_5_4 : ¬ (("river" : Str) = "twin") := by decide +kernel
theorem lk_Measure_river {d0 d1 d2 d3 d4 d5 d6 : Dt} : List.lookup ("river" : Str) (fs_Measure d0 d1 d2 d3 d4 d5 d6) = some d5 := (lk_miss ne_Measure_5_0).trans ((lk_miss ne_Measure_5_1).trans ((lk_miss ne_Measure_5_2).trans ((lk_miss ne_Measure_5_3).trans ((lk_miss ne_Measure_5_4).trans (lk_hit)))))
theorem ne_Measure_6_0 : ¬ (("loose" : Str) = "width") := by decide +kernel
theorem ne_Measure_6_1 : ¬ (("loose" : Str) = "indent") := by decide +kernel
theorem ne_Measure_6_2 : ¬ (("loose" : Str) = "align") := by decide +kernel
theorem ne_Measure_6_3 : ¬ (("loose" : Str) = "hyphen") := by decide +kernel
theorem ne_Measure_6_4 : ¬ (("loose" : Str) = "twin") := by decide +kernel
theorem ne_Measure_6_5 : ¬ (("loose" : Str) = "river") := by decide +kernel
theorem lk_Measure_loose {d0 d1 d2 d3 d4 d5 d6 : Dt} : List.lookup ("loose" : Str) (fs_Measure d0 d1 d2 d3 d4 d5 d6) = some d6 := (lk_miss ne_Measure_6_0).trans ((lk_miss ne_Measure_6_1).trans ((lk_miss ne_Measure_6_2).trans ((lk_miss ne_Measure_6_3).trans ((lk_miss ne_Measure_6_4).trans ((lk_miss ne_Measure_6_5).trans (lk_hit))))))
theorem lk_Measure_no_of {d0 d1 d2 d3 d4 d5 d6 : Dt} : List.lookup ("of" : Str) (fs_Measure d0 d1 d2 d3 d4 d5 d6) = none := (lk_miss (by decide +kernel)).trans ((lk_miss (by decide +kernel)).trans ((lk_miss (by decide +kernel)).trans ((lk_miss (by decide +kernel)).trans ((lk_miss (by decide +kernel)).trans ((lk_miss (by decide +kernel)).trans ((lk_miss (by decide +kernel)).trans (rfl)))))))
def ai_Measure : AI := fun ds Post => ∃ e0 e1 e2 e3 e4 e5 e6, ds = [e0, e1, e2, e3, e4, e5, e6] ∧ Post [("width", e0), ("indent", e1), ("align", e2), ("hyphen", e3), ("twin", e4), ("river", e5), ("loose", e6)]
theorem sum_cut (ws : List Int) (s : Nat) : ∀ n, s + n ≤ ws.length → ((ws.drop s).take n).sum = Lin.sumTo n (fun k => ws.getD (s + k) 0)
  | 0, _ => by simp [Lin.sumTo]
  | n + 1, h => by
    have hx : (ws.drop s)[n]? = some (ws.getD (s + n) 0) := by
      rw [List.getElem?_drop, List.getD_eq_getElem?_getD, List.getElem?_eq_getElem (by omega)]; rfl
    rw [List.take_add_one, hx, List.sum_append, sum_cut ws s n (by omega)]
    simp [Lin.sumTo]
def ap_lglue : AP := fun as Post => ∃ (r : Row) (s e : Nat), as = [.val r.dt, .val (.int s), .val (.int e)] ∧ RowOk r ∧ (s < e ∨ (s = 0 ∧ e = 0 ∧ r.ws.length = 0)) ∧ e ≤ r.ws.length ∧ Post (.new [.int (lineG r s e).w, .int (lineG r s e).s, .int (lineG r s e).h]) as
theorem sumTo_succ (n : Nat) (f : Nat → Int) : Lin.sumTo (n + 1) f = Lin.sumTo n f + f n := rfl
def hx (r : Row) (e : Nat) : Int := if r.hyE e = true then (r.J (e - 1)).hyW else 0
theorem fin_eq (r : Row) (g : G3) (e : Nat) : fin r g e = ⟨g.w + hx r e, g.s, g.h⟩ := by
  unfold fin hx
  split
  · simp [G3.add]
  · simp
theorem inn_pos {r : Row} (ok : RowOk r) (s : Nat) : ∀ n, s + n < r.ws.length → 0 < (inn r s n).w
  | 0, h => by
    have := (ok.w s (by omega)).1
    unfold inn
    simp only [Lin.sumTo, Nat.add_zero]
    omega
  | n + 1, h => by
    have ih := inn_pos ok s n (by omega)
    have hw := (ok.w (s + (n + 1)) h).1
    have hj := ok.j (s + n) (by have := ok.len; omega)
    unfold inn at ih ⊢
    simp only [sumTo_succ] at ih ⊢
    rw [show s + n + 1 = s + (n + 1) by omega] at hj
    cases q : r.J (s + n) with
    | hy a b => rw [q] at hj; have hg : (Jt.hy a b).g.w = -b := rfl
                obtain ⟨h1, h2, h3, h4, h5⟩ := hj; omega
    | gap w x y => rw [q] at hj; have hg : (Jt.gap w x y).g.w = w := rfl
                   obtain ⟨h1, h2, h3, h4, h5⟩ := hj; omega
theorem hx_nonneg {r : Row} (ok : RowOk r) {e : Nat} (he : 1 ≤ e) : 0 ≤ hx r e := by
  unfold hx Row.hyE
  split
  · rename_i h
    rw [Bool.and_eq_true] at h
    have h1 := of_decide_eq_true h.1
    have hj := ok.j (e - 1) (by have := ok.len; omega)
    cases q : r.J (e - 1) with
    | hy a b => rw [q] at hj; simp only [Jt.hyW]; have := hj.1; omega
    | gap w x y => simp [Jt.hyW]
  · omega
theorem line_pos {r : Row} (ok : RowOk r) {s e : Nat} (h : s < e) (he : e ≤ r.ws.length) : 0 < (lineG r s e).w := by
  unfold lineG
  rw [fin_eq]
  have := inn_pos ok s (e - s - 1) (by omega)
  have := hx_nonneg ok (e := e) (by omega)
  show 0 < (inn r s (e - s - 1)).w + hx r e
  omega

end
local macro_rules | `(tactic| walk_at "lk") => `(tactic| first | exact lk_Glue_width | exact lk_Glue_stretch | exact lk_Glue_shrink | exact lk_Glue_no___add__ | exact lk_Measure_width | exact lk_Measure_indent | exact lk_Measure_align | exact lk_Measure_hyphen | exact lk_Measure_twin | exact lk_Measure_river | exact lk_Measure_loose | exact lk_Measure_no_of | fail "lk")
section
open PySem L2 Ab
structure Key where
  w : Int
  i : Int
  b : Bool
  hy : Int
  tw : Int
  ri : Int
  lo : Int
def alS (b : Bool) : Str := if b then "both" else "left"
abbrev Key.dt (k : Key) : Dt := .tup [.int k.w, .int k.i, .str (alS k.b), .int k.hy, .int k.tw, .int k.ri, .int k.lo]
abbrev Key.ob (c : Addr) (k : Key) : Dt := .obj c [("width", .int k.w), ("indent", .int k.i), ("align", .str (alS k.b)), ("hyphen", .int k.hy), ("twin", .int k.tw), ("river", .int k.ri), ("loose", .int k.lo)]
structure KeyOk (k : Key) : Prop where
  w1 : 1 ≤ k.w
  w2 : k.w ≤ 10500
  i1 : 0 ≤ k.i
  i2 : k.i < 100
  h1 : 0 ≤ k.hy
  h2 : k.hy < 10000
  t1 : 0 ≤ k.tw
  t2 : k.tw < 10000
  r1 : 0 ≤ k.ri
  r2 : k.ri < 10
  l1 : 0 ≤ k.lo
  l2 : k.lo < 10
structure MeasOk (K : PySem.W.Frag) (c : Addr) : Prop where
  co : ClsOk K c
  n0 : NoAttr K c "width"
  n1 : NoAttr K c "indent"
  n2 : NoAttr K c "align"
  n3 : NoAttr K c "hyphen"
  n4 : NoAttr K c "twin"
  n5 : NoAttr K c "river"
  n6 : NoAttr K c "loose"
def optD : Option Int → Dt
  | none => .non
  | some i => .int i
def roomOf (s : Nat) (k : Key) : Int := if s = 0 then k.w - k.i else k.w
def bothP (g : G3) (room : Int) (last : Bool) (lo : Int) : Option Int :=
  if room - g.w < 0 then (if g.h < -(room - g.w) then none else some (100 * (room - g.w) * (room - g.w) / (g.h * g.h)))
  else if room - g.w = 0 ∨ last = true then some 0
  else if lo * g.s < room - g.w then none else some (100 * (room - g.w) * (room - g.w) / (g.s * g.s))
def leftP (g : G3) (room : Int) (last : Bool) : Option Int :=
  if room - g.w < 0 then none else if last = true then some 0 else some (100 * (room - g.w) * (room - g.w) / (room * room))
def plainP (r : Row) (e : Nat) (g : G3) (room : Int) (k : Key) : Option Int := if k.b = true then bothP g room (decide (e = r.ws.length)) k.lo else leftP g room (decide (e = r.ws.length))
def priceG (r : Row) (e : Nat) (g : G3) (room : Int) (k : Key) : Option Int := match plainP r e g room k with
  | none => none
  | some p => some (if r.hyE e = true then p + k.hy else p)
def priceL (r : Row) (s e : Nat) (k : Key) : Option Int := priceG r e (lineG r s e) (roomOf s k) k
structure GB (g : G3) : Prop where
  w1 : 1 ≤ g.w
  w2 : g.w ≤ 1000000
  s1 : 0 ≤ g.s
  s2 : g.s ≤ 1000000
  h1 : 0 ≤ g.h
  h2 : g.h ≤ 1000000
theorem inn_bd {r : Row} (ok : RowOk r) (s : Nat) : ∀ n, s + n < r.ws.length → (inn r s n).w ≤ 5000 + 5500 * n ∧ 0 ≤ (inn r s n).s ∧ (inn r s n).s ≤ 500 * n ∧ 0 ≤ (inn r s n).h ∧ (inn r s n).h ≤ 500 * n
  | 0, h => by
    have := (ok.w s (by omega)).2
    unfold inn
    simp only [Lin.sumTo, Nat.add_zero]
    omega
  | n + 1, h => by
    have ih := inn_bd ok s n (by omega)
    have hw := (ok.w (s + (n + 1)) h).2
    have hj := ok.j (s + n) (by have := ok.len; omega)
    unfold inn at ih ⊢
    simp only [sumTo_succ] at ih ⊢
    cases q : r.J (s + n) with
    | hy a b => rw [q] at hj; have hg : (Jt.hy a b).g.w = -b := rfl
                have hs : (Jt.hy a b).g.s = 0 := rfl
                have hh : (Jt.hy a b).g.h = 0 := rfl
                obtain ⟨h1, h2, h3, h4, h5⟩ := hj; omega
    | gap w x y => rw [q] at hj; have hg : (Jt.gap w x y).g.w = w := rfl
                   have hs : (Jt.gap w x y).g.s = x := rfl
                   have hh : (Jt.gap w x y).g.h = y := rfl
                   obtain ⟨h1, h2, h3, h4, h5, h6⟩ := hj; omega
theorem hx_le {r : Row} (ok : RowOk r) {e : Nat} (he : 1 ≤ e) : hx r e ≤ 500 := by
  unfold hx Row.hyE
  split
  · rename_i h
    rw [Bool.and_eq_true] at h
    have h1 := of_decide_eq_true h.1
    have hj := ok.j (e - 1) (by have := ok.len; omega)
    cases q : r.J (e - 1) with
    | hy a b => rw [q] at hj; simp only [Jt.hyW]; have := hj.2.1; omega
    | gap w x y => simp [Jt.hyW]
  · omega
theorem line_bd {r : Row} (ok : RowOk r) {s e : Nat} (h : s < e) (he : e ≤ r.ws.length) : GB (lineG r s e) := by
  have h1 := line_pos ok h he
  have h2 := inn_bd ok s (e - s - 1) (by omega)
  have h3 := hx_le ok (e := e) (by omega)
  have on := ok.n
  unfold lineG at h1 ⊢
  rw [fin_eq] at h1 ⊢
  have h1 : 0 < (inn r s (e - s - 1)).w + hx r e := h1
  exact ⟨by show 1 ≤ (inn r s (e - s - 1)).w + hx r e; omega, by show (inn r s (e - s - 1)).w + hx r e ≤ 1000000; omega, by show 0 ≤ (inn r s (e - s - 1)).s; omega, by show (inn r s (e - s - 1)).s ≤ 1000000; omega, by show 0 ≤ (inn r s (e - s - 1)).h; omega, by show (inn r s (e - s - 1)).h ≤ 1000000; omega⟩
theorem sq_pos {x : Int} (h1 : 1 ≤ x) (h2 : x ≤ 1000000) : 0 < x * x ∧ x * x ≤ 1000000000000 := by
  have a : 1 * 1 ≤ x * x := Int.mul_le_mul h1 h1 (by omega) (by omega)
  have b : x * x ≤ 1000000 * 1000000 := Int.mul_le_mul h2 h2 (by omega) (by omega)
  omega
def ap_mof (c : Addr) : AP := fun as Post => ∃ k : Key, as = [.val k.dt] ∧ Post (.val (k.ob c)) as
def ap_room (c : Addr) : AP := fun as Post => ∃ (s : Nat) (k : Key), as = [.val (.int s), .val (k.ob c)] ∧ Post (.val (.int (roomOf s k))) as
def ap_both (c : Addr) : AP := fun as Post => ∃ (g : G3) (room : Int) (last : Bool) (lo : Int), as = [.val (gD c g), .val (.int room), .val (.bl last), .val (.int lo)] ∧ GB g ∧ -1000000 ≤ room ∧ room ≤ 1000000 ∧ 0 ≤ lo ∧ lo ≤ 100 ∧ Post (.val (optD (bothP g room last lo))) as
def ap_left (c : Addr) : AP := fun as Post => ∃ (g : G3) (room : Int) (last : Bool), as = [.val (gD c g), .val (.int room), .val (.bl last)] ∧ GB g ∧ -1000000 ≤ room ∧ room ≤ 1000000 ∧ Post (.val (optD (leftP g room last))) as
def ap_pwg (c m : Addr) : AP := fun as Post => ∃ (r : Row) (e : Nat) (g : G3) (room : Int) (k : Key), as = [.val r.dt, .val (.int e), .val (gD c g), .val (.int room), .val (k.ob m)] ∧ RowOk r ∧ 1 ≤ e ∧ GB g ∧ -1000000 ≤ room ∧ room ≤ 1000000 ∧ 0 ≤ k.lo ∧ k.lo ≤ 100 ∧ Post (.val (optD (priceG r e g room k))) as
def ap_lkey : AP := fun as Post => ∃ (ds : List Dt) (r : Row), as = [.acc ds, .val r.dt] ∧ PoolUp 10000 ds ∧ RowOk r ∧ ∀ ds' (k : Key), KeyOk k → PoolUp 10100 ds' → Post (.val k.dt) [.acc ds', .val r.dt]
section
variable {K : PySem.W.Frag} {c m : Addr}
theorem run_lglue : RunOk K [] (tq_glue K) 8 ap_lglue := by
  rintro as Post ⟨r, s, e, rfl, ok, hs, he, k⟩
  unfold tq_glue
  show WS K [] _ [.val r.dt, .val (.int s), .val (.int e), .un, .un, .un, .un, .un] _
  have ol := ok.len
  have on := ok.n
  rcases hs with hs | ⟨rfl, rfl, hz⟩
  rotate_left
  · obtain ⟨ws, js⟩ := r
    obtain rfl : ws = [] := List.eq_nil_of_length_eq_zero hz
    obtain rfl : js = [] := List.eq_nil_of_length_eq_zero ol
    have hk : Post (.new [.int 0, .int 0, .int 0]) [.val (Row.dt ⟨[], []⟩), .val (.int 0), .val (.int 0)] := k
    refine ws_seq ?_
    walk_at "xs"
    refine .a ⟨[], rfl, ?_⟩
    walk_at "es"
    refine for_range2 0 (-1) (fun i G => G = [.val (Row.dt ⟨[], []⟩), .val (.int 0), .val (.int 0), .val (.int 0), .val (.int 0), .val (.int 0), .un, .un]) ?_ ?_ ?_
    · walk_at "es"
      exact .a ⟨rfl, ⟨by omega, by omega, by omega, by omega⟩, rfl⟩
    · rintro i G hi rfl
      exact absurd hi (by omega)
    · rintro G rfl
      walk_at "es"
      exact hk
  refine ws_seq ?_
  walk_at "xs"
  refine slp_t ?_
  rw [cut_mid (by omega) he]
  walk_at "xs"
  refine .a ⟨(r.ws.drop s).take (e - s), rfl, ?_⟩
  rw [sum_cut _ _ _ (by omega)]
  walk_at "es"
  refine for_range2 (s : Int) ((e : Int) - 1) (fun i G => ∃ s6 s7, G = [.val r.dt, .val (.int s), .val (.int e), .val (.int (sumTo (e - s) (fun k => r.ws.getD (s + k) 0) + sumTo i (fun k => (r.J (s + k)).g.w))), .val (.int (sumTo i (fun k => (r.J (s + k)).g.s))), .val (.int (sumTo i (fun k => (r.J (s + k)).g.h))), s6, s7]) ?_ ?_ ?_
  · walk_at "es"
    refine .a ⟨rfl, ⟨by omega, by omega, by omega, by omega⟩, .un, .un, ?_⟩
    simp only [Lin.sumTo, Int.add_zero]
  · rintro i G hi ⟨s6, s7, rfl⟩
    have hj := at_J (r := r) (k := s + i) (i := (s : Int) + i) (by omega) (by omega)
    cases q : r.J (s + i) with
    | hy a b =>
      rw [q] at hj
      unfold Jt.dt at hj
      walk_at "es"
      refine .a ⟨.val (.int ((s : Int) + i)), .val (Jt.hy a b).dt, ?_⟩
      simp only [Lin.sumTo, q, Jt.g, Int.add_zero, Jt.dt]
      rw [show ∀ x y z : Int, x + (y + -z) = x + y - z by intros; omega]
    | gap x y z =>
      rw [q] at hj
      unfold Jt.dt at hj
      walk_at "es"
      refine .a ⟨.val (.int ((s : Int) + i)), .val (Jt.gap x y z).dt, ?_⟩
      simp only [Lin.sumTo, q, Jt.g, Jt.dt, Int.add_assoc]
  · rintro G ⟨s6, s7, rfl⟩
    rw [show ((e : Int) - 1 - (s : Int)).toNat = e - s - 1 by omega]
    have hl : ((r.ws.map Dt.int).length : Int) = r.ws.length := by rw [List.length_map]
    have hw : sumTo (e - s) (fun k => r.ws.getD (s + k) 0) = sumTo (e - s - 1 + 1) (fun k => r.W (s + k)) := by rw [show e - s - 1 + 1 = e - s by omega]; rfl
    rw [hw]
    unfold lineG fin Row.hyE at k
    by_cases hlt : (e : Int) < r.ws.length
    · have hj := at_J (r := r) (k := e - 1) (i := (e : Int) - 1) (by omega) (by omega)
      rw [decide_eq_true (show e < r.ws.length by omega), Bool.true_and] at k
      cases q : r.J (e - 1) with
      | hy a b =>
        rw [q] at hj k
        unfold Jt.dt at hj
        walk_at "es"
        simp [Jt.isHy, inn, G3.add, Jt.hyW] at k
        exact k
      | gap x y z =>
        rw [q] at hj k
        unfold Jt.dt at hj
        walk_at "es"
        simp [Jt.isHy, inn, G3.add, Jt.hyW] at k
        exact k
    · rw [decide_eq_false (show ¬ e < r.ws.length by omega), Bool.false_and] at k
      walk_at "es"
      simp [inn] at k
      exact k

theorem run_mof : RunOk K [] (tq_Measure_of K m ai_Measure) 8 (ap_mof m) := by
  rintro as Post ⟨k, rfl, p⟩
  unfold tq_Measure_of
  show WS K [] _ [.val k.dt, .un, .un, .un, .un, .un, .un, .un] _
  walk_at "es"
  refine .a ⟨_, _, _, _, _, _, _, rfl, ?_⟩
  walk_at "es"
  exact p
theorem run_room (go : MeasOk K m) : RunOk K [] (tq_room_of K) 2 (ap_room m) := by
  rintro as Post ⟨s, k, rfl, p⟩
  have cl := go.co.cl; have n0 := go.n0; have n1 := go.n1
  unfold tq_room_of
  show WS K [] _ [.val (.int s), .val (k.ob m)] _
  unfold roomOf at p
  by_cases hs : s = 0
  · rw [if_pos hs] at p
    walk_at "es"
    exact p
  · rw [if_neg hs] at p
    walk_at "es"
    exact p
theorem run_both (go : GlueOk K c) : RunOk K [] (tq_both_price K) 5 (ap_both c) := by
  rintro as Post ⟨g, room, last, lo, rfl, gb, r1, r2, l1, l2, p⟩
  obtain ⟨w1, w2, s1, s2, h1, h2⟩ := gb
  have cl := go.co.cl; have n1 := go.n1; have n2 := go.n2; have n3 := go.n3
  unfold tq_both_price
  show WS K [] _ [.val (gD c g), .val (.int room), .val (.bl last), .val (.int lo), .un] _
  unfold bothP at p
  by_cases c1 : room - g.w < 0
  · rw [if_pos c1] at p
    by_cases c2 : g.h < -(room - g.w)
    · rw [if_pos c2] at p
      walk_at "es"
      exact p
    · rw [if_neg c2] at p
      have sq := sq_pos (x := g.h) (by omega) h2
      walk_at "es"
      exact p
  · rw [if_neg c1] at p
    by_cases c2 : room - g.w = 0
    · rw [if_pos (.inl c2)] at p
      walk_at "es"
      exact p
    · cases last with
      | true =>
        rw [if_pos (.inr rfl)] at p
        walk_at "es"
        exact p
      | false =>
        rw [if_neg (fun z => z.elim c2 Bool.noConfusion)] at p
        by_cases c3 : lo * g.s < room - g.w
        · rw [if_pos c3] at p
          walk_at "es"
          exact p
        · rw [if_neg c3] at p
          have hs : 1 ≤ g.s := by
            by_cases hz : g.s = 0
            · rw [hz, Int.mul_zero] at c3; omega
            · omega
          have sq := sq_pos (x := g.s) hs s2
          walk_at "es"
          exact p
theorem run_left (go : GlueOk K c) : RunOk K [] (tq_left_price K) 4 (ap_left c) := by
  rintro as Post ⟨g, room, last, rfl, gb, r1, r2, p⟩
  obtain ⟨w1, w2, s1, s2, h1, h2⟩ := gb
  have cl := go.co.cl; have n1 := go.n1; have n2 := go.n2; have n3 := go.n3
  unfold tq_left_price
  show WS K [] _ [.val (gD c g), .val (.int room), .val (.bl last), .un] _
  unfold leftP at p
  by_cases c1 : room - g.w < 0
  · rw [if_pos c1] at p
    walk_at "es"
    exact p
  · rw [if_neg c1] at p
    cases last with
    | true =>
      rw [if_pos rfl] at p
      walk_at "es"
      exact p
    | false =>
      rw [if_neg Bool.false_ne_true] at p
      have sq := sq_pos (x := room) (by omega) r2
      walk_at "es"
      exact p
theorem run_pwg (go : MeasOk K m) : RunOk K [] (tq_price_with_glue K (ap_both c) (ap_left c) ap_ends) 7 (ap_pwg c m) := by
  rintro as Post ⟨r, e, g, room, k, rfl, ok, he, gb, r1, r2, l1, l2, p⟩
  have cl := go.co.cl; have n2 := go.n2; have n3 := go.n3; have n6 := go.n6
  have hl : ((r.ws.map Dt.int).length : Int) = r.ws.length := by rw [List.length_map]
  unfold tq_price_with_glue
  show WS K [] _ [.val r.dt, .val (.int e), .val (gD c g), .val (.int room), .val (k.ob m), .un, .un] _
  refine ws_seq ?_
  walk_at "xs"
  rw [hl, show decide ((e : Int) = r.ws.length) = decide (e = r.ws.length) by by_cases h : e = r.ws.length <;> simp [h, Int.ofNat_inj]]
  refine ws_cut (fun G => G = [.val r.dt, .val (.int e), .val (gD c g), .val (.int room), .val (k.ob m), .val (.bl (decide (e = r.ws.length))), .val (optD (plainP r e g room k))]) ?_ ?_
  · unfold plainP
    obtain ⟨kw, ki, kb, kh, kt, kr, kl⟩ := k
    cases kb with
    | true =>
      rw [if_pos rfl]
      show WS K [] _ [.val r.dt, .val (.int e), .val (gD c g), .val (.int room), .val (.obj m [("width", .int kw), ("indent", .int ki), ("align", .str "both"), ("hyphen", .int kh), ("twin", .int kt), ("river", .int kr), ("loose", .int kl)]), .val (.bl (decide (e = r.ws.length))), .un] _
      walk_at "es"
      refine .a ⟨g, room, _, kl, rfl, gb, r1, r2, l1, l2, ?_⟩
      walk_at "es"
      exact .a rfl
    | false =>
      rw [if_neg Bool.false_ne_true]
      show WS K [] _ [.val r.dt, .val (.int e), .val (gD c g), .val (.int room), .val (.obj m [("width", .int kw), ("indent", .int ki), ("align", .str "left"), ("hyphen", .int kh), ("twin", .int kt), ("river", .int kr), ("loose", .int kl)]), .val (.bl (decide (e = r.ws.length))), .un] _
      walk_at "es"
      refine .a ⟨g, room, _, rfl, gb, r1, r2, ?_⟩
      walk_at "es"
      exact .a rfl
  · rintro G rfl
    unfold priceG at p
    cases q : plainP r e g room k with
    | none =>
      rw [q] at p
      show WS K [] _ [.val r.dt, .val (.int e), .val (gD c g), .val (.int room), .val (k.ob m), .val (.bl (decide (e = r.ws.length))), .val .non] _
      walk_at "es"
      exact p
    | some v =>
      rw [q] at p
      dsimp only at p
      show WS K [] _ [.val r.dt, .val (.int e), .val (gD c g), .val (.int room), .val (k.ob m), .val (.bl (decide (e = r.ws.length))), .val (.int v)] _
      walk_at "es"
      refine ⟨fun _ => ?_, fun h => Bool.noConfusion (show true = false from h)⟩
      walk_at "es"
      refine .a ⟨r, e, rfl, ok, he, ?_⟩
      walk_at "es"
      refine ⟨fun h => ?_, fun h => ?_⟩
      · rw [if_pos h] at p
        walk_at "es"
        exact p
      · rw [if_neg (by rw [h]; exact Bool.false_ne_true)] at p
        walk_at "es"
        exact p
end
end
section
open PySem L2 Ab
def tq_extra_of (K : PySem.W.Frag) : TS :=
    (tSeq (tIfS (tAnd (tTest (tOp (rEqG K) (tFld K (tVar 4) "align") (tC (.str "both")))) (tTest (tOp (rLtG K) (tVar 0) (tC (.int 0))))) (tRet (tUn rNegI (tOp rDivI (tOp (rMulG K) (tUn rNegI (tVar 0)) (tFld K (tVar 2) "shrink")) (tFld K (tVar 1) "shrink")))) tNext)
    (tSeq (tIfS (tAnd (tTest (tOp (rEqG K) (tFld K (tVar 4) "align") (tC (.str "both")))) (tAnd (tTest (tOp rGtI (tVar 0) (tC (.int 0)))) (tNot (tB (tVar 3))))) (tRet (tOp rDivI (tOp (rMulG K) (tVar 0) (tFld K (tVar 2) "stretch")) (tFld K (tVar 1) "stretch"))) tNext)
    (tRet (tC (.int 0)))))
def tq_box_places (K : PySem.W.Frag) (c_Glue : Addr) (ap_line_glue : AP) (ap_room_of : AP) (ai_Glue : AI) (ap_joint_glue : AP) (ap_Glue___add__ : AP) (ap_extra_of : AP) : TS :=
    (tSeq (tAsg (tVar 0) (gTup K 2 (gCons (gName 4) (gCons (gName 5) gNil))))
    (tSeq (tAsg (tCall (toSp K ap_line_glue) [] E0 (tCons (tVar 0) (tCons (tVar 1) (tCons (tVar 2) tNil)))) (gName 6))
    (tSeq (tAsg (tOp rSubI (tCall (toSp K ap_room_of) [] E0 (tCons (tVar 1) (tCons (tVar 3) tNil))) (tFld K (tVar 6) "width")) (gName 7))
    (tSeq (tAsg (tOp (rEqG K) (tVar 2) (tCB (rLenV K) (tCons (tVar 4) tNil))) (gName 8))
    (tSeq (tAsg (tIf (tTest (tOp (rEqG K) (tVar 1) (tC (.int 0)))) (tFld K (tVar 3) "indent") (tC (.int 0))) (gName 9))
    (tSeq (tAsg (tMake c_Glue (toSpI K c_Glue ai_Glue) [] E0 (tCons (tC (.int 0)) (tCons (tC (.int 0)) (tCons (tC (.int 0)) tNil)))) (gName 10))
    (tSeq (tAsg (tLst tNil) (gName 11))
    (tSeq (tFor (iRng2 (tCons (tVar 1) (tCons (tVar 2) tNil))) (gName 12) (tSeq (tIfS (tTest (tOp rGtI (tVar 12) (tVar 1))) (tSeq (tAsg (tCall (toSp K ap_joint_glue) [] E0 (tCons (tOp (rIx K) (tVar 5) (tOp rSubI (tVar 12) (tC (.int 1)))) tNil)) (gName 13))
    (tSeq (tAsg (tOp (rAddG K) (tOp (rAddG K) (tVar 9) (tOp (rIx K) (tVar 4) (tOp rSubI (tVar 12) (tC (.int 1))))) (tFld K (tVar 13) "width")) (gName 9))
    (tAsg (tOp (rOwn c_Glue (toSp K ap_Glue___add__) E0) (tVar 10) (tVar 13)) (gName 10)))) tNext)
    (tDrop (tBM K "list" rAppend (tVar 11) (tCons (tOp (rAddG K) (tVar 9) (tCall (toSp K ap_extra_of) [] E0 (tCons (tVar 7) (tCons (tVar 6) (tCons (tVar 10) (tCons (tVar 8) (tCons (tVar 3) tNil))))))) tNil)))))
    (tRet (tVar 11))))))))))
def tq_gap_spans (K : PySem.W.Frag) (ap_box_places : AP) : TS :=
    (tSeq (tAsg (tVar 0) (gTup K 2 (gCons (gName 4) (gCons (gName 5) gNil))))
    (tSeq (tAsg (tCall (toSp K ap_box_places) [] E0 (tCons (tVar 0) (tCons (tVar 1) (tCons (tVar 2) (tCons (tVar 3) tNil))))) (gName 6))
    (tSeq (tAsg (tLst tNil) (gName 7))
    (tSeq (tFor (iRng2 (tCons (tVar 1) (tCons (tOp rSubI (tVar 2) (tC (.int 1))) tNil))) (gName 8) (tIfS (tTest (tOp (rEqG K) (tOp (rIx K) (tOp (rIx K) (tVar 5) (tVar 8)) (tC (.int 0))) (tC (.str "gap")))) (tSeq (tAsg (tOp (rAddG K) (tOp (rIx K) (tVar 6) (tOp rSubI (tVar 8) (tVar 1))) (tOp (rIx K) (tVar 4) (tVar 8))) (gName 9))
    (tDrop (tBM K "list" rAppend (tVar 7) (tCons (tTup (tCons (tVar 9) (tCons (tOp (rIx K) (tVar 6) (tOp (rAddG K) (tOp rSubI (tVar 8) (tVar 1)) (tC (.int 1)))) tNil))) tNil)))) tNext))
    (tRet (tVar 7))))))
structure PF (g : G3) (room : Int) (b last : Bool) (p : Int) : Prop where
  f0 : b = false → 0 ≤ room - g.w
  f1 : room - g.w = 0 ∨ (0 < room - g.w ∧ last = true) → p = 0
  f2 : b = true → room - g.w < 0 → 1 ≤ g.h ∧ p = 100 * (room - g.w) * (room - g.w) / (g.h * g.h)
  f3 : b = true → 0 < room - g.w → last = false → 1 ≤ g.s ∧ p = 100 * (room - g.w) * (room - g.w) / (g.s * g.s)
  f4 : b = false → 0 < room - g.w → last = false → p = 100 * (room - g.w) * (room - g.w) / (room * room)
def posB (g : G3) (room : Int) (k : Key) (last : Bool) : Bool := if k.b = true then (if room - g.w < 0 then decide (-(room - g.w) ≤ g.h) else if room - g.w = 0 ∨ last = true then true else decide (room - g.w ≤ k.lo * g.s)) else decide (0 ≤ room - g.w)
def plP (g : G3) (room : Int) (k : Key) (last : Bool) : Option Int := if k.b = true then bothP g room last k.lo else leftP g room last
theorem pos_none {g : G3} {room : Int} {k : Key} {last : Bool} (h : posB g room k last = false) : plP g room k last = none := by
  unfold posB at h
  unfold plP bothP leftP
  cases hb : k.b with
  | true =>
    rw [hb, if_pos rfl] at h
    rw [if_pos rfl]
    by_cases c1 : room - g.w < 0
    · rw [if_pos c1] at h ⊢
      rw [if_pos (by have := of_decide_eq_false h; omega)]
    · rw [if_neg c1] at h ⊢
      by_cases c2 : room - g.w = 0 ∨ last = true
      · rw [if_pos c2] at h; cases h
      · rw [if_neg c2] at h ⊢
        rw [if_pos (by have := of_decide_eq_false h; omega)]
  | false =>
    rw [hb, if_neg Bool.false_ne_true] at h
    rw [if_neg Bool.false_ne_true, if_pos (by have := of_decide_eq_false h; omega)]
theorem pos_some {g : G3} {room : Int} {k : Key} {last : Bool} (gb : GB g) (hlo : 0 ≤ k.lo) (h : posB g room k last = true) : ∃ p, plP g room k last = some p ∧ PF g room k.b last p := by
  obtain ⟨w1, w2, s1, s2, h1, h2⟩ := gb
  unfold posB at h
  unfold plP bothP leftP
  cases hb : k.b with
  | true =>
    rw [hb, if_pos rfl] at h
    rw [if_pos rfl]
    by_cases c1 : room - g.w < 0
    · rw [if_pos c1] at h ⊢
      have h' := of_decide_eq_true h
      rw [if_neg (by omega)]
      exact ⟨_, rfl, (fun z => nomatch z), (fun z => absurd z (by omega)), (fun _ _ => ⟨by omega, rfl⟩), (fun _ z => absurd z (by omega)), (fun z => nomatch z)⟩
    · rw [if_neg c1] at h ⊢
      by_cases c2 : room - g.w = 0 ∨ last = true
      · rw [if_pos c2] at h ⊢
        refine ⟨_, rfl, (fun z => nomatch z), (fun _ => rfl), (fun _ z => absurd z (by omega)), (fun _ z1 z2 => ?_), (fun z => nomatch z)⟩
        rcases c2 with c2 | c2
        · omega
        · rw [c2] at z2; cases z2
      · rw [if_neg c2] at h ⊢
        have h' := of_decide_eq_true h
        rw [if_neg (by omega)]
        have hs : 1 ≤ g.s := by
          by_cases hz : g.s = 0
          · rw [hz, Int.mul_zero] at h'; omega
          · omega
        refine ⟨_, rfl, (fun z => nomatch z), (fun z => ?_), (fun _ z => absurd z c1), (fun _ _ _ => ⟨hs, rfl⟩), (fun z => nomatch z)⟩
        rcases z with z | z
        · exact absurd (.inl z) c2
        · exact absurd (.inr z.2) c2
  | false =>
    rw [hb, if_neg Bool.false_ne_true] at h
    have h' := of_decide_eq_true h
    rw [if_neg Bool.false_ne_true, if_neg (by omega)]
    cases last with
    | true => exact ⟨0, by rw [if_pos rfl], (fun _ => h'), (fun _ => rfl), (fun z => nomatch z), (fun z => nomatch z), (fun _ _ z => nomatch z)⟩
    | false =>
      refine ⟨100 * (room - g.w) * (room - g.w) / (room * room), by rw [if_neg Bool.false_ne_true], (fun _ => h'), (fun z => ?_), (fun z => nomatch z), (fun z => nomatch z), (fun _ _ _ => rfl)⟩
      rcases z with z | z
      · rw [z]; simp
      · exact Bool.noConfusion z.2

def lastB (r : Row) (e : Nat) : Bool := decide (e = r.ws.length)
def Fit (r : Row) (s e : Nat) (k : Key) : Prop := posB (lineG r s e) (roomOf s k) k (lastB r e) = true
def plain0 (k : Key) (s : Nat) : Int := if s = 0 then k.i else 0
def plainAt (r : Row) (k : Key) (s i : Nat) : Int := plain0 k s + sumTo i (fun j => r.W (s + j) + (r.J (s + j)).g.w)
def bef (r : Row) (s i : Nat) : G3 := ⟨sumTo i (fun j => (r.J (s + j)).g.w), sumTo i (fun j => (r.J (s + j)).g.s), sumTo i (fun j => (r.J (s + j)).g.h)⟩
def extraOf (b : Bool) (rest : Int) (g : G3) (x : G3) (last : Bool) : Int := if b = true ∧ rest < 0 then -(-rest * x.h / g.h) else if b = true ∧ 0 < rest ∧ last = false then rest * x.s / g.s else 0
def restOf (r : Row) (s e : Nat) (k : Key) : Int := roomOf s k - (lineG r s e).w
def placeAt (r : Row) (s e : Nat) (k : Key) (i : Nat) : Int := plainAt r k s i + extraOf k.b (restOf r s e k) (lineG r s e) (bef r s i) (lastB r e)
def isGap (r : Row) (i : Nat) : Bool := !(r.J i).isHy
def spanAt (r : Row) (s e : Nat) (k : Key) (i : Nat) : Int × Int := (placeAt r s e k i + r.W (s + i), placeAt r s e k (i + 1))
def spansTo (r : Row) (s e : Nat) (k : Key) (n : Nat) : List (Int × Int) := ((List.range n).filter fun i => isGap r (s + i)).map (spanAt r s e k)
def spans (r : Row) (s e : Nat) (k : Key) : List (Int × Int) := spansTo r s e k (e - s - 1)
abbrev pairD (p : Int × Int) : Dt := .tup [.int p.1, .int p.2]
theorem spansTo_succ (r : Row) (s e : Nat) (k : Key) (n : Nat) : spansTo r s e k (n + 1) = if isGap r (s + n) = true then spansTo r s e k n ++ [spanAt r s e k n] else spansTo r s e k n := by
  unfold spansTo
  rw [List.range_succ, List.filter_append]
  by_cases h : isGap r (s + n) = true
  · rw [if_pos h, List.map_append]
    simp [h]
  · rw [if_neg h]
    simp [h]
structure KeyB (k : Key) : Prop where
  w1 : -2000000 ≤ k.w
  w2 : k.w ≤ 100000
  i1 : 0 ≤ k.i
  i2 : k.i ≤ 100000
  l1 : 0 ≤ k.lo
  l2 : k.lo ≤ 100
theorem KeyOk.b {k : Key} (h : KeyOk k) : KeyB k := by
  obtain ⟨h1, h2, h3, h4, _, _, _, _, _, _, h5, h6⟩ := h
  exact ⟨by omega, by omega, by omega, by omega, by omega, by omega⟩
theorem room_bd {k : Key} (h : KeyB k) (s : Nat) : -3000000 ≤ roomOf s k ∧ roomOf s k ≤ 1000000 := by
  obtain ⟨h1, h2, h3, h4, _, _⟩ := h
  unfold roomOf; split <;> omega
theorem fit_h {r : Row} {s e : Nat} {k : Key} (gb : GB (lineG r s e)) (kl : 0 ≤ k.lo) (f : Fit r s e k) : (k.b = true → restOf r s e k < 0 → 1 ≤ (lineG r s e).h ∧ -(restOf r s e k) ≤ (lineG r s e).h) ∧ (k.b = true → 0 < restOf r s e k → lastB r e = false → 1 ≤ (lineG r s e).s) ∧ (k.b = false → 0 ≤ restOf r s e k) := by
  have f' := f
  obtain ⟨p, _, pf⟩ := pos_some gb kl f
  refine ⟨fun h1 h2 => ?_, fun h1 h2 h3 => (pf.f3 h1 h2 h3).1, fun h1 => pf.f0 h1⟩
  refine ⟨(pf.f2 h1 h2).1, ?_⟩
  unfold Fit posB at f'
  unfold restOf at h2 ⊢
  rw [if_pos h1, if_pos h2] at f'
  exact of_decide_eq_true f'
def ap_extra (c m : Addr) : AP := fun as Post => ∃ (rest : Int) (g x : G3) (last : Bool) (k : Key), as = [.val (.int rest), .val (gD c g), .val (gD c x), .val (.bl last), .val (k.ob m)] ∧ -10000000 ≤ rest ∧ rest ≤ 10000000 ∧ g.h ≤ 1000000 ∧ g.s ≤ 1000000 ∧ (k.b = true → rest < 0 → 1 ≤ g.h) ∧ (k.b = true → 0 < rest → last = false → 1 ≤ g.s) ∧ Post (.val (.int (extraOf k.b rest g x last))) as
def ap_places (m : Addr) : AP := fun as Post => ∃ (r : Row) (s e : Nat) (k : Key), as = [.val r.dt, .val (.int s), .val (.int e), .val (k.ob m)] ∧ RowOk r ∧ s < e ∧ e ≤ r.ws.length ∧ KeyB k ∧ Fit r s e k ∧ Post (.new ((List.range (e - s)).map fun i => .int (placeAt r s e k i))) as
def ap_spans (m : Addr) : AP := fun as Post => ∃ (r : Row) (s e : Nat) (k : Key), as = [.val r.dt, .val (.int s), .val (.int e), .val (k.ob m)] ∧ RowOk r ∧ s < e ∧ e ≤ r.ws.length ∧ KeyB k ∧ Fit r s e k ∧ Post (.new ((spans r s e k).map pairD)) as
theorem at_range {f : Nat → Dt} {n i : Nat} {j : Int} (h : i < n) (e : j = (i : Int)) : atI ((List.range n).map f) j = some (f i) := atI_of e (by rw [List.getElem?_map, List.getElem?_range h]; rfl)
section
variable {K : PySem.W.Frag} {c m : Addr}
theorem run_extra (go : GlueOk K c) (mo : MeasOk K m) : RunOk K [] (tq_extra_of K) 5 (ap_extra c m) := by
  rintro as Post ⟨rest, g, x, last, k, rfl, r1, r2, gh, gs, f1, f2, p⟩
  have cl := go.co.cl; have n1 := go.n1; have n2 := go.n2; have n3 := go.n3
  have cm := mo.co.cl; have m2 := mo.n2
  unfold tq_extra_of
  obtain ⟨kw, ki, kb, kh, kt, kr, kl⟩ := k
  unfold extraOf at p
  cases kb with
  | true =>
    show WS K [] _ [.val (.int rest), .val (gD c g), .val (gD c x), .val (.bl last), .val (.obj m [("width", .int kw), ("indent", .int ki), ("align", .str "both"), ("hyphen", .int kh), ("twin", .int kt), ("river", .int kr), ("loose", .int kl)])] _
    by_cases c1 : rest < 0
    · have hh := f1 rfl c1
      rw [if_pos ⟨rfl, c1⟩] at p
      walk_at "es"
      exact p
    · rw [if_neg (fun z => c1 z.2)] at p
      by_cases c2 : 0 < rest
      · cases last with
        | true =>
          rw [if_neg (fun z => Bool.noConfusion z.2.2)] at p
          walk_at "es"
          exact p
        | false =>
          have hh := f2 rfl c2 rfl
          rw [if_pos ⟨rfl, c2, rfl⟩] at p
          walk_at "es"
          exact p
      · rw [if_neg (fun z => c2 z.2.1)] at p
        walk_at "es"
        exact p
  | false =>
    show WS K [] _ [.val (.int rest), .val (gD c g), .val (gD c x), .val (.bl last), .val (.obj m [("width", .int kw), ("indent", .int ki), ("align", .str "left"), ("hyphen", .int kh), ("twin", .int kt), ("river", .int kr), ("loose", .int kl)])] _
    rw [if_neg (fun z => Bool.noConfusion z.1), if_neg (fun z => Bool.noConfusion z.1)] at p
    walk_at "es"
    exact p
theorem run_places (go : GlueOk K c) (mo : MeasOk K m) : RunOk K [] (tq_box_places K c (ap_line c) (ap_room m) ai_Glue (ap_jg c) (ap_add c) (ap_extra c m)) 14 (ap_places m) := by
  rintro as Post ⟨r, s, e, k, rfl, ok, hs, he, kb, ft, p⟩
  have cl := go.co.cl; have n1 := go.n1; have n2 := go.n2; have n3 := go.n3
  have cm := mo.co.cl; have m1 := mo.n1
  have ol := ok.len
  have on := ok.n
  have gb := line_bd ok hs he
  have fh := fit_h gb kb.l1 ft
  have rb := room_bd kb s
  have hl : ((r.ws.map Dt.int).length : Int) = r.ws.length := by rw [List.length_map]
  have el : decide ((e : Int) = r.ws.length) = lastB r e := by unfold lastB; by_cases h : e = r.ws.length <;> simp [h, Int.ofNat_inj]
  unfold tq_box_places
  show WS K [] _ [.val r.dt, .val (.int s), .val (.int e), .val (k.ob m), .un, .un, .un, .un, .un, .un, .un, .un, .un, .un] _
  walk_at "es"
  refine .a ⟨r, s, e, rfl, ok, hs, he, ?_⟩
  walk_at "xs"
  refine ws_seq ?_
  walk_at "xs"
  refine .a ⟨s, k, rfl, ?_⟩
  walk_at "xs"
  rw [show roomOf s k - (lineG r s e).w = restOf r s e k from rfl]
  have rr : -10000000 ≤ restOf r s e k ∧ restOf r s e k ≤ 10000000 := by
    obtain ⟨w1, w2, _, _, _, _⟩ := gb
    unfold restOf
    omega
  refine ws_seq ?_
  walk_at "xs"
  rw [hl, el]
  refine ws_cut (fun G => G = [.val r.dt, .val (.int s), .val (.int e), .val (k.ob m), .val (.tup (r.ws.map Dt.int)), .val (.tup (r.js.map Jt.dt)), .val (gD c (lineG r s e)), .val (.int (restOf r s e k)), .val (.bl (lastB r e)), .val (.int (plain0 k s)), .un, .un, .un, .un]) ?_ ?_
  · unfold plain0
    by_cases h0 : s = 0
    · rw [if_pos h0]
      walk_at "es"
      exact .a rfl
    · rw [if_neg h0]
      walk_at "es"
      exact .a rfl
  · rintro G rfl
    refine ws_seq ?_
    walk_at "xs"
    refine .a ⟨_, _, _, rfl, ?_⟩
    walk_at "xs"
    refine ws_seq ?_
    walk_at "xs"
    refine ws_seq ?_
    refine for_range2 (s : Int) (e : Int) (fun i G => ∃ s12 s13, G = [.val r.dt, .val (.int s), .val (.int e), .val (k.ob m), .val (.tup (r.ws.map Dt.int)), .val (.tup (r.js.map Jt.dt)), .val (gD c (lineG r s e)), .val (.int (restOf r s e k)), .val (.bl (lastB r e)), .val (.int (plainAt r k s (i - 1))), .val (gD c (bef r s (i - 1))), .acc ((List.range i).map fun i => .int (placeAt r s e k i)), s12, s13]) ?_ ?_ ?_
    · walk_at "xs"
      refine .a ⟨rfl, ⟨by omega, by omega, by omega, by omega⟩, .un, .un, ?_⟩
      have e1 : plainAt r k s (0 - 1) = plain0 k s := by unfold plainAt; simp [Lin.sumTo]
      rw [e1]
      rfl
    · rintro i G hi ⟨s12, s13, rfl⟩
      have hll : ((List.range i).map fun i => Dt.int (placeAt r s e k i)).length < 1000000 := by rw [List.length_map, List.length_range]; omega
      walk_at "xs"
      refine ws_cut (fun G => ∃ s13, G = [.val r.dt, .val (.int s), .val (.int e), .val (k.ob m), .val (.tup (r.ws.map Dt.int)), .val (.tup (r.js.map Jt.dt)), .val (gD c (lineG r s e)), .val (.int (restOf r s e k)), .val (.bl (lastB r e)), .val (.int (plainAt r k s i)), .val (gD c (bef r s i)), .acc ((List.range i).map fun i => .int (placeAt r s e k i)), .val (.int ((s : Int) + i)), s13]) ?_ ?_
      · cases i with
        | zero =>
          walk_at "es"
          exact .a ⟨_, rfl⟩
        | succ i =>
          have hj := at_J (r := r) (k := s + i) (i := (s : Int) + ((i + 1 : Nat) : Int) - 1) (by omega) (by omega)
          have hw := at_W (r := r) (k := s + i) (i := (s : Int) + ((i + 1 : Nat) : Int) - 1) (by omega) (by omega)
          walk_at "es"
          refine .a ⟨r.J (s + i), rfl, ?_⟩
          walk_at "es"
          refine .a ⟨bef r s i, (r.J (s + i)).g, rfl, ?_⟩
          walk_at "es"
          refine .a ⟨.val (gD c (r.J (s + i)).g), ?_⟩
          have e1 : plainAt r k s (i + 1 - 1) + r.W (s + i) + (r.J (s + i)).g.w = plainAt r k s (i + 1) := by
            show plainAt r k s i + _ + _ = _
            unfold plainAt
            rw [sumTo_succ]
            omega
          rw [e1]
          rfl
      · rintro G ⟨s13, rfl⟩
        walk_at "es"
        refine .a ⟨restOf r s e k, lineG r s e, bef r s i, lastB r e, k, rfl, rr.1, rr.2, gb.h2, gb.s2, fun h1 h2 => (fh.1 h1 h2).1, fh.2.1, ?_⟩
        walk_at "es"
        refine .a ⟨.val (.int ((s : Int) + i)), s13, ?_⟩
        rw [List.range_succ, List.map_append]
        rfl
    · rintro G ⟨s12, s13, rfl⟩
      rw [show ((e : Int) - (s : Int)).toNat = e - s by omega]
      walk_at "es"
      exact p
theorem run_spans : RunOk K [] (tq_gap_spans K (ap_places m)) 10 (ap_spans m) := by
  rintro as Post ⟨r, s, e, k, rfl, ok, hs, he, kb, ft, p⟩
  have ol := ok.len
  have on := ok.n
  unfold tq_gap_spans
  show WS K [] _ [.val r.dt, .val (.int s), .val (.int e), .val (k.ob m), .un, .un, .un, .un, .un, .un] _
  walk_at "es"
  refine .a ⟨r, s, e, k, rfl, ok, hs, he, kb, ft, ?_⟩
  walk_at "es"
  refine for_range2 (s : Int) ((e : Int) - 1) (fun i G => ∃ s8 s9, G = [.val r.dt, .val (.int s), .val (.int e), .val (k.ob m), .val (.tup (r.ws.map Dt.int)), .val (.tup (r.js.map Jt.dt)), .acc ((List.range (e - s)).map fun i => .int (placeAt r s e k i)), .acc ((spansTo r s e k i).map pairD), s8, s9]) ?_ ?_ ?_
  · walk_at "xs"
    exact .a ⟨rfl, ⟨by omega, by omega, by omega, by omega⟩, .un, .un, rfl⟩
  · rintro i G hi ⟨s8, s9, rfl⟩
    have hsl : (spansTo r s e k i).length ≤ i := by
      unfold spansTo
      rw [List.length_map]
      exact Nat.le_trans (List.length_filter_le _ _) (by rw [List.length_range]; exact Nat.le_refl _)
    have hll : ((spansTo r s e k i).map pairD).length < 1000000 := by rw [List.length_map]; omega
    have hj := at_J (r := r) (k := s + i) (i := (s : Int) + i) (by omega) (by omega)
    have hw := at_W (r := r) (k := s + i) (i := (s : Int) + i) (by omega) (by omega)
    have p1 : atI ((List.range (e - s)).map fun i => Dt.int (placeAt r s e k i)) ((s : Int) + i - s) = some (.int (placeAt r s e k i)) := at_range (i := i) (by omega) (by omega)
    have p2 : atI ((List.range (e - s)).map fun i => Dt.int (placeAt r s e k i)) ((s : Int) + i - s + 1) = some (.int (placeAt r s e k (i + 1))) := at_range (i := i + 1) (by omega) (by omega)
    cases q : r.J (s + i) with
    | hy a b =>
      rw [q] at hj
      unfold Jt.dt at hj
      walk_at "es"
      refine .a ⟨.val (.int ((s : Int) + i)), s9, ?_⟩
      rw [spansTo_succ, if_neg (by unfold isGap; rw [q]; exact Bool.false_ne_true)]
    | gap x y z =>
      rw [q] at hj
      unfold Jt.dt at hj
      walk_at "es"
      refine .a ⟨.val (.int ((s : Int) + i)), .val (.int (placeAt r s e k i + r.W (s + i))), ?_⟩
      rw [spansTo_succ, if_pos (by unfold isGap; rw [q]; rfl), List.map_append]
      rfl
  · rintro G ⟨s8, s9, rfl⟩
    rw [show ((e : Int) - 1 - (s : Int)).toNat = e - s - 1 by omega]
    walk_at "es"
    exact p
end
theorem jt_nn {j : Jt} {x y : Int} (h : JtOk j x y) : 0 ≤ j.g.s ∧ 0 ≤ j.g.h ∧ (j.isHy = true → j.g.h = 0 ∧ -x < j.g.w ∧ j.g.w ≤ 0 ∧ -y < j.g.w) ∧ (j.isHy = false → j.g.h < j.g.w) := by
  cases j with
  | hy a b => obtain ⟨h1, h2, h3, h4, h5⟩ := h; refine ⟨by simp [Jt.g], by simp [Jt.g], fun _ => ⟨rfl, by show -x < -b; omega, by show -b ≤ 0; omega, by show -y < -b; omega⟩, fun z => nomatch z⟩
  | gap w s h' => obtain ⟨h1, h2, h3, h4, h5, h6⟩ := h; exact ⟨by show 0 ≤ s; omega, by show 0 ≤ h'; omega, (fun z => nomatch z), fun _ => by show h' < w; omega⟩
theorem div_step {a b c h : Int} (hc : 0 < c) (hb : 0 ≤ b) (hbc : b ≤ c * h) : a / c ≤ (a + b) / c ∧ (a + b) / c ≤ a / c + h := by
  constructor
  · exact Int.ediv_le_ediv hc (by omega)
  · have h1 := Int.ediv_le_ediv hc (show a + b ≤ a + h * c by rw [Int.mul_comm h c]; omega)
    rw [Int.add_mul_ediv_right _ _ (by omega)] at h1
    exact h1
theorem extra_step {r : Row} {s e : Nat} {k : Key} (ok : RowOk r) (hs : s < e) (he : e ≤ r.ws.length) (kl : 0 ≤ k.lo) (ft : Fit r s e k) {i : Nat} (hi : i < e - s - 1) :
    extraOf k.b (restOf r s e k) (lineG r s e) (bef r s i) (lastB r e) - (r.J (s + i)).g.h ≤ extraOf k.b (restOf r s e k) (lineG r s e) (bef r s (i + 1)) (lastB r e) := by
  have gb := line_bd ok hs he
  have fh := fit_h gb kl ft
  have hj := jt_nn (ok.j (s + i) (by have := ok.len; omega))
  unfold extraOf
  by_cases c1 : k.b = true ∧ restOf r s e k < 0
  · rw [if_pos c1, if_pos c1]
    obtain ⟨h1, h2⟩ := fh.1 c1.1 c1.2
    have eb : (bef r s (i + 1)).h = (bef r s i).h + (r.J (s + i)).g.h := rfl
    rw [eb, Int.mul_add]
    have := (div_step (a := -restOf r s e k * (bef r s i).h) (b := -restOf r s e k * (r.J (s + i)).g.h) (c := (lineG r s e).h) (h := (r.J (s + i)).g.h) (by omega) (Int.mul_nonneg (by omega) hj.2.1) (Int.mul_le_mul_of_nonneg_right h2 hj.2.1)).2
    omega
  · rw [if_neg c1, if_neg c1]
    by_cases c2 : k.b = true ∧ 0 < restOf r s e k ∧ lastB r e = false
    · rw [if_pos c2, if_pos c2]
      have h1 := fh.2.1 c2.1 c2.2.1 c2.2.2
      have eb : (bef r s (i + 1)).s = (bef r s i).s + (r.J (s + i)).g.s := rfl
      rw [eb, Int.mul_add]
      have := Int.ediv_le_ediv (a := restOf r s e k * (bef r s i).s) (b := restOf r s e k * (bef r s i).s + restOf r s e k * (r.J (s + i)).g.s) (c := (lineG r s e).s) (by omega) (by have := Int.mul_nonneg (a := restOf r s e k) (b := (r.J (s + i)).g.s) (by omega) hj.1; omega)
      have := hj.2.1
      omega
    · rw [if_neg c2, if_neg c2]
      have := hj.2.1
      omega
theorem place_step {r : Row} {s e : Nat} {k : Key} (ok : RowOk r) (hs : s < e) (he : e ≤ r.ws.length) (kl : 0 ≤ k.lo) (ft : Fit r s e k) {i : Nat} (hi : i < e - s - 1) :
    placeAt r s e k i + 1 ≤ placeAt r s e k (i + 1) ∧ (isGap r (s + i) = true → placeAt r s e k i + r.W (s + i) + 1 ≤ placeAt r s e k (i + 1)) := by
  have hx := extra_step ok hs he kl ft hi
  have hj := jt_nn (ok.j (s + i) (by have := ok.len; omega))
  have hw := (ok.w (s + i) (by omega)).1
  have ep : plainAt r k s (i + 1) = plainAt r k s i + r.W (s + i) + (r.J (s + i)).g.w := by unfold plainAt; rw [sumTo_succ]; omega
  unfold placeAt
  rw [ep]
  unfold isGap
  cases q : (r.J (s + i)).isHy with
  | true => have := hj.2.2.1 q; exact ⟨by omega, fun z => nomatch z⟩
  | false => have := hj.2.2.2 q; exact ⟨by omega, fun _ => by omega⟩
end
section
open PySem L2 Ab
def tq_count_overlapping (K : PySem.W.Frag) : TS :=
    (tSeq (tAsg (tC (.int 0)) (gName 2))
    (tSeq (tAsg (tC (.int 0)) (gName 3))
    (tSeq (tFor (iList K (tVar 1)) (gTup K 2 (gCons (gName 4) (gCons (gName 5) gNil))) (tSeq (tWhile (tAnd (tTest (tOp (rLtG K) (tVar 3) (tCB (rLenV K) (tCons (tVar 0) tNil)))) (tTest (tOp rLeI (tOp (rIx K) (tOp (rIx K) (tVar 0) (tVar 3)) (tC (.int 1))) (tVar 4)))) (tAsg (tOp (rAddG K) (tVar 3) (tC (.int 1))) (gName 3)))
    (tIfS (tAnd (tTest (tOp (rLtG K) (tVar 3) (tCB (rLenV K) (tCons (tVar 0) tNil)))) (tTest (tOp (rLtG K) (tOp (rIx K) (tOp (rIx K) (tVar 0) (tVar 3)) (tC (.int 0))) (tVar 5)))) (tAsg (tOp (rAddG K) (tVar 2) (tC (.int 1))) (gName 2)) tNext)))
    (tRet (tVar 2)))))
def tq_price_with_count (K : PySem.W.Frag) (ap_ends_at_hyphen : AP) : TS :=
    (tSeq (tIfS (tAnd (tTest (tOp rGtI (tFld K (tVar 3) "river") (tC (.int 0)))) (tTest (tOp rGeI (tVar 4) (tFld K (tVar 3) "river")))) (tRet (tC .non)) tNext)
    (tSeq (tIfS (tAnd (tB (tCall (toSp K ap_ends_at_hyphen) [] E0 (tCons (tVar 0) (tCons (tVar 1) tNil)))) (tB (tCall (toSp K ap_ends_at_hyphen) [] E0 (tCons (tVar 0) (tCons (tVar 2) tNil))))) (tRet (tFld K (tVar 3) "twin")) tNext)
    (tRet (tC (.int 0)))))
def ovl (p q : Int × Int) : Bool := decide ((if q.1 > p.1 then q.1 else p.1) < (if q.2 < p.2 then q.2 else p.2))
def hits (up : List (Int × Int)) (q : Int × Int) : Bool := up.any fun p => ovl p q
def cnt (up lo : List (Int × Int)) : Nat := (lo.filter (hits up)).length
structure Ord (ps : List (Int × Int)) : Prop where
  pos : ∀ p ∈ ps, p.1 < p.2
  dis : ps.Pairwise fun p q => p.2 ≤ q.1
theorem ovl_iff {p q : Int × Int} (hp : p.1 < p.2) (hq : q.1 < q.2) : ovl p q = true ↔ p.1 < q.2 ∧ q.1 < p.2 := by
  unfold ovl
  rw [decide_eq_true_iff]
  split <;> split <;> omega
theorem Ord.le {ps : List (Int × Int)} (h : Ord ps) {i j : Nat} {p q : Int × Int} (hij : i < j) (hp : ps[i]? = some p) (hq : ps[j]? = some q) : p.2 ≤ q.1 := by
  obtain ⟨h1, rfl⟩ := List.getElem?_eq_some_iff.mp hp
  obtain ⟨h2, rfl⟩ := List.getElem?_eq_some_iff.mp hq
  exact List.pairwise_iff_getElem.mp h.dis i j h1 h2 hij
theorem hits_iff {up : List (Int × Int)} (ou : Ord up) {q : Int × Int} (hq : q.1 < q.2) {a : Nat} (hlow : ∀ i p, i < a → up[i]? = some p → p.2 ≤ q.1) (hup : ∀ p, up[a]? = some p → q.1 < p.2) :
    hits up q = true ↔ ∃ p, up[a]? = some p ∧ p.1 < q.2 := by
  unfold hits
  rw [List.any_eq_true]
  constructor
  · rintro ⟨p, hp, ho⟩
    obtain ⟨h1, h2⟩ := (ovl_iff (ou.pos p hp) hq).mp ho
    obtain ⟨i, hi⟩ := List.mem_iff_getElem?.mp hp
    have hai : ¬ i < a := fun z => by have := hlow i p z hi; omega
    have hal : a < up.length := by have := (List.getElem?_eq_some_iff.mp hi).1; omega
    refine ⟨up[a], List.getElem?_eq_getElem hal, ?_⟩
    by_cases hia : i = a
    · subst hia
      rw [List.getElem?_eq_getElem hal] at hi
      cases hi
      exact h1
    · have := ou.le (show a < i by omega) (List.getElem?_eq_getElem hal) hi
      have := ou.pos up[a] (List.getElem_mem hal)
      omega
  · rintro ⟨p, hp, h1⟩
    exact ⟨p, List.mem_of_getElem? hp, (ovl_iff (ou.pos p (List.mem_of_getElem? hp)) hq).mpr ⟨h1, hup p hp⟩⟩
theorem cnt_snoc (up lo : List (Int × Int)) (q : Int × Int) : cnt up (lo ++ [q]) = cnt up lo + (if hits up q = true then 1 else 0) := by
  unfold cnt
  rw [List.filter_append, List.length_append]
  by_cases h : hits up q = true
  · simp [h]
  · simp [h]
def ap_countV : AP := fun as Post => ∃ (up lo : List (Int × Int)), as = [.val (.lst (up.map pairD)), .val (.lst (lo.map pairD))] ∧ Ord up ∧ Ord lo ∧ up.length ≤ 1000 ∧ lo.length ≤ 1000 ∧ Post (.val (.int (cnt up lo))) as
def pairC (r : Row) (m e : Nat) (k : Key) (n : Nat) : Option Int := if 0 < k.ri ∧ k.ri ≤ (n : Int) then none else some (if r.hyE m = true ∧ r.hyE e = true then k.tw else 0)
def pairP (r : Row) (s m e : Nat) (k : Key) : Option Int := pairC r m e k (if 0 < k.ri then cnt (spans r s m k) (spans r m e k) else 0)
def ap_pwc (m : Addr) : AP := fun as Post => ∃ (r : Row) (i e : Nat) (k : Key) (n : Nat), as = [.val r.dt, .val (.int i), .val (.int e), .val (k.ob m), .val (.int n)] ∧ RowOk r ∧ 1 ≤ i ∧ 1 ≤ e ∧ Post (.val (optD (pairC r i e k n))) as
theorem place_mono {r : Row} {s e : Nat} {k : Key} (ok : RowOk r) (hs : s < e) (he : e ≤ r.ws.length) (kl : 0 ≤ k.lo) (ft : Fit r s e k) : ∀ {i j : Nat}, i ≤ j → j ≤ e - s - 1 → placeAt r s e k i ≤ placeAt r s e k j
  | i, 0, h, _ => by rw [show i = 0 by omega]; exact Int.le_refl _
  | i, j + 1, h, hj => by
    by_cases hij : i = j + 1
    · rw [hij]; exact Int.le_refl _
    · have := place_mono ok hs he kl ft (i := i) (j := j) (by omega) (by omega)
      have := (place_step ok hs he kl ft (i := j) (by omega)).1
      omega
theorem spans_ord {r : Row} {s e : Nat} {k : Key} (ok : RowOk r) (hs : s < e) (he : e ≤ r.ws.length) (kl : 0 ≤ k.lo) (ft : Fit r s e k) : Ord (spans r s e k) := by
  constructor
  · intro p hp
    unfold spans spansTo at hp
    obtain ⟨i, hi, rfl⟩ := List.mem_map.mp hp
    obtain ⟨h1, h2⟩ := List.mem_filter.mp hi
    have := (place_step ok hs he kl ft (List.mem_range.mp h1)).2 h2
    show placeAt r s e k i + r.W (s + i) < placeAt r s e k (i + 1)
    omega
  · unfold spans spansTo
    rw [List.pairwise_map]
    refine List.Pairwise.imp_of_mem ?_ (List.Pairwise.filter _ List.pairwise_lt_range)
    intro i j hi hj hij
    have h2 := List.mem_range.mp (List.mem_filter.mp hj).1
    have := place_mono ok hs he kl ft (i := i + 1) (j := j) (by omega) (by omega)
    have := (ok.w (s + j) (by omega)).1
    show placeAt r s e k (i + 1) ≤ placeAt r s e k j + r.W (s + j)
    omega
theorem spans_len {r : Row} {s e : Nat} {k : Key} (ok : RowOk r) (he : e ≤ r.ws.length) : (spans r s e k).length ≤ 100 := by
  unfold spans spansTo
  rw [List.length_map]
  have := ok.n
  exact Nat.le_trans (List.length_filter_le _ _) (by rw [List.length_range]; omega)
section
variable {K : PySem.W.Frag} {c m : Addr}
theorem run_pwc (mo : MeasOk K m) : RunOk K [] (tq_price_with_count K ap_ends) 5 (ap_pwc m) := by
  rintro as Post ⟨r, i, e, k, n, rfl, ok, hi, he, p⟩
  have cl := mo.co.cl; have n4 := mo.n4; have n5 := mo.n5
  unfold tq_price_with_count
  show WS K [] _ [.val r.dt, .val (.int i), .val (.int e), .val (k.ob m), .val (.int n)] _
  unfold pairC at p
  by_cases c1 : 0 < k.ri ∧ k.ri ≤ (n : Int)
  · rw [if_pos c1] at p
    walk_at "es"
    exact p
  · rw [if_neg c1] at p
    refine ws_cut (fun G => G = [.val r.dt, .val (.int i), .val (.int e), .val (k.ob m), .val (.int n)]) ?_ ?_
    · by_cases c2 : 0 < k.ri
      · have c3 : ¬ k.ri ≤ (n : Int) := fun z => c1 ⟨c2, z⟩
        walk_at "es"
        exact .a rfl
      · walk_at "es"
        exact .a rfl
    · rintro G rfl
      walk_at "es"
      refine .a ⟨r, i, rfl, ok, hi, ?_⟩
      walk_at "es"
      refine ⟨fun h1 => ?_, fun h1 => ?_⟩
      · walk_at "es"
        refine .a ⟨r, e, rfl, ok, he, ?_⟩
        walk_at "es"
        refine ⟨fun h2 => ?_, fun h2 => ?_⟩
        · rw [if_pos ⟨h1, h2⟩] at p
          walk_at "es"
          exact p
        · rw [if_neg (fun z => by rw [h2] at z; exact Bool.noConfusion z.2)] at p
          walk_at "es"
          exact p
      · rw [if_neg (fun z => by rw [h1] at z; exact Bool.noConfusion z.1)] at p
        walk_at "es"
        exact p
theorem run_countV : RunOk K [] (tq_count_overlapping K) 6 ap_countV := by
  rintro as Post ⟨up, lo, rfl, ou, ol, hu, hlo, k⟩
  have hlen : ((up.map pairD).length : Int) = up.length := by rw [List.length_map]
  unfold tq_count_overlapping
  show WS K [] _ [.val (.lst (up.map pairD)), .val (.lst (lo.map pairD)), .un, .un, .un, .un] _
  walk_at "es"
  refine for_lst (lo.map pairD) (fun i G => ∃ (a : Nat) (s4 s5 : Sl), a ≤ up.length ∧ (∀ j p q, j < a → up[j]? = some p → lo[i]? = some q → p.2 ≤ q.1) ∧ G = [.val (.lst (up.map pairD)), .val (.lst (lo.map pairD)), .val (.int (cnt up (lo.take i))), .val (.int a), s4, s5]) ?_ ?_ ?_
  · walk_at "xs"
    exact .a ⟨rfl, 0, .un, .un, Nat.zero_le _, (fun j p q hj => absurd hj (Nat.not_lt_zero _)), rfl⟩
  · rintro i d G hd ⟨a, s4, s5, ha, hlow, rfl⟩
    rw [List.getElem?_map] at hd
    obtain ⟨q, hq, rfl⟩ := Option.map_eq_some_iff.mp hd
    have hqp := ol.pos q (List.mem_of_getElem? hq)
    have e1 : lo.take (i + 1) = lo.take i ++ [q] := by rw [List.take_add_one, hq]; rfl
    walk_at "xs"
    refine ws_cut (fun G => ∃ b : Nat, b ≤ up.length ∧ (∀ j p, j < b → up[j]? = some p → p.2 ≤ q.1) ∧ (∀ p, up[b]? = some p → q.1 < p.2) ∧ G = [.val (.lst (up.map pairD)), .val (.lst (lo.map pairD)), .val (.int (cnt up (lo.take i))), .val (.int b), .val (.int q.1), .val (.int q.2)]) ?_ ?_
    · refine while_ab (fun m G => ∃ b : Nat, b ≤ up.length ∧ m = up.length - b ∧ (∀ j p, j < b → up[j]? = some p → p.2 ≤ q.1) ∧ G = [.val (.lst (up.map pairD)), .val (.lst (lo.map pairD)), .val (.int (cnt up (lo.take i))), .val (.int b), .val (.int q.1), .val (.int q.2)]) (up.length - a) ⟨a, ha, rfl, fun j p hj hp => hlow j p q hj hp hq, rfl⟩ ?_
      rintro m G ⟨b, hb, rfl, hlw, rfl⟩
      by_cases hbl : (b : Int) < up.length
      · obtain ⟨p, hp⟩ : ∃ p, up[b]? = some p := ⟨_, List.getElem?_eq_getElem (by omega)⟩
        have hix : atI (up.map pairD) (b : Int) = some (pairD p) := atI_of rfl (by rw [List.getElem?_map, hp]; rfl)
        by_cases hpq : p.2 ≤ q.1
        · walk_at "es"
          refine .a ⟨up.length - (b + 1), by omega, b + 1, by omega, rfl, fun j p' hj hp' => ?_, by rw [show ((b + 1 : Nat) : Int) = (b : Int) + 1 by omega]⟩
          by_cases hjb : j < b
          · exact hlw j p' hjb hp'
          · have : j = b := by omega
            subst this
            rw [hp] at hp'
            cases hp'
            exact hpq
        · walk_at "es"
          exact .a ⟨b, hb, hlw, fun p' hp' => by rw [hp] at hp'; cases hp'; omega, rfl⟩
      · walk_at "es"
        exact .a ⟨b, hb, hlw, fun p' hp' => by have := (List.getElem?_eq_some_iff.mp hp').1; omega, rfl⟩
    · rintro G ⟨b, hb, hlw, hup, rfl⟩
      have hi := hits_iff ou hqp hlw hup
      have nxt : ∀ j p q', j < b → up[j]? = some p → lo[i + 1]? = some q' → p.2 ≤ q'.1 := fun j p q' hj hp hq' => by
        have := hlw j p hj hp
        have := ol.le (show i < i + 1 by omega) hq hq'
        omega
      by_cases hbl : (b : Int) < up.length
      · obtain ⟨p, hp⟩ : ∃ p, up[b]? = some p := ⟨_, List.getElem?_eq_getElem (by omega)⟩
        have hix : atI (up.map pairD) (b : Int) = some (pairD p) := atI_of rfl (by rw [List.getElem?_map, hp]; rfl)
        by_cases hpq : p.1 < q.2
        · have hy : hits up q = true := hi.mpr ⟨p, hp, hpq⟩
          walk_at "es"
          refine .a ⟨b, .val (.int q.1), .val (.int q.2), hb, nxt, ?_⟩
          rw [e1, cnt_snoc, if_pos hy]
          rfl
        · have hy : ¬ hits up q = true := fun z => by
            obtain ⟨p', hp', h'⟩ := hi.mp z
            rw [hp] at hp'; cases hp'; exact hpq h'
          walk_at "es"
          refine .a ⟨b, .val (.int q.1), .val (.int q.2), hb, nxt, ?_⟩
          rw [e1, cnt_snoc, if_neg hy]
          rfl
      · have hy : ¬ hits up q = true := fun z => by
          obtain ⟨p', hp', h'⟩ := hi.mp z
          have := (List.getElem?_eq_some_iff.mp hp').1
          omega
        walk_at "es"
        refine .a ⟨b, .val (.int q.1), .val (.int q.2), hb, nxt, ?_⟩
        rw [e1, cnt_snoc, if_neg hy]
        rfl
  · rintro G ⟨a, s4, s5, _, _, rfl⟩
    rw [List.length_map, List.take_length]
    walk_at "es"
    exact k
end
section
variable {K : PySem.W.Frag} {c m : Addr}
end
end
section
open PySem L2 Ab
def tq_lines_from (K : PySem.W.Frag) (c_Glue : Addr) (ap_room_of : AP) (ai_Glue : AI) (ap_price_with_glue : AP) (ap_finished_glue : AP) (ap_extended_glue : AP) : TS :=
    (tSeq (tAsg (tOp (rIx K) (tVar 0) (tC (.int 0))) (gName 3))
    (tSeq (tAsg (tCall (toSp K ap_room_of) [] E0 (tCons (tVar 1) (tCons (tVar 2) tNil))) (gName 4))
    (tSeq (tAsg (tMake c_Glue (toSpI K c_Glue ai_Glue) [] E0 (tCons (tOp (rIx K) (tVar 3) (tVar 1)) (tCons (tC (.int 0)) (tCons (tC (.int 0)) tNil)))) (gName 5))
    (tSeq (tAsg (tLst tNil) (gName 6))
    (tSeq (tFor (iRng2 (tCons (tOp (rAddG K) (tVar 1) (tC (.int 1))) (tCons (tOp (rAddG K) (tCB (rLenV K) (tCons (tVar 3) tNil)) (tC (.int 1))) tNil))) (gName 7) (tSeq (tAsg (tCall (toSp K ap_price_with_glue) [] E0 (tCons (tVar 0) (tCons (tVar 7) (tCons (tCall (toSp K ap_finished_glue) [] E0 (tCons (tVar 0) (tCons (tVar 5) (tCons (tVar 7) tNil)))) (tCons (tVar 4) (tCons (tVar 2) tNil)))))) (gName 8))
    (tSeq (tIfS (tB (tNotN (tVar 8))) (tDrop (tBM K "list" rAppend (tVar 6) (tCons (tTup (tCons (tVar 7) (tCons (tVar 8) tNil))) tNil))) tNext)
    (tSeq (tIfS (tOr (tTest (tOp (rEqG K) (tVar 7) (tCB (rLenV K) (tCons (tVar 3) tNil)))) (tTest (tOp rGtI (tOp rSubI (tFld K (tVar 5) "width") (tFld K (tVar 5) "shrink")) (tVar 4)))) tBreak tNext)
    (tAsg (tCall (toSp K ap_extended_glue) [] E0 (tCons (tVar 0) (tCons (tVar 5) (tCons (tVar 7) tNil)))) (gName 5))))))
    (tRet (tVar 6)))))))
def tq_LineTable___init__ (K : PySem.W.Frag) (w : World) (ap_lines_from : AP) (ap_gap_spans : AP) : TS :=
    (tSeq (sFld K (tVar 0) (tVar 1) "row")
    (tSeq (sFld K (tVar 0) (tVar 2) "fitting")
    (tSeq (sFld K (tVar 0) (tCB (rLenV K) (tCons (tOp (rIx K) (tVar 1) (tC (.int 0))) tNil)) "boxes")
    (tSeq (sFld K (tVar 0) (tOp rGtI (tFld K (tVar 2) "river") (tC (.int 0))) "rivers")
    (tSeq (sFld K (tVar 0) (tOp (rAddG K) (tLc (iRng1 (tCons (tFld K (tVar 0) "boxes") tNil)) (gName 6) tYes (tCall (toSp K ap_lines_from) [] E0 (tCons (tVar 1) (tCons (tVar 6) (tCons (tVar 2) tNil)))) [6]) (tLst (tCons (tLst tNil) tNil))) "ends_from")
    (tSeq (sFld K (tVar 0) (tLc (iRng1 (tCons (tOp (rAddG K) (tFld K (tVar 0) "boxes") (tC (.int 1))) tNil)) (gName 6) tYes (tLst tNil) [6]) "starts_to")
    (tSeq (sFld K (tVar 0) (tNNew w) "gaps")
    (tFor (iRng1 (tCons (tFld K (tVar 0) "boxes") tNil)) (gName 3) (tFor (iList K (tOp (rIx K) (tFld K (tVar 0) "ends_from") (tVar 3))) (gTup K 2 (gCons (gName 4) (gCons (gName 5) gNil))) (tSeq (tDrop (tBM K "list" rAppend (tOp (rIx K) (tFld K (tVar 0) "starts_to") (tVar 4)) (tCons (tVar 3) tNil)))
    (tIfS (tB (tFld K (tVar 0) "rivers")) (sNPut K w (tFld K (tVar 0) "gaps") (tTup (tCons (tVar 3) (tCons (tVar 4) tNil))) (tCall (toSp K ap_gap_spans) [] E0 (tCons (tVar 1) (tCons (tVar 3) (tCons (tVar 4) (tCons (tVar 2) tNil)))))) tNext)))))))))))
def tq_LineTable_pair (K : PySem.W.Frag) (w : World) (ap_count_overlapping : AP) (ap_price_with_count : AP) : TS :=
    (tSeq (tIfS (tB (tIsN (tVar 1))) (tRet (tC (.int 0))) tNext)
    (tSeq (tAsg (tC (.int 0)) (gName 4))
    (tSeq (tIfS (tB (tFld K (tVar 0) "rivers")) (tAsg (tCall (toSp K ap_count_overlapping) [] E0 (tCons (tNGet K w (tFld K (tVar 0) "gaps") (tTup (tCons (tVar 1) (tCons (tVar 2) tNil)))) (tCons (tNGet K w (tFld K (tVar 0) "gaps") (tTup (tCons (tVar 2) (tCons (tVar 3) tNil)))) tNil))) (gName 4)) tNext)
    (tRet (tCall (toSp K ap_price_with_count) [] E0 (tCons (tFld K (tVar 0) "row") (tCons (tVar 2) (tCons (tVar 3) (tCons (tFld K (tVar 0) "fitting") (tCons (tVar 4) tNil))))))))))
def tq_farthest_ends (K : PySem.W.Frag) (w : World) (c_LineTable : Addr) (ap_LineTable_pair : AP) : TS :=
    (tSeq (tAsg (tNNew w) (gName 1))
    (tSeq (tFor (iRng3 (tCons (tFld K (tVar 0) "boxes") (tCons (tC (.int 0)) (tCons (tUn rNegI (tC (.int 1))) tNil)))) (gName 2) (tSeq (tAsg (tC .non) (gName 3))
    (tFor (iList K (tOp (rIx K) (tFld K (tVar 0) "starts_to") (tVar 2))) (gName 4) (tSeq (tIfS (tOr (tB (tIsN (tVar 3))) (tB (tFld K (tVar 0) "rivers"))) (tSeq (tAsg (tVar 2) (gName 3))
    (tFor (iList K (tOp (rIx K) (tFld K (tVar 0) "ends_from") (tVar 2))) (gTup K 2 (gCons (gName 5) (gCons (gName 6) gNil))) (tIfS (tAnd (tTest (tOp rGtI (tNGet K w (tVar 1) (tTup (tCons (tVar 2) (tCons (tVar 5) tNil)))) (tVar 3))) (tB (tNotN (tMeth c_LineTable "pair" (toSp K ap_LineTable_pair) [] E0 (tVar 0) (tCons (tVar 4) (tCons (tVar 2) (tCons (tVar 5) tNil))))))) (tAsg (tNGet K w (tVar 1) (tTup (tCons (tVar 2) (tCons (tVar 5) tNil)))) (gName 3)) tNext))) tNext)
    (sNPut K w (tVar 1) (tTup (tCons (tVar 4) (tCons (tVar 2) tNil))) (tVar 3))))))
    (tRet (tVar 1))))
def tq_stretch_of (K : PySem.W.Frag) (w : World) (ap_farthest_ends : AP) : TS :=
    (tSeq (tAsg (tCall (toSp K ap_farthest_ends) [] E0 (tCons (tVar 0) tNil)) (gName 1))
    (tSeq (tAsg (tC (.int 0)) (gName 2))
    (tSeq (tAsg (tC .non) (gName 3))
    (tSeq (tFor (iRng1 (tCons (tFld K (tVar 0) "boxes") tNil)) (gName 4) (tSeq (tAsg (tCB (rMax K) (tCons (tOp (rAddG K) (tLst (tCons (tVar 2) (tCons (tVar 4) tNil))) (tLc (iList K (tOp (rIx K) (tFld K (tVar 0) "ends_from") (tVar 4))) (gTup K 2 (gCons (gName 6) (gCons (gName 7) gNil))) tYes (tNGet K w (tVar 1) (tTup (tCons (tVar 4) (tCons (tVar 6) tNil)))) [6, 7])) tNil)) (gName 2))
    (tSeq (tAsg (tOp rSubI (tOp (rAddG K) (tVar 2) (tC (.int 1))) (tVar 4)) (gName 5))
    (tIfS (tAnd (tTest (tOp (rLtG K) (tVar 2) (tFld K (tVar 0) "boxes"))) (tOr (tB (tIsN (tVar 3))) (tTest (tOp (rLtG K) (tVar 5) (tOp rSubI (tOp (rIx K) (tVar 3) (tC (.int 1))) (tOp (rIx K) (tVar 3) (tC (.int 0)))))))) (tAsg (tTup (tCons (tVar 4) (tCons (tOp (rAddG K) (tVar 2) (tC (.int 1))) tNil))) (gName 3)) tNext))))
    (tRet (tVar 3))))))
def tq_continuations (K : PySem.W.Frag) (w : World) (c_LineTable : Addr) (ap_LineTable_pair : AP) : TS :=
    (tSeq (tAsg (tLst tNil) (gName 4))
    (tSeq (tFor (iList K (tOp (rIx K) (tFld K (tVar 0) "ends_from") (tVar 3))) (gTup K 2 (gCons (gName 5) (gCons (gName 6) gNil))) (tIfS (tB (tNIn K w (tTup (tCons (tVar 3) (tCons (tVar 5) tNil))) (tVar 1))) (tSeq (tAsg (tMeth c_LineTable "pair" (toSp K ap_LineTable_pair) [] E0 (tVar 0) (tCons (tVar 2) (tCons (tVar 3) (tCons (tVar 5) tNil)))) (gName 7))
    (tIfS (tB (tNotN (tVar 7))) (tSeq (tAsg (tNGet K w (tVar 1) (tTup (tCons (tVar 3) (tCons (tVar 5) tNil)))) (gTup K 3 (gCons (gName 8) (gCons (gName 9) (gCons (gName 10) gNil)))))
    (tDrop (tBM K "list" rAppend (tVar 4) (tCons (tTup (tCons (tOp (rAddG K) (tOp (rAddG K) (tVar 7) (tVar 6)) (tVar 8)) (tCons (tOp (rAddG K) (tVar 9) (tC (.int 1))) (tCons (tVar 5) tNil)))) tNil)))) tNext)) tNext))
    (tRet (tVar 4))))
def tq_best_continuations (K : PySem.W.Frag) (w : World) (ap_continuations : AP) : TS :=
    (tSeq (tAsg (tNNew w) (gName 1))
    (tSeq (tFor (iList K (tOp (rIx K) (tFld K (tVar 0) "starts_to") (tFld K (tVar 0) "boxes"))) (gName 2) (sNPut K w (tVar 1) (tTup (tCons (tVar 2) (tCons (tFld K (tVar 0) "boxes") tNil))) (tTup (tCons (tC (.int 0)) (tCons (tC (.int 0)) (tCons (tC .non) tNil))))))
    (tSeq (tFor (iRng3 (tCons (tOp rSubI (tFld K (tVar 0) "boxes") (tC (.int 1))) (tCons (tC (.int 0)) (tCons (tUn rNegI (tC (.int 1))) tNil)))) (gName 3) (tSeq (tAsg (tC .non) (gName 4))
    (tFor (iList K (tOp (rIx K) (tFld K (tVar 0) "starts_to") (tVar 3))) (gName 2) (tSeq (tIfS (tOr (tB (tIsN (tVar 4))) (tB (tFld K (tVar 0) "rivers"))) (tAsg (tCall (toSp K ap_continuations) [] E0 (tCons (tVar 0) (tCons (tVar 1) (tCons (tVar 2) (tCons (tVar 3) tNil))))) (gName 4)) tNext)
    (tIfS (tTest (tOp rGtI (tCB (rLenV K) (tCons (tVar 4) tNil)) (tC (.int 0)))) (sNPut K w (tVar 1) (tTup (tCons (tVar 2) (tCons (tVar 3) tNil))) (tCB (rMinD K) (tCons (tVar 4) tNil))) tNext)))))
    (tRet (tVar 1)))))
abbrev fs_LineTable (d0 d1 d2 d3 d4 d5 d6 : Dt) : List (Str × Dt) := [("row", d0), ("fitting", d1), ("boxes", d2), ("rivers", d3), ("ends_from", d4), ("starts_to", d5), ("gaps", d6)]
theorem lk_LineTable_row {d0 d1 d2 d3 d4 d5 d6 : Dt} : List.lookup ("row" : Str) (fs_LineTable d0 d1 d2 d3 d4 d5 d6) = some d0 := lk_hit
theorem ne_LineTable_1_0 : ¬ (("fitting" : Str) = "row") := by decide +kernel
theorem lk_LineTable_fitting {d0 d1 d2 d3 d4 d5 d6 : Dt} : List.lookup ("fitting" : Str) (fs_LineTable d0 d1 d2 d3 d4 d5 d6) = some d1 := (lk_miss ne_LineTable_1_0).trans (lk_hit)
theorem ne_LineTable_2_0 : ¬ (("boxes" : Str) = "row") := by decide +kernel
theorem ne_LineTable_2_1 : ¬ (("boxes" : Str) = "fitting") := by decide +kernel
theorem lk_LineTable_boxes {d0 d1 d2 d3 d4 d5 d6 : Dt} : List.lookup ("boxes" : Str) (fs_LineTable d0 d1 d2 d3 d4 d5 d6) = some d2 := (lk_miss ne_LineTable_2_0).trans ((lk_miss ne_LineTable_2_1).trans (lk_hit))
theorem ne_LineTable_3_0 : ¬ (("rivers" : Str) = "row") := by decide +kernel
theorem ne_LineTable_3_1 : ¬ (("rivers" : Str) = "fitting") := by decide +kernel
theorem ne_LineTable_3_2 : ¬ (("rivers" : Str) = "boxes") := by decide +kernel
theorem lk_LineTable_rivers {d0 d1 d2 d3 d4 d5 d6 : Dt} : List.lookup ("rivers" : Str) (fs_LineTable d0 d1 d2 d3 d4 d5 d6) = some d3 := (lk_miss ne_LineTable_3_0).trans ((lk_miss ne_LineTable_3_1).trans ((lk_miss ne_LineTable_3_2).trans (lk_hit)))
theorem ne_LineTable_4_0 : ¬ (("ends_from" : Str) = "row") := by decide +kernel
theorem ne_LineTable_4_1 : ¬ (("ends_from" : Str) = "fitting") := by decide +kernel
theorem ne_LineTable_4_2 : ¬ (("ends_from" : Str) = "boxes") := by decide +kernel
theorem ne_LineTable_4_3 : ¬ (("ends_from" : Str) = "rivers") := by decide +kernel
theorem lk_LineTable_ends_from {d0 d1 d2 d3 d4 d5 d6 : Dt} : List.lookup ("ends_from" : Str) (fs_LineTable d0 d1 d2 d3 d4 d5 d6) = some d4 := (lk_miss ne_LineTable_4_0).trans ((lk_miss ne_LineTable_4_1).trans ((lk_miss ne_LineTable_4_2).trans ((lk_miss ne_LineTable_4_3).trans (lk_hit))))
theorem ne_LineTable_5_0 : ¬ (("starts_to" : Str) = "row") := by decide +kernel
theorem ne_LineTable_5_1 : ¬ (("starts_to" : Str) = "fitting") := by decide +kernel
theorem ne_LineTable_5_2 : ¬ (("starts_to" : Str) = "boxes") := by decide +kernel
theorem ne_LineTable_5_3 : ¬ (("starts_to" : Str) = "rivers") := by decide +kernel
theorem ne_LineTable_5_4 : ¬ (("starts_to" : Str) = "ends_from") := by decide +kernel
theorem lk_LineTable_starts_to {d0 d1 d2 d3 d4 d5 d6 : Dt} : List.lookup ("starts_to" : Str) (fs_LineTable d0 d1 d2 d3 d4 d5 d6) = some d5 := (lk_miss ne_LineTable_5_0).trans ((lk_miss ne_LineTable_5_1).trans ((lk_miss ne_LineTable_5_2).trans ((lk_miss ne_LineTable_5_3).trans ((lk_miss ne_LineTable_5_4).trans (lk_hit)))))
theorem ne_LineTable_6_0 : ¬ (("gaps" : Str) = "row") := by decide +kernel
theorem ne_LineTable_6_1 : ¬ (("gaps" : Str) = "fitting") := by decide +kernel
theorem ne_LineTable_6_2 : ¬ (("gaps" : Str) = "boxes") := by decide +kernel
theorem ne_LineTable_6_3 : ¬ (("gaps" : Str) = "rivers") := by decide +kernel
theorem ne_LineTable_6_4 : ¬ (("gaps" : Str) = "ends_from") := by decide +kernel
theorem ne_LineTable_6_5 : ¬ (("gaps" : Str) = "starts_to") := by decide +kernel
theorem lk_LineTable_gaps {d0 d1 d2 d3 d4 d5 d6 : Dt} : List.lookup ("gaps" : Str) (fs_LineTable d0 d1 d2 d3 d4 d5 d6) = some d6 := (lk_miss ne_LineTable_6_0).trans ((lk_miss ne_LineTable_6_1).trans ((lk_miss ne_LineTable_6_2).trans ((lk_miss ne_LineTable_6_3).trans ((lk_miss ne_LineTable_6_4).trans ((lk_miss ne_LineTable_6_5).trans (lk_hit))))))
theorem lk_LineTable_no_pair {d0 d1 d2 d3 d4 d5 d6 : Dt} : List.lookup ("pair" : Str) (fs_LineTable d0 d1 d2 d3 d4 d5 d6) = none := (lk_miss (by decide +kernel)).trans ((lk_miss (by decide +kernel)).trans ((lk_miss (by decide +kernel)).trans ((lk_miss (by decide +kernel)).trans ((lk_miss (by decide +kernel)).trans ((lk_miss (by decide +kernel)).trans ((lk_miss (by decide +kernel)).trans (rfl)))))))
end
local macro_rules | `(tactic| walk_at "ln") => `(tactic| first
  | omega
  | (simp only [List.length_append, List.length_cons, List.length_nil, List.length_map, List.length_take, List.length_drop, List.length_set, List.length_replicate, List.length_reverse, PySem.Str.length_append]; omega)
  | decide
  | with_reducible exact Nat.le_refl _
  | (simp only [List.length_append, List.length_cons, List.length_nil, List.length_map, List.length_take, List.length_drop, List.length_set, List.length_replicate, List.length_reverse, PySem.Str.length_append] at *; omega)
  | exact (Nat.le_of_ble_eq_true rfl)
  | fail "ln")
section
open PySem L2 Ab
end
local macro_rules | `(tactic| walk_at "az") => `(tactic| first
  | assumption
  | exact Az.nil
  | exact az_abc
  | exact Az.one (az_abc _ (by assumption))
  | ((refine' Az.app ?h1 ?h2); (case h1 => walk_at "az"); (case h2 => walk_at "az"))
  | ((refine' Az.cut ?h1 _ _); (case h1 => walk_at "az"))
  | fail "az")
section
open PySem L2 Ab
end
local macro_rules | `(tactic| walk_at "ty") => `(tactic| first
  | assumption
  | exact EnvT.nil
  | ((refine' EnvT.cons ?ha ?ht); (case ha => walk_at "ty"); (case ht => walk_at "ty"))
  | exact SAny.mk
  | exact SIs.mk
  | exact SPool.mk (by assumption)
  | exact SPool.mk (PoolUp.mono (by assumption) (by omega))
  | ((refine' SVal.mk ?ha); (case ha => walk_at "ty"))
  | ((refine' RVal.mk ?ha); (case ha => walk_at "ty"))
  | ((refine' SAcc.mk ?h0 ?h1 ?h); (case h0 => walk_at "ln"); (case h1 => walk_at "ln"); (case h => walk_at "ty"))
  | ((refine' RNew.mk ?h0 ?h1 ?h); (case h0 => walk_at "ln"); (case h1 => walk_at "ln"); (case h => walk_at "ty"))
  | ((refine' TTs.mk ?h0 ?h1 ?h); (case h0 => walk_at "ln"); (case h1 => walk_at "ln"); (case h => walk_at "ty"))
  | ((refine' TLs.mk ?h0 ?h1 ?h); (case h0 => walk_at "ln"); (case h1 => walk_at "ln"); (case h => walk_at "ty"))
  | exact TIs.mk
  | exact TBl.mk
  | ((refine' TInt.mk ?h0 ?h1); (case h0 => walk_at "ln"); (case h1 => walk_at "ln"))
  | ((refine' TStr.mk ?h0 ?h1); (case h0 => walk_at "ln"); (case h1 => walk_at "ln"))
  | ((refine' TNm.mk ?h0 ?h1 ?h2); (case h0 => walk_at "ln"); (case h1 => walk_at "ln"); (case h2 => walk_at "az"))
  | ((refine' T2.mk ?ha ?hb); (case ha => walk_at "ty"); (case hb => walk_at "ty"))
  | ((refine' T3.mk ?ha ?hb ?hc); (case ha => walk_at "ty"); (case hb => walk_at "ty"); (case hc => walk_at "ty"))
  | ((refine' T4.mk ?ha ?hb ?hc ?hd); (case ha => walk_at "ty"); (case hb => walk_at "ty"); (case hc => walk_at "ty"); (case hd => walk_at "ty"))
  | ((refine' T1.mk ?ha); (case ha => walk_at "ty"))
  | exact all_nil
  | ((refine' all_cons ?ha ?ht); (case ha => walk_at "ty"); (case ht => walk_at "ty"))
  | ((refine' all_app ?ha ?ht); (case ha => walk_at "ty"); (case ht => walk_at "ty"))
  | exact all_take (by assumption)
  | exact all_drop (by assumption)
  | exact all_cut (by assumption)
  | exact all_erase (by assumption)
  | ((refine' all_set (by assumption) ?ha); (case ha => walk_at "ty"))
  | fail "ty")
section
open PySem L2 Ab
end
local macro_rules | `(tactic| walk_at "cs") => `(tactic| repeat (first
  | cases ‹EnvT (_ :: _) _›
  | cases ‹EnvT [] _›
  | cases ‹SAny _›
  | cases ‹SIs _ _›
  | cases ‹SVal _ _›
  | cases ‹SAcc _ _ _ _›
  | cases ‹SPool _ _›
  | cases ‹RVal _ _›
  | cases ‹RNew _ _ _ _›
  | cases ‹TIs _ _›
  | cases ‹TInt _ _ _›
  | cases ‹TBl _›
  | cases ‹TStr _ _ _›
  | cases ‹TNm _ _ _›
  | cases ‹T1 _ _›
  | cases ‹T2 _ _ _›
  | cases ‹T3 _ _ _ _›
  | cases ‹T4 _ _ _ _ _›
  | cases ‹TTs _ _ _ _›
  | cases ‹TLs _ _ _ _›))
section
open PySem L2 Ab
end
local macro_rules | `(tactic| walk_at "if") => `(tactic| ((refine ⟨fun hY => ?_, fun hY => ?_⟩) <;> (try simp only [decide_eq_true_eq, decide_eq_false_iff_not, Bool.not_eq_true', Bool.not_eq_false', Bool.not_eq_true, Bool.not_eq_false] at hY)))
section
open PySem L2 Ab
end
local macro_rules | `(tactic| walk_at "c1") => `(tactic| ((refine' Hold.a ⟨_, ?ce, ?co, fun _ _ _ _ => ?_⟩); (case ce => (show EnvT _ _; walk_at "ty")); (case co => first | omega | fail "co"); walk_at "cs"))
section
open PySem L2 Ab
end
local macro_rules | `(tactic| walk_at "c2") => `(tactic| ((refine' Hold.a ⟨_, _, ?ce, ?co, fun _ _ _ _ => ?_⟩); (case ce => (show EnvT _ _; walk_at "ty")); (case co => first | omega | fail "co"); walk_at "cs"))
section
open PySem L2 Ab
end
local macro_rules | `(tactic| walk_at "c3") => `(tactic| ((refine' Hold.a ⟨_, _, _, ?ce, ?co, fun _ _ _ _ => ?_⟩); (case ce => (show EnvT _ _; walk_at "ty")); (case co => first | omega | fail "co"); walk_at "cs"))
section
open PySem L2 Ab
end
local macro_rules | `(tactic| walk_at "ix") => `(tactic| first
  | ((refine' ixp_c0 ?h1 ?_); (case h1 => exact rfl))
  | ((refine' ixp_kT ?h1 ?h2 ?h3 ?h4 fun _ _ => ?_); (case h1 => exact rfl); (case h2 => walk_at "ln"); (case h3 => walk_at "ln"); (case h4 => assumption); walk_at "cs")
  | ((refine' ixp_sk ?h1 ?h2 ?h3 fun _ _ => ?_); (case h1 => walk_at "ln"); (case h2 => walk_at "ln"); (case h3 => walk_at "ln"))
  | fail "ix")
section
open PySem L2 Ab
end
local macro_rules | `(tactic| walk_at "tx") => `(tactic| first
  | ((with_reducible refine' lenp_s ?h1 ?_); (case h1 => walk_at "ln"))
  | ((with_reducible refine' slp_s ?h1 ?_); (case h1 => walk_at "ln"))
  | ((with_reducible refine' addp_s ?h1 ?_); (case h1 => walk_at "ln"))
  | ((with_reducible refine' addp_l ?h1 ?h2 ?h3 ?h4 ?h5 ?_); (case h1 => exact rfl); (case h2 => exact rfl); (case h3 => exact rfl); (case h4 => exact rfl); (case h5 => walk_at "ln"))
  | with_reducible refine we_repS ?_
  | with_reducible refine we_repA ?_
  | with_reducible refine we_strG ?_
  | with_reducible refine strp_s ?_
  | with_reducible refine we_sortedS ?_
  | with_reducible refine we_sorted ?_
  | with_reducible refine we_all ?_
  | with_reducible refine we_any ?_
  | with_reducible refine eqp_str ?_
  | with_reducible refine nep_str ?_
  | (refine ⟨_, _, rfl, rfl, (by omega), (by omega), (by walk_at "ln"), ?_⟩)
  | (refine ⟨_, _, rfl, rfl, (by walk_at "ln"), ?_⟩)
  | (refine ⟨(show (_ : Prop) from by walk_at "ln"), ?_⟩)
  | fail "tx")
section
open PySem L2 Ab
end
local macro_rules | `(tactic| walk_at "go1") => `(tactic| first
  | walk_at "e"
  | walk_at "tk"
  | walk_at "c1"
  | walk_at "c2"
  | walk_at "ix"
  | walk_at "tx"
  | fail "go")
section
open PySem L2 Ab
end
local macro_rules | `(tactic| walk_at "go") => `(tactic| repeat' walk_at "go1")
section
open PySem L2 Ab
end
local macro_rules | `(tactic| walk_at "gi") => `(tactic| repeat' (first | walk_at "go1" | walk_at "if" | fail "gi"))
section
open PySem L2 Ab
end
local macro_rules | `(tactic| walk_at "gx") => `(tactic| repeat' (first
  | walk_at "x"
  | walk_at "tk"
  | walk_at "c1"
  | walk_at "c2"
  | walk_at "ix"
  | walk_at "tx"
  | fail "gx"))
section
open PySem L2 Ab
end
local macro_rules | `(tactic| walk_at "len") => `(tactic| ((intro as Post h); (repeat (first | (obtain ⟨e, _⟩ := h; exact (congrArg List.length e).trans rfl) | (obtain ⟨e, _⟩ := h; exact (EnvT.len e).trans rfl) | (obtain ⟨_, h⟩ := h)))))
section
open PySem L2 Ab
end
local macro_rules | `(tactic| walk_at "x") => `(tactic| first
  | ((with_reducible refine' we_kst ?h1 ?_); (case h1 => assumption))
  | ((with_reducible refine' ws_retDN ?hh ?_); (case hh => exact rfl))
  | with_reducible refine we_nget ?_
  | with_reducible refine we_nget1 ?_
  | with_reducible refine we_nin ?_
  | with_reducible refine we_nnotin ?_
  | with_reducible refine we_nnew ?_
  | with_reducible refine we_ndisp1 ?_
  | with_reducible refine ws_nput ?_
  | with_reducible refine we_nlist ?_
  | fail "x9")
section
open PySem L2 Ab
def endsOf (n : Nat) (L : Nat → Nat → Option Int) (s : Nat) : List (Nat × Int) := (List.range' (s + 1) (n - s)).filterMap fun e => (L s e).map fun p => (e, p)
def endsTo (L : Nat → Nat → Option Int) (s i : Nat) : List (Nat × Int) := (List.range' (s + 1) i).filterMap fun e => (L s e).map fun p => (e, p)
abbrev epD (p : Nat × Int) : Dt := .tup [.int p.1, .int p.2]
abbrev LR (r : Row) (k : Key) (s e : Nat) : Option Int := priceL r s e k
theorem endsTo_succ (L : Nat → Nat → Option Int) (s i : Nat) : endsTo L s (i + 1) = endsTo L s i ++ (match L s (s + 1 + i) with | none => [] | some p => [(s + 1 + i, p)]) := by
  unfold endsTo
  rw [List.range'_concat, List.filterMap_append]
  congr 1
  rw [Nat.one_mul]
  cases h : L s (s + 1 + i) <;> simp [h]
theorem endsTo_len (L : Nat → Nat → Option Int) (s i : Nat) : (endsTo L s i).length ≤ i := by
  unfold endsTo
  exact Nat.le_trans (List.length_filterMap_le _ _) (by rw [List.length_range']; exact Nat.le_refl _)
theorem endsTo_all (L : Nat → Nat → Option Int) (s : Nat) : ∀ {i m : Nat}, i ≤ m → (∀ j, i ≤ j → j < m → L s (s + 1 + j) = none) → endsTo L s m = endsTo L s i
  | i, 0, h, _ => by rw [Nat.le_zero.mp h]
  | i, m + 1, h, hn => by
    by_cases e : i = m + 1
    · rw [e]
    · rw [endsTo_succ, hn m (by omega) (by omega), endsTo_all L s (m := m) (by omega) fun j a b => hn j a (by omega)]
      simp
theorem inn_step {r : Row} (ok : RowOk r) {s i : Nat} (h : s + (i + 1) < r.ws.length) : (inn r s i).w - (inn r s i).h < (inn r s (i + 1)).w - (inn r s (i + 1)).h := by
  have ol := ok.len
  have e1 : sumTo (i + 1 + 1) (fun k => r.W (s + k)) = sumTo (i + 1) (fun k => r.W (s + k)) + r.W (s + (i + 1)) := rfl
  have e2 : ∀ f : Nat → Int, sumTo (i + 1) f = sumTo i f + f i := fun _ => rfl
  have hj := ok.j (s + i) (by omega)
  have hw := ok.w (s + (i + 1)) h
  unfold inn
  rw [e1, e2 (fun k => (r.J (s + k)).g.w), e2 (fun k => (r.J (s + k)).g.h)]
  simp only
  cases hc : r.J (s + i) with
  | hy a b =>
    rw [hc] at hj
    obtain ⟨_, _, _, _, h5⟩ := hj
    have h5 : b < r.W (s + (i + 1)) := h5
    show _ < _ + r.W (s + (i + 1)) + (_ + (-b)) - (_ + 0)
    omega
  | gap w st sh =>
    rw [hc] at hj
    obtain ⟨_, _, _, _, _, h6⟩ := hj
    show _ < _ + r.W (s + (i + 1)) + (_ + w) - (_ + sh)
    omega
theorem inn_mono {r : Row} (ok : RowOk r) {s i : Nat} : ∀ {j : Nat}, i ≤ j → s + j < r.ws.length → (inn r s i).w - (inn r s i).h ≤ (inn r s j).w - (inn r s j).h
  | 0, h, _ => by rw [Nat.le_zero.mp h]; exact Int.le_refl _
  | j + 1, h, hl => by
    by_cases e : i = j + 1
    · rw [e]; exact Int.le_refl _
    · have h1 := inn_mono (r := r) (s := s) ok (i := i) (j := j) (by omega) (by omega)
      have h2 := inn_step ok hl
      omega
theorem no_line {r : Row} (ok : RowOk r) {k : Key} {s i j : Nat} (hij : i ≤ j) (hj : s + j < r.ws.length) (h : roomOf s k < (inn r s i).w - (inn r s i).h) : priceL r s (s + 1 + j) k = none := by
  have hm := inn_mono ok hij hj
  have hb := inn_bd ok s j hj
  have hxn := hx_nonneg ok (e := s + 1 + j) (by omega)
  have hg : lineG r s (s + 1 + j) = ⟨(inn r s j).w + hx r (s + 1 + j), (inn r s j).s, (inn r s j).h⟩ := by
    unfold lineG
    rw [fin_eq, show s + 1 + j - s - 1 = j by omega]
  have hn : plainP r (s + 1 + j) (lineG r s (s + 1 + j)) (roomOf s k) k = none := by
    refine pos_none (last := decide (s + 1 + j = r.ws.length)) ?_
    unfold posB
    rw [hg]
    simp only
    have e1 : roomOf s k - ((inn r s j).w + hx r (s + 1 + j)) < 0 := by omega
    split
    · first | exact decide_eq_false (by omega) | (rw [if_pos e1]; exact decide_eq_false (by omega))
    · exact decide_eq_false (by omega)
  unfold priceL priceG
  rw [hn]
structure KeyT (k : Key) : Prop where
  b : KeyB k
  w : 0 ≤ k.w
def ap_lf (m : Addr) : AP := fun as Post => ∃ (r : Row) (s : Nat) (k : Key), as = [.val r.dt, .val (.int s), .val (k.ob m)] ∧ (RowOk r ∧ s < r.ws.length ∧ KeyT k) ∧ Post (.new ((endsOf r.ws.length (LR r k) s).map epD)) as
section
variable {K : PySem.W.Frag} {c m : Addr}
theorem run_lf (go : GlueOk K c) : RunOk K [] (tq_lines_from K c (ap_room m) ai_Glue (ap_pwg c m) (ap_fin c) (ap_ext c)) 9 (ap_lf m) := by
  rintro as Post ⟨r, s, k, rfl, ⟨ok, hs, hk⟩, p⟩
  have n1 := go.n1; have n3 := go.n3; have cl := go.co.cl
  have ol := ok.len
  have on := ok.n
  have hl : ((r.ws.map Dt.int).length : Int) = r.ws.length := by rw [List.length_map]
  have hrb := room_bd hk.b s
  have hkw := hk.w
  have hki := hk.b.i2
  have hkl1 := hk.b.l1
  have hkl2 := hk.b.l2
  have hr0 : -1000000 ≤ roomOf s k := by unfold roomOf; split <;> omega
  have hw := at_W (r := r) (k := s) (i := (s : Int)) rfl (by omega)
  unfold tq_lines_from
  show WS K [] _ [.val r.dt, .val (.int s), .val (k.ob m), .un, .un, .un, .un, .un, .un] _
  refine ws_seq ?_
  walk_at "gx"
  refine ws_seq ?_
  walk_at "gx"
  refine .a ⟨s, k, rfl, ?_⟩
  walk_at "gx"
  refine ws_seq ?_
  walk_at "gx"
  refine .a ⟨_, _, _, rfl, ?_⟩
  walk_at "gx"
  refine ws_seq ?_
  walk_at "gx"
  refine ws_seq ?_
  refine for_range2 ((s : Int) + 1) ((r.ws.length : Int) + 1) (fun i G => ∃ s7 s8, i + s ≤ r.ws.length ∧ G = [.val r.dt, .val (.int s), .val (k.ob m), .val (.tup (r.ws.map Dt.int)), .val (.int (roomOf s k)), .val (gD c (inn r s i)), .acc ((endsTo (LR r k) s i).map epD), s7, s8]) ?_ ?_ ?_
  · walk_at "gi"
    rw [hl]
    have e0 : inn r s 0 = ⟨r.W s, 0, 0⟩ := by unfold inn sumTo sumTo; simp
    rw [e0]
    exact .a ⟨rfl, ⟨by omega, by omega, by omega, by omega⟩, .un, .un, by omega, rfl⟩
  · rintro i G hi ⟨s7, s8, hin, rfl⟩
    have hgb := line_bd ok (s := s) (e := s + 1 + i) (by omega) (by omega)
    have hcast : (s : Int) + 1 + i = ((s + 1 + i : Nat) : Int) := by omega
    have hlen := endsTo_len (LR r k) s i
    have hll : ((endsTo (LR r k) s i).map epD).length < 1000000 := by rw [List.length_map]; omega
    rw [hcast]
    walk_at "gi"
    refine .a ⟨r, inn r s i, s + 1 + i, rfl, ok, by omega, ?_⟩
    walk_at "gi"
    refine .a ⟨r, s + 1 + i, fin r (inn r s i) (s + 1 + i), roomOf s k, k, rfl, ok, by omega, ?_, hr0, by omega, hkl1, hkl2, ?_⟩
    · unfold lineG at hgb
      rw [show s + 1 + i - s - 1 = i by omega] at hgb
      exact hgb
    have hpr : priceG r (s + 1 + i) (fin r (inn r s i) (s + 1 + i)) (roomOf s k) k = LR r k s (s + 1 + i) := by
      unfold LR priceL lineG
      rw [show s + 1 + i - s - 1 = i by omega]
    rw [hpr]
    have hsu := endsTo_succ (LR r k) s i
    walk_at "gx"
    refine ws_cut (fun G => G = [.val r.dt, .val (.int s), .val (k.ob m), .val (.tup (r.ws.map Dt.int)), .val (.int (roomOf s k)), .val (gD c (inn r s i)), .acc ((endsTo (LR r k) s (i + 1)).map epD), .val (.int (s + 1 + i : Nat)), .val (optD (LR r k s (s + 1 + i)))]) ?_ ?_
    · rw [hsu]
      cases LR r k s (s + 1 + i) with
      | none =>
        rw [show optD none = Dt.non from rfl]
        walk_at "gi"
        exact .a (by rw [List.append_nil])
      | some v =>
        rw [show optD (some v) = Dt.int v from rfl]
        walk_at "gi"
        all_goals first | exact .a (by rw [List.map_append]; rfl) | (rename_i hY; exact Bool.noConfusion (show false = true from hY)) | trace_state
    · rintro G rfl
      refine ws_seq ?_
      have fnl : endsTo (LR r k) s (i + 1) = endsOf r.ws.length (LR r k) s → ∀ s7 s8 : Sl, WS K [] (tRet (tVar 6)) [.val r.dt, .val (.int s), .val (k.ob m), .val (.tup (r.ws.map Dt.int)), .val (.int (roomOf s k)), .val (gD c (inn r s i)), .acc ((endsTo (LR r k) s (i + 1)).map epD), s7, s8] ⟨fun G => Post (.val .non) (exitArgs [] G [.val r.dt, .val (.int s), .val (k.ob m)]), fun r' G => Post r' (exitArgs [] G [.val r.dt, .val (.int s), .val (k.ob m)]), fun _ => False, fun _ => False, .no⟩ := by
        intro e s7 s8
        rw [e]
        walk_at "gi"
        exact p
      walk_at "gi"
      · rename_i hY1 hY2
        refine ws_brk ?_
        refine fnl ?_ _ _
        rw [hl] at hY1
        unfold endsOf
        exact (endsTo_all (LR r k) s (by omega) fun j h1 h2 => no_line ok (i := i) (by omega) (by omega) hY2).symm
      · rename_i hY1 hY2
        rw [hl] at hY1
        refine .a ⟨r, inn r s i, s + 1 + i, rfl, ok, by omega, by omega, ?_⟩
        walk_at "gi"
        have e3 : ((inn r s i).add (r.J (s + 1 + i - 1)).g).add ⟨r.W (s + 1 + i), 0, 0⟩ = inn r s (i + 1) := by
          rw [show s + 1 + i - 1 = s + i by omega, show s + 1 + i = s + (i + 1) by omega]
          unfold inn G3.add
          have e1 : sumTo (i + 1 + 1) (fun k => r.W (s + k)) = sumTo (i + 1) (fun k => r.W (s + k)) + r.W (s + (i + 1)) := rfl
          have e2 : ∀ f : Nat → Int, sumTo (i + 1) f = sumTo i f + f i := fun _ => rfl
          rw [e1, e2 (fun k => (r.J (s + k)).g.w), e2 (fun k => (r.J (s + k)).g.s), e2 (fun k => (r.J (s + k)).g.h)]
          congr 1
          · simp only; omega
          · simp only; omega
          · simp only; omega
        rw [e3]
        exact .a ⟨_, _, by omega, rfl⟩
      · rename_i hY hY2
        refine ws_brk ?_
        refine fnl ?_ _ _
        rw [hl] at hY
        unfold endsOf endsTo
        rw [show r.ws.length - s = i + 1 by omega]
  · rintro G ⟨s7, s8, hin, rfl⟩
    walk_at "gi"
    unfold endsOf at p
    unfold endsTo
    rw [show ((r.ws.length : Int) + 1 - ((s : Int) + 1)).toNat = r.ws.length - s by omega]
    exact p
end
end
section
open PySem L2 Ab
theorem fm_congr {α β : Type} {f g : α → Option β} : ∀ {l : List α}, (∀ a ∈ l, f a = g a) → l.filterMap f = l.filterMap g
  | [], _ => rfl
  | a :: r, h => by
    rw [List.filterMap_cons, List.filterMap_cons, h a List.mem_cons_self, fm_congr fun b hb => h b (List.mem_cons_of_mem _ hb)]
theorem fresh_of {ns : List Str} {f : Str} (h : ns.all (fun g => !decide (g = f)) = true) : ∀ g ∈ ns, ¬ g = f := fun g hg => by
  have := List.all_eq_true.mp h g hg
  simpa using this
theorem val_put {κ : Type} [DecidableEq κ] {kvs : List (κ × Dt)} {k k' : κ} {d : Dt} : valD (putE kvs k d) k' = if k' = k then some d else valD kvs k' := by
  unfold putE valD
  by_cases h : (kvs.any fun kv => decide (kv.1 = k)) = true
  · rw [if_pos h]
    induction kvs with
    | nil => simp at h
    | cons a r ih =>
      by_cases ha : a.1 = k
      · by_cases hk : k' = k
        · subst hk
          simp [ha]
        · rw [if_neg hk]
          have hak : ¬ a.1 = k' := fun z => hk (z ▸ ha)
          have hkk : ¬ k = k' := fun z => hk z.symm
          rw [List.map_cons, if_pos ha, List.find?_cons_of_neg (by simpa [ha] using hkk), List.find?_cons_of_neg (by simpa using hak)]
          by_cases hr : (r.any fun kv => decide (kv.1 = k)) = true
          · have := ih hr
            rw [if_neg hk] at this
            exact this
          · have hn : ∀ kv ∈ r, ¬ kv.1 = k := fun kv hkv e => hr (List.any_eq_true.mpr ⟨kv, hkv, decide_eq_true e⟩)
            have e : r.map (fun kv => if kv.1 = k then (kv.1, d) else kv) = r := by
              conv => rhs; rw [← List.map_id r]
              exact List.map_congr_left fun kv hkv => if_neg (hn kv hkv)
            rw [e]
      · have hr : (r.any fun kv => decide (kv.1 = k)) = true := by
          rw [List.any_cons, Bool.or_eq_true] at h
          exact h.resolve_left (by simpa using ha)
        have := ih hr
        rw [List.map_cons, if_neg ha]
        by_cases hk : a.1 = k'
        · have hkk : ¬ k' = k := fun z => ha (hk.trans z)
          rw [if_neg hkk, List.find?_cons_of_pos (by simpa using hk), List.find?_cons_of_pos (by simpa using hk)]
        · rw [List.find?_cons_of_neg (by simpa using hk), List.find?_cons_of_neg (by simpa using hk)]
          exact this
  · rw [if_neg h, List.find?_append]
    have hn : ∀ kv ∈ kvs, ¬ kv.1 = k := fun kv hkv e => h (List.any_eq_true.mpr ⟨kv, hkv, decide_eq_true e⟩)
    by_cases hk : k' = k
    · subst hk
      rw [if_pos rfl, List.find?_eq_none.mpr fun kv hkv => by simpa using hn kv hkv]
      simp
    · rw [if_neg hk]
      have : ¬ k = k' := fun z => hk z.symm
      simp [this]
def LG (r : Row) (k : Key) (s e : Nat) : Option Int := if s < e ∧ e ≤ r.ws.length then priceL r s e k else none
theorem ends_LG (r : Row) (k : Key) (s : Nat) : endsOf r.ws.length (LR r k) s = endsOf r.ws.length (LG r k) s := by
  unfold endsOf
  refine fm_congr fun e he => ?_
  have := List.mem_range'_1.mp he
  show (LR r k s e).map _ = (LG r k s e).map _
  have e1 : LG r k s e = LR r k s e := by unfold LG LR; rw [if_pos (by omega)]
  rw [e1]
theorem mem_ends {n : Nat} {L : Nat → Nat → Option Int} {s : Nat} {p : Nat × Int} : p ∈ endsOf n L s ↔ s < p.1 ∧ p.1 ≤ n ∧ L s p.1 = some p.2 := by
  unfold endsOf
  rw [List.mem_filterMap]
  constructor
  · rintro ⟨e, he, h⟩
    obtain ⟨q, hq, rfl⟩ := Option.map_eq_some_iff.mp h
    have := List.mem_range'_1.mp he
    exact ⟨by show s < e; omega, by show e ≤ n; omega, hq⟩
  · rintro ⟨h1, h2, h3⟩
    exact ⟨p.1, List.mem_range'_1.mpr (by omega), by rw [h3]; rfl⟩
theorem ends_asc (n : Nat) (L : Nat → Nat → Option Int) (s : Nat) : (endsOf n L s).Pairwise fun p q => p.1 < q.1 := by
  unfold endsOf
  refine List.Pairwise.filterMap _ ?_ (List.pairwise_lt_range' (s := s + 1) (n := n - s))
  intro a b hab p hp q hq
  obtain ⟨_, _, rfl⟩ := Option.map_eq_some_iff.mp hp
  obtain ⟨_, _, rfl⟩ := Option.map_eq_some_iff.mp hq
  exact hab
def stA (L : Nat → Nat → Option Int) (i m : Nat) : List Nat := (List.range i).filter fun s => (L s m).isSome
abbrev nD (n : Nat) : Dt := .int n
def pk (s e : Nat) : NestedKey := .tup [.num s, .num e]
theorem pk_depth (s e : Nat) : (pk s e).depth ≤ 8 := by simp [pk, NestedKey.depth, NestedKey.depthAll]
theorem pk_inj {a b c d : Nat} : pk a b = pk c d ↔ a = c ∧ b = d := by
  unfold pk
  constructor
  · intro h
    injection h with h
    injection h with h1 h2
    injection h1 with h1
    injection h2 with h2 h3
    injection h2 with h2
    exact ⟨by omega, by omega⟩
  · rintro ⟨rfl, rfl⟩; rfl
theorem fit_of {r : Row} {k : Key} {s e : Nat} {p : Int} (h : LG r k s e = some p) : s < e ∧ e ≤ r.ws.length ∧ Fit r s e k := by
  unfold LG at h
  split at h
  · rename_i hse
    refine ⟨hse.1, hse.2, ?_⟩
    unfold Fit
    cases hp : posB (lineG r s e) (roomOf s k) k (lastB r e) with
    | true => rfl
    | false =>
      have := pos_none hp
      unfold priceL priceG at h
      have e2 : plainP r e (lineG r s e) (roomOf s k) k = none := this
      rw [e2] at h
      cases h
  · cases h
theorem set_range {α : Type} {N e : Nat} {F : Nat → α} {x : α} : ((List.range N).map F).set e x = (List.range N).map fun m => if m = e then x else F m := by
  refine List.ext_getElem? fun i => ?_
  rw [List.getElem?_set, List.getElem?_map, List.getElem?_map, List.length_map, List.length_range]
  by_cases h : e = i
  · subst h
    rw [if_pos rfl]
    by_cases hi : e < N
    · rw [if_pos hi, List.getElem?_range hi]; simp
    · rw [if_neg hi, List.getElem?_eq_none (by rw [List.length_range]; omega)]; rfl
  · rw [if_neg h]
    by_cases hi : i < N
    · rw [List.getElem?_range hi]
      show some (F i) = some (if i = e then x else F i)
      rw [if_neg (fun z => h z.symm)]
    · rw [List.getElem?_eq_none (by rw [List.length_range]; omega)]; rfl
def spD (r : Row) (k : Key) (s e : Nat) : Dt := .lst ((spans r s e k).map pairD)
def GapsOk (r : Row) (k : Key) (kvs : List (NestedKey × Dt)) : Prop := 0 < k.ri → ∀ s e p, LG r k s e = some p → valD kvs (pk s e) = some (spD r k s e)
def efD (r : Row) (k : Key) : List Dt := (List.range r.ws.length).map (fun s => Dt.lst ((endsOf r.ws.length (LG r k) s).map epD)) ++ [.lst []]
def stD (r : Row) (k : Key) : List Dt := (List.range (r.ws.length + 1)).map fun m => Dt.lst ((stA (LG r k) r.ws.length m).map nD)
abbrev fs_LT (r : Row) (k : Key) (m : Addr) (w : World) (kvs : List (NestedKey × Dt)) : List (Str × Dt) :=
  [("row", r.dt), ("fitting", k.ob m), ("boxes", .int r.ws.length), ("rivers", .bl (decide (0 < k.ri))), ("ends_from", .lst (efD r k)), ("starts_to", .lst (stD r k)), ("gaps", .dN w kvs)]
def ai_LT (m : Addr) (w : World) : AI := fun ds Post => ∃ (r : Row) (k : Key), ds = [r.dt, k.ob m] ∧ RowOk r ∧ KeyT k ∧ ∀ kvs, GapsOk r k kvs → Post (fs_LT r k m w kvs)
structure LTok (K : PySem.W.Frag) (c : Addr) : Prop where
  cl : ClsOk K c
  row : NoAttr K c "row"
  fitting : NoAttr K c "fitting"
  boxes : NoAttr K c "boxes"
  rivers : NoAttr K c "rivers"
  ends_from : NoAttr K c "ends_from"
  starts_to : NoAttr K c "starts_to"
  gaps : NoAttr K c "gaps"
theorem wj_rngF {K : PySem.W.Frag} {C : Addr} {Γ Δ : List Sl} {ns : List Str} {P : List Sl → List Sl → List Str → Prop} {fb f : Str} {n : Int} {r : R2} {g : TG} {tt : TT} {te tl : TE} {vs : List Nat} (cl : Cls K C) (nab : NoAttr K C fb)
    (hΔ : ∀ s ∈ Δ, ∃ d, s = .val d) (hb : (ns.zip (Δ.map fdt)).lookup fb = some (.int n))
    (h : WJ K C (sFld K (tVar 0) (tOp r (tLc (iRng1 (tCons (tC (.int n)) tNil)) g tt te vs) tl) f) Γ Δ ns P) : WJ K C (sFld K (tVar 0) (tOp r (tLc (iRng1 (tCons (tFld K (tVar 0) fb) tNil)) g tt te vs) tl) f) Γ Δ ns P := fun σ τ B H D x dx M n' => by
  obtain ⟨us, e1, e2, e3⟩ := M.fs
  have hL : τ.length = Δ.length := by have := M.env.len; rw [List.length_append, List.length_append] at this; have := M.len; omega
  have hV : us.length = Δ.length := by rw [← hL, e1, List.length_map]
  have fs0 : FsOk K B (ns.zip us) (ns.zip (Δ.map fdt)) := fs_ok e3 (by rw [List.length_map, ← hV, e3]) fun i v d h1 h2 => by
    rw [List.getElem?_map] at h2
    obtain ⟨s, hs, e⟩ := Option.map_eq_some_iff.mp h2
    obtain ⟨d', rfl⟩ := hΔ s (List.mem_of_getElem? hs)
    have hd : d' = d := e
    subst hd
    have hat : (Γ ++ Δ)[Γ.length + i]? = some (.val d') := by rw [List.getElem?_append_right (by omega), Nat.add_sub_cancel_left]; exact hs
    obtain ⟨u, q1, q2⟩ := M.env.val _ _ hat
    rw [List.getElem?_append_right (by have := M.len; omega), M.len, Nat.add_sub_cancel_left, e1, List.getElem?_map, h1] at q1
    cases q1
    exact q2
  exact ⟨.ref x, M.sl, x, C, dx, _, .int n, rfl, e2, cl, nab, fs0.raw hb, h σ τ B H D x dx M n'⟩
theorem fst_of3 {a b c e : Str} {d1 d2 d3 d4 : Dt} (h1 : (c == a) = false) (h2 : (c == b) = false) : (([] ++ [a] ++ [b] ++ [c] ++ [e]).zip (([] ++ [Sl.val d1] ++ [Sl.val d2] ++ [Sl.val d3] ++ [Sl.val d4]).map fdt)).lookup c = some d3 := by
  show List.lookup c [(a, d1), (b, d2), (c, d3), (e, d4)] = _
  have h3 : (c == c) = true := beq_iff_eq.mpr rfl
  simp only [List.lookup, h1, h2, h3]
theorem lk5 {a b c e f : Str} {d1 d2 d3 d4 d5 : Dt} (h1 : (c == a) = false) (h2 : (c == b) = false) : (([] ++ [a] ++ [b] ++ [c] ++ [e] ++ [f]).zip (([] ++ [Sl.val d1] ++ [Sl.val d2] ++ [Sl.val d3] ++ [Sl.val d4] ++ [Sl.val d5]).map fdt)).lookup c = some d3 := by
  show List.lookup c [(a, d1), (b, d2), (c, d3), (e, d4), (f, d5)] = _
  have h3 : (c == c) = true := beq_iff_eq.mpr rfl
  simp only [List.lookup, h1, h2, h3]
abbrev nsLT : List Str := [] ++ [("row" : Str)] ++ [("fitting" : Str)] ++ [("boxes" : Str)] ++ [("rivers" : Str)] ++ [("ends_from" : Str)] ++ [("starts_to" : Str)] ++ [("gaps" : Str)]
abbrev flLT (d1 d2 d3 d4 d5 d6 d7 : Dt) : List (Str × Dt) := [("row", d1), ("fitting", d2), ("boxes", d3), ("rivers", d4), ("ends_from", d5), ("starts_to", d6), ("gaps", d7)]
theorem lk7 {d1 d2 d3 d4 d5 d6 d7 : Dt} : (nsLT.zip (([] ++ [Sl.val d1] ++ [Sl.val d2] ++ [Sl.val d3] ++ [Sl.val d4] ++ [Sl.val d5]).map fdt ++ [d6] ++ [d7])).lookup ("boxes" : Str) = some d3 ∧
    (nsLT.zip (([] ++ [Sl.val d1] ++ [Sl.val d2] ++ [Sl.val d3] ++ [Sl.val d4] ++ [Sl.val d5]).map fdt ++ [d6] ++ [d7])).lookup ("rivers" : Str) = some d4 ∧
    (nsLT.zip (([] ++ [Sl.val d1] ++ [Sl.val d2] ++ [Sl.val d3] ++ [Sl.val d4] ++ [Sl.val d5]).map fdt ++ [d6] ++ [d7])).lookup ("ends_from" : Str) = some d5 ∧
    (nsLT.zip (([] ++ [Sl.val d1] ++ [Sl.val d2] ++ [Sl.val d3] ++ [Sl.val d4] ++ [Sl.val d5]).map fdt ++ [d6] ++ [d7])).lookup ("starts_to" : Str) = some d6 ∧
    (nsLT.zip (([] ++ [Sl.val d1] ++ [Sl.val d2] ++ [Sl.val d3] ++ [Sl.val d4] ++ [Sl.val d5]).map fdt ++ [d6] ++ [d7])).lookup ("gaps" : Str) = some d7 := by
  refine ⟨?_, ?_, ?_, ?_, ?_⟩
  · show List.lookup ("boxes" : Str) (flLT d1 d2 d3 d4 d5 d6 d7) = _
    exact (lk_miss (by decide +kernel)).trans ((lk_miss (by decide +kernel)).trans (lk_hit))
  · show List.lookup ("rivers" : Str) (flLT d1 d2 d3 d4 d5 d6 d7) = _
    exact (lk_miss (by decide +kernel)).trans ((lk_miss (by decide +kernel)).trans ((lk_miss (by decide +kernel)).trans (lk_hit)))
  · show List.lookup ("ends_from" : Str) (flLT d1 d2 d3 d4 d5 d6 d7) = _
    exact (lk_miss (by decide +kernel)).trans ((lk_miss (by decide +kernel)).trans ((lk_miss (by decide +kernel)).trans ((lk_miss (by decide +kernel)).trans (lk_hit))))
  · show List.lookup ("starts_to" : Str) (flLT d1 d2 d3 d4 d5 d6 d7) = _
    exact (lk_miss (by decide +kernel)).trans ((lk_miss (by decide +kernel)).trans ((lk_miss (by decide +kernel)).trans ((lk_miss (by decide +kernel)).trans ((lk_miss (by decide +kernel)).trans (lk_hit)))))
  · show List.lookup ("gaps" : Str) (flLT d1 d2 d3 d4 d5 d6 d7) = _
    exact (lk_miss (by decide +kernel)).trans ((lk_miss (by decide +kernel)).trans ((lk_miss (by decide +kernel)).trans ((lk_miss (by decide +kernel)).trans ((lk_miss (by decide +kernel)).trans ((lk_miss (by decide +kernel)).trans (lk_hit))))))
section
variable {K : PySem.W.Frag} {c m cl : Addr} {w : World}
theorem run_ltinit (T : LTok K cl) (mo : MeasOk K m) (ds : List Dt) (Post : List (Str × Dt) → Prop) (h : ai_LT m w ds Post) : WJ K cl (tq_LineTable___init__ K w (ap_lf m) (ap_spans m)) ((.un :: ds.map Sl.val) ++ List.replicate (7 - (ds.length + 1)) .un) [] [] (fun _ D ns => (∀ s ∈ D, s ≠ .un) ∧ Post (ns.zip (D.map fdt))) := by
  obtain ⟨r, k, rfl, ok, hk, p⟩ := h
  have n5 := mo.n5; have n6 := mo.n6; have n0 := mo.n0
  have cl' := mo.co.cl
  have on := ok.n
  have hrl : ((r.ws.map Dt.int).length : Int) = r.ws.length := by rw [List.length_map]
  unfold tq_LineTable___init__
  show WJ K cl _ [.un, .val r.dt, .val (k.ob m), .un, .un, .un, .un] [] [] _
  refine wj_seq (wj_set T.cl.cl T.row (fresh_of (by decide +kernel)) (by decide) ?_)
  walk_at "gx"
  refine ⟨rfl, .inl ⟨_, rfl, ?_⟩⟩
  refine wj_seq (wj_set T.cl.cl T.fitting (fresh_of (by decide +kernel)) (by decide) ?_)
  walk_at "gx"
  refine ⟨rfl, .inl ⟨_, rfl, ?_⟩⟩
  refine wj_seq (wj_set T.cl.cl T.boxes (fresh_of (by decide +kernel)) (by decide) ?_)
  walk_at "gx"
  refine ⟨rfl, .inl ⟨_, rfl, ?_⟩⟩
  refine wj_seq (wj_set T.cl.cl T.rivers (fresh_of (by decide +kernel)) (by decide) ?_)
  walk_at "gx"
  refine ⟨rfl, .inl ⟨_, rfl, ?_⟩⟩
  rw [hrl]
  have h4 : ∀ s ∈ ([] ++ [Sl.val r.dt] ++ [Sl.val (k.ob m)] ++ [Sl.val (.int r.ws.length)] ++ [Sl.val (.bl (decide (0 < k.ri)))]), ∃ d, s = .val d := by
    intro s hs
    simp at hs
    rcases hs with rfl | rfl | rfl | rfl <;> exact ⟨_, rfl⟩
  refine wj_seq (wj_rngF T.cl.cl T.boxes h4 (n := r.ws.length) (fst_of3 (by decide +kernel) (by decide +kernel)) (wj_set T.cl.cl T.ends_from (fresh_of (by decide +kernel)) (by decide) ?_))
  refine we_freezeV ?_
  walk_at "gx"
  refine lc_rngV r.ws.length (fun s => .lst ((endsOf r.ws.length (LG r k) s).map epD)) (fun _ => true) ?_ ?_ ?_
  · walk_at "gx"
    exact .a ⟨rfl, by omega, rfl, rfl, rfl⟩
  · intro s hs
    walk_at "gi"
    refine .a ⟨r, s, k, rfl, ⟨ok, hs, hk⟩, ?_⟩
    rw [ends_LG]
    walk_at "gi"
    exact .a ⟨rfl, rfl, rfl⟩
  rw [filter_tt]
  have hl1 : ((List.range r.ws.length).map fun s => Dt.lst ((endsOf r.ws.length (LG r k) s).map epD)).length = r.ws.length := by rw [List.length_map, List.length_range]
  walk_at "gx"
  refine ⟨rfl, .inl ⟨_, rfl, ?_⟩⟩
  have h5 : ∀ s ∈ ([] ++ [Sl.val r.dt] ++ [Sl.val (k.ob m)] ++ [Sl.val (.int r.ws.length)] ++ [Sl.val (.bl (decide (0 < k.ri)))] ++ [Sl.val (.lst (efD r k))]), ∃ d, s = .val d := by
    intro s hs
    simp at hs
    rcases hs with rfl | rfl | rfl | rfl | rfl <;> exact ⟨_, rfl⟩
  refine wj_tab (jv := 6) (n := r.ws.length) T.cl.cl T.starts_to T.gaps T.boxes h5 (fresh_of (by decide +kernel)) (fresh_of (by decide +kernel)) (by decide) (lk5 (by decide +kernel) (by decide +kernel)) (by omega) ?_
  intro m0 B0 H0 x dx ivs l g us hul
  obtain ⟨fB, fR, fE, fS, fG⟩ := lk7 (d1 := r.dt) (d2 := k.ob m) (d3 := .int r.ws.length) (d4 := .bl (decide (0 < k.ri))) (d5 := .lst (efD r k)) (d6 := .raw (.ref l)) (d7 := .raw (.ref g))
  refine wk_forR T.cl.cl T.boxes fB (by omega) (fun i G cs => ∃ (s3 s4 s5 : Sl) (F : Nat → List Nat) (kvs : List (NestedKey × Dt)), (∀ m, m ≤ r.ws.length → F m = stA (LG r k) i m) ∧ (0 < k.ri → ∀ s e p, s < i → LG r k s e = some p → valD kvs (pk s e) = some (spD r k s e)) ∧ kvs.length ≤ 200 * i ∧
    G = [.un, .val r.dt, .val (k.ob m), s3, s4, s5, .un] ∧ cs = .lst (us.map fun u => .raw (.ref u)) :: .dN w kvs :: ((List.range (r.ws.length + 1)).map fun m => Cn.lst ((F m).map nD))) ?_ ?_ ?_
  · refine ⟨_, _, _, fun _ => [], [], fun m _ => rfl, fun _ s e p h => absurd h (by omega), by simp, rfl, ?_⟩
    congr 2
    refine List.ext_getElem? fun i => ?_
    rw [List.getElem?_map, List.getElem?_replicate]
    by_cases hi : i < r.ws.length + 1
    · rw [if_pos hi, List.getElem?_range hi]; rfl
    · rw [if_neg hi, List.getElem?_eq_none (by rw [List.length_range]; omega)]; rfl
  · rintro i G cs hi ⟨s3, s4, s5, F, kvs, hF, hkv, hkl, rfl, rfl⟩
    refine wg_nameN rfl rfl ?_
    refine norm_intro (by walk_at "norm") ?_
    refine ⟨rfl, ?_⟩
    have hef : atI (efD r k) (i : Int) = some (.lst ((endsOf r.ws.length (LG r k) i).map epD)) := atI_of (j := i) rfl (by
      unfold efD
      rw [List.getElem?_append_left (by rw [hl1]; exact hi), List.getElem?_map, List.getElem?_range hi]; rfl)
    refine wk_forF (i := 3) T.cl.cl T.ends_from fE rfl hef (fun j G cs => ∃ (s4 s5 : Sl) (F' : Nat → List Nat) (kvs : List (NestedKey × Dt)), (∀ m, m ≤ r.ws.length → ((∃ p ∈ (endsOf r.ws.length (LG r k) i).take j, p.1 = m) → F' m = F m ++ [i]) ∧ ((¬ ∃ p ∈ (endsOf r.ws.length (LG r k) i).take j, p.1 = m) → F' m = F m)) ∧ (0 < k.ri → ∀ s e p, (s < i ∨ (s = i ∧ ∃ q ∈ (endsOf r.ws.length (LG r k) i).take j, q.1 = e)) → LG r k s e = some p → valD kvs (pk s e) = some (spD r k s e)) ∧ kvs.length ≤ 200 * i + j ∧
      G = [.un, .val r.dt, .val (k.ob m), .val (.int i), s4, s5, .un] ∧ cs = .lst (us.map fun u => .raw (.ref u)) :: .dN w kvs :: ((List.range (r.ws.length + 1)).map fun m => Cn.lst ((F' m).map nD))) ?_ ?_ ?_
    · refine ⟨_, _, F, kvs, fun m _ => ⟨fun ⟨p, hp, _⟩ => by simp at hp, fun _ => rfl⟩, fun h0 s e p h hp => hkv h0 s e p (by
        rcases h with h | ⟨_, q, hq, _⟩
        · exact h
        · simp at hq) hp, by omega, rfl, rfl⟩
    · rintro j d G cs hd ⟨s4, s5, F', kvs, hF', hkv', hkl', rfl, rfl⟩
      rw [List.getElem?_map] at hd
      obtain ⟨⟨e, pr⟩, hep, rfl⟩ := Option.map_eq_some_iff.mp hd
      have hme := mem_ends.mp (List.mem_of_getElem? hep)
      have he1 : i < e := hme.1
      have he2 : e ≤ r.ws.length := hme.2.1
      have hL : LG r k i e = some pr := hme.2.2
      have hft := (fit_of hL).2.2
      have htk : (endsOf r.ws.length (LG r k) i).take (j + 1) = (endsOf r.ws.length (LG r k) i).take j ++ [(e, pr)] := by rw [List.take_add_one, hep]; rfl
      have hnew : ¬ ∃ p ∈ (endsOf r.ws.length (LG r k) i).take j, p.1 = e := by
        rintro ⟨q, hq, rfl⟩
        obtain ⟨a, ha, hqa⟩ := List.getElem_of_mem hq
        rw [List.length_take] at ha
        rw [List.getElem_take] at hqa
        have hj := (List.getElem?_eq_some_iff.mp hep).1
        have := List.pairwise_iff_getElem.mp (ends_asc r.ws.length (LG r k) i) a j (by omega) hj (by omega)
        rw [hqa, (List.getElem?_eq_some_iff.mp hep).2] at this
        exact absurd this (by simp)
      have hFe := (hF' e he2).2 hnew
      have hlF : (F e).length ≤ i := by rw [hF e he2]; unfold stA; exact Nat.le_trans (List.length_filter_le _ _) (by rw [List.length_range]; exact Nat.le_refl _)
      have jl : j < 200 := by
        have h1 := (List.getElem?_eq_some_iff.mp hep).1
        have h2 := endsTo_len (LG r k) i (r.ws.length - i)
        have : (endsOf r.ws.length (LG r k) i).length ≤ r.ws.length - i := h2
        omega
      walk_at "gx"
      refine ⟨rfl, ?_⟩
      refine wk_seq ?_
      have hue : us[e]? = some us[e] := List.getElem?_eq_getElem (by omega)
      refine wk_app (i := 4) (s := 3) (jl := 0) (j := e + 2) (l := l) (a := us[e]) (us := us.map fun u => .raw (.ref u)) (es := (F' e).map nD) (d := nD i) T.cl.cl T.starts_to fS rfl rfl rfl rfl (atI_of (j := e) rfl (by rw [List.getElem?_map, hue]; rfl)) hue (by
        show ((List.range (r.ws.length + 1)).map fun m => Cn.lst ((F' m).map nD))[e]? = _
        rw [List.getElem?_map, List.getElem?_range (by omega)]; rfl) (by rw [List.length_map, hFe]; omega) ?_
      have hset : ((List.range (r.ws.length + 1)).map fun m => Cn.lst ((F' m).map nD)).set e (.lst ((F' e).map nD ++ [nD i])) = (List.range (r.ws.length + 1)).map fun m => Cn.lst (((fun m => if m = e then F' e ++ [i] else F' m) m).map nD) := by
        rw [set_range]
        refine List.map_congr_left fun m _ => ?_
        by_cases hm : m = e
        · simp [hm]
        · simp [hm]
      have hcs : (Cn.lst (us.map fun u => .raw (.ref u)) :: .dN w kvs :: ((List.range (r.ws.length + 1)).map fun m => Cn.lst ((F' m).map nD))).set (e + 2) (.lst ((F' e).map nD ++ [nD i])) = .lst (us.map fun u => .raw (.ref u)) :: .dN w kvs :: ((List.range (r.ws.length + 1)).map fun m => Cn.lst (((fun m => if m = e then F' e ++ [i] else F' m) m).map nD)) := by
        rw [← hset]; rfl
      rw [hcs]
      have hF2 : ∀ m, m ≤ r.ws.length → ((∃ p ∈ (endsOf r.ws.length (LG r k) i).take (j + 1), p.1 = m) → (if m = e then F' e ++ [i] else F' m) = F m ++ [i]) ∧ ((¬ ∃ p ∈ (endsOf r.ws.length (LG r k) i).take (j + 1), p.1 = m) → (if m = e then F' e ++ [i] else F' m) = F m) := fun m hm => by
        rw [htk]
        by_cases hme : m = e
        · subst hme
          rw [if_pos rfl, hFe]
          exact ⟨fun _ => rfl, fun h => (h ⟨(m, pr), List.mem_append_right _ (List.mem_singleton.mpr rfl), rfl⟩).elim⟩
        · rw [if_neg hme]
          refine ⟨fun ⟨p, hp, he⟩ => (hF' m hm).1 ?_, fun h => (hF' m hm).2 fun ⟨p, hp, he⟩ => h ⟨p, List.mem_append_left _ hp, he⟩⟩
          rcases List.mem_append.mp hp with hp | hp
          · exact ⟨p, hp, he⟩
          · rw [List.mem_singleton.mp hp] at he; exact (hme he.symm).elim
      refine wk_ifF T.cl.cl T.rivers fR (fun hri => ?_) (fun hri => ?_)
      · have hri := of_decide_eq_true hri
        refine wk_put (j := 1) (l := g) (kvs := kvs) T.cl.cl T.gaps fG rfl rfl (by omega) ?_
        walk_at "gx"
        refine .a ⟨r, i, e, k, rfl, ok, he1, he2, hk.b, hft, ?_⟩
        walk_at "gx"
        refine ⟨rfl, ?_⟩
        walk_at "gx"
        refine ⟨pk i e, rfl, ⟨_, rfl⟩, pk_depth i e, rfl, ?_⟩
        refine .a ⟨_, _, fun m => if m = e then F' e ++ [i] else F' m, _, hF2, fun h0 s' e' p' h hp => ?_, ?_, rfl, rfl⟩
        · rw [val_put]
          by_cases hpk : pk s' e' = pk i e
          · rw [if_pos hpk]
            obtain ⟨rfl, rfl⟩ := pk_inj.mp hpk
            rfl
          · rw [if_neg hpk]
            refine hkv' h0 s' e' p' ?_ hp
            rcases h with h | ⟨rfl, q, hq, rfl⟩
            · exact .inl h
            · rw [htk] at hq
              rcases List.mem_append.mp hq with hq | hq
              · exact .inr ⟨rfl, q, hq, rfl⟩
              · rw [List.mem_singleton.mp hq] at hpk; exact (hpk rfl).elim
        · have := putE_len kvs (pk i e) (Cn.lst ((spans r i e k).map pairD)).dt
          omega
      · have hri := of_decide_eq_false hri
        refine wk_ws ?_
        walk_at "gx"
        exact ⟨rfl, .a ⟨_, _, fun m => if m = e then F' e ++ [i] else F' m, _, hF2, fun h0 => absurd h0 hri, by omega, rfl, rfl⟩⟩
    · rintro G cs ⟨s4, s5, F', kvs, hF', hkv', hkl', rfl, rfl⟩
      have hlen : ((endsOf r.ws.length (LG r k) i).map epD).length = (endsOf r.ws.length (LG r k) i).length := List.length_map _
      rw [hlen, List.take_length] at hF' hkv'
      rw [hlen] at hkl'
      have h2 : (endsOf r.ws.length (LG r k) i).length ≤ r.ws.length - i := endsTo_len (LG r k) i (r.ws.length - i)
      refine .a ⟨_, _, _, F', kvs, fun m hm => ?_, fun h0 s' e' p' h hp => ?_, by omega, rfl, rfl⟩
      · have hst : stA (LG r k) (i + 1) m = stA (LG r k) i m ++ (if (LG r k i m).isSome = true then [i] else []) := by
          unfold stA
          rw [List.range_succ, List.filter_append]
          congr 1
          by_cases h : (LG r k i m).isSome = true
          · rw [if_pos h, List.filter_cons, if_pos h]; rfl
          · rw [if_neg h, List.filter_cons, if_neg h]; rfl
        rw [hst, ← hF m hm]
        by_cases h : (LG r k i m).isSome = true
        · rw [if_pos h]
          obtain ⟨p, hp⟩ := Option.isSome_iff_exists.mp h
          have hf := fit_of hp
          exact (hF' m hm).1 ⟨(m, p), mem_ends.mpr ⟨hf.1, hf.2.1, hp⟩, rfl⟩
        · rw [if_neg h, List.append_nil]
          refine (hF' m hm).2 fun ⟨p, hp, he⟩ => h ?_
          have := (mem_ends.mp hp).2.2
          rw [he] at this
          rw [this]; rfl
      · refine hkv' h0 s' e' p' ?_ hp
        by_cases hs : s' < i
        · exact .inl hs
        · have : s' = i := by omega
          subst this
          have hf := fit_of hp
          exact .inr ⟨rfl, (e', p'), mem_ends.mpr ⟨hf.1, hf.2.1, hp⟩, rfl⟩
  · rintro G cs ⟨s3, s4, s5, F, kvs, hF, hkv, hkl, rfl, rfl⟩
    have hess : ((List.range (r.ws.length + 1)).map fun m => (F m).map nD).map Dt.lst = stD r k := by
      unfold stD
      rw [List.map_map]
      refine List.map_congr_left fun m hm => ?_
      have := List.mem_range.mp hm
      show Dt.lst ((F m).map nD) = _
      rw [hF m (by omega)]
    refine ⟨(List.range (r.ws.length + 1)).map fun m => (F m).map nD, kvs, by rw [List.length_map, List.length_range], by rw [List.map_map]; rfl, fun s hs => ?_, ?_⟩
    · simp at hs
      rcases hs with rfl | rfl | rfl | rfl | rfl | rfl | rfl <;> (intro z; cases z)
    · rw [hess]
      refine p kvs fun h0 s e q hq => hkv h0 s e q ?_ hq
      have hf := fit_of hq
      omega
end
end
section
def pairO (P : Nat → Nat → Nat → Option Int) : Option Nat → Nat → Nat → Option Int
  | none, _, _ => some 0
  | some s, m, e => P s m e
def tailP (n : Nat) (L : Nat → Nat → Option Int) (P : Nat → Nat → Nat → Option Int) : Option Nat → Nat → List Nat → Option Int
  | _, m, [] => if m = n then some 0 else none
  | s, m, e :: r => match L m e, pairO P s m e, tailP n L P (some m) e r with
    | some p, some q, some t => some (q + p + t)
    | _, _, _ => none
def ltN : List Nat → List Nat → Bool
  | a :: r, b :: q => decide (a < b) || (decide (a = b) && ltN r q)
  | _, _ => false
def Bef (t : Int) (es : List Nat) (t' : Int) (es' : List Nat) : Prop := t < t' ∨ (t = t' ∧ (es.length < es'.length ∨ (es.length = es'.length ∧ (es = es' ∨ ltN es es' = true))))
structure IsBest (n : Nat) (L : Nat → Nat → Option Int) (P : Nat → Nat → Nat → Option Int) (s : Option Nat) (m : Nat) (es : List Nat) (t : Int) : Prop where
  is_ : tailP n L P s m es = some t
  le : ∀ es' t', tailP n L P s m es' = some t' → Bef t es t' es'
section
variable {n : Nat} {L : Nat → Nat → Option Int} {P : Nat → Nat → Nat → Option Int} {s : Option Nat} {m e : Nat} {es r : List Nat} {t : Int}
theorem tail_cons {e : Nat} {r : List Nat} : tailP n L P s m (e :: r) = some t ↔ ∃ p q t', L m e = some p ∧ pairO P s m e = some q ∧ tailP n L P (some m) e r = some t' ∧ t = q + p + t' := by
  show (match L m e, pairO P s m e, tailP n L P (some m) e r with | some p, some q, some t => some (q + p + t) | _, _, _ => none) = some t ↔ _
  cases L m e with
  | none => simp
  | some p =>
    cases pairO P s m e with
    | none => simp
    | some q =>
      cases tailP n L P (some m) e r with
      | none => simp
      | some t' =>
        simp only [Option.some.injEq]
        constructor
        · intro h; exact ⟨p, q, t', rfl, rfl, rfl, h.symm⟩
        · rintro ⟨_, _, _, rfl, rfl, rfl, h⟩; exact h.symm
theorem ltN_asym : ∀ a b : List Nat, ltN a b = true → ltN b a = true → False
  | a :: r, b :: q, h1, h2 => by
    simp [ltN] at h1 h2
    rcases h1 with h1 | ⟨rfl, h1⟩
    · rcases h2 with h2 | ⟨rfl, h2⟩ <;> omega
    · rcases h2 with h2 | ⟨_, h2⟩
      · omega
      · exact ltN_asym r q h1 h2
  | [], _, h, _ => by simp [ltN] at h
  | _ :: _, [], h, _ => by simp [ltN] at h
theorem IsBest.one {es' : List Nat} {t' : Int} (h : IsBest n L P s m es t) (h' : IsBest n L P s m es' t') : es = es' ∧ t = t' := by
  have a := h.le _ _ h'.is_
  have b := h'.le _ _ h.is_
  unfold Bef at a b
  rcases a with a | ⟨rfl, a⟩
  · rcases b with b | ⟨b, _⟩ <;> omega
  · rcases b with b | ⟨_, b⟩
    · omega
    · rcases a with a | ⟨al, a⟩
      · rcases b with b | ⟨b, _⟩ <;> omega
      · rcases b with b | ⟨_, b⟩
        · omega
        · rcases a with a | a
          · exact ⟨a, rfl⟩
          · rcases b with b | b
            · exact ⟨b.symm, rfl⟩
            · exact (ltN_asym _ _ a b).elim
structure ContOk (n : Nat) (L : Nat → Nat → Option Int) (P : Nat → Nat → Nat → Option Int) (s : Option Nat) (m : Nat) (fs : List (Int × Nat × Nat)) : Prop where
  to : ∀ x ∈ fs, ∃ p q es t', L m x.2.2 = some p ∧ pairO P s m x.2.2 = some q ∧ IsBest n L P (some m) x.2.2 es t' ∧ x.1 = q + p + t' ∧ x.2.1 = es.length + 1
  of : ∀ e p q es t', L m e = some p → pairO P s m e = some q → IsBest n L P (some m) e es t' → (q + p + t', es.length + 1, e) ∈ fs
def HasBest (n : Nat) (L : Nat → Nat → Option Int) (P : Nat → Nat → Nat → Option Int) (m : Nat) : Prop := ∀ e p, L m e = some p → ∀ r t, tailP n L P (some m) e r = some t → ∃ es t', IsBest n L P (some m) e es t'
def triLt (x y : Int × Nat × Nat) : Prop := x.1 < y.1 ∨ (x.1 = y.1 ∧ (x.2.1 < y.2.1 ∨ (x.2.1 = y.2.1 ∧ x.2.2 < y.2.2)))
theorem cont_none (hb : HasBest n L P m) (hmn : m ≠ n) (h : ContOk n L P s m []) : ∀ es, tailP n L P s m es = none := fun es => by
  cases es with
  | nil => show (if m = n then some 0 else none) = none; rw [if_neg hmn]
  | cons e r =>
    cases ht : tailP n L P s m (e :: r) with
    | none => rfl
    | some t =>
      obtain ⟨p, q, t', h1, h2, h3, _⟩ := tail_cons.mp ht
      obtain ⟨es, t2, hbe⟩ := hb e p h1 r t' h3
      have := h.of e p q es t2 h1 h2 hbe
      simp at this
theorem cont_best (hb : HasBest n L P m) (hmn : m ≠ n) {fs : List (Int × Nat × Nat)} (h : ContOk n L P s m fs) {x : Int × Nat × Nat} (hx : x ∈ fs) (hmin : ∀ y ∈ fs, ¬ triLt y x) :
    ∃ es t', IsBest n L P (some m) x.2.2 es t' ∧ IsBest n L P s m (x.2.2 :: es) x.1 ∧ x.2.1 = es.length + 1 := by
  obtain ⟨p, q, es, t', h1, h2, h3, h4, h5⟩ := h.to x hx
  refine ⟨es, t', h3, ⟨tail_cons.mpr ⟨p, q, t', h1, h2, h3.is_, h4⟩, fun es' u hu => ?_⟩, h5⟩
  cases es' with
  | nil =>
    have : (if m = n then some (0 : Int) else none) = some u := hu
    rw [if_neg hmn] at this; cases this
  | cons e' r' =>
    obtain ⟨p', q', u', g1, g2, g3, rfl⟩ := tail_cons.mp hu
    obtain ⟨es2, u2, hbe⟩ := hb e' p' g1 r' u' g3
    have hy := hmin _ (h.of e' p' q' es2 u2 g1 g2 hbe)
    have hle := hbe.le r' u' g3
    unfold triLt at hy
    simp only at hy
    unfold Bef at hle ⊢
    simp only [List.length_cons]
    have key : x.1 < q' + p' + u2 ∨ (x.1 = q' + p' + u2 ∧ (x.2.1 < es2.length + 1 ∨ (x.2.1 = es2.length + 1 ∧ x.2.2 ≤ e'))) := by omega
    rcases key with key | ⟨k1, key⟩
    · rcases hle with hle | ⟨hle, _⟩
      · left; omega
      · left; omega
    · rcases hle with hle | ⟨rfl, hle⟩
      · left; omega
      · right
        refine ⟨k1, ?_⟩
        rcases hle with hle | ⟨hle, hl2⟩
        · left; omega
        · rcases key with key | ⟨k2, k3⟩
          · left; omega
          · right
            refine ⟨by omega, ?_⟩
            by_cases he : x.2.2 = e'
            · subst he
              obtain ⟨e1, e2⟩ := h3.one hbe
              subst e1
              rcases hl2 with rfl | hl2
              · left; rfl
              · right; simp [ltN, hl2]
            · right; simp [ltN]; left; omega
theorem best_last (h : ∀ e, L n e = none) : IsBest n L P s n [] 0 := ⟨by show (if n = n then some (0 : Int) else none) = some 0; rw [if_pos rfl], fun es' t' ht => by
  cases es' with
  | nil =>
    have : (if n = n then some (0 : Int) else none) = some t' := ht
    rw [if_pos rfl] at this; cases this
    exact .inr ⟨rfl, .inr ⟨rfl, .inl rfl⟩⟩
  | cons e r =>
    obtain ⟨p, q, t2, h1, _⟩ := tail_cons.mp ht
    rw [h e] at h1; cases h1⟩
theorem best_rest (h : IsBest n L P s m (e :: r) t) : ∃ t', IsBest n L P (some m) e r t' := by
  obtain ⟨p, q, t', h1, h2, h3, h4⟩ := tail_cons.mp h.is_
  refine ⟨t', h3, fun es' u hu => ?_⟩
  have := h.le (e :: es') (q + p + u) (tail_cons.mpr ⟨p, q, u, h1, h2, hu, rfl⟩)
  unfold Bef at this ⊢
  simp only [List.length_cons, ltN, decide_true, Bool.true_and, List.cons.injEq, true_and, Nat.lt_irrefl, decide_false, Bool.false_or] at this
  rcases this with this | ⟨e1, this⟩
  · left; omega
  · right
    refine ⟨by omega, ?_⟩
    rcases this with this | ⟨e2, this⟩
    · left; omega
    · right; exact ⟨by omega, this⟩
end
inductive Ch (L : Nat → Nat → Option Int) (P : Nat → Nat → Nat → Option Int) : Nat → Nat → Nat → Prop
  | stop (s m : Nat) : Ch L P s m m
  | go {s m e x : Nat} {p q : Int} (h1 : L m e = some p) (h2 : P s m e = some q) (h : Ch L P m e x) : Ch L P s m x
structure IsFar (L : Nat → Nat → Option Int) (P : Nat → Nat → Nat → Option Int) (s m x : Nat) : Prop where
  is_ : Ch L P s m x
  le : ∀ y, Ch L P s m y → y ≤ x
theorem IsFar.one {L : Nat → Nat → Option Int} {P : Nat → Nat → Nat → Option Int} {s m x y : Nat} (h : IsFar L P s m x) (h' : IsFar L P s m y) : x = y := Nat.le_antisymm (h'.le _ h.is_) (h.le _ h'.is_)
theorem Ch.le {L : Nat → Nat → Option Int} {P : Nat → Nat → Nat → Option Int} (hL : ∀ s e p, L s e = some p → s < e) {s m x : Nat} (h : Ch L P s m x) : m ≤ x := by
  induction h with
  | stop => exact Nat.le_refl _
  | go h1 _ _ ih => exact Nat.le_trans (Nat.le_of_lt (hL _ _ _ h1)) ih
theorem Ch.tail {n : Nat} {L : Nat → Nat → Option Int} {P : Nat → Nat → Nat → Option Int} {s m x : Nat} (h : Ch L P s m x) (hx : x = n) : ∃ es t, tailP n L P (some s) m es = some t := by
  induction h with
  | stop => subst hx; exact ⟨[], 0, by show (if _ = _ then some (0 : Int) else none) = some 0; rw [if_pos rfl]⟩
  | go h1 h2 _ ih =>
    obtain ⟨es, t, ht⟩ := ih hx
    exact ⟨_ :: es, _, tail_cons.mpr ⟨_, _, t, h1, h2, ht, rfl⟩⟩
def strF (n : Nat) (far : Nat → List Nat) : Nat → Nat × Option (Nat × Nat)
  | 0 => (0, none)
  | i + 1 =>
    let c := strF n far i
    let cov := (far i).foldl max (max c.1 i)
    (cov, if cov < n ∧ (match c.2 with | none => true | some q => decide (cov + 1 - i < q.2 - q.1)) = true then some (i, cov + 1) else c.2)
end
section
open PySem L2 Ab
end
local macro_rules | `(tactic| walk_at "x") => `(tactic| first
  | with_reducible refine ws_par rfl rfl rfl rfl ?_
  | with_reducible refine ws_par3 rfl rfl rfl rfl rfl rfl ?_
  | fail "xA")
section
open PySem L2 Ab
end
local macro_rules | `(tactic| walk_at "lk") => `(tactic| first | exact lk_LineTable_row | exact lk_LineTable_fitting | exact lk_LineTable_boxes | exact lk_LineTable_rivers | exact lk_LineTable_ends_from | exact lk_LineTable_starts_to | exact lk_LineTable_gaps | exact lk_LineTable_no_pair | fail "lk")
section
open PySem L2 Ab
end
local macro_rules | `(tactic| walk_at "nn") => `(tactic| all_goals try (first | exact Bool.noConfusion (show false = true by assumption) | exact Bool.noConfusion (show true = false by assumption)))
section
open PySem L2 Ab
abbrev ltD (cL m : Addr) (w : World) (r : Row) (k : Key) (kvs : List (NestedKey × Dt)) : Dt := .obj cL (fs_LT r k m w kvs)
abbrev soD : Option Nat → Dt
  | none => .non
  | some s => .int s
abbrev PP (r : Row) (k : Key) (s m e : Nat) : Option Int := pairP r s m e k
structure TOk (r : Row) (k : Key) (kvs : List (NestedKey × Dt)) : Prop where
  ok : RowOk r
  kt : KeyT k
  gp : GapsOk r k kvs
theorem dtN_pk (s e : Nat) : Dt.tup [.int s, .int e] = dtN (pk s e) := by unfold pk; rw [dtN, dtNs, dtNs, dtNs, dtN, dtN]
def ap_tp (cL m : Addr) (w : World) : AP := fun as Post => ∃ (r : Row) (k : Key) (kvs : List (NestedKey × Dt)) (s : Option Nat) (i e : Nat), as = [.val (ltD cL m w r k kvs), .val (soD s), .val (.int i), .val (.int e)] ∧
  (TOk r k kvs ∧ (∀ s', s = some s' → ∃ p, LG r k s' i = some p) ∧ ∃ p, LG r k i e = some p) ∧ Post (.val (optD (pairO (PP r k) s i e))) as
abbrev hdD : List Nat → Dt
  | [] => .non
  | e :: _ => .int e
abbrev bsD (t : Int) (es : List Nat) : Dt := .tup [.int t, .int es.length, hdD es]
def BestAt (r : Row) (k : Key) (bs : List (NestedKey × Dt)) (s m : Nat) : Prop := (∃ es t, IsBest r.ws.length (LG r k) (PP r k) (some s) m es t ∧ valD bs (pk s m) = some (bsD t es)) ∨ ((∀ es, tailP r.ws.length (LG r k) (PP r k) (some s) m es = none) ∧ valD bs (pk s m) = none)
abbrev t3D (x : Int × Nat × Nat) : Dt := .tup [.int x.1, .int x.2.1, .int x.2.2]
def ap_ct (cL m : Addr) (w : World) : AP := fun as Post => ∃ (r : Row) (k : Key) (kvs bs : List (NestedKey × Dt)) (s : Option Nat) (i : Nat), as = [.val (ltD cL m w r k kvs), .cel (.dN w bs), .val (soD s), .val (.int i)] ∧
  (TOk r k kvs ∧ (∀ s', s = some s' → ∃ p, LG r k s' i = some p) ∧ i < r.ws.length ∧ ∀ e p, LG r k i e = some p → BestAt r k bs i e) ∧
  ∀ fs, ContOk r.ws.length (LG r k) (PP r k) s i fs → fs.length ≤ 100 → Post (.new (fs.map t3D)) [.val (ltD cL m w r k kvs), .cel (.dN w bs), .val (soD s), .val (.int i)]
section
variable {K : PySem.W.Frag} {c m cL : Addr} {w : World}
theorem ef_at {r : Row} {k : Key} {i : Nat} (hi : i < r.ws.length) : atI (efD r k) (i : Int) = some (.lst ((endsOf r.ws.length (LG r k) i).map epD)) := atI_of (j := i) rfl (by
  unfold efD
  rw [List.getElem?_append_left (by rw [List.length_map, List.length_range]; exact hi), List.getElem?_map, List.getElem?_range hi]; rfl)
theorem ends_len (r : Row) (k : Key) (i : Nat) : (endsOf r.ws.length (LG r k) i).length ≤ r.ws.length - i := endsTo_len (LG r k) i (r.ws.length - i)
theorem run_tp (T : LTok K cL) : RunOk K [] (tq_LineTable_pair K w ap_countV (ap_pwc m)) 5 (ap_tp cL m w) := by
  rintro as Post ⟨r, k, kvs, s, i, e, rfl, ⟨t, hs, q, hq⟩, p⟩
  have n0 := T.row; have n1 := T.fitting; have n2 := T.rivers; have n3 := T.gaps; have cl := T.cl.cl
  have f2 := fit_of hq
  unfold tq_LineTable_pair
  cases s with
  | none =>
    show WS K [] _ [.val (ltD cL m w r k kvs), .val .non, .val (.int i), .val (.int e), .un] _
    walk_at "gi"
    walk_at "nn"
    exact p
  | some s =>
    obtain ⟨q1, hq1⟩ := hs s rfl
    have f1 := fit_of hq1
    show WS K [] _ [.val (ltD cL m w r k kvs), .val (.int s), .val (.int i), .val (.int e), .un] _
    refine ws_cut (fun G => G = [.val (ltD cL m w r k kvs), .val (.int s), .val (.int i), .val (.int e), .un]) ?_ ?_
    · walk_at "gi"
      walk_at "nn"
      exact .a rfl
    rintro G rfl
    refine ws_seq ?_
    walk_at "gx"
    refine ws_cut (fun G => G = [.val (ltD cL m w r k kvs), .val (.int s), .val (.int i), .val (.int e), .val (.int (if 0 < k.ri then cnt (spans r s i k) (spans r i e k) else 0 : Nat))]) ?_ ?_
    · walk_at "gi"
      · rename_i hri
        refine .a ⟨kvs, pk s i, _, rfl, congrArg Re.val (dtN_pk s i), ⟨_, rfl⟩, pk_depth _ _, t.gp hri s i q1 hq1, ?_⟩
        walk_at "gi"
        refine .a ⟨kvs, pk i e, _, rfl, congrArg Re.val (dtN_pk i e), ⟨_, rfl⟩, pk_depth _ _, t.gp hri i e q hq, ?_⟩
        walk_at "gi"
        refine .a ⟨spans r s i k, spans r i e k, rfl, spans_ord t.ok f1.1 f1.2.1 t.kt.b.l1 f1.2.2, spans_ord t.ok f2.1 f2.2.1 t.kt.b.l1 f2.2.2, Nat.le_trans (spans_len t.ok f1.2.1) (by omega), Nat.le_trans (spans_len t.ok f2.2.1) (by omega), ?_⟩
        walk_at "gi"
        exact .a (by rw [if_pos hri])
      · rename_i hri
        exact .a (by rw [if_neg hri]; rfl)
    · rintro G rfl
      walk_at "gi"
      refine .a ⟨r, i, e, k, _, rfl, t.ok, by omega, by omega, ?_⟩
      walk_at "gi"
      exact p
theorem run_ct (T : LTok K cL) : RunOk K [1] (tq_continuations K w cL (ap_tp cL m w)) 11 (ap_ct cL m w) := by
  rintro as Post ⟨r, k, kvs, bs, s, i, rfl, ⟨t, hs, hi, hb⟩, p⟩
  have n4 := T.ends_from; have cl := T.cl.cl
  have on := t.ok.n
  have hel := ends_len r k i
  have hef := ef_at (k := k) hi
  unfold tq_continuations
  show WS K [1] _ [.val (ltD cL m w r k kvs), .cel (.dN w bs), .val (soD s), .val (.int i), .un, .un, .un, .un, .un, .un, .un] _
  refine ws_seq ?_
  walk_at "gx"
  refine ws_seq ?_
  refine for_lstT (endsOf r.ws.length (LG r k) i) epD (fun j G => ∃ (fs : List (Int × Nat × Nat)) (s5 s6 s7 s8 s9 s10 : Sl), (∀ x ∈ fs, ∃ p q es t', LG r k i x.2.2 = some p ∧ pairO (PP r k) s i x.2.2 = some q ∧ IsBest r.ws.length (LG r k) (PP r k) (some i) x.2.2 es t' ∧ x.1 = q + p + t' ∧ x.2.1 = es.length + 1) ∧
    (∀ y ∈ (endsOf r.ws.length (LG r k) i).take j, ∀ q es t', pairO (PP r k) s i y.1 = some q → IsBest r.ws.length (LG r k) (PP r k) (some i) y.1 es t' → (q + y.2 + t', es.length + 1, y.1) ∈ fs) ∧ fs.length ≤ j ∧
    G = [.val (ltD cL m w r k kvs), .cel (.dN w bs), .val (soD s), .val (.int i), .acc (fs.map t3D), s5, s6, s7, s8, s9, s10]) ?_ ?_ ?_
  · walk_at "gi"
    exact .a ⟨rfl, [], _, _, _, _, _, _, (fun _ h => nomatch h), (fun _ h => by simp at h), Nat.le_refl _, rfl⟩
  · rintro j ⟨e, pr⟩ G hj ⟨fs, s5, s6, s7, s8, s9, s10, h1, h2, h3, rfl⟩
    have hme := mem_ends.mp (List.mem_of_getElem? hj)
    have hL : LG r k i e = some pr := hme.2.2
    have htk : (endsOf r.ws.length (LG r k) i).take (j + 1) = (endsOf r.ws.length (LG r k) i).take j ++ [(e, pr)] := by rw [List.take_add_one, hj]; rfl
    have hjl := (List.getElem?_eq_some_iff.mp hj).1
    have hfl : (fs.map t3D).length < 1000000 := by rw [List.length_map]; omega
    have skip : (∀ q es t', pairO (PP r k) s i e = some q → IsBest r.ws.length (LG r k) (PP r k) (some i) e es t' → False) → ∀ y ∈ (endsOf r.ws.length (LG r k) i).take (j + 1), ∀ q es t', pairO (PP r k) s i y.1 = some q → IsBest r.ws.length (LG r k) (PP r k) (some i) y.1 es t' → (q + y.2 + t', es.length + 1, y.1) ∈ fs := fun hno y hy q es t' g1 g2 => by
      rw [htk] at hy
      rcases List.mem_append.mp hy with hy | hy
      · exact h2 y hy q es t' g1 g2
      · rw [List.mem_singleton.mp hy] at g1 g2; exact (hno q es t' g1 g2).elim
    rcases hb e pr hL with ⟨es, tt, hbe, hv⟩ | ⟨hno, hv⟩
    · walk_at "gi"
      refine .a ⟨bs, pk i e, rfl, congrArg Re.val (dtN_pk i e), ⟨_, rfl⟩, pk_depth _ _, ?_⟩
      rw [hv]
      walk_at "gi"
      walk_at "nn"
      refine .a ⟨r, k, kvs, s, i, e, rfl, ⟨t, hs, _, hL⟩, ?_⟩
      cases hq : pairO (PP r k) s i e with
      | none =>
        rw [show optD none = Dt.non from rfl]
        walk_at "gi"
        walk_at "nn"
        exact .a ⟨fs, _, _, _, _, _, _, h1, skip fun q es t' g _ => (by rw [hq] at g; cases g), by omega, rfl⟩
      | some q =>
        rw [show optD (some q) = Dt.int q from rfl]
        walk_at "gi"
        walk_at "nn"
        refine .a ⟨bs, pk i e, _, rfl, congrArg Re.val (dtN_pk i e), ⟨_, rfl⟩, pk_depth _ _, hv, ?_⟩
        walk_at "gi"
        refine .a ⟨fs ++ [(q + pr + tt, es.length + 1, e)], .val (.int e), .val (.int pr), .val (.int q), .val (.int tt), .val (.int es.length), .val (hdD es), fun x hx => ?_, fun y hy q' es' t' g1 g2 => ?_, by rw [List.length_append]; simp; omega, ?_⟩
        · rcases List.mem_append.mp hx with hx | hx
          · exact h1 x hx
          · rw [List.mem_singleton.mp hx]
            exact ⟨pr, q, es, tt, hL, hq, hbe, rfl, rfl⟩
        · rw [htk] at hy
          rcases List.mem_append.mp hy with hy | hy
          · exact List.mem_append_left _ (h2 y hy q' es' t' g1 g2)
          · rw [List.mem_singleton.mp hy] at g1 g2 ⊢
            rw [hq] at g1
            cases g1
            obtain ⟨rfl, rfl⟩ := hbe.one g2
            exact List.mem_append_right _ (List.mem_singleton.mpr rfl)
        · rw [List.map_append]; rfl
    · walk_at "gi"
      refine .a ⟨bs, pk i e, rfl, congrArg Re.val (dtN_pk i e), ⟨_, rfl⟩, pk_depth _ _, ?_⟩
      rw [hv]
      walk_at "gi"
      walk_at "nn"
      exact .a ⟨fs, _, _, _, _, _, _, h1, skip fun q es t' _ g => (by have := g.is_; rw [hno] at this; cases this), by omega, rfl⟩
  · rintro G ⟨fs, s5, s6, s7, s8, s9, s10, h1, h2, h3, rfl⟩
    rw [List.take_length] at h2
    walk_at "gi"
    exact p fs ⟨h1, fun e pr q es t' g1 g2 g3 => by
      have hf := fit_of g1
      exact h2 (e, pr) (mem_ends.mpr ⟨hf.1, hf.2.1, g1⟩) q es t' g2 g3⟩ (by omega)
end
end
section
open PySem L2 Ab PySem.W
theorem lt_int (a b : Int) : dataLt (.int a) (.int b) = decide (a < b) := by
  unfold dataLt keyToks
  simp [PyProof.Rows.lexLt, PyProof.Rows.itemLt]
theorem lt_cons {x y : PyData} (h : alike x y = true) (xs ys : List PyData) : dataLt (.tuple (x :: xs)) (.tuple (y :: ys)) = if PyData.eqv x y = true then dataLt (.tuple xs) (.tuple ys) else dataLt x y := by
  rw [dataLt_tuple, dataLt_cons h, dataLt_tuple]
theorem lt_nil : dataLt (.tuple []) (.tuple []) = false := dataLt_irr _
theorem eqv_i (a b : Int) : PyData.eqv (.int a) (.int b) = decide (a = b) := by
  rw [PyData.eqv]
  by_cases h : a = b
  · rw [decide_eq_true h]; exact beq_iff_eq.mpr h
  · rw [decide_eq_false h]; exact beq_eq_false_iff_ne.mpr h
theorem alike_i (a b : Int) : alike (.int a) (.int b) = true := by rw [alike]
theorem lt_consI (a b : Int) (xs ys : List PyData) : dataLt (.tuple (.int a :: xs)) (.tuple (.int b :: ys)) = if a = b then dataLt (.tuple xs) (.tuple ys) else decide (a < b) := by
  rw [lt_cons (alike_i a b), eqv_i, lt_int]
  by_cases h : a = b
  · simp [h]
  · simp [h]
def t3E (x : Int × Nat × Nat) : PyData := .tuple [.int x.1, .int x.2.1, .int x.2.2]
theorem t3_py (x : Int × Nat × Nat) : (t3D x).py = some (t3E x) := by unfold t3E; simp [Dt.py, pyAll]
theorem t3_alike (x y : Int × Nat × Nat) : alike (t3E x) (t3E y) = true := by unfold t3E; simp [alike, alikeAll]
theorem t3_depth : ∀ xs : List (Int × Nat × Nat), PyData.depthAll (xs.map t3E) ≤ 8
  | [] => by simp [PyData.depthAll]
  | x :: r => by
    rw [List.map_cons, PyData.depthAll]
    have := t3_depth r
    have h : (t3E x).depth ≤ 4 := by unfold t3E; simp [PyData.depth, PyData.depthAll]
    omega
theorem t3_lt {x y : Int × Nat × Nat} (h : dataLt (t3E x) (t3E y) = false) : ¬ triLt x y := by
  unfold t3E at h
  rw [lt_consI, lt_consI, lt_consI, lt_nil] at h
  unfold triLt
  by_cases c1 : x.1 = y.1
  · rw [if_pos c1] at h
    by_cases c2 : (x.2.1 : Int) = y.2.1
    · rw [if_pos c2] at h
      by_cases c3 : (x.2.2 : Int) = y.2.2
      · omega
      · rw [if_neg c3] at h
        have := of_decide_eq_false h
        omega
    · rw [if_neg c2] at h
      have := of_decide_eq_false h
      omega
  · rw [if_neg c1] at h
    have := of_decide_eq_false h
    omega
theorem t3_alikes (fs : List (Int × Nat × Nat)) : AlikeAll (fs.map t3E) := by
  refine ⟨fun a ha b hb => ?_, fun a ha => ?_⟩
  · obtain ⟨x, _, rfl⟩ := List.mem_map.mp ha
    obtain ⟨y, _, rfl⟩ := List.mem_map.mp hb
    exact t3_alike x y
  · obtain ⟨x, _, rfl⟩ := List.mem_map.mp ha
    exact fun z => nomatch z
theorem st_mem {L : Nat → Nat → Option Int} {i m s : Nat} : s ∈ stA L i m ↔ s < i ∧ ∃ p, L s m = some p := by
  unfold stA
  rw [List.mem_filter, List.mem_range]
  exact and_congr_right fun _ => Option.isSome_iff_exists
theorem st_nd (L : Nat → Nat → Option Int) (i m : Nat) : (stA L i m).Nodup := (List.nodup_range).filter _
theorem st_at {r : Row} {k : Key} {m : Nat} (hm : m ≤ r.ws.length) : atI (stD r k) (m : Int) = some (.lst ((stA (LG r k) r.ws.length m).map nD)) := atI_of (j := m) rfl (by
  unfold stD
  rw [List.getElem?_map, List.getElem?_range (by omega)]; rfl)
theorem no_river {r : Row} {k : Key} (h : ¬ 0 < k.ri) (s s' m e : Nat) : PP r k s m e = PP r k s' m e := by
  unfold PP pairP
  rw [if_neg h, if_neg h]
theorem cont_river {r : Row} {k : Key} (h : ¬ 0 < k.ri) {s s' m : Nat} {fs : List (Int × Nat × Nat)} (c : ContOk r.ws.length (LG r k) (PP r k) (some s) m fs) : ContOk r.ws.length (LG r k) (PP r k) (some s') m fs :=
  ⟨fun x hx => by
    obtain ⟨p, q, es, t', h1, h2, h3⟩ := c.to x hx
    exact ⟨p, q, es, t', h1, (no_river h s' s m _).trans h2, h3⟩, fun e p q es t' h1 h2 h3 => c.of e p q es t' h1 ((no_river h s s' m e).trans h2) h3⟩
theorem has_best {r : Row} {k : Key} {bs : List (NestedKey × Dt)} {m : Nat} (h : ∀ e p, LG r k m e = some p → BestAt r k bs m e) : HasBest r.ws.length (LG r k) (PP r k) m := fun e p hp u t ht => by
  rcases h e p hp with ⟨es, t', hb, _⟩ | ⟨hn, _⟩
  · exact ⟨es, t', hb⟩
  · rw [hn] at ht; cases ht
def ap_bc (cL m : Addr) (w : World) : AP := fun as Post => ∃ (r : Row) (k : Key) (kvs : List (NestedKey × Dt)), as = [.val (ltD cL m w r k kvs)] ∧ TOk r k kvs ∧ ∀ bs, (∀ s i p, LG r k s i = some p → BestAt r k bs s i) → Post (.nw (.dN w bs)) as
section
variable {K : PySem.W.Frag} {c m cL : Addr} {w : World}
theorem run_bc (T : LTok K cL) : RunOk K [] (tq_best_continuations K w (ap_ct cL m w)) 5 (ap_bc cL m w) := by
  rintro as Post ⟨r, k, kvs, rfl, t, p⟩
  have n2 := T.boxes; have n3 := T.rivers; have n4 := T.starts_to; have cl := T.cl.cl
  have on := t.ok.n
  have hsn := st_at (k := k) (Nat.le_refl r.ws.length)
  unfold tq_best_continuations
  show WS K [] _ [.val (ltD cL m w r k kvs), .un, .un, .un, .un] _
  refine ws_seq ?_
  walk_at "gx"
  refine ws_seq ?_
  refine for_lstT (stA (LG r k) r.ws.length r.ws.length) nD (fun j G => ∃ (bs : List (NestedKey × Dt)) (s2 : Sl), (∀ s ∈ (stA (LG r k) r.ws.length r.ws.length).take j, valD bs (pk s r.ws.length) = some (bsD 0 [])) ∧ (∀ s e, e < r.ws.length → valD bs (pk s e) = none) ∧ bs.length ≤ j ∧
    G = [.val (ltD cL m w r k kvs), .cel (.dN w bs), s2, .un, .un]) ?_ ?_ ?_
  · walk_at "gi"
    exact .a ⟨rfl, [], _, (fun _ h => by simp at h), fun _ _ _ => rfl, Nat.le_refl _, rfl⟩
  · rintro j s G hj ⟨bs, s2, h1, h2, h3, rfl⟩
    have htk : (stA (LG r k) r.ws.length r.ws.length).take (j + 1) = (stA (LG r k) r.ws.length r.ws.length).take j ++ [s] := by rw [List.take_add_one, hj]; rfl
    have hjl := (List.getElem?_eq_some_iff.mp hj).1
    have hsl : (stA (LG r k) r.ws.length r.ws.length).length ≤ r.ws.length := by unfold stA; exact Nat.le_trans (List.length_filter_le _ _) (by rw [List.length_range]; exact Nat.le_refl _)
    walk_at "gi"
    refine .a ⟨bs, pk s r.ws.length, congrArg Re.val (dtN_pk s r.ws.length), ⟨_, rfl⟩, pk_depth _ _, rfl, by omega, ?_⟩
    have hpl := putE_len bs (pk s r.ws.length) (bsD 0 [])
    refine .a ⟨putE bs (pk s r.ws.length) (bsD 0 []), _, fun s' hs' => ?_, fun s' e he => ?_, by omega, rfl⟩
    · rw [val_put]
      by_cases hpk : pk s' r.ws.length = pk s r.ws.length
      · rw [if_pos hpk]
      · rw [if_neg hpk]
        rw [htk] at hs'
        rcases List.mem_append.mp hs' with hs' | hs'
        · exact h1 s' hs'
        · rw [List.mem_singleton.mp hs'] at hpk; exact (hpk rfl).elim
    · rw [val_put, if_neg (fun z => by have := (pk_inj.mp z).2; omega)]
      exact h2 s' e he
  · rintro G ⟨bs0, s2, h1, h2, h3, rfl⟩
    rw [List.take_length] at h1
    have hbl : (stA (LG r k) r.ws.length r.ws.length).length ≤ r.ws.length := by unfold stA; exact Nat.le_trans (List.length_filter_le _ _) (by rw [List.length_range]; exact Nat.le_refl _)
    have hno : ∀ e, LG r k r.ws.length e = none := fun e => by unfold LG; rw [if_neg (by omega)]
    refine ws_seq ?_
    refine for_3H ?_
    walk_at "gi"
    refine .a ⟨(r.ws.length : Int) - 1, 0, rfl, ⟨by omega, by omega, by omega, by omega⟩, fun i G => ∃ (bs : List (NestedKey × Dt)) (s2 s3 s4 : Sl), (∀ s e p, r.ws.length ≤ e + i → LG r k s e = some p → BestAt r k bs s e) ∧ (∀ s e, e + i < r.ws.length → valD bs (pk s e) = none) ∧ bs.length ≤ 100 + 100 * i ∧
      G = [.val (ltD cL m w r k kvs), .cel (.dN w bs), s2, s3, s4], ⟨bs0, _, _, _, fun s e q he hq => ?_, fun s e he => h2 s e (by omega), by omega, rfl⟩, ?_, ?_⟩
    · have hf := fit_of hq
      have : e = r.ws.length := by omega
      subst this
      exact .inl ⟨[], 0, best_last hno, h1 s (st_mem.mpr ⟨hf.1, q, hq⟩)⟩
    · rintro i G hi ⟨bs, s2, s3, s4, g1, g2, g3, rfl⟩
      obtain ⟨mid, hmid⟩ : ∃ mid : Nat, mid + i + 1 = r.ws.length := ⟨r.ws.length - 1 - i, by omega⟩
      have hmi : (r.ws.length : Int) - 1 - i = (mid : Int) := by omega
      rw [hmi]
      have hst := st_at (k := k) (m := mid) (by omega : mid ≤ r.ws.length)
      have hsl : (stA (LG r k) r.ws.length mid).length ≤ r.ws.length := by unfold stA; exact Nat.le_trans (List.length_filter_le _ _) (by rw [List.length_range]; exact Nat.le_refl _)
      have hbm : ∀ e q, LG r k mid e = some q → BestAt r k bs mid e := fun e q hq => g1 mid e q (by have := fit_of hq; omega) hq
      have hhb := has_best hbm
      walk_at "gx"
      refine ws_seq ?_
      walk_at "gx"
      refine for_lstT (stA (LG r k) r.ws.length mid) nD (fun j G => ∃ (bs' : List (NestedKey × Dt)) (s2 s4 : Sl), (∀ s e, e ≠ mid → valD bs' (pk s e) = valD bs (pk s e)) ∧ (∀ s ∈ (stA (LG r k) r.ws.length mid).take j, BestAt r k bs' s mid) ∧ (∀ s, s ∉ (stA (LG r k) r.ws.length mid).take j → valD bs' (pk s mid) = none) ∧ bs'.length ≤ 100 + 100 * i + j ∧
        (s4 = .val .non ∨ ∃ s0 fs, s4 = .acc (fs.map t3D) ∧ fs.length ≤ 100 ∧ ContOk r.ws.length (LG r k) (PP r k) (some s0) mid fs) ∧
        G = [.val (ltD cL m w r k kvs), .cel (.dN w bs'), s2, .val (.int mid), s4]) ?_ ?_ ?_
      · walk_at "gi"
        exact .a ⟨rfl, bs, _, _, fun _ _ _ => rfl, (fun _ h => by simp at h), fun s _ => g2 s mid (by omega), by omega, .inl rfl, rfl⟩
      · rintro j s G hj ⟨bs', s2', s4', q1, q2, q3, q4, q5, rfl⟩
        have htk : (stA (LG r k) r.ws.length mid).take (j + 1) = (stA (LG r k) r.ws.length mid).take j ++ [s] := by rw [List.take_add_one, hj]; rfl
        have hjl := (List.getElem?_eq_some_iff.mp hj).1
        obtain ⟨hsn', pr, hpr⟩ := st_mem.mp (List.mem_of_getElem? hj)
        have hnew : s ∉ (stA (LG r k) r.ws.length mid).take j := fun z => by
          obtain ⟨a, ha, hqa⟩ := List.getElem_of_mem z
          rw [List.length_take] at ha
          rw [List.getElem_take] at hqa
          have := (List.getElem?_inj (by omega) (st_nd (LG r k) r.ws.length mid)).mp ((List.getElem?_eq_getElem (by omega)).trans ((congrArg some hqa).trans hj.symm))
          omega
        have hbm' : ∀ e q, LG r k mid e = some q → BestAt r k bs' mid e := fun e q hq => by
          have hf := fit_of hq
          have := hbm e q hq
          unfold BestAt at this ⊢
          rw [q1 mid e (by omega)]
          exact this
        walk_at "gx"
        refine ws_cut (fun G => ∃ fs, fs.length ≤ 100 ∧ ContOk r.ws.length (LG r k) (PP r k) (some s) mid fs ∧ G = [.val (ltD cL m w r k kvs), .cel (.dN w bs'), .val (.int s), .val (.int mid), .acc (fs.map t3D)]) ?_ ?_
        · rcases q5 with rfl | ⟨s0, fs, rfl, hfl, hco⟩
          · walk_at "gi"
            walk_at "nn"
            refine .a ⟨r, k, kvs, bs', some s, mid, rfl, ⟨t, fun s' e => (by cases e; exact ⟨pr, hpr⟩), by omega, hbm'⟩, fun fs hco hfl => ?_⟩
            walk_at "gi"
            exact .a ⟨fs, hfl, hco, rfl⟩
          · walk_at "gi"
            walk_at "nn"
            · rename_i hri
              refine .a ⟨r, k, kvs, bs', some s, mid, rfl, ⟨t, fun s' e => (by cases e; exact ⟨pr, hpr⟩), by omega, hbm'⟩, fun fs hco hfl => ?_⟩
              walk_at "gi"
              exact .a ⟨fs, hfl, hco, rfl⟩
            · rename_i hri
              exact .a ⟨fs, hfl, cont_river hri hco, rfl⟩
        · rintro G ⟨fs, hfl, hco, rfl⟩
          have hfl2 : (fs.map t3D).length = fs.length := List.length_map _
          have fin : ∀ bs2 : List (NestedKey × Dt), (∀ s e, e ≠ mid → valD bs2 (pk s e) = valD bs' (pk s e)) → (∀ s', s' ≠ s → valD bs2 (pk s' mid) = valD bs' (pk s' mid)) → BestAt r k bs2 s mid → bs2.length ≤ bs'.length + 1 → Hold (∃ (bs' : List (NestedKey × Dt)) (s2 s4 : Sl), (∀ s e, e ≠ mid → valD bs' (pk s e) = valD bs (pk s e)) ∧ (∀ s ∈ (stA (LG r k) r.ws.length mid).take (j + 1), BestAt r k bs' s mid) ∧ (∀ s, s ∉ (stA (LG r k) r.ws.length mid).take (j + 1) → valD bs' (pk s mid) = none) ∧ bs'.length ≤ 100 + 100 * i + (j + 1) ∧
              (s4 = .val .non ∨ ∃ s0 fs, s4 = .acc (fs.map t3D) ∧ fs.length ≤ 100 ∧ ContOk r.ws.length (LG r k) (PP r k) (some s0) mid fs) ∧
              [Sl.val (ltD cL m w r k kvs), .cel (.dN w bs2), .val (.int s), .val (.int mid), .acc (fs.map t3D)] = [.val (ltD cL m w r k kvs), .cel (.dN w bs'), s2, .val (.int mid), s4]) := fun bs2 a1 a2 a3 a4 => by
            refine .a ⟨bs2, _, _, fun s' e he => (a1 s' e he).trans (q1 s' e he), fun s' hs' => ?_, fun s' hs' => ?_, by omega, .inr ⟨s, fs, rfl, hfl, hco⟩, rfl⟩
            · rw [htk] at hs'
              rcases List.mem_append.mp hs' with hs' | hs'
              · have hne : s' ≠ s := fun z => hnew (z ▸ hs')
                have := q2 s' hs'
                unfold BestAt at this ⊢
                rw [a2 s' hne]
                exact this
              · rw [List.mem_singleton.mp hs']; exact a3
            · rw [htk] at hs'
              have hne : s' ≠ s := fun z => hs' (List.mem_append_right _ (List.mem_singleton.mpr z))
              rw [a2 s' hne]
              exact q3 s' fun z => hs' (List.mem_append_left _ z)
          walk_at "gi"
          · rename_i hpos
            rw [hfl2] at hpos
            refine we_minD t3D t3E ?_
            walk_at "gi"
            refine .a ⟨fs, rfl, fun x _ => t3_py x, t3_alikes fs, by omega, t3_depth fs, fun x hx hm => ?_⟩
            obtain ⟨es, t', b1, b2, b3⟩ := cont_best hhb (by omega) hco hx fun y hy => t3_lt (hm y hy)
            have hxd : t3D x = bsD x.1 (x.2.2 :: es) := by
              show Dt.tup [.int x.1, .int x.2.1, .int x.2.2] = Dt.tup [.int x.1, .int (x.2.2 :: es).length, .int x.2.2]
              rw [b3]; rfl
            rw [hxd]
            have hpl := putE_len bs' (pk s mid) (bsD x.1 (x.2.2 :: es))
            walk_at "gi"
            refine .a ⟨bs', pk s mid, congrArg Re.val (dtN_pk s mid), ⟨_, rfl⟩, pk_depth _ _, rfl, by omega, ?_⟩
            refine fin _ (fun s' e he => ?_) (fun s' he => ?_) (.inl ⟨x.2.2 :: es, x.1, b2, ?_⟩) hpl
            · rw [val_put, if_neg (fun z => he (pk_inj.mp z).2)]
            · rw [val_put, if_neg (fun z => he (pk_inj.mp z).1)]
            · rw [val_put, if_pos rfl]
          · rename_i hpos
            rw [hfl2] at hpos
            have hz : fs = [] := List.eq_nil_of_length_eq_zero (by omega)
            subst hz
            exact fin bs' (fun _ _ _ => rfl) (fun _ _ => rfl) (.inr ⟨cont_none hhb (by omega) hco, q3 s hnew⟩) (by omega)
      · rintro G ⟨bs', s2', s4', q1, q2, q3, q4, q5, rfl⟩
        rw [List.take_length] at q2
        refine .a ⟨bs', _, _, _, fun s e q he hq => ?_, fun s e he => ?_, by omega, rfl⟩
        · have hf := fit_of hq
          by_cases hm : e = mid
          · subst hm
            exact q2 s (st_mem.mpr ⟨by omega, q, hq⟩)
          · have := g1 s e q (by omega) hq
            unfold BestAt at this ⊢
            rw [q1 s e hm]
            exact this
        · rw [q1 s e (by omega)]
          exact g2 s e (by omega)
    · rintro G ⟨bs, s2, s3, s4, g1, g2, g3, rfl⟩
      walk_at "gi"
      exact p bs fun s e q hq => g1 s e q (by have := fit_of hq; omega) hq
end
end
section
open PySem L2 Ab PySem.W
def FarAt (r : Row) (k : Key) (F : List (NestedKey × Dt)) (s m : Nat) : Prop := ∃ x, IsFar (LG r k) (PP r k) s m x ∧ valD F (pk s m) = some (.int (x : Nat))
def ap_fe (cL m : Addr) (w : World) : AP := fun as Post => ∃ (r : Row) (k : Key) (kvs : List (NestedKey × Dt)), as = [.val (ltD cL m w r k kvs)] ∧ TOk r k kvs ∧ ∀ F, (∀ s i p, LG r k s i = some p → FarAt r k F s i) → Post (.nw (.dN w F)) as
theorem far_river {r : Row} {k : Key} (h : ¬ 0 < k.ri) {s s' m x : Nat} (f : IsFar (LG r k) (PP r k) s m x) : IsFar (LG r k) (PP r k) s' m x := by
  have tr : ∀ {a b y : Nat}, Ch (LG r k) (PP r k) a m y → Ch (LG r k) (PP r k) b m y := fun {a b y} c => by
    cases c with
    | stop => exact .stop b m
    | go h1 h2 h3 => exact .go h1 ((no_river h b a m _).trans h2) h3
  exact ⟨tr f.is_, fun y hy => f.le y (tr hy)⟩
theorem ef_at2 {r : Row} {k : Key} {i : Nat} (hi : i ≤ r.ws.length) : atI (efD r k) (i : Int) = some (.lst ((endsOf r.ws.length (LG r k) i).map epD)) := by
  by_cases h : i < r.ws.length
  · exact ef_at h
  · have e : i = r.ws.length := by omega
    subst e
    have e2 : endsOf r.ws.length (LG r k) r.ws.length = [] := by unfold endsOf; rw [Nat.sub_self]; rfl
    rw [e2]
    refine atI_of (j := r.ws.length) rfl ?_
    unfold efD
    rw [List.getElem?_append_right (by rw [List.length_map, List.length_range]; exact Nat.le_refl _), List.length_map, List.length_range, Nat.sub_self]; rfl
section
variable {K : PySem.W.Frag} {c m cL : Addr} {w : World}
theorem run_fe (T : LTok K cL) : RunOk K [] (tq_farthest_ends K w cL (ap_tp cL m w)) 7 (ap_fe cL m w) := by
  rintro as Post ⟨r, k, kvs, rfl, t, p⟩
  have n2 := T.boxes; have n3 := T.rivers; have n4 := T.starts_to; have n5 := T.ends_from; have cl := T.cl.cl
  have on := t.ok.n
  unfold tq_farthest_ends
  show WS K [] _ [.val (ltD cL m w r k kvs), .un, .un, .un, .un, .un, .un] _
  refine ws_seq ?_
  walk_at "gx"
  refine ws_seq ?_
  refine for_3H ?_
  walk_at "gi"
  refine .a ⟨(r.ws.length : Int), 0, rfl, ⟨by omega, by omega, by omega, by omega⟩, fun i G => ∃ (F : List (NestedKey × Dt)) (s2 s3 s4 s5 s6 : Sl), (∀ s e p, r.ws.length < e + i → LG r k s e = some p → FarAt r k F s e) ∧ F.length ≤ 100 * i ∧
    G = [.val (ltD cL m w r k kvs), .cel (.dN w F), s2, s3, s4, s5, s6], ⟨[], _, _, _, _, _, fun s e q he hq => (by have := fit_of hq; omega), Nat.zero_le _, rfl⟩, ?_, ?_⟩
  · rintro i G hi ⟨F, s2, s3, s4, s5, s6, g1, g3, rfl⟩
    obtain ⟨mid, hmid⟩ : ∃ mid : Nat, mid + i = r.ws.length := ⟨r.ws.length - i, by omega⟩
    have hmi : (r.ws.length : Int) - i = (mid : Int) := by omega
    rw [hmi]
    have hst := st_at (k := k) (m := mid) (by omega : mid ≤ r.ws.length)
    have hsl : (stA (LG r k) r.ws.length mid).length ≤ r.ws.length := by unfold stA; exact Nat.le_trans (List.length_filter_le _ _) (by rw [List.length_range]; exact Nat.le_refl _)
    have hbm : ∀ e q, LG r k mid e = some q → FarAt r k F mid e := fun e q hq => g1 mid e q (by have := fit_of hq; omega) hq
    walk_at "gx"
    refine ws_seq ?_
    walk_at "gx"
    refine for_lstT (stA (LG r k) r.ws.length mid) nD (fun j G => ∃ (F' : List (NestedKey × Dt)) (s3 s4 s5 s6 : Sl), (∀ s e, e ≠ mid → valD F' (pk s e) = valD F (pk s e)) ∧ (∀ s ∈ (stA (LG r k) r.ws.length mid).take j, FarAt r k F' s mid) ∧ F'.length ≤ 100 * i + j ∧
      (s3 = .val .non ∨ ∃ s0 b : Nat, s3 = .val (.int b) ∧ IsFar (LG r k) (PP r k) s0 mid b) ∧
      G = [.val (ltD cL m w r k kvs), .cel (.dN w F'), .val (.int mid), s3, s4, s5, s6]) ?_ ?_ ?_
    · walk_at "gi"
      exact .a ⟨rfl, F, _, _, _, _, fun _ _ _ => rfl, (fun _ h => by simp at h), by omega, .inl rfl, rfl⟩
    · rintro j s G hj ⟨F', s3', s4', s5', s6', q1, q2, q4, q5, rfl⟩
      have htk : (stA (LG r k) r.ws.length mid).take (j + 1) = (stA (LG r k) r.ws.length mid).take j ++ [s] := by rw [List.take_add_one, hj]; rfl
      have hjl := (List.getElem?_eq_some_iff.mp hj).1
      obtain ⟨hsn', pr, hpr⟩ := st_mem.mp (List.mem_of_getElem? hj)
      have hnew : s ∉ (stA (LG r k) r.ws.length mid).take j := fun z => by
        obtain ⟨a, ha, hqa⟩ := List.getElem_of_mem z
        rw [List.length_take] at ha
        rw [List.getElem_take] at hqa
        have := (List.getElem?_inj (by omega) (st_nd (LG r k) r.ws.length mid)).mp ((List.getElem?_eq_getElem (by omega)).trans ((congrArg some hqa).trans hj.symm))
        omega
      have hbm' : ∀ e q, LG r k mid e = some q → FarAt r k F' mid e := fun e q hq => by
        have hf := fit_of hq
        obtain ⟨x, h1, h2⟩ := hbm e q hq
        exact ⟨x, h1, by rw [q1 mid e (by omega)]; exact h2⟩
      walk_at "gx"
      refine ws_cut (fun G => ∃ (b : Nat) (s5 s6 : Sl), IsFar (LG r k) (PP r k) s mid b ∧ G = [.val (ltD cL m w r k kvs), .cel (.dN w F'), .val (.int mid), .val (.int b), .val (.int s), s5, s6]) ?_ ?_
      · have go : ∀ (s3 : Sl) (P : Ps), (∀ (b : Nat) (s5 s6 : Sl), IsFar (LG r k) (PP r k) s mid b → P.nx [.val (ltD cL m w r k kvs), .cel (.dN w F'), .val (.int mid), .val (.int b), .val (.int s), s5, s6]) → WS K [] (tSeq (tAsg (tVar 2) (gName 3)) (tFor (iList K (tOp (rIx K) (tFld K (tVar 0) "ends_from") (tVar 2))) (gTup K 2 (gCons (gName 5) (gCons (gName 6) gNil))) (tIfS (tAnd (tTest (tOp rGtI (tNGet K w (tVar 1) (tTup (tCons (tVar 2) (tCons (tVar 5) tNil)))) (tVar 3))) (tB (tNotN (tMeth cL "pair" (toSp K (ap_tp cL m w)) [] E0 (tVar 0) (tCons (tVar 4) (tCons (tVar 2) (tCons (tVar 5) tNil))))))) (tAsg (tNGet K w (tVar 1) (tTup (tCons (tVar 2) (tCons (tVar 5) tNil)))) (gName 3)) tNext)))
            [.val (ltD cL m w r k kvs), .cel (.dN w F'), .val (.int mid), s3, .val (.int s), s5', s6'] P := by
          intro s3 P fin
          have hef := ef_at2 (k := k) (by omega : mid ≤ r.ws.length)
          refine ws_cut (fun G => G = [.val (ltD cL m w r k kvs), .cel (.dN w F'), .val (.int mid), .val (.int mid), .val (.int s), s5', s6']) ?_ ?_
          · walk_at "gi"
            exact .a rfl
          rintro G rfl
          refine for_lstT (endsOf r.ws.length (LG r k) mid) epD (fun a G => ∃ (b : Nat) (s5 s6 : Sl), Ch (LG r k) (PP r k) s mid b ∧ mid ≤ b ∧ (∀ y ∈ (endsOf r.ws.length (LG r k) mid).take a, ∀ q z, PP r k s mid y.1 = some q → Ch (LG r k) (PP r k) mid y.1 z → z ≤ b) ∧
            G = [.val (ltD cL m w r k kvs), .cel (.dN w F'), .val (.int mid), .val (.int b), .val (.int s), s5, s6]) ?_ ?_ ?_
          · walk_at "gi"
            exact .a ⟨rfl, mid, _, _, .stop s mid, Nat.le_refl _, (fun _ h => by simp at h), rfl⟩
          · rintro a ⟨e, pe⟩ G ha ⟨b, s5, s6, hch, hmb, hall, rfl⟩
            have hme := mem_ends.mp (List.mem_of_getElem? ha)
            have hL : LG r k mid e = some pe := hme.2.2
            have htk2 : (endsOf r.ws.length (LG r k) mid).take (a + 1) = (endsOf r.ws.length (LG r k) mid).take a ++ [(e, pe)] := by rw [List.take_add_one, ha]; rfl
            obtain ⟨x, hx, hv⟩ := hbm' e pe hL
            have keepb : (∀ q z, PP r k s mid e = some q → Ch (LG r k) (PP r k) mid e z → z ≤ b) → ∀ y ∈ (endsOf r.ws.length (LG r k) mid).take (a + 1), ∀ q z, PP r k s mid y.1 = some q → Ch (LG r k) (PP r k) mid y.1 z → z ≤ b := fun h y hy q z h1 h2 => by
              rw [htk2] at hy
              rcases List.mem_append.mp hy with hy | hy
              · exact hall y hy q z h1 h2
              · rw [List.mem_singleton.mp hy] at h1 h2; exact h q z h1 h2
            walk_at "gi"
            refine .a ⟨F', pk mid e, _, rfl, congrArg Re.val (dtN_pk mid e), ⟨_, rfl⟩, pk_depth _ _, hv, ?_⟩
            walk_at "gi"
            · rename_i hgt
              refine .a ⟨r, k, kvs, some s, mid, e, rfl, ⟨t, fun s' z => (by cases z; exact ⟨pr, hpr⟩), _, hL⟩, ?_⟩
              show _
              cases hq : PP r k s mid e with
              | none =>
                rw [show pairO (PP r k) (some s) mid e = none from hq, show optD none = Dt.non from rfl]
                walk_at "gi"
                walk_at "nn"
                exact .a ⟨b, _, _, hch, hmb, keepb fun q z h1 _ => (by rw [hq] at h1; cases h1), rfl⟩
              | some q =>
                rw [show pairO (PP r k) (some s) mid e = some q from hq, show optD (some q) = Dt.int q from rfl]
                walk_at "gi"
                walk_at "nn"
                refine .a ⟨F', pk mid e, _, rfl, congrArg Re.val (dtN_pk mid e), ⟨_, rfl⟩, pk_depth _ _, hv, ?_⟩
                walk_at "gi"
                refine .a ⟨x, .val (.int e), .val (.int pe), .go hL hq hx.is_, by omega, fun y hy q' z h1 h2 => ?_, rfl⟩
                rw [htk2] at hy
                rcases List.mem_append.mp hy with hy | hy
                · have := hall y hy q' z h1 h2; omega
                · rw [List.mem_singleton.mp hy] at h1 h2
                  exact hx.le z h2
            · rename_i hgt
              exact .a ⟨b, _, _, hch, hmb, keepb fun q z _ h2 => (by have := hx.le z h2; omega), rfl⟩
          · rintro G ⟨b, s5, s6, hch, hmb, hall, rfl⟩
            rw [List.take_length] at hall
            refine fin b s5 s6 ⟨hch, fun y hy => ?_⟩
            cases hy with
            | stop => exact hmb
            | go h1 h2 h3 =>
              have hf := fit_of h1
              exact hall (_, _) (mem_ends.mpr ⟨hf.1, hf.2.1, h1⟩) _ y h2 h3
        rcases q5 with rfl | ⟨s0, b, rfl, hb0⟩
        · walk_at "gx"
          exact go _ _ fun b s5 s6 h => .a ⟨b, s5, s6, h, rfl⟩
        · walk_at "gx"
          refine ⟨fun h => ?_, fun h => ?_⟩
          all_goals first
            | exact Bool.noConfusion (show true = false from h)
            | exact Bool.noConfusion (show false = true from h)
            | skip
          all_goals walk_at "gx"
          refine ⟨fun _ => go _ _ fun b s5 s6 h => .a ⟨b, s5, s6, h, rfl⟩, fun hri => ?_⟩
          have hri := of_decide_eq_false hri
          walk_at "gx"
          exact .a ⟨b, _, _, far_river hri hb0, rfl⟩
      · rintro G ⟨b, s5, s6, hfb, rfl⟩
        have hpl := putE_len F' (pk s mid) (.int b)
        walk_at "gi"
        refine .a ⟨F', pk s mid, congrArg Re.val (dtN_pk s mid), ⟨_, rfl⟩, pk_depth _ _, rfl, by omega, ?_⟩
        refine .a ⟨putE F' (pk s mid) (.int b), _, _, _, _, fun s' e he => ?_, fun s' hs' => ?_, by omega, .inr ⟨s, b, rfl, hfb⟩, rfl⟩
        · rw [val_put, if_neg (fun z => he (pk_inj.mp z).2)]
          exact q1 s' e he
        · by_cases hss : s' = s
          · subst hss
            exact ⟨b, hfb, by rw [val_put, if_pos rfl]⟩
          · rw [htk] at hs'
            rcases List.mem_append.mp hs' with hs' | hs'
            · obtain ⟨x, h1, h2⟩ := q2 s' hs'
              exact ⟨x, h1, by rw [val_put, if_neg (fun z => hss (pk_inj.mp z).1)]; exact h2⟩
            · exact (hss (List.mem_singleton.mp hs')).elim
    · rintro G ⟨F', s3', s4', s5', s6', q1, q2, q4, q5, rfl⟩
      rw [List.take_length] at q2
      refine .a ⟨F', _, _, _, _, _, fun s e q he hq => ?_, by omega, rfl⟩
      have hf := fit_of hq
      by_cases hm : e = mid
      · subst hm
        exact q2 s (st_mem.mpr ⟨by omega, q, hq⟩)
      · obtain ⟨x, h1, h2⟩ := g1 s e q (by omega) hq
        exact ⟨x, h1, by rw [q1 s e hm]; exact h2⟩
  · rintro G ⟨F, s2, s3, s4, s5, s6, g1, g3, rfl⟩
    walk_at "gi"
    exact p F fun s e q hq => g1 s e q (by have := fit_of hq; omega) hq
end
end
section
open PySem L2 Ab PySem.W
open Classical in
noncomputable def farV (r : Row) (k : Key) (s e : Nat) : Nat := if h : ∃ x, IsFar (LG r k) (PP r k) s e x then Classical.choose h else 0
theorem farV_of {r : Row} {k : Key} {s e x : Nat} (h : IsFar (LG r k) (PP r k) s e x) : farV r k s e = x := by
  have h' : ∃ x, IsFar (LG r k) (PP r k) s e x := ⟨x, h⟩
  unfold farV
  rw [dif_pos h']
  exact (Classical.choose_spec h').one h
noncomputable def frs (r : Row) (k : Key) (i : Nat) : List Nat := (endsOf r.ws.length (LG r k) i).map fun p => farV r k i p.1
noncomputable def stretch (r : Row) (k : Key) : Option (Nat × Nat) := (strF r.ws.length (frs r k) r.ws.length).2
def strD : Option (Nat × Nat) → Dt
  | none => .non
  | some q => .tup [.int (q.1 : Nat), .int (q.2 : Nat)]
theorem ch_n {r : Row} {k : Key} {s m y : Nat} (h : Ch (LG r k) (PP r k) s m y) : m ≤ r.ws.length → y ≤ r.ws.length := by
  induction h with
  | stop => exact id
  | go h1 _ _ ih => exact fun _ => ih (fit_of h1).2.1
theorem fmax_le {xs : List Nat} : ∀ {a b : Nat}, a ≤ b → (∀ x ∈ xs, x ≤ b) → xs.foldl max a ≤ b := by
  induction xs with
  | nil => exact fun h _ => h
  | cons x xs ih => exact fun {a b} h1 h2 => ih (Nat.max_le.mpr ⟨h1, h2 x (List.mem_cons_self ..)⟩) fun y hy => h2 y (List.mem_cons_of_mem _ hy)
theorem fmax_ge {xs : List Nat} : ∀ {a : Nat}, a ≤ xs.foldl max a ∧ ∀ x ∈ xs, x ≤ xs.foldl max a := by
  induction xs with
  | nil => exact fun {a} => ⟨Nat.le_refl _, fun _ h => nomatch h⟩
  | cons x xs ih =>
    intro a
    have h := @ih (max a x)
    refine ⟨Nat.le_trans (Nat.le_max_left a x) h.1, fun y hy => ?_⟩
    rcases List.mem_cons.mp hy with rfl | hy
    · exact Nat.le_trans (Nat.le_max_right a y) h.1
    · exact h.2 y hy
theorem fmax_mem {xs : List Nat} : ∀ {a : Nat}, xs.foldl max a = a ∨ xs.foldl max a ∈ xs := by
  induction xs with
  | nil => exact fun {a} => .inl rfl
  | cons x xs ih =>
    intro a
    rcases @ih (max a x) with h | h
    · rw [List.foldl_cons, h]
      rcases Nat.le_total a x with g | g
      · rw [Nat.max_eq_right g]; exact .inr (List.mem_cons_self ..)
      · rw [Nat.max_eq_left g]; exact .inl rfl
    · exact .inr (List.mem_cons_of_mem _ h)
theorem str_max {c i : Nat} {xs : List Nat} {z : Int} (hm : z ∈ (([(c : Int), (i : Int)] ++ xs.map fun x : Nat => (x : Int)))) (hx : ∀ y ∈ ([(c : Int), (i : Int)] ++ xs.map fun x : Nat => (x : Int)), y ≤ z) : z = ((xs.foldl max (max c i) : Nat) : Int) := by
  have g := @fmax_ge xs (max c i)
  have hc := hx c (by simp)
  have hi := hx i (by simp)
  refine Int.le_antisymm ?_ ?_
  · rcases List.mem_append.mp hm with h | h
    · have : z = c ∨ z = i := by simpa using h
      rcases this with rfl | rfl
      · exact Int.ofNat_le.mpr (Nat.le_trans (Nat.le_max_left ..) g.1)
      · exact Int.ofNat_le.mpr (Nat.le_trans (Nat.le_max_right ..) g.1)
    · obtain ⟨x, h1, rfl⟩ := List.mem_map.mp h
      exact Int.ofNat_le.mpr (g.2 x h1)
  · rcases @fmax_mem xs (max c i) with h | h
    · rw [h]; omega
    · exact hx _ (List.mem_append_right _ (List.mem_map_of_mem h))
def ap_str (cL m : Addr) (w : World) : AP := fun as Post => ∃ (r : Row) (k : Key) (kvs : List (NestedKey × Dt)), as = [.val (ltD cL m w r k kvs)] ∧ TOk r k kvs ∧ Post (.val (strD (stretch r k))) as
section
variable {K : PySem.W.Frag} {c m cL : Addr} {w : World}
theorem run_str (T : LTok K cL) : RunOk K [] (tq_stretch_of K w (ap_fe cL m w)) 8 (ap_str cL m w) := by
  rintro as Post ⟨r, k, kvs, rfl, t, p⟩
  have n2 := T.boxes; have n5 := T.ends_from; have cl := T.cl.cl
  have on := t.ok.n
  unfold tq_stretch_of
  show WS K [] _ [.val (ltD cL m w r k kvs), .un, .un, .un, .un, .un, .un, .un] _
  refine ws_seq ?_
  walk_at "gi"
  refine .a ⟨r, k, kvs, rfl, t, fun F hF => ?_⟩
  walk_at "gx"
  refine ws_seq ?_
  walk_at "gx"
  refine ws_seq ?_
  walk_at "gx"
  refine ws_seq ?_
  refine for_range1H ?_
  walk_at "gi"
  refine .a ⟨(r.ws.length : Int), rfl, by omega, by omega, fun i G => ∃ (s4 s5 : Sl), (strF r.ws.length (frs r k) i).1 ≤ r.ws.length ∧
    G = [.val (ltD cL m w r k kvs), .cel (.dN w F), .val (.int (strF r.ws.length (frs r k) i).1), .val (strD (strF r.ws.length (frs r k) i).2), s4, s5, .un, .un], ⟨_, _, Nat.zero_le _, rfl⟩, ?_, ?_⟩
  · rintro i G hi ⟨s4, s5, hc, rfl⟩
    have hi' : i < r.ws.length := by omega
    have hef := ef_at (k := k) hi'
    have hfl : (endsOf r.ws.length (LG r k) i).length ≤ 100 := by
      unfold endsOf
      refine Nat.le_trans (List.length_filterMap_le _ _) ?_
      rw [List.length_range']; omega
    have hfr : ∀ x ∈ frs r k i, x ≤ r.ws.length := fun x hx => by
      obtain ⟨q, hq, rfl⟩ := List.mem_map.mp hx
      have hme := mem_ends.mp hq
      obtain ⟨x, h1, _⟩ := hF _ _ _ hme.2.2
      rw [farV_of h1]
      exact ch_n h1.is_ hme.2.1
    walk_at "gx"
    refine ws_seq ?_
    walk_at "gx"
    refine we_maxI ?_
    walk_at "gx"
    refine lc_two (endsOf r.ws.length (LG r k) i) epD (fun q => .int (farV r k i q.1 : Nat)) [0, 1, 2, 3, 4, 5] (by decide) (fun j hj h6 h7 => ?_) (Nat.le_of_ble_eq_true rfl) (Nat.le_of_ble_eq_true rfl) (fun c h => nomatch h) (fun c h => nomatch h) ?_ ?_ ?_
    · have : j < 8 := hj
      have : j = 0 ∨ j = 1 ∨ j = 2 ∨ j = 3 ∨ j = 4 ∨ j = 5 := by omega
      simpa using this
    · walk_at "gi"
      exact .a ⟨rfl, by omega, rfl⟩
    · rintro ⟨e, q⟩ hq
      have hme := mem_ends.mp hq
      obtain ⟨x, hx1, hx2⟩ := hF _ _ _ hme.2.2
      walk_at "gi"
      refine ⟨⟨_, _, rfl⟩, ?_⟩
      walk_at "gi"
      refine .a ⟨F, pk i e, _, rfl, congrArg Re.val (dtN_pk i e), ⟨_, rfl⟩, pk_depth _ _, hx2, ?_⟩
      exact ⟨_, rfl, by rw [farV_of hx1], rfl⟩
    refine addp_l rfl rfl rfl rfl (by rw [List.length_map]; show 2 + _ ≤ _; omega) ?_
    have hns : [Dt.int ((strF r.ws.length (frs r k) i).1 : Nat), Dt.int (i : Nat)] ++ (endsOf r.ws.length (LG r k) i).map (fun q => Dt.int (farV r k i q.1 : Nat)) = ([((strF r.ws.length (frs r k) i).1 : Int), (i : Int)] ++ (frs r k i).map fun x : Nat => (x : Int)).map Dt.int := by
      unfold frs
      rw [List.map_append, List.map_map, List.map_map]; rfl
    refine .a ⟨_, congrArg some hns, ?_, fun z hz hzx => ?_⟩
    · rw [List.length_append]; exact Nat.lt_of_lt_of_le (Nat.succ_pos 1) (Nat.le_add_right _ _)
    obtain rfl := str_max hz hzx
    have e1 : (strF r.ws.length (frs r k) (i + 1)).1 = (frs r k i).foldl max (max (strF r.ws.length (frs r k) i).1 i) := rfl
    have e2 : (strF r.ws.length (frs r k) (i + 1)).2 = if (frs r k i).foldl max (max (strF r.ws.length (frs r k) i).1 i) < r.ws.length ∧ (match (strF r.ws.length (frs r k) i).2 with | none => true | some q => decide ((frs r k i).foldl max (max (strF r.ws.length (frs r k) i).1 i) + 1 - i < q.2 - q.1)) = true then some (i, (frs r k i).foldl max (max (strF r.ws.length (frs r k) i).1 i) + 1) else (strF r.ws.length (frs r k) i).2 := rfl
    have hc1 : (frs r k i).foldl max (max (strF r.ws.length (frs r k) i).1 i) ≤ r.ws.length := fmax_le (Nat.max_le.mpr ⟨hc, by omega⟩) hfr
    have hc2 : i ≤ (frs r k i).foldl max (max (strF r.ws.length (frs r k) i).1 i) := Nat.le_trans (Nat.le_max_right _ _) fmax_ge.1
    generalize (frs r k i).foldl max (max (strF r.ws.length (frs r k) i).1 i) = cv at e1 e2 hc1 hc2 ⊢
    generalize (strF r.ws.length (frs r k) i).2 = so at e2 ⊢
    have fin : ∀ (so' : Option (Nat × Nat)) (s4 s5 : Sl), (strF r.ws.length (frs r k) (i + 1)).2 = so' → ∃ (s4' s5' : Sl), (strF r.ws.length (frs r k) (i + 1)).1 ≤ r.ws.length ∧
      [Sl.val (ltD cL m w r k kvs), .cel (.dN w F), .val (.int cv), .val (strD so'), s4, s5, .un, .un] = [.val (ltD cL m w r k kvs), .cel (.dN w F), .val (.int (strF r.ws.length (frs r k) (i + 1)).1), .val (strD (strF r.ws.length (frs r k) (i + 1)).2), s4', s5', .un, .un] := fun so' s4 s5 h => ⟨s4, s5, by rw [e1]; exact hc1, by rw [e1, h]⟩
    walk_at "gx"
    refine ws_seq ?_
    walk_at "gx"
    cases so with
    | none =>
      walk_at "gi"
      walk_at "nn"
      · rename_i h1 _ _
        exact .a (fin (some (i, cv + 1)) _ _ (e2.trans (if_pos ⟨by omega, rfl⟩)))
      · rename_i h1 _
        exact .a (fin none _ _ (e2.trans (if_neg fun z => h1 (by omega))))
    | some q =>
      obtain ⟨a, b⟩ := q
      walk_at "gi"
      walk_at "nn"
      · rename_i h1 _ h3
        exact .a (fin (some (i, cv + 1)) _ _ (e2.trans (if_pos ⟨by omega, decide_eq_true (show cv + 1 - i < b - a by omega)⟩)))
      · rename_i h1 _ h3
        exact .a (fin (some (a, b)) _ _ (e2.trans (if_neg fun z => h3 (by have z2 : cv + 1 - i < b - a := of_decide_eq_true z.2; omega))))
      · rename_i h1 _
        exact .a (fin (some (a, b)) _ _ (e2.trans (if_neg fun z => h1 (by omega))))
  · rintro G ⟨s4, s5, hc, rfl⟩
    walk_at "gi"
    exact p
end
end
section
open PySem L2 Ab PySem.W
def tq_break_lines (K : PySem.W.Frag) (w : World) (c_LineTable : Addr) (c_Blocked : Addr) (ai_LineTable : AI) (ap_best_continuations : AP) (ap_continuations : AP) (ap_stretch_of : AP) (W : WX) : TS :=
    (tSeq (tAsg (tMake c_LineTable (toSpI K c_LineTable ai_LineTable) [] E0 (tCons (tVar 0) (tCons (tVar 1) tNil))) (gName 2))
    (tSeq (tIfS (tTest (tOp (rEqG K) (tFld K (tVar 2) "boxes") (tC (.int 0)))) (tRet (tTup (tCons (tC (.int 0)) (tCons (tTup tNil) tNil)))) tNext)
    (tSeq (tAsg (tCall (toSp K ap_best_continuations) [] E0 (tCons (tVar 2) tNil)) (gName 3))
    (tSeq (tAsg (tCall (toSp K ap_continuations) [] E0 (tCons (tVar 2) (tCons (tVar 3) (tCons (tC .non) (tCons (tC (.int 0)) tNil))))) (gName 4))
    (tSeq (tIfS (tTest (tOp (rEqG K) (tCB (rLenV K) (tCons (tVar 4) tNil)) (tC (.int 0)))) (tSeq (tAsg (tCall (toSp K ap_stretch_of) [] E0 (tCons (tVar 2) tNil)) (gTup K 2 (gCons (gName 5) (gCons (gName 6) gNil))))
    (tRaiseO W c_Blocked (spE2 c_Blocked "start" "end") (tCons (tVar 5) (tCons (tVar 6) tNil)))) tNext)
    (tSeq (tAsg (tCB (rMinD K) (tCons (tVar 4) tNil)) (gTup K 3 (gCons (gName 7) (gCons (gName 8) (gCons (gName 6) gNil)))))
    (tSeq (tAsg (tC (.int 0)) (gName 5))
    (tSeq (tAsg (tLst (tCons (tVar 6) tNil)) (gName 9))
    (tSeq (tWhile (tTest (tOp (rLtG K) (tVar 6) (tFld K (tVar 2) "boxes"))) (tSeq (tPar 5 6 (tCons (tVar 6) (tCons (tOp (rIx K) (tNGet K w (tVar 3) (tTup (tCons (tVar 5) (tCons (tVar 6) tNil)))) (tC (.int 2))) tNil)))
    (tDrop (tBM K "list" rAppend (tVar 9) (tCons (tVar 6) tNil)))))
    (tRet (tTup (tCons (tVar 7) (tCons (tCB (rTupleOf K) (tCons (tVar 9) tNil)) tNil)))))))))))))

theorem ite_non {α : Type} {c : Prop} [Decidable c] {a : α} {b : Option α} (h : (if c then some a else b) = none) : ¬ c ∧ b = none := by
  by_cases hc : c
  · rw [if_pos hc] at h; cases h
  · rw [if_neg hc] at h; exact ⟨hc, h⟩
theorem ite_som {α : Type} {c : Prop} [Decidable c] {a x : α} {b : Option α} (h : (if c then some a else b) = some x) : (c ∧ a = x) ∨ b = some x := by
  by_cases hc : c
  · rw [if_pos hc] at h; cases h; exact .inl ⟨hc, rfl⟩
  · rw [if_neg hc] at h; exact .inr h
theorem str_step {n : Nat} {far : Nat → List Nat} {i : Nat} (h : (strF n far (i + 1)).2 = none) : (strF n far i).2 = none ∧ n ≤ (strF n far (i + 1)).1 := by
  have e1 : (strF n far (i + 1)).1 = (far i).foldl max (max (strF n far i).1 i) := rfl
  have e2 : (strF n far (i + 1)).2 = if (far i).foldl max (max (strF n far i).1 i) < n ∧ (match (strF n far i).2 with | none => true | some q => decide ((far i).foldl max (max (strF n far i).1 i) + 1 - i < q.2 - q.1)) = true then some (i, (far i).foldl max (max (strF n far i).1 i) + 1) else (strF n far i).2 := rfl
  rw [e1]
  rw [e2] at h
  obtain ⟨h1, h2⟩ := ite_non h
  refine ⟨h2, Nat.le_of_not_lt fun z => h1 ⟨z, ?_⟩⟩
  rw [h2]
theorem str_none {n : Nat} {far : Nat → List Nat} : ∀ {i : Nat}, 0 < i → (strF n far i).2 = none → n ≤ (far 0).foldl max 0
  | 0, h, _ => absurd h (Nat.lt_irrefl _)
  | 1, _, h => (str_step h).2
  | i + 2, _, h => str_none (Nat.succ_pos i) (str_step h).1
theorem str_some {n : Nat} {far : Nat → List Nat} {a b : Nat} : ∀ {i : Nat}, (strF n far i).2 = some (a, b) → a < b ∧ b ≤ n
  | 0, h => nomatch h
  | i + 1, h => by
    have e2 : (strF n far (i + 1)).2 = if (far i).foldl max (max (strF n far i).1 i) < n ∧ (match (strF n far i).2 with | none => true | some q => decide ((far i).foldl max (max (strF n far i).1 i) + 1 - i < q.2 - q.1)) = true then some (i, (far i).foldl max (max (strF n far i).1 i) + 1) else (strF n far i).2 := rfl
    rw [e2] at h
    rcases ite_som h with ⟨hc, e⟩ | h
    · have g := Nat.le_trans (Nat.le_max_right (strF n far i).1 i) (@fmax_ge (far i) (max (strF n far i).1 i)).1
      cases e
      exact ⟨Nat.lt_succ_of_le g, hc.1⟩
    · exact str_some h
theorem exmax {P : Nat → Prop} {n : Nat} (hP : ∀ x, P x → x ≤ n) : ∀ {d x : Nat}, P x → n ≤ x + d → ∃ y, P y ∧ ∀ z, P z → z ≤ y
  | 0, x, h, hd => ⟨x, h, fun z hz => Nat.le_trans (hP z hz) hd⟩
  | d + 1, x, h, hd => by
    by_cases g : ∃ z, P z ∧ x < z
    · obtain ⟨z, hz, hl⟩ := g
      exact exmax (d := d) hP hz (by omega)
    · exact ⟨x, h, fun z hz => Nat.le_of_not_lt fun l => g ⟨z, hz, l⟩⟩
theorem far_ex {r : Row} {k : Key} {s e : Nat} (he : e ≤ r.ws.length) : ∃ x, IsFar (LG r k) (PP r k) s e x := by
  obtain ⟨y, h1, h2⟩ := exmax (P := Ch (LG r k) (PP r k) s e) (fun x h => ch_n h he) (.stop s e) (Nat.le_add_left r.ws.length e)
  exact ⟨y, h1, h2⟩
theorem no_stretch {r : Row} {k : Key} (hn : 0 < r.ws.length) (h : stretch r k = none) : ∃ es t, tailP r.ws.length (LG r k) (PP r k) none 0 es = some t := by
  have h1 := str_none hn h
  rcases @fmax_mem (frs r k 0) 0 with g | g
  · rw [g] at h1; omega
  · obtain ⟨q, hq, e⟩ := List.mem_map.mp g
    have hme := mem_ends.mp hq
    obtain ⟨x, hx⟩ := far_ex (k := k) (s := 0) hme.2.1
    rw [farV_of hx] at e
    have hxn := ch_n hx.is_ hme.2.1
    obtain ⟨es, t, ht⟩ := hx.is_.tail (show x = r.ws.length by omega)
    exact ⟨q.1 :: es, _, tail_cons.mpr ⟨_, 0, t, hme.2.2, rfl, ht, rfl⟩⟩
theorem tail_len {r : Row} {k : Key} {P : Nat → Nat → Nat → Option Int} : ∀ {es : List Nat} {s : Option Nat} {m : Nat} {t : Int}, m ≤ r.ws.length → tailP r.ws.length (LG r k) P s m es = some t → m + es.length ≤ r.ws.length
  | [], _, _, _, h, _ => h
  | e :: es, s, m, t, h, ht => by
    obtain ⟨p, q, t', h1, h2, h3, _⟩ := tail_cons.mp ht
    have hf := fit_of h1
    have := tail_len hf.2.1 h3
    rw [List.length_cons]; omega
def brD (t : Int) (es : List Nat) : Dt := .tup [.int t, .tup (es.map nD)]
def ap_bl (m cB : Addr) : APX := fun as Post XP => ∃ (r : Row) (k : Key), as = [.val r.dt, .val (k.ob m)] ∧ (RowOk r ∧ KeyT k) ∧
  ((∀ es, tailP r.ws.length (LG r k) (PP r k) none 0 es = none) → ∀ a b, stretch r k = some (a, b) → a < b → b ≤ r.ws.length → XP (.ref cB) [("end", .int (b : Nat)), ("start", .int (a : Nat))] as) ∧
  ∀ es t, IsBest r.ws.length (LG r k) (PP r k) none 0 es t → Post (.val (brD t es)) as
theorem ne_end : ("end" : Str) ≠ "start" := by decide +kernel
section
variable {K : PySem.W.Frag} {c m cL cB : Addr} {w : World}
theorem run_bl (T : LTok K cL) : RunOkX K [] (tq_break_lines K w cL cB (ai_LT m w) (ap_bc cL m w) (ap_ct cL m w) (ap_str cL m w)) 10 (ap_bl m cB) := by
  rintro W as Post XP ⟨r, k, rfl, ⟨ok, kt⟩, kx, kp⟩
  have n2 := T.boxes; have n5 := T.ends_from; have cl := T.cl.cl
  have on := ok.n
  unfold tq_break_lines
  show WS K [] _ [.val r.dt, .val (k.ob m), .un, .un, .un, .un, .un, .un, .un, .un] _
  walk_at "gi"
  refine .a ⟨r, k, rfl, ok, kt, fun kvs hg => ?_⟩
  walk_at "gi"
  · rename_i h0
    have hz : r.ws.length = 0 := by omega
    refine kp [] 0 ?_
    have := best_last (s := none) (P := PP r k) (fun e => by unfold LG; rw [if_neg (by omega)]) (n := r.ws.length) (L := LG r k)
    rwa [hz] at this ⊢
  rename_i h0
  have hn : 0 < r.ws.length := by omega
  have tk : TOk r k kvs := ⟨ok, kt, hg⟩
  refine .a ⟨r, k, kvs, rfl, tk, fun bs hbs => ?_⟩
  walk_at "gi"
  refine .a ⟨r, k, kvs, bs, none, 0, rfl, ⟨tk, (fun s' e => nomatch e), hn, fun e p hp => hbs 0 e p hp⟩, fun fs hco hfl => ?_⟩
  have hhb := has_best (m := 0) fun e p hp => hbs 0 e p hp
  walk_at "gi"
  · rename_i hz
    rw [List.length_map] at hz
    have hz : fs = [] := List.eq_nil_of_length_eq_zero (by omega)
    subst hz
    have hno := cont_none hhb (by omega) hco
    cases hs : stretch r k with
    | none =>
      obtain ⟨es, t, ht⟩ := no_stretch hn hs
      rw [hno es] at ht; cases ht
    | some q =>
      obtain ⟨a, b⟩ := q
      obtain ⟨hab, hbn⟩ := str_some (show (strF _ _ _).2 = some (a, b) from hs)
      refine .a ⟨r, k, kvs, rfl, tk, ?_⟩
      rw [hs, show strD (some (a, b)) = Dt.tup [.int (a : Nat), .int (b : Nat)] from rfl]
      walk_at "gi"
      refine ws_raise2 rfl ne_end ?_
      walk_at "gi"
      exact ⟨_, _, rfl, kx hno a b hs hab hbn⟩
  · rename_i hz
    rw [List.length_map] at hz
    refine we_minD t3D t3E ?_
    walk_at "gi"
    refine .a ⟨fs, rfl, fun x _ => t3_py x, t3_alikes fs, by omega, t3_depth fs, fun x hx hm => ?_⟩
    obtain ⟨es, t', b1, b2, b3⟩ := cont_best hhb (by omega) hco hx fun y hy => t3_lt (hm y hy)
    obtain ⟨p0, hp0⟩ : ∃ p, LG r k 0 x.2.2 = some p := by
      obtain ⟨p, _, _, h1, _⟩ := tail_cons.mp b2.is_
      exact ⟨p, h1⟩
    have kp := kp _ _ b2
    clear kx
    walk_at "gi"
    refine while_ab (fun μ G => ∃ (s e : Nat) (dn rest : List Nat) (t1 : Int) (s8 : Sl), IsBest r.ws.length (LG r k) (PP r k) (some s) e rest t1 ∧ (∃ p, LG r k s e = some p) ∧ x.2.2 :: es = dn ++ rest ∧ dn.length + rest.length ≤ 101 ∧ μ = rest.length ∧ G = [.val r.dt, .val (k.ob m), .val (.obj cL (fs_LT r k m w kvs)), .cel (.dN w bs),
      .cel (.lst (fs.map t3D)), .val (.int (s : Nat)), .val (.int (e : Nat)), .val (.int x.1), s8, .acc (dn.map nD)]) es.length ?_ ?_
    · exact ⟨0, x.2.2, [x.2.2], es, t', _, b1, ⟨p0, hp0⟩, rfl, (by have := tail_len (fit_of hp0).2.1 b1.is_; show 1 + es.length ≤ 101; omega), rfl, rfl⟩
    · rintro μ G ⟨s, e, dn, rest, t1, s8, c1, ⟨p1, hp1⟩, c2, c3, rfl, rfl⟩
      have hf := fit_of hp1
      have hdm : (dn.map nD).length = dn.length := List.length_map _
      walk_at "gi"
      · rename_i hlt
        cases rest with
        | nil =>
          have h := c1.is_
          change (if e = r.ws.length then some (0 : Int) else none) = some t1 at h
          rw [if_neg (by omega)] at h
          cases h
        | cons e' r' =>
          rcases hbs s e p1 hp1 with ⟨es2, t2, ib, hv⟩ | ⟨hno, _⟩
          · obtain ⟨g1, g2⟩ := c1.one ib
            subst g1 g2
            obtain ⟨t3, c4⟩ := best_rest c1
            obtain ⟨p4, _, _, hp4, _⟩ := tail_cons.mp c1.is_
            rw [List.length_cons] at c3
            refine .a ⟨bs, pk s e, _, rfl, congrArg Re.val (dtN_pk s e), ⟨_, rfl⟩, pk_depth _ _, hv, ?_⟩
            walk_at "gi"
            refine ⟨_, _, rfl, ?_⟩
            walk_at "gi"
            exact .a ⟨r'.length, Nat.lt_succ_self _, e, e', dn ++ [e'], r', t3, _, c4, ⟨p4, hp4⟩, by rw [c2, List.append_assoc]; rfl, by rw [List.length_append]; show dn.length + 1 + _ ≤ _; omega, rfl, by rw [List.map_append]; rfl⟩
          · have h := c1.is_
            rw [hno] at h
            cases h
      · rename_i hlt
        cases rest with
        | cons e' r' =>
          obtain ⟨p4, _, _, hp4, _⟩ := tail_cons.mp c1.is_
          have := fit_of hp4
          omega
        | nil =>
          rw [List.append_nil] at c2
          unfold brD at kp
          rw [c2] at kp
          walk_at "gi"
          exact kp
end
end
section
open PySem L2 Ab PySem.W
def tq_prefixes_to (K : PySem.W.Frag) (w : World) : TS :=
    (tSeq (tIfS (tTest (tOp (rEqG K) (tVar 2) (tC (.int 0)))) (tRet (tLst (tCons (tTup (tCons (tC (.int 0)) (tCons (tC (.int 0)) (tCons (tTup tNil) (tCons (tC .non) tNil))))) tNil))) tNext)
    (tSeq (tAsg (tLc (iList K (tOp (rIx K) (tFld K (tVar 0) "starts_to") (tVar 2))) (gName 4) (tB (tNIn K w (tTup (tCons (tVar 4) (tCons (tVar 2) tNil))) (tVar 1))) (tOp (rAddG K) (tNGet K w (tVar 1) (tTup (tCons (tVar 4) (tCons (tVar 2) tNil)))) (tTup (tCons (tVar 4) tNil))) [4]) (gName 3))
    (tSeq (tIfS (tAnd (tTest (tOp rGtI (tCB (rLenV K) (tCons (tVar 3) tNil)) (tC (.int 0)))) (tNot (tB (tFld K (tVar 0) "rivers")))) (tRet (tLst (tCons (tCB (rMinD K) (tCons (tVar 3) tNil)) tNil))) tNext)
    (tRet (tVar 3)))))
def tq_best_prefixes (K : PySem.W.Frag) (w : World) (c_LineTable : Addr) (ap_prefixes_to : AP) (ap_LineTable_pair : AP) : TS :=
    (tSeq (tAsg (tNNew w) (gName 1))
    (tSeq (tFor (iRng1 (tCons (tFld K (tVar 0) "boxes") tNil)) (gName 2) (tSeq (tAsg (tCall (toSp K ap_prefixes_to) [] E0 (tCons (tVar 0) (tCons (tVar 1) (tCons (tVar 2) tNil)))) (gName 3))
    (tFor (iList K (tOp (rIx K) (tFld K (tVar 0) "ends_from") (tVar 2))) (gTup K 2 (gCons (gName 4) (gCons (gName 5) gNil))) (tSeq (tAsg (tLst tNil) (gName 6))
    (tSeq (tFor (iList K (tVar 3)) (gTup K 4 (gCons (gName 7) (gCons (gName 8) (gCons (gName 9) (gCons (gName 10) gNil))))) (tSeq (tAsg (tMeth c_LineTable "pair" (toSp K ap_LineTable_pair) [] E0 (tVar 0) (tCons (tVar 10) (tCons (tVar 2) (tCons (tVar 4) tNil)))) (gName 11))
    (tIfS (tB (tNotN (tVar 11))) (tDrop (tBM K "list" rAppend (tVar 6) (tCons (tTup (tCons (tOp (rAddG K) (tOp (rAddG K) (tVar 7) (tVar 11)) (tVar 5)) (tCons (tOp (rAddG K) (tVar 8) (tC (.int 1))) (tCons (tOp (rAddG K) (tVar 9) (tTup (tCons (tVar 4) tNil))) tNil)))) tNil))) tNext)))
    (tIfS (tTest (tOp rGtI (tCB (rLenV K) (tCons (tVar 6) tNil)) (tC (.int 0)))) (sNPut K w (tVar 1) (tTup (tCons (tVar 2) (tCons (tVar 4) tNil))) (tCB (rMinD K) (tCons (tVar 6) tNil))) tNext))))))
    (tRet (tVar 1))))
def runP (L : Nat → Nat → Option Int) (P : Nat → Nat → Nat → Option Int) : Int × Option Nat × Nat → List Nat → Option (Int × Option Nat × Nat)
  | st, [] => some st
  | st, e :: r => match L st.2.2 e, pairO P st.2.1 st.2.2 e with
    | some p, some q => runP L P (st.1 + q + p, some st.2.2, e) r
    | _, _ => none
structure Pq where
  t : Int
  es : List Nat
  b : Option Nat
section
variable {n : Nat} {L : Nat → Nat → Option Int} {P : Nat → Nat → Nat → Option Int}
theorem run_cons {st : Int × Option Nat × Nat} {e : Nat} {r : List Nat} {x : Int × Option Nat × Nat} : runP L P st (e :: r) = some x ↔ ∃ p q, L st.2.2 e = some p ∧ pairO P st.2.1 st.2.2 e = some q ∧ runP L P (st.1 + q + p, some st.2.2, e) r = some x := by
  show (match L st.2.2 e, pairO P st.2.1 st.2.2 e with | some p, some q => runP L P (st.1 + q + p, some st.2.2, e) r | _, _ => none) = some x ↔ _
  cases L st.2.2 e with
  | none => simp
  | some p =>
    cases pairO P st.2.1 st.2.2 e with
    | none => simp
    | some q => simp
theorem run_app {r : List Nat} {x : Int × Option Nat × Nat} : ∀ {es : List Nat} {st : Int × Option Nat × Nat}, runP L P st (es ++ r) = some x ↔ ∃ y, runP L P st es = some y ∧ runP L P y r = some x
  | [], st => ⟨fun h => ⟨st, rfl, h⟩, fun ⟨y, h1, h2⟩ => by cases h1; exact h2⟩
  | e :: es, st => by
    rw [List.cons_append]
    constructor
    · intro h
      obtain ⟨p, q, h1, h2, h3⟩ := run_cons.mp h
      obtain ⟨y, h4, h5⟩ := run_app.mp h3
      exact ⟨y, run_cons.mpr ⟨p, q, h1, h2, h4⟩, h5⟩
    · rintro ⟨y, h4, h5⟩
      obtain ⟨p, q, h1, h2, h3⟩ := run_cons.mp h4
      exact run_cons.mpr ⟨p, q, h1, h2, run_app.mpr ⟨y, h3, h5⟩⟩
abbrev Goes (L : Nat → Nat → Option Int) (P : Nat → Nat → Nat → Option Int) (es : List Nat) (t : Int) (b : Option Nat) (m : Nat) : Prop := runP L P (0, none, 0) es = some (t, b, m)
theorem goes_snoc {es : List Nat} {e : Nat} {t : Int} {b : Option Nat} {m : Nat} : Goes L P (es ++ [e]) t b m ↔ ∃ t0 b0 m0 p q, Goes L P es t0 b0 m0 ∧ L m0 e = some p ∧ pairO P b0 m0 e = some q ∧ t = t0 + q + p ∧ b = some m0 ∧ m = e := by
  constructor
  · intro h
    obtain ⟨⟨t0, b0, m0⟩, h1, h2⟩ := run_app.mp h
    obtain ⟨p, q, h3, h4, h5⟩ := run_cons.mp h2
    cases h5
    exact ⟨t0, b0, _, p, q, h1, h3, h4, rfl, rfl, rfl⟩
  · rintro ⟨t0, b0, m0, p, q, h1, h3, h4, rfl, rfl, rfl⟩
    exact run_app.mpr ⟨(t0, b0, m0), h1, run_cons.mpr ⟨p, q, h3, h4, rfl⟩⟩
theorem goes_last {es : List Nat} {t : Int} {s e : Nat} (h : Goes L P es t (some s) e) : ∃ es0 t0 b0 p q, es = es0 ++ [e] ∧ Goes L P es0 t0 b0 s ∧ L s e = some p ∧ pairO P b0 s e = some q ∧ t = t0 + q + p := by
  rcases List.eq_nil_or_concat es with rfl | ⟨es0, e0, rfl⟩
  · cases h
  · rw [List.concat_eq_append] at h
    obtain ⟨t0, b0, m0, p, q, h1, h3, h4, rfl, h5, rfl⟩ := goes_snoc.mp h
    cases h5
    exact ⟨es0, t0, b0, p, q, by rw [List.concat_eq_append], h1, h3, h4, rfl⟩
theorem goes_none {es : List Nat} {t : Int} {m : Nat} (h : Goes L P es t none m) : es = [] ∧ t = 0 ∧ m = 0 := by
  rcases List.eq_nil_or_concat es with rfl | ⟨es0, e0, rfl⟩
  · cases h; exact ⟨rfl, rfl, rfl⟩
  · rw [List.concat_eq_append] at h
    obtain ⟨t0, b0, m0, p, q, h1, h3, h4, rfl, h5, rfl⟩ := goes_snoc.mp h
    cases h5
structure IsPre (L : Nat → Nat → Option Int) (P : Nat → Nat → Nat → Option Int) (b : Option Nat) (m : Nat) (es : List Nat) (t : Int) : Prop where
  is_ : Goes L P es t b m
  le : ∀ es' t', Goes L P es' t' b m → Bef t es t' es'
structure PreOk (L : Nat → Nat → Option Int) (P : Nat → Nat → Nat → Option Int) (m : Nat) (xs : List Pq) : Prop where
  to : ∀ x ∈ xs, Goes L P x.es x.t x.b m
  of : ∀ es b t, Goes L P es t b m → ∃ x ∈ xs, Bef x.t x.es t es ∧ ∀ e, pairO P x.b m e = pairO P b m e
theorem bef_refl (t : Int) (es : List Nat) : Bef t es t es := .inr ⟨rfl, .inr ⟨rfl, .inl rfl⟩⟩
theorem ltN_snoc {e : Nat} : ∀ {a b : List Nat}, a.length = b.length → ltN a b = true → ltN (a ++ [e]) (b ++ [e]) = true
  | [], [], _, h => by simp [ltN] at h
  | x :: a, y :: b, hl, h => by
    have hl : a.length = b.length := Nat.succ.inj hl
    simp only [List.cons_append, ltN, Bool.or_eq_true, Bool.and_eq_true, decide_eq_true_eq] at h ⊢
    rcases h with h | ⟨h1, h2⟩
    · exact .inl h
    · exact .inr ⟨h1, ltN_snoc hl h2⟩
  | [], _ :: _, h, _ => by simp at h
  | _ :: _, [], h, _ => by simp at h
theorem bef_snoc {t t' d : Int} {es es' : List Nat} {e : Nat} (h : Bef t es t' es') : Bef (t + d) (es ++ [e]) (t' + d) (es' ++ [e]) := by
  unfold Bef at h ⊢
  simp only [List.length_append, List.length_singleton]
  rcases h with h | ⟨rfl, h | ⟨h1, h⟩⟩
  · exact .inl (by omega)
  · exact .inr ⟨rfl, .inl (by omega)⟩
  · refine .inr ⟨rfl, .inr ⟨by omega, ?_⟩⟩
    rcases h with rfl | h
    · exact .inl rfl
    · exact .inr (ltN_snoc h1 h)
theorem ltN_trans : ∀ {a b c : List Nat}, ltN a b = true → ltN b c = true → ltN a c = true
  | x :: a, y :: b, z :: c, h1, h2 => by
    simp only [ltN, Bool.or_eq_true, Bool.and_eq_true, decide_eq_true_eq] at h1 h2 ⊢
    rcases h1 with h1 | ⟨rfl, h1⟩
    · rcases h2 with h2 | ⟨rfl, h2⟩
      · exact .inl (by omega)
      · exact .inl h1
    · rcases h2 with h2 | ⟨rfl, h2⟩
      · exact .inl h2
      · exact .inr ⟨rfl, ltN_trans h1 h2⟩
  | [], _, _, h, _ => by simp [ltN] at h
  | _ :: _, [], _, h, _ => by simp [ltN] at h
  | _ :: _, _ :: _, [], _, h => by simp [ltN] at h
theorem bef_trans {t u v : Int} {a b c : List Nat} (h1 : Bef t a u b) (h2 : Bef u b v c) : Bef t a v c := by
  unfold Bef at *
  rcases h1 with h1 | ⟨rfl, h1 | ⟨l1, h1⟩⟩
  · rcases h2 with h2 | ⟨rfl, h2⟩
    · exact .inl (by omega)
    · exact .inl h1
  · rcases h2 with h2 | ⟨rfl, h2 | ⟨l2, h2⟩⟩
    · exact .inl h2
    · exact .inr ⟨rfl, .inl (by omega)⟩
    · exact .inr ⟨rfl, .inl (by omega)⟩
  · rcases h2 with h2 | ⟨rfl, h2 | ⟨l2, h2⟩⟩
    · exact .inl h2
    · exact .inr ⟨rfl, .inl (by omega)⟩
    · refine .inr ⟨rfl, .inr ⟨by omega, ?_⟩⟩
      rcases h1 with rfl | h1
      · exact h2
      · rcases h2 with rfl | h2
        · exact .inr h1
        · exact .inr (ltN_trans h1 h2)
theorem pre_zero (hL : ∀ s e p, L s e = some p → s < e) : PreOk L P 0 [⟨0, [], none⟩] := by
  refine ⟨fun x hx => ?_, fun es b t h => ?_⟩
  · rw [List.mem_singleton.mp hx]; rfl
  · cases b with
    | none =>
      obtain ⟨rfl, rfl, _⟩ := goes_none h
      exact ⟨_, List.mem_singleton.mpr rfl, bef_refl _ _, fun _ => rfl⟩
    | some s =>
      obtain ⟨_, _, _, _, _, _, _, h1, _⟩ := goes_last h
      have := hL _ _ _ h1
      omega
structure FndOk (L : Nat → Nat → Option Int) (P : Nat → Nat → Nat → Option Int) (m e : Nat) (fs : List (Int × List Nat)) : Prop where
  to : ∀ y ∈ fs, Goes L P y.2 y.1 (some m) e
  of : ∀ es t, Goes L P es t (some m) e → ∃ y ∈ fs, Bef y.1 y.2 t es
theorem fnd_of {m e : Nat} {p : Int} {xs : List Pq} {fs : List (Int × List Nat)} (hp : L m e = some p) (hx : PreOk L P m xs)
    (h1 : ∀ y ∈ fs, ∃ x ∈ xs, ∃ q, pairO P x.b m e = some q ∧ y = (x.t + q + p, x.es ++ [e]))
    (h2 : ∀ x ∈ xs, ∀ q, pairO P x.b m e = some q → (x.t + q + p, x.es ++ [e]) ∈ fs) : FndOk L P m e fs := by
  refine ⟨fun y hy => ?_, fun es t h => ?_⟩
  · obtain ⟨x, hxs, q, hq, rfl⟩ := h1 y hy
    exact goes_snoc.mpr ⟨_, _, _, p, q, hx.to x hxs, hp, hq, rfl, rfl, rfl⟩
  · obtain ⟨es0, t0, b0, p', q, rfl, g1, g2, g3, rfl⟩ := goes_last h
    rw [hp] at g2
    cases g2
    obtain ⟨x, hxs, hb, he⟩ := hx.of _ _ _ g1
    refine ⟨_, h2 x hxs q ((he e).trans g3), ?_⟩
    have := bef_snoc (d := q + p) (e := e) hb
    rw [show x.t + (q + p) = x.t + q + p by omega, show t0 + (q + p) = t0 + q + p by omega] at this
    exact this
theorem fnd_best {m e : Nat} {fs : List (Int × List Nat)} (h : FndOk L P m e fs) {x : Int × List Nat} (hx : x ∈ fs) (hm : ∀ y ∈ fs, Bef x.1 x.2 y.1 y.2) : IsPre L P (some m) e x.2 x.1 :=
  ⟨h.to x hx, fun es t g => by obtain ⟨y, hy, hb⟩ := h.of es t g; exact bef_trans (hm y hy) hb⟩
theorem fnd_none {m e : Nat} (h : FndOk L P m e []) (es : List Nat) (t : Int) : ¬ Goes L P es t (some m) e := fun g => by
  obtain ⟨y, hy, _⟩ := h.of es t g
  cases hy
theorem pre_min {m : Nat} {xs : List Pq} (h : PreOk L P m xs) {x : Pq} (hx : x ∈ xs) (hm : ∀ y ∈ xs, Bef x.t x.es y.t y.es) (hP : ∀ y ∈ xs, ∀ e, pairO P x.b m e = pairO P y.b m e) : PreOk L P m [x] :=
  ⟨fun y hy => by rw [List.mem_singleton.mp hy]; exact h.to x hx, fun es b t g => by
    obtain ⟨y, hy, hb, he⟩ := h.of es b t g
    exact ⟨x, List.mem_singleton.mpr rfl, bef_trans (hm y hy) hb, fun e => (hP y hy e).trans (he e)⟩⟩
theorem goes_le (hL : ∀ s e p, L s e = some p → s < e) : ∀ {es : List Nat} {st x : Int × Option Nat × Nat}, runP L P st es = some x → st.2.2 + es.length ≤ x.2.2
  | [], st, x, h => by cases h; exact Nat.le_refl _
  | e :: es, st, x, h => by
    obtain ⟨p, q, h1, h2, h3⟩ := run_cons.mp h
    have := goes_le hL h3
    have := hL _ _ _ h1
    rw [List.length_cons]
    show _ + (es.length + 1) ≤ _
    dsimp only at *
    omega
end
theorem ends_new {n : Nat} {L : Nat → Nat → Option Int} {i j e : Nat} {pr : Int} (h : (endsOf n L i)[j]? = some (e, pr)) : ∀ y ∈ (endsOf n L i).take j, y.1 ≠ e := fun y hy => by
  obtain ⟨a, ha, rfl⟩ := List.getElem_of_mem hy
  rw [List.length_take] at ha
  rw [List.getElem_take]
  obtain ⟨hj, hje⟩ := List.getElem?_eq_some_iff.mp h
  have := List.pairwise_iff_getElem.mp (ends_asc n L i) a j (by omega) hj (by omega)
  rw [hje] at this
  dsimp only at this
  omega
abbrev nE (n : Nat) : PyData := .int n
abbrev soE : Option Nat → PyData
  | none => .none
  | some s => .int s
abbrev preQ (x : Pq) : Dt := .tup [.int x.t, .int x.es.length, .tup (x.es.map nD), soD x.b]
abbrev fdD (y : Int × List Nat) : Dt := .tup [.int y.1, .int y.2.length, .tup (y.2.map nD)]
def preE (x : Pq) : PyData := .tuple [.int x.t, .int x.es.length, .tuple (x.es.map nE), soE x.b]
def fdE (y : Int × List Nat) : PyData := .tuple [.int y.1, .int y.2.length, .tuple (y.2.map nE)]
theorem nats_py : ∀ es : List Nat, pyAll (es.map nD) = some (es.map nE)
  | [] => by simp [pyAll]
  | e :: es => by
    rw [List.map_cons, List.map_cons, pyAll, nats_py es]
    simp [Dt.py]
theorem preQ_py (x : Pq) : (preQ x).py = some (preE x) := by
  unfold preE
  have h := nats_py x.es
  cases hb : x.b <;> simp [preQ, Dt.py, pyAll, h, hb]
theorem fdD_py (y : Int × List Nat) : (fdD y).py = some (fdE y) := by
  unfold fdE
  have h := nats_py y.2
  simp [fdD, Dt.py, pyAll, h]
theorem nats_alike : ∀ a b : List Nat, alikeAll (a.map nE) (b.map nE) = true
  | [], _ => by simp [alikeAll]
  | _ :: _, [] => by simp [alikeAll]
  | x :: a, y :: b => by rw [List.map_cons, List.map_cons, alikeAll, nats_alike a b]; simp [alike]
theorem tup_alike (a b : List Nat) : alike (.tuple (a.map nE)) (.tuple (b.map nE)) = true := by rw [alike]; exact nats_alike a b
theorem fdE_alike (x y : Int × List Nat) : alike (fdE x) (fdE y) = true := by
  have := tup_alike x.2 y.2
  unfold fdE
  simp [alike, alikeAll] at this ⊢
  exact this
theorem preE_alike (x y : Pq) (h : x.b = none ↔ y.b = none) : alike (preE x) (preE y) = true := by
  have := tup_alike x.es y.es
  unfold preE
  cases hx : x.b with
  | none =>
    rw [h.mp hx]
    simp [alike, alikeAll] at this ⊢
    exact this
  | some s =>
    cases hy : y.b with
    | none => rw [h.mpr hy] at hx; cases hx
    | some s' =>
      simp [alike, alikeAll] at this ⊢
      exact this
theorem nats_depth : ∀ es : List Nat, PyData.depthAll (es.map nE) ≤ 1
  | [] => by simp [PyData.depthAll]
  | e :: es => by
    have := nats_depth es
    rw [List.map_cons, PyData.depthAll]
    simp [PyData.depth]
    omega
theorem fdE_depth : ∀ xs : List (Int × List Nat), PyData.depthAll (xs.map fdE) ≤ 8
  | [] => by simp [PyData.depthAll]
  | x :: r => by
    rw [List.map_cons, PyData.depthAll]
    have := fdE_depth r
    have h1 := nats_depth x.2
    have h : (fdE x).depth ≤ 6 := by unfold fdE; simp [PyData.depth, PyData.depthAll]; omega
    omega
theorem preE_depth : ∀ xs : List Pq, PyData.depthAll (xs.map preE) ≤ 8
  | [] => by simp [PyData.depthAll]
  | x :: r => by
    rw [List.map_cons, PyData.depthAll]
    have := preE_depth r
    have h1 := nats_depth x.es
    have h : (preE x).depth ≤ 6 := by unfold preE; cases x.b <;> simp [PyData.depth, PyData.depthAll] <;> omega
    omega
theorem nats_lt : ∀ {a b : List Nat}, a.length = b.length → dataLt (.tuple (b.map nE)) (.tuple (a.map nE)) = false → a = b ∨ ltN a b = true
  | [], [], _, _ => .inl rfl
  | x :: a, y :: b, hl, h => by
    rw [List.map_cons, List.map_cons, lt_consI] at h
    by_cases c : (y : Int) = x
    · rw [if_pos c] at h
      have e : x = y := by omega
      rcases nats_lt (Nat.succ.inj hl) h with g | g
      · exact .inl (by rw [e, g])
      · right; simp [ltN, g, e]
    · rw [if_neg c] at h
      have := of_decide_eq_false h
      right
      simp [ltN]
      left; omega
  | [], _ :: _, h, _ => by simp at h
  | _ :: _, [], h, _ => by simp at h
theorem lt_eqv {x y : PyData} (h : alike x y = true) (e : PyData.eqv x y = true) : dataLt x y = false := by
  have := (toks_eqv x y h).1 e
  unfold dataLt
  rw [this]
  exact dataLt_irr y
theorem tri_bef {t u : Int} {a b : List Nat} {xs ys : List PyData} (h : dataLt (.tuple (.int u :: .int (b.length : Nat) :: .tuple (b.map nE) :: ys)) (.tuple (.int t :: .int (a.length : Nat) :: .tuple (a.map nE) :: xs)) = false) : Bef t a u b := by
  rw [lt_consI, lt_consI, lt_cons (tup_alike b a)] at h
  unfold Bef
  by_cases c1 : u = t
  · rw [if_pos c1] at h
    right
    refine ⟨c1.symm, ?_⟩
    by_cases c2 : ((b.length : Nat) : Int) = (a.length : Nat)
    · rw [if_pos c2] at h
      right
      have hl : a.length = b.length := by omega
      refine ⟨hl, nats_lt hl ?_⟩
      by_cases c3 : PyData.eqv (.tuple (b.map nE)) (.tuple (a.map nE)) = true
      · exact lt_eqv (tup_alike b a) c3
      · rw [if_neg c3] at h
        exact h
    · rw [if_neg c2] at h
      have := of_decide_eq_false h
      left; omega
  · rw [if_neg c1] at h
    have := of_decide_eq_false h
    left; omega
theorem fd_bef {x y : Int × List Nat} (h : dataLt (fdE y) (fdE x) = false) : Bef x.1 x.2 y.1 y.2 := tri_bef h
theorem pre_bef {x y : Pq} (h : dataLt (preE y) (preE x) = false) : Bef x.t x.es y.t y.es := tri_bef h
theorem fd_alikes (fs : List (Int × List Nat)) : AlikeAll (fs.map fdE) := by
  refine ⟨fun a ha b hb => ?_, fun a ha => ?_⟩
  · obtain ⟨x, _, rfl⟩ := List.mem_map.mp ha
    obtain ⟨y, _, rfl⟩ := List.mem_map.mp hb
    exact fdE_alike x y
  · obtain ⟨x, _, rfl⟩ := List.mem_map.mp ha
    exact fun z => nomatch z
theorem pre_alikes {xs : List Pq} (h : ∀ x ∈ xs, ∀ y ∈ xs, x.b = none ↔ y.b = none) : AlikeAll (xs.map preE) := by
  refine ⟨fun a ha b hb => ?_, fun a ha => ?_⟩
  · obtain ⟨x, hx, rfl⟩ := List.mem_map.mp ha
    obtain ⟨y, hy, rfl⟩ := List.mem_map.mp hb
    exact preE_alike x y (h x hx y hy)
  · obtain ⟨x, _, rfl⟩ := List.mem_map.mp ha
    exact fun z => nomatch z
theorem LG_lt {r : Row} {k : Key} (s e : Nat) (p : Int) (h : LG r k s e = some p) : s < e := (fit_of h).1
theorem pre_bn {r : Row} {k : Key} {m : Nat} {xs : List Pq} (h : PreOk (LG r k) (PP r k) m xs) : ∀ x ∈ xs, (x.b = none ↔ m = 0) := fun x hx => by
  have g := h.to x hx
  cases hb : x.b with
  | none =>
    rw [hb] at g
    exact ⟨fun _ => (goes_none g).2.2, fun _ => rfl⟩
  | some s =>
    rw [hb] at g
    obtain ⟨_, _, _, _, _, _, _, h1, _⟩ := goes_last g
    have := LG_lt _ _ _ h1
    exact ⟨fun z => (nomatch z), fun z => by omega⟩
theorem pre_len {r : Row} {k : Key} {m : Nat} {xs : List Pq} (h : PreOk (LG r k) (PP r k) m xs) {x : Pq} (hx : x ∈ xs) : x.es.length ≤ m := by
  have := goes_le LG_lt (h.to x hx)
  dsimp only at this
  omega
def PreAt (r : Row) (k : Key) (bs : List (NestedKey × Dt)) (s m : Nat) : Prop := (∃ es t, IsPre (LG r k) (PP r k) (some s) m es t ∧ valD bs (pk s m) = some (fdD (t, es))) ∨ ((∀ es t, ¬ Goes (LG r k) (PP r k) es t (some s) m) ∧ valD bs (pk s m) = none)
def ap_pt (cL m : Addr) (w : World) : AP := fun as Post => ∃ (r : Row) (k : Key) (kvs bs : List (NestedKey × Dt)) (i : Nat), as = [.val (ltD cL m w r k kvs), .cel (.dN w bs), .val (.int i)] ∧
  (TOk r k kvs ∧ i ≤ r.ws.length ∧ ∀ s p, LG r k s i = some p → PreAt r k bs s i) ∧
  ∀ xs, PreOk (LG r k) (PP r k) i xs → xs.length ≤ 100 → Post (.new (xs.map preQ)) [.val (ltD cL m w r k kvs), .cel (.dN w bs), .val (.int i)]
def ap_bp (cL m : Addr) (w : World) : AP := fun as Post => ∃ (r : Row) (k : Key) (kvs : List (NestedKey × Dt)), as = [.val (ltD cL m w r k kvs)] ∧ TOk r k kvs ∧ ∀ bs, (∀ s i p, LG r k s i = some p → PreAt r k bs s i) → Post (.nw (.dN w bs)) as
section
variable {K : PySem.W.Frag} {c m cL cB : Addr} {w : World}
theorem run_pt (T : LTok K cL) : RunOk K [1] (tq_prefixes_to K w) 5 (ap_pt cL m w) := by
  rintro as Post ⟨r, k, kvs, bs, i, rfl, ⟨t, hi, hb⟩, p⟩
  have n3 := T.rivers; have n4 := T.starts_to; have cl := T.cl.cl
  have on := t.ok.n
  unfold tq_prefixes_to
  show WS K [1] _ [.val (ltD cL m w r k kvs), .cel (.dN w bs), .val (.int i), .un, .un] _
  by_cases h0 : i = 0
  · subst h0
    walk_at "gi"
    walk_at "nn"
    exact p [⟨0, [], none⟩] (pre_zero LG_lt) (by simp)
  have hst := st_at (k := k) hi
  have hsl : (stA (LG r k) r.ws.length i).length ≤ r.ws.length := by unfold stA; exact Nat.le_trans (List.length_filter_le _ _) (by rw [List.length_range]; exact Nat.le_refl _)
  refine ws_cut (fun G => G = [.val (ltD cL m w r k kvs), .cel (.dN w bs), .val (.int i), .un, .un]) ?_ ?_
  · walk_at "gi"
    walk_at "nn"
    all_goals first | exact .a rfl | omega
  rintro G rfl
  refine ws_cut (fun G => ∃ xs : List Pq, PreOk (LG r k) (PP r k) i xs ∧ xs.length ≤ 100 ∧ G = [.val (ltD cL m w r k kvs), .cel (.dN w bs), .val (.int i), .acc (xs.map preQ), .un]) ?_ ?_
  · walk_at "gx"
    refine lc_lstH ?_
    walk_at "gx"
    refine .a ⟨_, rfl, by rw [List.length_map]; omega, rfl, rfl, fun j es G => ∃ xs : List Pq, (∀ x ∈ xs, ∃ s, x.b = some s ∧ IsPre (LG r k) (PP r k) (some s) i x.es x.t) ∧ (∀ s ∈ (stA (LG r k) r.ws.length i).take j, (∀ es t, ¬ Goes (LG r k) (PP r k) es t (some s) i) ∨ ∃ x ∈ xs, x.b = some s) ∧ xs.length ≤ j ∧
      es = xs.map preQ ∧ G = [.val (ltD cL m w r k kvs), .cel (.dN w bs), .val (.int i), .un, .un], ⟨[], (fun _ h => nomatch h), (fun _ h => by simp at h), Nat.le_refl _, rfl, rfl⟩, ?_, ?_⟩
    · rintro j d es G hd ⟨xs, h1, h2, h3, rfl, rfl⟩
      rw [List.getElem?_map] at hd
      obtain ⟨s, hs, rfl⟩ := Option.map_eq_some_iff.mp hd
      have htk : (stA (LG r k) r.ws.length i).take (j + 1) = (stA (LG r k) r.ws.length i).take j ++ [s] := by rw [List.take_add_one, hs]; rfl
      obtain ⟨hsn, pr, hpr⟩ := st_mem.mp (List.mem_of_getElem? hs)
      rcases hb s pr hpr with ⟨es, tt, hbe, hv⟩ | ⟨hno, hv⟩
      · walk_at "gi"
        refine .a ⟨bs, pk s i, rfl, congrArg Re.val (dtN_pk s i), ⟨_, rfl⟩, pk_depth _ _, ?_⟩
        rw [hv]
        walk_at "gi"
        walk_at "nn"
        refine .a ⟨bs, pk s i, _, rfl, congrArg Re.val (dtN_pk s i), ⟨_, rfl⟩, pk_depth _ _, hv, ?_⟩
        walk_at "gi"
        refine .a ⟨xs ++ [⟨tt, es, some s⟩], fun x hx => ?_, fun s' hs' => ?_, by rw [List.length_append]; simp; omega, by rw [List.map_append]; rfl, rfl⟩
        · rcases List.mem_append.mp hx with hx | hx
          · exact h1 x hx
          · rw [List.mem_singleton.mp hx]; exact ⟨s, rfl, hbe⟩
        · rw [htk] at hs'
          rcases List.mem_append.mp hs' with hs' | hs'
          · rcases h2 s' hs' with g | ⟨x, hx, g⟩
            · exact .inl g
            · exact .inr ⟨x, List.mem_append_left _ hx, g⟩
          · rw [List.mem_singleton.mp hs']
            exact .inr ⟨_, List.mem_append_right _ (List.mem_singleton.mpr rfl), rfl⟩
      · walk_at "gi"
        refine .a ⟨bs, pk s i, rfl, congrArg Re.val (dtN_pk s i), ⟨_, rfl⟩, pk_depth _ _, ?_⟩
        rw [hv]
        walk_at "gi"
        walk_at "nn"
        refine .a ⟨xs, h1, fun s' hs' => ?_, by omega, rfl, rfl⟩
        rw [htk] at hs'
        rcases List.mem_append.mp hs' with hs' | hs'
        · exact h2 s' hs'
        · rw [List.mem_singleton.mp hs']; exact .inl hno
    · rintro es G ⟨xs, h1, h2, h3, rfl, rfl⟩
      rw [List.length_map, ] at h2 h3
      rw [List.take_length] at h2
      walk_at "gi"
      refine .a ⟨xs, ⟨fun x hx => ?_, fun es b tt g => ?_⟩, by omega, rfl⟩
      · obtain ⟨s, hs, hq⟩ := h1 x hx
        rw [hs]; exact hq.is_
      · cases b with
        | none => exact absurd (goes_none g).2.2 h0
        | some s =>
          obtain ⟨_, _, _, q, _, _, _, hL, _⟩ := goes_last g
          have hf := fit_of hL
          rcases h2 s (st_mem.mpr ⟨by omega, _, hL⟩) with hno | ⟨x, hx, hxs⟩
          · exact (hno _ _ g).elim
          · obtain ⟨s', hs', hq⟩ := h1 x hx
            rw [hxs] at hs'
            cases hs'
            exact ⟨x, hx, hq.le _ _ g, fun e => by rw [hxs]⟩
  · rintro G ⟨xs, hx, hxl, rfl⟩
    have hxm : (xs.map preQ).length = xs.length := List.length_map _
    walk_at "gi"
    · rename_i hpos hri
      refine we_minD preQ preE ?_
      walk_at "gi"
      have hbn := pre_bn hx
      refine .a ⟨xs, rfl, fun x _ => preQ_py x, pre_alikes fun x h y g => (hbn x h).trans (hbn y g).symm, by omega, preE_depth xs, fun x hxx hm => ?_⟩
      walk_at "gi"
      refine p [x] (pre_min hx hxx (fun y hy => pre_bef (hm y hy)) fun y hy e => ?_) (by simp)
      cases hxb : x.b with
      | none => exact absurd ((hbn x hxx).mp hxb) h0
      | some s =>
        cases hyb : y.b with
        | none => exact absurd ((hbn y hy).mp hyb) h0
        | some s' => exact no_river hri s s' i e
    · exact p xs hx hxl
    · exact p xs hx hxl
theorem run_bp (T : LTok K cL) : RunOk K [] (tq_best_prefixes K w cL (ap_pt cL m w) (ap_tp cL m w)) 12 (ap_bp cL m w) := by
  rintro as Post ⟨r, k, kvs, rfl, t, p⟩
  have n2 := T.boxes; have n5 := T.ends_from; have cl := T.cl.cl
  have on := t.ok.n
  unfold tq_best_prefixes
  show WS K [] _ [.val (ltD cL m w r k kvs), .un, .un, .un, .un, .un, .un, .un, .un, .un, .un, .un] _
  refine ws_seq ?_
  walk_at "gx"
  refine ws_seq ?_
  refine for_range1H ?_
  walk_at "gi"
  refine .a ⟨(r.ws.length : Int), rfl, by omega, by omega, fun i G => ∃ (bs : List (NestedKey × Dt)) (s2 s3 s4 s5 s6 s7 s8 s9 s10 s11 : Sl), (∀ s e p, s < i → LG r k s e = some p → PreAt r k bs s e) ∧ (∀ s e, i ≤ s → valD bs (pk s e) = none) ∧ bs.length ≤ 100 * i ∧
    G = [.val (ltD cL m w r k kvs), .cel (.dN w bs), s2, s3, s4, s5, s6, s7, s8, s9, s10, s11], ⟨[], _, _, _, _, _, _, _, _, _, _, (fun _ _ _ h => absurd h (Nat.not_lt_zero _)), (fun _ _ _ => rfl), Nat.le_refl _, rfl⟩, ?_, ?_⟩
  · rintro i G hi ⟨bs, s2, s3, s4, s5, s6, s7, s8, s9, s10, s11, h1, h2, h3, rfl⟩
    have hi' : i < r.ws.length := by omega
    have hef := ef_at (k := k) hi'
    have hel := ends_len r k i
    walk_at "gx"
    refine ws_seq ?_
    walk_at "gx"
    refine .a ⟨r, k, kvs, bs, i, rfl, ⟨t, by omega, fun s q hq => h1 s i q (LG_lt _ _ _ hq) hq⟩, fun xs hx hxl => ?_⟩
    walk_at "gx"
    refine for_lstT (endsOf r.ws.length (LG r k) i) epD (fun j G => ∃ (bs' : List (NestedKey × Dt)) (s4 s5 s6 s7 s8 s9 s10 s11 : Sl), (∀ s e, s ≠ i → valD bs' (pk s e) = valD bs (pk s e)) ∧ (∀ y ∈ (endsOf r.ws.length (LG r k) i).take j, PreAt r k bs' i y.1) ∧ (∀ e, (∀ y ∈ (endsOf r.ws.length (LG r k) i).take j, y.1 ≠ e) → valD bs' (pk i e) = none) ∧ bs'.length ≤ 100 * i + j ∧
      G = [.val (ltD cL m w r k kvs), .cel (.dN w bs'), .val (.int i), .acc (xs.map preQ), s4, s5, s6, s7, s8, s9, s10, s11]) ?_ ?_ ?_
    · walk_at "gi"
      exact .a ⟨rfl, bs, _, _, _, _, _, _, _, _, fun _ _ _ => rfl, (fun _ h => by simp at h), fun e _ => h2 i e (Nat.le_refl _), by omega, rfl⟩
    · rintro j ⟨e, pr⟩ G hj ⟨bs', s4, s5, s6, s7, s8, s9, s10, s11, q1, q2, q3, q4, rfl⟩
      have htk : (endsOf r.ws.length (LG r k) i).take (j + 1) = (endsOf r.ws.length (LG r k) i).take j ++ [(e, pr)] := by rw [List.take_add_one, hj]; rfl
      have hjl := (List.getElem?_eq_some_iff.mp hj).1
      have hme := mem_ends.mp (List.mem_of_getElem? hj)
      have hL : LG r k i e = some pr := hme.2.2
      have hnd : ∀ y ∈ (endsOf r.ws.length (LG r k) i).take j, y.1 ≠ e := ends_new hj
      walk_at "gx"
      refine ws_seq ?_
      walk_at "gx"
      refine ws_seq ?_
      refine for_accT (k := 3) xs preQ (fun a G => ∃ (fs : List (Int × List Nat)) (s7 s8 s9 s10 s11 : Sl), (∀ y ∈ fs, ∃ x ∈ xs, ∃ q, pairO (PP r k) x.b i e = some q ∧ y = (x.t + q + pr, x.es ++ [e])) ∧ (∀ x ∈ xs.take a, ∀ q, pairO (PP r k) x.b i e = some q → (x.t + q + pr, x.es ++ [e]) ∈ fs) ∧ fs.length ≤ a ∧
        G = [.val (ltD cL m w r k kvs), .cel (.dN w bs'), .val (.int i), .acc (xs.map preQ), .val (.int e), .val (.int pr), .acc (fs.map fdD), s7, s8, s9, s10, s11]) rfl ⟨[], _, _, _, _, _, (fun _ h => nomatch h), (fun _ h => by simp at h), Nat.le_refl _, rfl⟩ ?_ ?_ ?_
      · rintro a G ⟨fs, s7, s8, s9, s10, s11, _, _, _, rfl⟩; rfl
      · rintro a x G ha ⟨fs, s7, s8, s9, s10, s11, g1, g2, g3, rfl⟩
        have hxm := List.mem_of_getElem? ha
        have hal := (List.getElem?_eq_some_iff.mp ha).1
        have hxt : xs.take (a + 1) = xs.take a ++ [x] := by rw [List.take_add_one, ha]; rfl
        have hxel := pre_len hx hxm
        have hfl : (fs.map fdD).length < 1000000 := by rw [List.length_map]; omega
        have hxl2 : (x.es.map nD).length < 1000000 := by rw [List.length_map]; omega
        walk_at "gi"
        refine .a ⟨r, k, kvs, x.b, i, e, rfl, ⟨t, fun s' hs' => ?_, pr, hL⟩, ?_⟩
        · have g := hx.to x hxm
          rw [hs'] at g
          obtain ⟨_, _, _, p', _, _, _, hp', _⟩ := goes_last g
          exact ⟨p', hp'⟩
        cases hq : pairO (PP r k) x.b i e with
        | none =>
          rw [show optD none = Dt.non from rfl]
          walk_at "gi"
          walk_at "nn"
          refine .a ⟨fs, _, _, _, _, _, g1, fun y hy q hyq => ?_, by omega, rfl⟩
          rw [hxt] at hy
          rcases List.mem_append.mp hy with hy | hy
          · exact g2 y hy q hyq
          · rw [List.mem_singleton.mp hy, hq] at hyq; cases hyq
        | some q =>
          rw [show optD (some q) = Dt.int q from rfl]
          walk_at "gi"
          walk_at "nn"
          refine addp_t (by show (x.es.map nD).length + 1 ≤ _; omega) ?_
          walk_at "gi"
          have hfd : (fs ++ [(x.t + q + pr, x.es ++ [e])]).map fdD = fs.map fdD ++ [.tup [.int (x.t + q + pr), .int ((x.es.length : Int) + 1), .tup (x.es.map nD ++ [.int e])]] := by
            rw [List.map_append, List.map_cons, List.map_nil]
            unfold fdD
            rw [List.length_append, List.map_append]
            rfl
          refine .a ⟨fs ++ [(x.t + q + pr, x.es ++ [e])], _, _, _, _, _, fun y hy => ?_, fun y hy q' hyq => ?_, by rw [List.length_append]; simp; omega, by rw [hfd]⟩
          · rcases List.mem_append.mp hy with hy | hy
            · exact g1 y hy
            · exact ⟨x, hxm, q, hq, List.mem_singleton.mp hy⟩
          · rw [hxt] at hy
            rcases List.mem_append.mp hy with hy | hy
            · exact List.mem_append_left _ (g2 y hy q' hyq)
            · rw [List.mem_singleton.mp hy] at hyq ⊢
              rw [hq] at hyq
              cases hyq
              exact List.mem_append_right _ (List.mem_singleton.mpr rfl)
      · rintro G ⟨fs, s7, s8, s9, s10, s11, g1, g2, g3, rfl⟩
        rw [List.take_length] at g2
        have hfo := fnd_of hL hx g1 g2
        have hfl2 : (fs.map fdD).length = fs.length := List.length_map _
        have fin : ∀ bs2 : List (NestedKey × Dt), (∀ s e', ¬ (s = i ∧ e' = e) → valD bs2 (pk s e') = valD bs' (pk s e')) → PreAt r k bs2 i e → bs2.length ≤ bs'.length + 1 → Hold (∃ (bs' : List (NestedKey × Dt)) (s4 s5 s6 s7' s8' s9' s10' s11' : Sl), (∀ s e, s ≠ i → valD bs' (pk s e) = valD bs (pk s e)) ∧ (∀ y ∈ (endsOf r.ws.length (LG r k) i).take (j + 1), PreAt r k bs' i y.1) ∧ (∀ e, (∀ y ∈ (endsOf r.ws.length (LG r k) i).take (j + 1), y.1 ≠ e) → valD bs' (pk i e) = none) ∧ bs'.length ≤ 100 * i + (j + 1) ∧
            [Sl.val (ltD cL m w r k kvs), .cel (.dN w bs2), .val (.int i), .acc (xs.map preQ), .val (.int e), .val (.int pr), .acc (fs.map fdD), s7, s8, s9, s10, s11] = [.val (ltD cL m w r k kvs), .cel (.dN w bs'), .val (.int i), .acc (xs.map preQ), s4, s5, s6, s7', s8', s9', s10', s11']) := fun bs2 a1 a2 a3 => by
          refine .a ⟨bs2, _, _, _, _, _, _, _, _, fun s e' hs => (a1 s e' fun z => hs z.1).trans (q1 s e' hs), fun y hy => ?_, fun e' he' => ?_, by omega, rfl⟩
          · rw [htk] at hy
            rcases List.mem_append.mp hy with hy | hy
            · have hne := hnd y hy
              have := q2 y hy
              unfold PreAt at this ⊢
              rw [a1 i y.1 fun z => hne z.2]
              exact this
            · rw [List.mem_singleton.mp hy]; exact a2
          · rw [htk] at he'
            have hne : e ≠ e' := he' (e, pr) (List.mem_append_right _ (List.mem_singleton.mpr rfl))
            rw [a1 i e' fun z => hne z.2.symm]
            exact q3 e' fun y hy => he' y (List.mem_append_left _ hy)
        walk_at "gi"
        · rename_i hpos
          refine we_minD fdD fdE ?_
          walk_at "gi"
          refine .a ⟨fs, rfl, fun x _ => fdD_py x, fd_alikes fs, by omega, fdE_depth fs, fun x hxx hm => ?_⟩
          have hbest := fnd_best hfo hxx fun y hy => fd_bef (hm y hy)
          have hpl := putE_len bs' (pk i e) (fdD x)
          walk_at "gi"
          refine .a ⟨bs', pk i e, congrArg Re.val (dtN_pk i e), ⟨_, rfl⟩, pk_depth _ _, rfl, by omega, ?_⟩
          refine fin _ (fun s' e' he => ?_) (.inl ⟨x.2, x.1, hbest, ?_⟩) hpl
          · rw [val_put, if_neg (fun z => he (pk_inj.mp z))]
          · rw [val_put, if_pos rfl]
        · rename_i hpos
          have hz : fs = [] := List.eq_nil_of_length_eq_zero (by omega)
          subst hz
          exact fin bs' (fun _ _ _ => rfl) (.inr ⟨fnd_none hfo, q3 e fun y hy => hnd y hy⟩) (by omega)
    · rintro G ⟨bs', s4, s5, s6, s7, s8, s9, s10, s11, q1, q2, q3, q4, rfl⟩
      rw [List.take_length] at q2 q3
      refine .a ⟨bs', _, _, _, _, _, _, _, _, _, _, fun s e q hs hq => ?_, fun s e hs => ?_, by omega, rfl⟩
      · have hf := fit_of hq
        by_cases hm : s = i
        · subst hm
          exact q2 (e, q) (mem_ends.mpr ⟨hf.1, hf.2.1, hq⟩)
        · have := h1 s e q (by omega) hq
          unfold PreAt at this ⊢
          rw [q1 s e hm]
          exact this
      · rw [q1 s e (by omega)]
        exact h2 s e (by omega)
  · rintro G ⟨bs, s2, s3, s4, s5, s6, s7, s8, s9, s10, s11, h1, h2, h3, rfl⟩
    walk_at "gi"
    exact p bs fun s e q hq => h1 s e q (by have := fit_of hq; omega) hq
end
end
section
open PySem L2 Ab PySem.W
def tq_line_certificate (K : PySem.W.Frag) (w : World) (c_LineTable : Addr) (ai_LineTable : AI) (ap_best_prefixes : AP) (ap_best_continuations : AP) : TS :=
    (tSeq (tAsg (tMake c_LineTable (toSpI K c_LineTable ai_LineTable) [] E0 (tCons (tVar 0) (tCons (tVar 1) tNil))) (gName 2))
    (tSeq (tAsg (tCall (toSp K ap_best_prefixes) [] E0 (tCons (tVar 2) tNil)) (gName 3))
    (tSeq (tAsg (tCall (toSp K ap_best_continuations) [] E0 (tCons (tVar 2) tNil)) (gName 4))
    (tSeq (tAsg (tLst tNil) (gName 5))
    (tSeq (tFor (iRng1 (tCons (tFld K (tVar 2) "boxes") tNil)) (gName 6) (tFor (iList K (tOp (rIx K) (tFld K (tVar 2) "ends_from") (tVar 6))) (gTup K 2 (gCons (gName 7) (gCons (gName 8) gNil))) (tIfS (tB (tNIn K w (tTup (tCons (tVar 6) (tCons (tVar 7) tNil))) (tVar 3))) (tSeq (tAsg (tIf (tB (tNIn K w (tTup (tCons (tVar 6) (tCons (tVar 7) tNil))) (tVar 4))) (tOp (rIx K) (tNGet K w (tVar 4) (tTup (tCons (tVar 6) (tCons (tVar 7) tNil)))) (tC (.int 0))) (tC .non)) (gName 9))
    (tDrop (tBM K "list" rAppend (tVar 5) (tCons (tTup (tCons (tVar 6) (tCons (tVar 7) (tCons (tVar 8) (tCons (tVar 9) tNil))))) tNil)))) tNext)))
    (tRet (tVar 5)))))))
def Rch (L : Nat → Nat → Option Int) (P : Nat → Nat → Nat → Option Int) (s e : Nat) : Prop := ∃ es t, Goes L P es t (some s) e
open Classical in
noncomputable def restB (n : Nat) (L : Nat → Nat → Option Int) (P : Nat → Nat → Nat → Option Int) (s e : Nat) : Option Int := if h : ∃ t es, IsBest n L P (some s) e es t then some (Classical.choose h) else none
theorem restB_some {n : Nat} {L : Nat → Nat → Option Int} {P : Nat → Nat → Nat → Option Int} {s e : Nat} {es : List Nat} {t : Int} (h : IsBest n L P (some s) e es t) : restB n L P s e = some t := by
  have hx : ∃ t es, IsBest n L P (some s) e es t := ⟨t, es, h⟩
  unfold restB
  rw [dif_pos hx]
  obtain ⟨es', h'⟩ := Classical.choose_spec hx
  rw [(h'.one h).2]
theorem restB_none {n : Nat} {L : Nat → Nat → Option Int} {P : Nat → Nat → Nat → Option Int} {s e : Nat} (h : ∀ es, tailP n L P (some s) e es = none) : restB n L P s e = none := by
  unfold restB
  rw [dif_neg]
  rintro ⟨t, es, hb⟩
  have := hb.is_
  rw [h] at this
  cases this
abbrev Ce := Nat × Nat × Int × Option Int
open Classical in
noncomputable def certE (n : Nat) (L : Nat → Nat → Option Int) (P : Nat → Nat → Nat → Option Int) (s : Nat) (ys : List (Nat × Int)) : List Ce := (ys.filter fun y => decide (Rch L P s y.1)).map fun y => (s, y.1, y.2, restB n L P s y.1)
noncomputable def certT (n : Nat) (L : Nat → Nat → Option Int) (P : Nat → Nat → Nat → Option Int) (i : Nat) : List Ce := (List.range i).flatMap fun s => certE n L P s (endsOf n L s)
noncomputable def certL (n : Nat) (L : Nat → Nat → Option Int) (P : Nat → Nat → Nat → Option Int) : List Ce := certT n L P n
theorem certT_succ {n : Nat} {L : Nat → Nat → Option Int} {P : Nat → Nat → Nat → Option Int} (i : Nat) : certT n L P (i + 1) = certT n L P i ++ certE n L P i (endsOf n L i) := by
  unfold certT
  rw [List.range_succ, List.flatMap_append]
  simp
open Classical in
theorem certE_yes {n : Nat} {L : Nat → Nat → Option Int} {P : Nat → Nat → Nat → Option Int} {s : Nat} {ys : List (Nat × Int)} {y : Nat × Int} (h : Rch L P s y.1) : certE n L P s (ys ++ [y]) = certE n L P s ys ++ [(s, y.1, y.2, restB n L P s y.1)] := by
  unfold certE
  rw [List.filter_append, List.map_append]
  congr 1
  simp [h]
open Classical in
theorem certE_no {n : Nat} {L : Nat → Nat → Option Int} {P : Nat → Nat → Nat → Option Int} {s : Nat} {ys : List (Nat × Int)} {y : Nat × Int} (h : ¬ Rch L P s y.1) : certE n L P s (ys ++ [y]) = certE n L P s ys := by
  unfold certE
  rw [List.filter_append, List.map_append]
  simp [h]
theorem certE_len {n : Nat} {L : Nat → Nat → Option Int} {P : Nat → Nat → Nat → Option Int} {s : Nat} {ys : List (Nat × Int)} : (certE n L P s ys).length ≤ ys.length := by
  unfold certE
  rw [List.length_map]
  exact List.length_filter_le _ _
theorem certT_len {r : Row} {k : Key} (hn : r.ws.length ≤ 100) : ∀ i, (certT r.ws.length (LG r k) (PP r k) i).length ≤ 100 * i
  | 0 => Nat.le_refl _
  | i + 1 => by
    rw [certT_succ, List.length_append]
    have := certT_len (r := r) (k := k) hn i
    have := @certE_len r.ws.length (LG r k) (PP r k) i (endsOf r.ws.length (LG r k) i)
    have := ends_len r k i
    omega
abbrev ceD (x : Ce) : Dt := .tup [.int x.1, .int x.2.1, .int x.2.2.1, optD x.2.2.2]
def ap_cert (m : Addr) : AP := fun as Post => ∃ (r : Row) (k : Key), as = [.val r.dt, .val (k.ob m)] ∧ (RowOk r ∧ KeyT k) ∧ Post (.new ((certL r.ws.length (LG r k) (PP r k)).map ceD)) as
section
variable {K : PySem.W.Frag} {c m cL cB : Addr} {w : World}
theorem run_cert (T : LTok K cL) : RunOk K [] (tq_line_certificate K w cL (ai_LT m w) (ap_bp cL m w) (ap_bc cL m w)) 10 (ap_cert m) := by
  rintro as Post ⟨r, k, rfl, ⟨ok, kt⟩, p⟩
  have n2 := T.boxes; have n5 := T.ends_from; have cl := T.cl.cl
  have on := ok.n
  unfold tq_line_certificate
  show WS K [] _ [.val r.dt, .val (k.ob m), .un, .un, .un, .un, .un, .un, .un, .un] _
  walk_at "gi"
  refine .a ⟨r, k, rfl, ok, kt, fun kvs hg => ?_⟩
  have tk : TOk r k kvs := ⟨ok, kt, hg⟩
  walk_at "gi"
  refine .a ⟨r, k, kvs, rfl, tk, fun ps hps => ?_⟩
  walk_at "gi"
  refine .a ⟨r, k, kvs, rfl, tk, fun bs hbs => ?_⟩
  walk_at "gx"
  refine ws_seq ?_
  walk_at "gx"
  refine ws_seq ?_
  refine for_range1H ?_
  walk_at "gi"
  refine .a ⟨(r.ws.length : Int), rfl, by omega, by omega, fun i G => ∃ (s6 s7 s8 s9 : Sl), G = [.val r.dt, .val (k.ob m), .val (ltD cL m w r k kvs), .cel (.dN w ps), .cel (.dN w bs), .acc ((certT r.ws.length (LG r k) (PP r k) i).map ceD), s6, s7, s8, s9], ⟨_, _, _, _, rfl⟩, ?_, ?_⟩
  · rintro i G hi ⟨s6, s7, s8, s9, rfl⟩
    have hi' : i < r.ws.length := by omega
    have hef := ef_at (k := k) hi'
    have hel := ends_len r k i
    walk_at "gx"
    refine for_lstT (endsOf r.ws.length (LG r k) i) epD (fun j G => ∃ (s7 s8 s9 : Sl), G = [.val r.dt, .val (k.ob m), .val (ltD cL m w r k kvs), .cel (.dN w ps), .cel (.dN w bs), .acc ((certT r.ws.length (LG r k) (PP r k) i ++ certE r.ws.length (LG r k) (PP r k) i ((endsOf r.ws.length (LG r k) i).take j)).map ceD), .val (.int i), s7, s8, s9]) ?_ ?_ ?_
    · walk_at "gi"
      exact .a ⟨rfl, _, _, _, by rw [List.take_zero, show certE r.ws.length (LG r k) (PP r k) i [] = [] from rfl, List.append_nil]⟩
    · rintro j ⟨e, pr⟩ G hj ⟨s7, s8, s9, rfl⟩
      have htk : (endsOf r.ws.length (LG r k) i).take (j + 1) = (endsOf r.ws.length (LG r k) i).take j ++ [(e, pr)] := by rw [List.take_add_one, hj]; rfl
      have hjl := (List.getElem?_eq_some_iff.mp hj).1
      have hme := mem_ends.mp (List.mem_of_getElem? hj)
      have hL : LG r k i e = some pr := hme.2.2
      have hcl : ((certT r.ws.length (LG r k) (PP r k) i ++ certE r.ws.length (LG r k) (PP r k) i ((endsOf r.ws.length (LG r k) i).take j)).map ceD).length < 1000000 := by
        rw [List.length_map, List.length_append]
        have := certT_len (r := r) (k := k) on i
        have := @certE_len r.ws.length (LG r k) (PP r k) i ((endsOf r.ws.length (LG r k) i).take j)
        rw [List.length_take] at this
        omega
      rw [htk]
      rcases hps i e pr hL with ⟨es, tt, hpe, hv⟩ | ⟨hno, hv⟩
      · have hr : Rch (LG r k) (PP r k) i (e, pr).1 := ⟨es, tt, hpe.is_⟩
        rw [certE_yes hr]
        walk_at "gi"
        refine .a ⟨ps, pk i e, rfl, congrArg Re.val (dtN_pk i e), ⟨_, rfl⟩, pk_depth _ _, ?_⟩
        rw [hv]
        walk_at "gi"
        walk_at "nn"
        refine .a ⟨bs, pk i e, rfl, congrArg Re.val (dtN_pk i e), ⟨_, rfl⟩, pk_depth _ _, ?_⟩
        rcases hbs i e pr hL with ⟨es2, t2, hb2, hv2⟩ | ⟨hno2, hv2⟩
        · rw [hv2, restB_some hb2, ← List.append_assoc, List.map_append (l₂ := [_])]
          walk_at "gi"
          walk_at "nn"
          refine .a ⟨bs, pk i e, _, rfl, congrArg Re.val (dtN_pk i e), ⟨_, rfl⟩, pk_depth _ _, hv2, ?_⟩
          walk_at "gi"
          exact .a ⟨_, _, _, rfl⟩
        · rw [hv2, restB_none hno2, ← List.append_assoc, List.map_append (l₂ := [_])]
          walk_at "gi"
          walk_at "nn"
          exact .a ⟨_, _, _, rfl⟩
      · have hr : ¬ Rch (LG r k) (PP r k) i (e, pr).1 := fun ⟨es, t, h⟩ => hno es t h
        rw [certE_no hr]
        walk_at "gi"
        refine .a ⟨ps, pk i e, rfl, congrArg Re.val (dtN_pk i e), ⟨_, rfl⟩, pk_depth _ _, ?_⟩
        rw [hv]
        walk_at "gi"
        walk_at "nn"
        exact .a ⟨_, _, _, rfl⟩
    · rintro G ⟨s7, s8, s9, rfl⟩
      rw [List.take_length, ← certT_succ]
      exact .a ⟨_, _, _, _, rfl⟩
  · rintro G ⟨s6, s7, s8, s9, rfl⟩
    walk_at "gi"
    exact p
end
end
section
open PySem L2 Ab PySem.W
theorem ok_nats : ∀ es : List Nat, okAll (es.map nD) = true
  | [] => by simp [okAll]
  | e :: es => by
    have := ok_nats es
    rw [List.map_cons, okAll, this]
    simp [okD]
theorem dep_nats : ∀ es : List Nat, depAll (es.map nD) ≤ 1
  | [] => by simp [depAll]
  | e :: es => by
    have := dep_nats es
    rw [List.map_cons, depAll]
    simp [depD]
    omega
theorem ok_br (t : Int) (es : List Nat) (h : es.length ≤ 1000) : okD (.lst [brD t es, .non]) = true := by
  have := ok_nats es
  simp [brD, okD, okAll, this]
  omega
theorem dep_br (t : Int) (es : List Nat) : depD (.lst [brD t es, .non]) ≤ 4 := by
  have := dep_nats es
  simp [brD, depD, depAll]
  omega
section
variable {K : PySem.W.Frag} {c m cB : Addr} {w : World}
end
end
section
open PySem L2 Ab PySem.W
def Jt.up (f : Int) : Jt → Jt
  | .hy a b => .hy (f * a) (f * b)
  | .gap w s h => .gap (f * w) (f * s) (f * h)
def G3.up (f : Int) (g : G3) : G3 := ⟨f * g.w, f * g.s, f * g.h⟩
def Row.up (f : Int) (r : Row) : Row := ⟨r.ws.map (fun x => f * x), r.js.map (Jt.up f)⟩
def Key.up (f : Int) (k : Key) : Key := ⟨f * k.w, f * k.i, k.b, k.hy, k.tw, k.ri, k.lo⟩
section
variable {f : Int} {r : Row} {k : Key}
theorem up_W (i : Nat) : (r.up f).W i = f * r.W i := by
  unfold Row.W Row.up
  rw [List.getD_eq_getElem?_getD, List.getD_eq_getElem?_getD, List.getElem?_map]
  cases r.ws[i]? with
  | none => simp
  | some x => rfl
theorem up_J (i : Nat) : (r.up f).J i = (r.J i).up f := by
  unfold Row.J Row.up
  rw [List.getD_eq_getElem?_getD, List.getD_eq_getElem?_getD, List.getElem?_map]
  cases r.js[i]? with
  | none => simp [Jt.up]
  | some x => rfl
theorem up_g (j : Jt) : (j.up f).g = j.g.up f := by
  cases j <;> simp [Jt.up, Jt.g, G3.up, Int.mul_neg]
theorem up_hy (j : Jt) : (j.up f).isHy = j.isHy := by cases j <;> rfl
theorem up_hw (j : Jt) : (j.up f).hyW = f * j.hyW := by cases j <;> simp [Jt.up, Jt.hyW]
theorem up_n : (r.up f).ws.length = r.ws.length := List.length_map _
theorem up_hyE (e : Nat) : (r.up f).hyE e = r.hyE e := by
  unfold Row.hyE
  rw [up_n, up_J, up_hy]
theorem sum_up (g h : Nat → Int) (e : ∀ i, g i = f * h i) : ∀ n, sumTo n g = f * sumTo n h
  | 0 => (Int.mul_zero f).symm
  | n + 1 => by
    show sumTo n g + g n = f * (sumTo n h + h n)
    rw [sum_up g h e n, e n, Int.mul_add]
theorem up_line (s e : Nat) : lineG (r.up f) s e = (lineG r s e).up f := by
  have e1 : ∀ n, inn (r.up f) s n = (inn r s n).up f := fun n => by
    unfold inn G3.up
    rw [sum_up _ _ (fun i => up_W (s + i)) (n + 1), sum_up (fun i => ((r.up f).J (s + i)).g.w) (fun i => (r.J (s + i)).g.w) (fun i => by rw [up_J, up_g]; rfl) n,
      sum_up (fun i => ((r.up f).J (s + i)).g.s) (fun i => (r.J (s + i)).g.s) (fun i => by rw [up_J, up_g]; rfl) n, sum_up (fun i => ((r.up f).J (s + i)).g.h) (fun i => (r.J (s + i)).g.h) (fun i => by rw [up_J, up_g]; rfl) n]
    simp only [Int.mul_add]
  unfold lineG fin
  rw [up_hyE, e1]
  by_cases h : r.hyE e = true
  · rw [if_pos h, if_pos h, up_J, up_hw]
    simp [G3.add, G3.up, Int.mul_add]
  · rw [if_neg h, if_neg h]
theorem up_room (s : Nat) : roomOf s (k.up f) = f * roomOf s k := by
  unfold roomOf Key.up
  by_cases h : s = 0
  · rw [if_pos h, if_pos h]; simp [Int.mul_sub]
  · rw [if_neg h, if_neg h]
theorem up_sq (hf : 0 < f) (x y : Int) : 100 * (f * x) * (f * x) / (f * y * (f * y)) = 100 * x * x / (y * y) := by
  rw [show 100 * (f * x) * (f * x) = (f * f) * (100 * x * x) by rw [Int.mul_left_comm 100 f x, Int.mul_assoc, Int.mul_left_comm (100 * x) f x, ← Int.mul_assoc, Int.mul_assoc 100 x x],
    show f * y * (f * y) = (f * f) * (y * y) by rw [Int.mul_assoc, Int.mul_left_comm y f y, ← Int.mul_assoc]]
  exact Int.mul_ediv_mul_of_pos _ _ (Int.mul_pos hf hf)
theorem up_lt (hf : 0 < f) (x y : Int) : (f * x < f * y) = (x < y) := propext ⟨fun h => Int.lt_of_mul_lt_mul_left h (Int.le_of_lt hf), fun h => Int.mul_lt_mul_of_pos_left h hf⟩
theorem up_both (hf : 0 < f) (g : G3) (room : Int) (la : Bool) (lo : Int) : bothP (g.up f) (f * room) la lo = bothP g room la lo := by
  unfold bothP G3.up
  dsimp only
  have h0 : ∀ x, (f * x < 0) = (x < 0) := fun x => by have := up_lt hf x 0; rwa [Int.mul_zero] at this
  have hz : ∀ x, (f * x = 0) = (x = 0) := fun x => propext ⟨fun h => (Int.mul_eq_zero.mp h).elim (fun z => by omega) id, fun h => by rw [h, Int.mul_zero]⟩
  rw [← Int.mul_sub, up_sq hf, up_sq hf, Int.mul_left_comm lo f g.s]
  simp only [h0, hz, ← Int.mul_neg, up_lt hf]
theorem up_left (hf : 0 < f) (g : G3) (room : Int) (la : Bool) : leftP (g.up f) (f * room) la = leftP g room la := by
  unfold leftP G3.up
  dsimp only
  have h0 : ∀ x, (f * x < 0) = (x < 0) := fun x => by have := up_lt hf x 0; rwa [Int.mul_zero] at this
  rw [← Int.mul_sub, up_sq hf]
  simp only [h0]
theorem up_LG (hf : 0 < f) : LG (r.up f) (k.up f) = LG r k := by
  funext s e
  unfold LG priceL priceG plainP
  rw [up_n, up_line, up_room, up_both hf, up_left hf, up_hyE]
  rfl
theorem up_PP (hr : k.ri = 0) (s m e : Nat) : pairP (r.up f) s m e (k.up f) = pairP r s m e k := by
  have h1 : (k.up f).ri = 0 := hr
  unfold pairP pairC
  rw [up_hyE, up_hyE, h1, hr]
  rfl
theorem up_row (ok : RowOk r) (hf : 1 ≤ f) (hw : ∀ i, i < r.ws.length → f * r.W i ≤ 5000) (hj : ∀ i, i < r.js.length → match r.J i with | .hy a _ => f * a ≤ 500 | .gap w s _ => f * w ≤ 500 ∧ f * s ≤ 500) : RowOk (r.up f) := by
  have e1 : (r.up f).js.length = r.js.length := List.length_map _
  have pos : ∀ x, 1 ≤ x → 1 ≤ f * x := fun x h => by have := Int.mul_pos (show 0 < f by omega) (show 0 < x by omega); omega
  have nn : ∀ x, 0 ≤ x → 0 ≤ f * x := fun x h => Int.mul_nonneg (by omega) h
  have mo : ∀ x y, x < y → f * x < f * y := fun x y h => Int.mul_lt_mul_of_pos_left h (by omega)
  refine ⟨by rw [e1, up_n]; exact ok.len, by rw [up_n]; exact ok.n, fun i hi => ?_, fun i hi => ?_⟩
  · rw [up_n] at hi
    rw [up_W]
    exact ⟨pos _ (ok.w i hi).1, hw i hi⟩
  · rw [e1] at hi
    rw [up_J, up_W, up_W]
    have h := ok.j i hi
    have h2 := hj i hi
    cases hq : r.J i with
    | hy a b =>
      rw [hq] at h h2
      exact ⟨pos _ h.1, h2, nn _ h.2.2.1, mo _ _ h.2.2.2.1, mo _ _ h.2.2.2.2⟩
    | gap w s q =>
      rw [hq] at h h2
      exact ⟨pos _ h.1, h2.1, nn _ h.2.2.1, h2.2, nn _ h.2.2.2.2.1, mo _ _ h.2.2.2.2.2⟩
end
theorem stretch_congr {r r' : Row} {k k' : Key} (hn : r'.ws.length = r.ws.length) (hL : LG r' k' = LG r k) (hP : PP r' k' = PP r k) : stretch r' k' = stretch r k := by
  have h1 : frs r' k' = frs r k := by
    funext i
    unfold frs farV
    rw [hn, hL, hP]
  unfold stretch
  rw [h1, hn]
def Out3 (r : Row) (k : Key) (ds : List Dt) : Prop :=
  (∃ a b : Nat, (a < b ∧ b ≤ r.ws.length) ∧ stretch r k = some (a, b) ∧ (∀ es, tailP r.ws.length (LG r k) (PP r k) none 0 es = none) ∧ ds = [.non, .tup [.int a, .int b]]) ∨
  ∃ es t, IsBest r.ws.length (LG r k) (PP r k) none 0 es t ∧ ds = [brD t es, .non]
theorem out3_one {r : Row} {k : Key} {ds es : List Dt} (h1 : Out3 r k ds) (h2 : Out3 r k es) : ds = es := by
  rcases h1 with ⟨a, b, _, hs, hn, rfl⟩ | ⟨xs, t, hb, rfl⟩
  · rcases h2 with ⟨a', b', _, hs', _, rfl⟩ | ⟨ys, t', hb', rfl⟩
    · rw [hs] at hs'; cases hs'; rfl
    · have h := hb'.is_; rw [hn] at h; cases h
  · rcases h2 with ⟨a', b', _, _, hn, rfl⟩ | ⟨ys, t', hb', rfl⟩
    · have h := hb.is_; rw [hn] at h; cases h
    · obtain ⟨e1, e2⟩ := hb.one hb'
      rw [e1, e2]
theorem ok_out3 {r : Row} {k : Key} {ds : List Dt} (ok : RowOk r) (h : Out3 r k ds) : okD (.lst ds) = true ∧ depD (.lst ds) ≤ 4 := by
  rcases h with ⟨a, b, _, _, _, rfl⟩ | ⟨es, t, hb, rfl⟩
  · exact ⟨by simp [okD, okAll], by simp [depD, depAll]⟩
  · have := tail_len (Nat.zero_le _) hb.is_
    have := ok.n
    exact ⟨ok_br t es (by omega), dep_br t es⟩
theorem out3_congr {r r' : Row} {k k' : Key} (hn : r'.ws.length = r.ws.length) (hL : LG r' k' = LG r k) (hP : PP r' k' = PP r k) {ds : List Dt} (h : Out3 r' k' ds) : Out3 r k ds := by
  unfold Out3 at h ⊢
  rw [stretch_congr hn hL hP, hn, hL, hP] at h
  exact h
theorem up_PPf {f : Int} {r : Row} {k : Key} (hr : k.ri = 0) : PP (r.up f) (k.up f) = PP r k := by
  funext s m e
  exact up_PP hr s m e
theorem ok_cert : ∀ xs : List Ce, okAll (xs.map ceD) = true
  | [] => by simp [okAll]
  | x :: xs => by
    have := ok_cert xs
    obtain ⟨a, b, p, q⟩ := x
    rw [List.map_cons, okAll, this]
    cases q <;> simp [okD, okAll, optD]
theorem dep_cert : ∀ xs : List Ce, depAll (xs.map ceD) ≤ 1
  | [] => by simp [depAll]
  | x :: xs => by
    have := dep_cert xs
    obtain ⟨a, b, p, q⟩ := x
    rw [List.map_cons, depAll]
    cases q <;> simp [depD, depAll, optD] <;> omega
theorem ok_certL {r : Row} {k : Key} (ok : RowOk r) : okD (.lst ((certL r.ws.length (LG r k) (PP r k)).map ceD)) = true ∧ depD (.lst ((certL r.ws.length (LG r k) (PP r k)).map ceD)) ≤ 4 := by
  have h1 := ok_cert (certL r.ws.length (LG r k) (PP r k))
  have h2 := dep_cert (certL r.ws.length (LG r k) (PP r k))
  have h3 := certT_len (r := r) (k := k) ok.n r.ws.length
  have h4 := ok.n
  constructor
  · rw [okD, h1, List.length_map]
    unfold certL
    rw [decide_eq_true (by omega)]
    rfl
  · rw [depD]; omega
theorem mn_all {a x y : Int} (ha : 0 ≤ a) (hx : 0 ≤ x) (hy : 0 < y) : 0 ≤ (if x / y < a then x / y else a) ∧ (if x / y < a then x / y else a) ≤ a ∧ (if x / y < a then x / y else a) * y ≤ x := by
  have h1 : 0 ≤ x / y := Int.ediv_nonneg hx (Int.le_of_lt hy)
  have h2 : x / y * y ≤ x := Int.ediv_mul_le x (by omega)
  by_cases c : x / y < a
  · rw [if_pos c]; exact ⟨h1, by omega, h2⟩
  · rw [if_neg c]
    exact ⟨ha, by omega, Int.le_trans (Int.mul_le_mul_of_nonneg_right (by omega) (Int.le_of_lt hy)) h2⟩
theorem mul_mono {a b x y : Int} (h : a ≤ b) (hx : 0 ≤ x) (hb : b * x ≤ y) : a * x ≤ y := Int.le_trans (Int.mul_le_mul_of_nonneg_right h hx) hb
def AJ (a : Int) : Jt → Prop
  | .hy x _ => a * x ≤ 500
  | .gap w s _ => a * w ≤ 500 ∧ a * s ≤ 500
end
section
open PySem L2 Ab
def tq_bare41 (K : PySem.W.Frag) (ap__law_take : AP) (ap__law_joint : AP) : TS :=
    (tSeq (tAsg (tCB rMx2 (tCons (tCB rInt1 (tCons (tVar 1) tNil)) (tCons (tCall (toSp K ap__law_take) [] E0 (tCons (tVar 0) (tCons (tC (.int 9)) tNil))) tNil))) (gName 3))
    (tSeq (tIfS (tTest (tOp (rEqG K) (tCall (toSp K ap__law_take) [] E0 (tCons (tVar 0) (tCons (tVar 2) tNil))) (tOp rSubI (tVar 2) (tC (.int 1))))) (tAsg (tCB rMx2 (tCons (tCB rInt1 (tCons (tVar 1) tNil)) (tCons (tCall (toSp K ap__law_take) [] E0 (tCons (tVar 0) (tCons (tC (.int 41)) tNil))) tNil))) (gName 3)) tNext)
    (tSeq (tAsg (tCB rInt1 (tCons (tOp (rEqG K) (tCall (toSp K ap__law_take) [] E0 (tCons (tVar 0) (tCons (tC (.int 8)) tNil))) (tC (.int 7))) tNil)) (gName 4))
    (tSeq (tAsg (tOp (rIx K) (tLst (tCons (tC (.int 0)) (tCons (tC (.int 0)) (tCons (tC (.int 1)) (tCons (tC (.int 2)) tNil))))) (tCall (toSp K ap__law_take) [] E0 (tCons (tVar 0) (tCons (tC (.int 4)) tNil)))) (gName 5))
    (tSeq (tAsg (tLst tNil) (gName 6))
    (tSeq (tFor (iRng1 (tCons (tVar 3) tNil)) (gName 7) (tIfS (tTest (tChain rLtI rLeI (tC (.int 0)) (tVar 5) (tVar 7))) (tDrop (tBM K "list" rAppend (tVar 6) (tCons (tOp (rIx K) (tVar 6) (tOp rSubI (tVar 7) (tVar 5))) tNil))) (tDrop (tBM K "list" rAppend (tVar 6) (tCons (tOp (rAddG K) (tC (.int 1)) (tCall (toSp K ap__law_take) [] E0 (tCons (tVar 0) (tCons (tOp (rIx K) (tLst (tCons (tC (.int 40)) (tCons (tC (.int 5000)) tNil))) (tVar 4)) tNil)))) tNil)))))
    (tSeq (tAsg (tLst tNil) (gName 8))
    (tSeq (tFor (iRng1 (tCons (tOp rSubI (tVar 3) (tC (.int 1))) tNil)) (gName 7) (tIfS (tTest (tChain rLtI rLeI (tC (.int 0)) (tVar 5) (tVar 7))) (tDrop (tBM K "list" rAppend (tVar 8) (tCons (tOp (rIx K) (tVar 8) (tOp rSubI (tVar 7) (tVar 5))) tNil))) (tSeq (tAsg (tCB rMn2 (tCons (tCB rInt1 (tCons (tOp (rIx K) (tVar 6) (tVar 7)) tNil)) (tCons (tCB rInt1 (tCons (tOp (rIx K) (tVar 6) (tOp (rAddG K) (tVar 7) (tC (.int 1)))) tNil)) tNil))) (gName 9))
    (tDrop (tBM K "list" rAppend (tVar 8) (tCons (tCall (toSp K ap__law_joint) [] E0 (tCons (tVar 0) (tCons (tVar 9) (tCons (tVar 4) tNil)))) tNil))))))
    (tRet (tTup (tCons (tCB (rTupleOf K) (tCons (tVar 6) tNil)) (tCons (tCB (rTupleOf K) (tCons (tVar 8) tNil)) tNil))))))))))))
def tq_line_key40 (K : PySem.W.Frag) (ap__law_take : AP) (ap__law_glue : AP) : TS :=
    (tSeq (tAsg (tLc (iTup K (tOp (rIx K) (tVar 1) (tC (.int 1)))) (gName 15) (tTest (tOp (rEqG K) (tOp (rIx K) (tVar 15) (tC (.int 0))) (tC (.str "gap")))) (tOp (rIx K) (tVar 15) (tC (.int 1))) [15]) (gName 2))
    (tSeq (tAsg (tOp (rAddG K) (tCB (rSumG K) (tCons (tOp (rIx K) (tVar 1) (tC (.int 0))) tNil)) (tCB (rSumG K) (tCons (tVar 2) tNil))) (gName 3))
    (tSeq (tAsg (tCall (toSp K ap__law_take) [] E0 (tCons (tVar 0) (tCons (tC (.int 8)) tNil))) (gName 4))
    (tSeq (tAsg (tOp (rAddG K) (tC (.int 5)) (tCall (toSp K ap__law_take) [] E0 (tCons (tVar 0) (tCons (tC (.int 150)) tNil)))) (gName 5))
    (tSeq (tIfS (tTest (tOp (rInG K) (tVar 4) (tLst (tCons (tC (.int 2)) (tCons (tC (.int 4)) (tCons (tC (.int 5)) (tCons (tC (.int 6)) tNil))))))) (tAsg (tOp (rAddG K) (tOp rDivI (tVar 3) (tVar 4)) (tCall (toSp K ap__law_take) [] E0 (tCons (tVar 0) (tCons (tC (.int 24)) tNil)))) (gName 5)) tNext)
    (tSeq (tIfS (tAnd (tTest (tOp (rInG K) (tVar 4) (tLst (tCons (tC (.int 1)) (tCons (tC (.int 3)) tNil))))) (tTest (tOp rGtI (tCB (rLenV K) (tCons (tOp (rIx K) (tVar 1) (tC (.int 0))) tNil)) (tC (.int 0))))) (tSeq (tAsg (tCall (toSp K ap__law_take) [] E0 (tCons (tVar 0) (tCons (tCB (rLenV K) (tCons (tOp (rIx K) (tVar 1) (tC (.int 0))) tNil)) tNil))) (gName 6))
    (tSeq (tAsg (tOp (rAddG K) (tOp (rAddG K) (tVar 6) (tC (.int 1))) (tCall (toSp K ap__law_take) [] E0 (tCons (tVar 0) (tCons (tOp rSubI (tCB (rLenV K) (tCons (tOp (rIx K) (tVar 1) (tC (.int 0))) tNil)) (tVar 6)) tNil)))) (gName 7))
    (tAsg (tOp (rIx K) (tCall (toSp K ap__law_glue) [] E0 (tCons (tVar 1) (tCons (tVar 6) (tCons (tVar 7) tNil)))) (tC (.int 0))) (gName 5)))) tNext)
    (tSeq (tIfS (tTest (tOp (rEqG K) (tVar 4) (tC (.int 7)))) (tAsg (tOp (rAddG K) (tC (.int 1)) (tCall (toSp K ap__law_take) [] E0 (tCons (tVar 0) (tCons (tC (.int 10500)) tNil)))) (gName 5)) tNext)
    (tSeq (tAsg (tOp (rIx K) (tLst (tCons (tC (.int 1)) (tCons (tC (.int 1)) (tCons (tC (.int 12)) (tCons (tC (.int 100)) tNil))))) (tCall (toSp K ap__law_take) [] E0 (tCons (tVar 0) (tCons (tC (.int 4)) tNil)))) (gName 8))
    (tSeq (tAsg (tCall (toSp K ap__law_take) [] E0 (tCons (tVar 0) (tCons (tVar 8) tNil))) (gName 9))
    (tSeq (tAsg (tOp (rIx K) (tLst (tCons (tC (.str "both")) (tCons (tC (.str "both")) (tCons (tC (.str "left")) tNil)))) (tCall (toSp K ap__law_take) [] E0 (tCons (tVar 0) (tCons (tC (.int 3)) tNil)))) (gName 10))
    (tSeq (tAsg (tOp (rMulG K) (tC (.int 25)) (tCall (toSp K ap__law_take) [] E0 (tCons (tVar 0) (tCons (tC (.int 4)) tNil)))) (gName 11))
    (tSeq (tAsg (tOp (rMulG K) (tC (.int 50)) (tCall (toSp K ap__law_take) [] E0 (tCons (tVar 0) (tCons (tC (.int 4)) tNil)))) (gName 12))
    (tSeq (tIfS (tTest (tOp (rEqG K) (tCall (toSp K ap__law_take) [] E0 (tCons (tVar 0) (tCons (tC (.int 8)) tNil))) (tC (.int 7)))) (tSeq (tAsg (tCall (toSp K ap__law_take) [] E0 (tCons (tVar 0) (tCons (tC (.int 10000)) tNil))) (gName 11))
    (tAsg (tCall (toSp K ap__law_take) [] E0 (tCons (tVar 0) (tCons (tC (.int 10000)) tNil))) (gName 12))) tNext)
    (tSeq (tAsg (tCall (toSp K ap__law_take) [] E0 (tCons (tVar 0) (tCons (tC (.int 4)) tNil))) (gName 13))
    (tSeq (tAsg (tCall (toSp K ap__law_take) [] E0 (tCons (tVar 0) (tCons (tC (.int 4)) tNil))) (gName 14))
    (tSeq (tIfS (tTest (tOp (rEqG K) (tCall (toSp K ap__law_take) [] E0 (tCons (tVar 0) (tCons (tC (.int 8)) tNil))) (tC (.int 7)))) (tSeq (tAsg (tCall (toSp K ap__law_take) [] E0 (tCons (tVar 0) (tCons (tC (.int 10)) tNil))) (gName 13))
    (tAsg (tCall (toSp K ap__law_take) [] E0 (tCons (tVar 0) (tCons (tC (.int 10)) tNil))) (gName 14))) tNext)
    (tSeq (tIfS (tAnd (tTest (tOp rGtI (tCB (rLenV K) (tCons (tOp (rIx K) (tVar 1) (tC (.int 0))) tNil)) (tC (.int 12)))) (tTest (tOp rGtI (tCall (toSp K ap__law_take) [] E0 (tCons (tVar 0) (tCons (tC (.int 8)) tNil))) (tC (.int 0))))) (tAsg (tC (.int 0)) (gName 13)) tNext)
    (tRet (tTup (tCons (tCB rMn2 (tCons (tC (.int 10500)) (tCons (tCB rMx2 (tCons (tC (.int 1)) (tCons (tVar 5) tNil))) tNil))) (tCons (tVar 9) (tCons (tVar 10) (tCons (tVar 11) (tCons (tVar 12) (tCons (tVar 13) (tCons (tVar 14) tNil))))))))))))))))))))))))))
section
variable {K : PySem.W.Frag} {c m : Addr}
theorem run_bare41 (as : List Sl) (Post : Re → List Sl → Prop) (h : ap_bare as Post) : WS K [0] (tq_bare41 K ap_take ap_joint) (as ++ List.replicate (10 - as.length) .un) ⟨fun G => Post (.val .non) (exitArgs [0] G as), fun r G => Post r (exitArgs [0] G as), fun _ => False, fun _ => False, .no⟩ := by
  obtain ⟨ds, c, m, o, rfl, h0, c0, c1, m1, m2, o1, o2, k⟩ := h
  unfold tq_bare41
  show WS K [0] _ [.acc ds, .val (.int m), .val (.int o), .un, .un, .un, .un, .un, .un, .un] _
  refine ws_seq ?_
  walk_at "xs"
  refine .a ⟨ds, c, 9, rfl, h0, by omega, by omega, by omega, by omega, fun d1 g1 h1 g10 g11 => ?_⟩
  walk_at "xs"
  generalize hq : (if g1 > m then g1 else m) = q1
  refine ws_cut (fun G => ∃ (d2 : List Dt) (c2 : Int) (n : Nat), PoolIs c2 d2 ∧ 0 ≤ c2 ∧ c2 ≤ c + 10 ∧ m ≤ n ∧ n ≤ 100 ∧ G = [.acc d2, .val (.int m), .val (.int o), .val (.int n), .un, .un, .un, .un, .un, .un]) ?_ ?_
  · walk_at "es"
    refine .a ⟨d1, c + 1, o, rfl, h1, by omega, by omega, by omega, by omega, fun d2 g2 h2 g20 g21 => ?_⟩
    walk_at "es"
    refine ⟨fun e => ?_, fun e => ?_⟩
    · walk_at "es"
      refine .a ⟨d2, c + 1 + 1, 41, rfl, h2, by omega, by omega, by omega, by omega, fun d3 g3 h3 g30 g31 => ?_⟩
      walk_at "es"
      generalize hq3 : (if g3 > m then g3 else m) = q3
      have : m ≤ q3 ∧ q3 ≤ 100 := by rw [← hq3]; split <;> omega
      exact .a ⟨d3, _, q3.toNat, h3, by omega, by omega, by omega, by omega, by rw [show (q3.toNat : Int) = q3 by omega]⟩
    · walk_at "es"
      have : m ≤ q1 ∧ q1 ≤ 100 := by rw [← hq]; split <;> omega
      exact .a ⟨d2, _, q1.toNat, h2, by omega, by omega, by omega, by omega, by rw [show (q1.toNat : Int) = q1 by omega]⟩
  · rintro G ⟨d2, c2, n, h2, c20, c21, n1, n2, rfl⟩
    refine ws_seq ?_
    walk_at "xs"
    refine .a ⟨d2, c2, 8, rfl, h2, by omega, by omega, by omega, by omega, fun d3 g3 h3 g30 g31 => ?_⟩
    walk_at "xs"
    obtain ⟨br, hbr, br0, br1⟩ : ∃ b : Int, (if decide (g3 = 7) = true then (1 : Int) else 0) = b ∧ 0 ≤ b ∧ b ≤ 1 := ⟨_, rfl, by split <;> omega, by split <;> omega⟩
    rw [hbr]
    obtain ⟨u1, hu1, e1⟩ := at_two (a := 40) (b := 5000) br0 br1
    refine ws_seq ?_
    walk_at "xs"
    refine .a ⟨d3, c2 + 1, 4, rfl, h3, by omega, by omega, by omega, by omega, fun d4 g4 h4 g40 g41 => ?_⟩
    obtain ⟨p, hp, ep⟩ : ∃ p : Nat, p ≤ 2 ∧ atI [Dt.int 0, Dt.int 0, Dt.int 1, Dt.int 2] g4 = some (.int p) := by
      rcases (show g4 = 0 ∨ g4 = 1 ∨ g4 = 2 ∨ g4 = 3 by omega) with rfl | rfl | rfl | rfl
      · exact ⟨0, by omega, rfl⟩
      · exact ⟨0, by omega, rfl⟩
      · exact ⟨1, by omega, rfl⟩
      · exact ⟨2, by omega, rfl⟩
    walk_at "xs"
    refine ws_seq ?_
    walk_at "xs"
    have hn : (n : Int) < 1000 := by omega
    refine ws_cut (fun G => ∃ (d5 : List Dt) (c5 : Int) (ws : List Int) (s7 : Sl), PoolIs c5 d5 ∧ 0 ≤ c5 ∧ c5 ≤ c + 200 ∧ ws.length = n ∧ (∀ w ∈ ws, 1 ≤ w ∧ w ≤ 5000) ∧ (0 < p → ∀ i, p ≤ i → i < n → ws.getD i 0 = ws.getD (i - p) 0) ∧ G = [.acc d5, .val (.int m), .val (.int o), .val (.int n), .val (.int br), .val (.int p), .acc (ws.map Dt.int), s7, .un, .un]) ?_ ?_
    · refine for_range1 (n : Int) (fun i G => ∃ (d5 : List Dt) (c5 : Int) (ws : List Int) (s7 : Sl), PoolIs c5 d5 ∧ 0 ≤ c5 ∧ c5 ≤ c2 + 2 + i ∧ ws.length = i ∧ (∀ w ∈ ws, 1 ≤ w ∧ w ≤ 5000) ∧ (0 < p → ∀ j, p ≤ j → j < i → ws.getD j 0 = ws.getD (j - p) 0) ∧ G = [.acc d5, .val (.int m), .val (.int o), .val (.int n), .val (.int br), .val (.int p), .acc (ws.map Dt.int), s7, .un, .un]) ?_ ?_ ?_
      · walk_at "es"
        exact .a ⟨rfl, by omega, by omega, d4, _, [], .un, h4, by omega, by omega, rfl, (fun _ h => nomatch h), (fun _ j _ h => absurd h (by omega)), rfl⟩
      · rintro i G hi ⟨d5, c5, ws, s7, h5, c50, c51, wl, hw, hper, rfl⟩
        have hll : (ws.map Dt.int).length < 1000000 := by rw [List.length_map]; omega
        have per : ∀ w, (0 < p → p ≤ i → w = ws.getD (i - p) 0) → (0 < p → ∀ j, p ≤ j → j < i + 1 → (ws ++ [w]).getD j 0 = (ws ++ [w]).getD (j - p) 0) := fun w hwp pp j h1 h2 => by
          have e1 : (ws ++ [w]).getD (j - p) 0 = ws.getD (j - p) 0 := by
            simp only [List.getD_eq_getElem?_getD]; rw [List.getElem?_append_left (by omega)]
          rw [e1]
          by_cases hj : j < i
          · rw [← hper pp j h1 hj]
            simp only [List.getD_eq_getElem?_getD]; rw [List.getElem?_append_left (by omega)]
          · have : j = i := by omega
            subst this
            rw [← hwp pp h1]
            simp only [List.getD_eq_getElem?_getD]; rw [List.getElem?_append_right (by omega), wl, Nat.sub_self]; rfl
        by_cases hc : (0 : Int) < p ∧ (p : Int) ≤ i
        · have hix : atI (ws.map Dt.int) ((i : Int) - p) = some (.int (ws.getD (i - p) 0)) := by
            rw [show ((i : Int) - p) = ((i - p : Nat) : Int) by omega]
            exact at_map (by omega) (by omega) 0
          walk_at "es"
          refine .a ⟨d5, c5, ws ++ [ws.getD (i - p) 0], .val (.int i), h5, c50, by omega, by simp [wl], fun w hw' => ?_, per _ (fun _ _ => rfl), by rw [List.map_append]; rfl⟩
          rcases List.mem_append.mp hw' with hw' | hw'
          · exact hw w hw'
          · rw [List.mem_singleton.mp hw', List.getD_eq_getElem?_getD, List.getElem?_eq_getElem (by omega)]
            exact hw _ (List.getElem_mem _)
        · have hz : (0 : Int) < p ∨ ¬ (0 : Int) < p := by omega
          rcases hz with hz | hz
          all_goals
            walk_at "es"
            refine .a ⟨d5, c5, u1, rfl, h5, by omega, by omega, by omega, by omega, fun d6 g6 h6 g60 g61 => ?_⟩
            walk_at "es"
            refine .a ⟨d6, c5 + 1, ws ++ [1 + g6], .val (.int i), h6, by omega, by omega, by simp [wl], fun w hw' => ?_, per _ (fun _ _ => absurd (by omega) hc), by rw [List.map_append]; rfl⟩
            rcases List.mem_append.mp hw' with hw' | hw'
            · exact hw w hw'
            · rw [List.mem_singleton.mp hw']; omega
      · rintro G ⟨d5, c5, ws, s7, h5, c50, c51, wl, hw, hper, rfl⟩
        exact .a ⟨d5, c5, ws, s7, h5, c50, by omega, by omega, hw, fun hp i h1 h2 => hper hp i h1 (by omega), rfl⟩
    · rintro G ⟨d5, c5, ws, s7, h5, c50, c51, wl, hw, hper, rfl⟩
      have hwb : ∀ k, k < n → 1 ≤ ws.getD k 0 ∧ ws.getD k 0 ≤ 5000 := fun k hk => by
        rw [List.getD_eq_getElem?_getD, List.getElem?_eq_getElem (by omega)]
        exact hw _ (List.getElem_mem _)
      refine ws_seq ?_
      walk_at "xs"
      refine ws_cut (fun G => ∃ (d6 : List Dt) (js : List Jt) (s7 s9 : Sl), js.length = n - 1 ∧ (∀ i, i < n - 1 → JtOk (js.getD i (.hy 0 0)) (ws.getD i 0) (ws.getD (i + 1) 0)) ∧ G = [.acc d6, .val (.int m), .val (.int o), .val (.int n), .val (.int br), .val (.int p), .acc (ws.map Dt.int), s7, .acc (js.map Jt.dt), s9]) ?_ ?_
      · refine for_range1 ((n : Int) - 1) (fun i G => ∃ (d6 : List Dt) (c6 : Int) (js : List Jt) (s7 s9 : Sl), PoolIs c6 d6 ∧ 0 ≤ c6 ∧ c6 ≤ c + 200 + 4 * i ∧ js.length = i ∧ (∀ j, j < i → JtOk (js.getD j (.hy 0 0)) (ws.getD j 0) (ws.getD (j + 1) 0)) ∧ G = [.acc d6, .val (.int m), .val (.int o), .val (.int n), .val (.int br), .val (.int p), .acc (ws.map Dt.int), s7, .acc (js.map Jt.dt), s9]) ?_ ?_ ?_
        · walk_at "es"
          exact .a ⟨rfl, by omega, by omega, d5, c5, [], s7, .un, h5, by omega, by omega, rfl, (fun j h => absurd h (by omega)), rfl⟩
        · rintro i G hi ⟨d6, c6, js, s7, s9, h6, c60, c61, jl, hj, rfl⟩
          have hll : (js.map Jt.dt).length < 1000000 := by rw [List.length_map]; omega
          have grow : ∀ x, JtOk x (ws.getD i 0) (ws.getD (i + 1) 0) → ∀ j, j < i + 1 → JtOk ((js ++ [x]).getD j (.hy 0 0)) (ws.getD j 0) (ws.getD (j + 1) 0) := fun x hx j h1 => by
            by_cases hji : j < i
            · have : (js ++ [x]).getD j (.hy 0 0) = js.getD j (.hy 0 0) := by simp only [List.getD_eq_getElem?_getD]; rw [List.getElem?_append_left (by omega)]
              rw [this]; exact hj j hji
            · have e : j = i := by omega
              subst e
              have : (js ++ [x]).getD j (.hy 0 0) = x := by simp only [List.getD_eq_getElem?_getD]; rw [List.getElem?_append_right (by omega), jl, Nat.sub_self]; rfl
              rw [this]; exact hx
          by_cases hc : (0 : Int) < p ∧ (p : Int) ≤ i
          · have hix : atI (js.map Jt.dt) ((i : Int) - p) = some (js.getD (i - p) (.hy 0 0)).dt := by
              rw [show ((i : Int) - p) = ((i - p : Nat) : Int) by omega]
              exact at_map (by omega) (by omega) _
            walk_at "es"
            refine .a ⟨d6, c6, js ++ [js.getD (i - p) (.hy 0 0)], .val (.int i), s9, h6, c60, by omega, by simp [jl], grow _ ?_, by rw [List.map_append]; rfl⟩
            rw [hper (by omega) i (by omega) (by omega), hper (by omega) (i + 1) (by omega) (by omega), show i + 1 - p = i - p + 1 by omega]
            exact hj _ (by omega)
          · have hz : (0 : Int) < p ∨ ¬ (0 : Int) < p := by omega
            have hi1 : atI (ws.map Dt.int) (i : Int) = some (.int (ws.getD i 0)) := at_map (by omega) (by omega) _
            have hi2 : atI (ws.map Dt.int) ((i : Int) + 1) = some (.int (ws.getD (i + 1) 0)) := by
              rw [show ((i : Int) + 1) = ((i + 1 : Nat) : Int) by omega]
              exact at_map (by omega) (by omega) _
            have b1 := hwb i (by omega)
            have b2 := hwb (i + 1) (by omega)
            rcases hz with hz | hz
            all_goals
              walk_at "es"
              obtain ⟨z, ez, z1, z2, z3, z4⟩ : ∃ z, (if ws.getD (i + 1) 0 < ws.getD i 0 then ws.getD (i + 1) 0 else ws.getD i 0) = z ∧ 1 ≤ z ∧ z ≤ 5000 ∧ z ≤ ws.getD i 0 ∧ z ≤ ws.getD (i + 1) 0 := ⟨_, rfl, by split <;> omega, by split <;> omega, by split <;> omega, by split <;> omega⟩
              rw [ez]
              refine .a ⟨d6, c6, z, br, rfl, h6, by omega, by omega, by omega, by omega, by omega, by omega, fun d7 c7 jj h7 c70 c71 hjj => ?_⟩
              walk_at "es"
              exact .a ⟨d7, c7, js ++ [jj], .val (.int i), .val (.int z), h7, by omega, by omega, by simp [jl], grow _ (hjj.min z3 z4), by rw [List.map_append]; rfl⟩
        · rintro G ⟨d6, c6, js, s7, s9, h6, c60, c61, jl, hj, rfl⟩
          exact .a ⟨d6, js, s7, s9, by omega, fun i hi => hj i (by omega), rfl⟩
      · rintro G ⟨d6, js, s7, s9, jl, hj, rfl⟩
        walk_at "es"
        exact k d6 ⟨ws, js⟩ ⟨by show js.length = ws.length - 1; omega, by show ws.length ≤ 100; omega, fun k hk => hwb k (by show k < n; rw [← wl]; exact hk), fun k hk => hj k (by rw [← jl]; exact hk)⟩ (by show m ≤ (ws.length : Int); omega) (by show ws.length ≤ 100; omega)
theorem run_lkey40 : RunOk K [0] (tq_line_key40 K ap_take ap_lglue) 16 ap_lkey := by
  rintro as Post ⟨ds, r, rfl, h0, ok, k⟩
  have ol := ok.len
  have on := ok.n
  have hl : ((r.ws.map Dt.int).length : Int) = r.ws.length := by rw [List.length_map]
  unfold tq_line_key40
  show WS K [0] _ [.acc ds, .val r.dt, .un, .un, .un, .un, .un, .un, .un, .un, .un, .un, .un, .un, .un, .un] _
  refine ws_seq ?_
  walk_at "xs"
  refine lc_tuple (r.js.map Jt.dt) (fun i es G => ∃ gs : List Int, gs.length ≤ i ∧ es = gs.map Dt.int ∧ G = [.acc ds, .val r.dt, .un, .un, .un, .un, .un, .un, .un, .un, .un, .un, .un, .un, .un, .un]) ?_ ?_ ?_
  · walk_at "xs"
    exact .a ⟨rfl, by rw [List.length_map]; omega, rfl, rfl, rfl, [], Nat.le_refl _, rfl, rfl⟩
  · rintro i d es G hd ⟨gs, gl, rfl, rfl⟩
    rw [List.getElem?_map] at hd
    obtain ⟨j, hj, rfl⟩ := Option.map_eq_some_iff.mp hd
    cases j with
    | hy a b =>
      show WT K _ [.acc ds, .val r.dt, .un, .un, .un, .un, .un, .un, .un, .un, .un, .un, .un, .un, .un, .val (.tup [.str "hyphen", .int a, .int b])] _
      walk_at "xs"
      exact .a ⟨gs, by omega, rfl, rfl⟩
    | gap x y z =>
      show WT K _ [.acc ds, .val r.dt, .un, .un, .un, .un, .un, .un, .un, .un, .un, .un, .un, .un, .un, .val (.tup [.str "gap", .int x, .int y, .int z])] _
      walk_at "xs"
      exact .a ⟨gs ++ [x], by rw [List.length_append]; simp; omega, by rw [List.map_append]; rfl, rfl⟩
  · rintro es G ⟨gs, gl, rfl, rfl⟩
    walk_at "xs"
    refine ws_seq ?_
    walk_at "xs"
    refine .a ⟨r.ws, rfl, ?_⟩
    walk_at "xs"
    refine .a ⟨gs, rfl, ?_⟩
    walk_at "xs"
    generalize r.ws.sum + gs.sum = whole
    refine ws_seq ?_
    walk_at "xs"
    walk_at "tk"
    rename_i d1 g1 h1 g10 g11
    walk_at "xs"
    refine ws_seq ?_
    walk_at "xs"
    walk_at "tk"
    rename_i d2 g2 h2 g20 g21
    walk_at "xs"
    refine ws_cut (fun G => ∃ (d3 : List Dt) (w : Int), PoolUp 10010 d3 ∧ G = [.acc d3, .val r.dt, .acc (gs.map Dt.int), .val (.int whole), .val (.int g1), .val (.int w), .un, .un, .un, .un, .un, .un, .un, .un, .un, .un]) ?_ ?_
    · walk_at "es"
      refine inI (ns := [2, 4, 5, 6]) rfl ?_
      walk_at "es"
      refine ⟨fun h => ?_, fun h => ?_⟩
      · have hm := of_decide_eq_true h
        simp only [List.mem_cons, List.mem_nil_iff, or_false, List.not_mem_nil] at hm
        walk_at "es"
        walk_at "tk"
        rename_i d3 g3 h3 g30 g31
        walk_at "es"
        exact .a ⟨d3, _, h3.mono (by omega), rfl⟩
      · walk_at "es"
        exact .a ⟨d2, _, h2.mono (by omega), rfl⟩
    · rintro G ⟨d3, w3, h3, rfl⟩
      refine ws_cut (fun G => ∃ (d4 : List Dt) (w : Int) (s6 s7 : Sl), PoolUp 10020 d4 ∧ G = [.acc d4, .val r.dt, .acc (gs.map Dt.int), .val (.int whole), .val (.int g1), .val (.int w), s6, s7, .un, .un, .un, .un, .un, .un, .un, .un]) ?_ ?_
      · walk_at "es"
        refine inI (ns := [1, 3]) rfl ?_
        walk_at "es"
        refine ⟨fun h => ?_, fun h => ?_⟩
        · walk_at "es"
          rw [hl]
          refine ⟨fun h0 => ?_, fun h0 => ?_⟩
          · have h0 := of_decide_eq_true h0
            walk_at "es"
            try rw [hl]
            walk_at "tk"
            rename_i d4 g4 h4 g40 g41
            obtain ⟨s, rfl⟩ : ∃ s : Nat, g4 = s := ⟨g4.toNat, by omega⟩
            walk_at "xs"
            refine ws_seq ?_
            walk_at "xs"
            rw [hl]
            walk_at "tk"
            rename_i d5 g5 h5 g50 g51
            obtain ⟨q, rfl⟩ : ∃ q : Nat, g5 = q := ⟨g5.toNat, by omega⟩
            walk_at "xs"
            rw [show (s : Int) + 1 + q = ((s + 1 + q : Nat) : Int) by omega]
            walk_at "xs"
            refine .a ⟨r, s, s + 1 + q, rfl, ok, .inl (by omega), by omega, ?_⟩
            walk_at "xs"
            exact .a ⟨d5, _, _, _, h5.mono (by omega), rfl⟩
          · walk_at "es"
            exact .a ⟨d3, _, _, _, h3.mono (by omega), rfl⟩
        · walk_at "es"
          exact .a ⟨d3, _, _, _, h3.mono (by omega), rfl⟩
      · rintro G ⟨d4, w4, s6, s7, h4, rfl⟩
        refine ws_cut (fun G => ∃ (d5 : List Dt) (w : Int), PoolUp 10021 d5 ∧ G = [.acc d5, .val r.dt, .acc (gs.map Dt.int), .val (.int whole), .val (.int g1), .val (.int w), s6, s7, .un, .un, .un, .un, .un, .un, .un, .un]) ?_ ?_
        · walk_at "es"
          refine ⟨fun h => ?_, fun h => ?_⟩
          · walk_at "es"
            walk_at "tk"
            rename_i d5 g5 h5 g50 g51
            walk_at "es"
            exact .a ⟨d5, _, h5.mono (by omega), rfl⟩
          · walk_at "es"
            exact .a ⟨d4, _, h4.mono (by omega), rfl⟩
        · rintro G ⟨d5, w5, h5, rfl⟩
          refine ws_seq ?_
          walk_at "xs"
          walk_at "tk"
          rename_i d6 g6 h6 g60 g61
          obtain ⟨u6, hu6, u61, u62⟩ : ∃ u : Int, atI [Dt.int 1, Dt.int 1, Dt.int 12, Dt.int 100] g6 = some (.int u) ∧ 1 ≤ u ∧ u ≤ 100 := by
            rcases (show g6 = 0 ∨ g6 = 1 ∨ g6 = 2 ∨ g6 = 3 by omega) with rfl | rfl | rfl | rfl
            · exact ⟨1, rfl, by omega, by omega⟩
            · exact ⟨1, rfl, by omega, by omega⟩
            · exact ⟨12, rfl, by omega, by omega⟩
            · exact ⟨100, rfl, by omega, by omega⟩
          walk_at "xs"
          refine ws_seq ?_
          walk_at "xs"
          walk_at "tk"
          rename_i d7 g7 h7 g70 g71
          walk_at "xs"
          refine ws_seq ?_
          walk_at "xs"
          walk_at "tk"
          rename_i d8 g8 h8 g80 g81
          obtain ⟨kb, hu8⟩ : ∃ b : Bool, atI [Dt.str "both", Dt.str "both", Dt.str "left"] g8 = some (.str (alS b)) := by
            rcases (show g8 = 0 ∨ g8 = 1 ∨ g8 = 2 by omega) with rfl | rfl | rfl
            · exact ⟨true, rfl⟩
            · exact ⟨true, rfl⟩
            · exact ⟨false, rfl⟩
          walk_at "xs"
          refine ws_seq ?_
          walk_at "xs"
          walk_at "tk"
          rename_i d9 g9 h9 g90 g91
          walk_at "xs"
          refine ws_seq ?_
          walk_at "xs"
          walk_at "tk"
          rename_i d10 g10' h10 g100 g101
          walk_at "xs"
          refine ws_cut (fun G => ∃ (d11 : List Dt) (x y : Int), PoolUp 10035 d11 ∧ 0 ≤ x ∧ x < 10000 ∧ 0 ≤ y ∧ y < 10000 ∧ G = [.acc d11, .val r.dt, .acc (gs.map Dt.int), .val (.int whole), .val (.int g1), .val (.int w5), s6, s7, .val (.int u6), .val (.int g7), .val (.str (alS kb)), .val (.int x), .val (.int y), .un, .un, .un]) ?_ ?_
          · walk_at "es"
            walk_at "tk"
            rename_i d11 g11' h11 g110 g111
            walk_at "es"
            refine ⟨fun h => ?_, fun h => ?_⟩
            · walk_at "es"
              walk_at "tk"
              rename_i d12 g12 h12 g120 g121
              walk_at "es"
              walk_at "tk"
              rename_i d13 g13 h13 g130 g131
              walk_at "es"
              exact .a ⟨d13, _, _, h13.mono (by omega), g120, g121, g130, g131, rfl⟩
            · walk_at "es"
              exact .a ⟨d11, _, _, h11.mono (by omega), by omega, by omega, by omega, by omega, rfl⟩
          · rintro G ⟨d11, x, y, h11, x1, x2, y1, y2, rfl⟩
            refine ws_seq ?_
            walk_at "xs"
            walk_at "tk"
            rename_i d12 g12 h12 g120 g121
            walk_at "xs"
            refine ws_seq ?_
            walk_at "xs"
            walk_at "tk"
            rename_i d13 g13 h13 g130 g131
            walk_at "xs"
            refine ws_cut (fun G => ∃ (d14 : List Dt) (a b : Int), PoolUp 10045 d14 ∧ 0 ≤ a ∧ a < 10 ∧ 0 ≤ b ∧ b < 10 ∧ G = [.acc d14, .val r.dt, .acc (gs.map Dt.int), .val (.int whole), .val (.int g1), .val (.int w5), s6, s7, .val (.int u6), .val (.int g7), .val (.str (alS kb)), .val (.int x), .val (.int y), .val (.int a), .val (.int b), .un]) ?_ ?_
            · walk_at "es"
              walk_at "tk"
              rename_i d14 g14 h14 g140 g141
              walk_at "es"
              refine ⟨fun h => ?_, fun h => ?_⟩
              · walk_at "es"
                walk_at "tk"
                rename_i d15 g15 h15 g150 g151
                walk_at "es"
                walk_at "tk"
                rename_i d16 g16 h16 g160 g161
                walk_at "es"
                exact .a ⟨d16, _, _, h16.mono (by omega), g150, g151, g160, g161, rfl⟩
              · walk_at "es"
                exact .a ⟨d14, _, _, h14.mono (by omega), by omega, by omega, by omega, by omega, rfl⟩
            · rintro G ⟨d14, a, b, h14, a1, a2, b1, b2, rfl⟩
              refine ws_cut (fun G => ∃ (d15 : List Dt) (a : Int), PoolUp 10046 d15 ∧ 0 ≤ a ∧ a < 10 ∧ G = [.acc d15, .val r.dt, .acc (gs.map Dt.int), .val (.int whole), .val (.int g1), .val (.int w5), s6, s7, .val (.int u6), .val (.int g7), .val (.str (alS kb)), .val (.int x), .val (.int y), .val (.int a), .val (.int b), .un]) ?_ ?_
              · walk_at "es"
                rw [hl]
                refine ⟨fun h => ?_, fun h => ?_⟩
                · walk_at "es"
                  walk_at "tk"
                  rename_i d15 g15 h15 g150 g151
                  walk_at "es"
                  refine ⟨fun h => ?_, fun h => ?_⟩
                  · walk_at "es"
                    exact .a ⟨d15, 0, h15.mono (by omega), by omega, by omega, rfl⟩
                  · walk_at "es"
                    exact .a ⟨d15, a, h15.mono (by omega), by omega, by omega, rfl⟩
                · walk_at "es"
                  exact .a ⟨d14, a, h14.mono (by omega), by omega, by omega, rfl⟩
              · rintro G ⟨d15, a', h15, a1', a2', rfl⟩
                have hm : ∀ x : Int, 1 ≤ x → 1 ≤ (if x < 10500 then x else 10500) ∧ (if x < 10500 then x else 10500) ≤ 10500 := by intro x hx; split <;> omega
                have hx5 : 1 ≤ (if w5 > 1 then w5 else 1) := by split <;> omega
                walk_at "es"
                refine k d15 ⟨_, _, kb, _, _, _, _⟩ ⟨?_, ?_, g70, by show g7 < 100; omega, x1, x2, y1, y2, a1', a2', b1, b2⟩ (h15.mono (by omega))
                · exact (hm _ hx5).1
                · exact (hm _ hx5).2
end
end
namespace Lk59
open PySem L2 Ab Lin PySem.W
local macro_rules | `(tactic| walk_at "lk") => `(tactic| first | exact lk_Glue_width | exact lk_Glue_stretch | exact lk_Glue_shrink | exact lk_Glue_no___add__ | exact lk_LineTable_row | exact lk_LineTable_fitting | exact lk_LineTable_boxes | exact lk_LineTable_rivers | exact lk_LineTable_ends_from | exact lk_LineTable_starts_to | exact lk_LineTable_gaps | exact lk_LineTable_no_pair | exact lk_Measure_width | exact lk_Measure_indent | exact lk_Measure_align | exact lk_Measure_hyphen | exact lk_Measure_twin | exact lk_Measure_river | exact lk_Measure_loose | exact lk_Measure_no_of | fail "lk")
def ap_law : AP := fun as Post => ∃ ns, as = [.val (.scr ns)] ∧ Post (.val (.bl true)) [.val (.scr ns)]
def ap_ans3 (m : Addr) : AP := fun as Post => ∃ (r : Row) (k : Lin.Key), as = [.val r.dt, .val (k.ob m)] ∧ (RowOk r ∧ KeyT k) ∧ ∀ ds, Out3 r k ds → Post (.new ds) as
def ap_allowed : AP := fun as Post => ∃ (r : Row) (k : Lin.Key), as = [.val r.dt, .val k.dt] ∧ (RowOk r ∧ 1 ≤ k.w ∧ k.w ≤ 10500 ∧ 0 ≤ k.i ∧ k.i ≤ 99) ∧ ∀ a : Int, 0 ≤ a → a ≤ 10500 → a * k.w ≤ 10500 → a * k.i ≤ 99 → (∀ i, i < r.ws.length → a * r.W i ≤ 5000) → (∀ i, i < r.js.length → AJ a (r.J i)) → Post (.val (.int a)) as
def ap_times : AP := fun as Post => ∃ (r : Row) (f : Int), as = [.val r.dt, .val (.int f)] ∧ (RowOk r ∧ 0 ≤ f ∧ f ≤ 10500) ∧ Post (.val (r.up f).dt) as
section
variable {K : PySem.W.Frag} {c m cB : Addr} {w : World}
theorem run_ans3 (hx : PySem.W.exmOne K (.ref cB) (.ref cB) = some true) (hC : ExcC K cB) (hX : XfC K cB) (hN : PySem.W.findIn K (.ref cB) "start" = some none) (hM : PySem.W.findIn K (.ref cB) "end" = some none) :
    RunOk K [] (t__law_answer K cB (ap_bl m cB)) 5 (ap_ans3 m) := by
  rintro as Post ⟨r, k, rfl, ⟨ok, kt⟩, p⟩
  unfold t__law_answer
  show WS K [] _ [.val r.dt, .val (k.ob m), .un, .un, .un] _
  refine ws_seq ?_
  walk_at "gx"
  refine ws_seq ?_
  walk_at "gx"
  refine ws_cut (fun G => ∃ d1 d2, Out3 r k [d1, d2] ∧ G = [.val r.dt, .val (k.ob m), .val d1, .val d2, .un]) ?_ ?_
  · refine (ws_tryAd (fun cls gs G => cls = .ref cB ∧ (∃ a b : Nat, ((a < b ∧ b ≤ r.ws.length) ∧ stretch r k = some (a, b) ∧ (∀ es, tailP r.ws.length (LG r k) (PP r k) none 0 es = none)) ∧ gs = [(("end" : Str), Dt.int b), (("start" : Str), Dt.int a)]) ∧ G = [.val r.dt, .val (k.ob m), .val .non, .val .non, .un]) rfl (fun W => ?_) ?_)
    · refine ws_asgX rfl rfl (wx_call rfl ?_)
      walk_at "gx"
      refine .a ⟨r, k, rfl, ⟨ok, kt⟩, fun hno a b hs hab hbn => .a ⟨rfl, ⟨a, b, ⟨⟨hab, hbn⟩, hs, hno⟩, rfl⟩, rfl⟩, fun es t hb => ?_⟩
      walk_at "gi"
      exact .a ⟨_, _, .inr ⟨es, t, hb, rfl⟩, rfl⟩
    · rintro cls gs G ⟨rfl, ⟨a, b, ⟨h1, h2, h3⟩, rfl⟩, rfl⟩
      refine ⟨true, hx, fun _ => ⟨rfl, cB, rfl, hC, hX, (by intro f hf; cases hf with | head => exact hN | tail _ h => cases h with | head => exact hM | tail _ h => cases h), fun a d => ?_⟩, fun h => nomatch h⟩
      walk_at "gx"
      refine we_xf ?_
      walk_at "gx"
      refine we_xf ?_
      walk_at "gi"
      exact .a ⟨_, _, .inl ⟨_, _, h1, h2, h3, rfl⟩, rfl⟩
  · rintro G ⟨d1, d2, ho, rfl⟩
    walk_at "gi"
    exact p _ ho
theorem run_allowed : RunOk K [] (t__law_allowed K) 5 ap_allowed := by
  rintro as Post ⟨r, k, rfl, ⟨ok, w1, w2, i1, i2⟩, p⟩
  have on := ok.n
  unfold t__law_allowed
  show WS K [] _ [.val r.dt, .val k.dt, .un, .un, .un] _
  have a0 : 0 ≤ 10500 / k.w ∧ 10500 / k.w ≤ 10500 ∧ 10500 / k.w * k.w ≤ 10500 := ⟨Int.ediv_nonneg (by omega) (by omega), Int.ediv_le_self _ (by omega), Int.ediv_mul_le _ (by omega)⟩
  refine ws_seq ?_
  walk_at "gx"
  refine ws_cut (fun G => ∃ a : Int, (0 ≤ a ∧ a ≤ 10500 ∧ a * k.w ≤ 10500 ∧ a * k.i ≤ 99) ∧ G = [.val r.dt, .val k.dt, .val (.int a), .un, .un]) ?_ ?_
  · by_cases hi : 0 < k.i
    · have hm := mn_all (x := 99) a0.1 (by omega) hi
      walk_at "gi"
      walk_at "nn"
      exact .a ⟨_, ⟨hm.1, Int.le_trans hm.2.1 a0.2.1, mul_mono hm.2.1 (by omega) a0.2.2, hm.2.2⟩, rfl⟩
    · have hz : k.i = 0 := by omega
      walk_at "gi"
      walk_at "nn"
      exact .a ⟨_, ⟨a0.1, a0.2.1, a0.2.2, by rw [hz]; omega⟩, rfl⟩
  rintro G ⟨a, ⟨h1, h2, h3, h4⟩, rfl⟩
  refine ws_seq ?_
  refine for_tuple (r.ws.map Dt.int) (fun i G => ∃ (a : Int) (s3 : Sl), (0 ≤ a ∧ a ≤ 10500 ∧ a * k.w ≤ 10500 ∧ a * k.i ≤ 99) ∧ (∀ j, j < i → a * r.W j ≤ 5000) ∧ G = [.val r.dt, .val k.dt, .val (.int a), s3, .un]) ?_ ?_ ?_
  · walk_at "gi"
    exact .a ⟨rfl, a, _, ⟨h1, h2, h3, h4⟩, (fun j h => absurd h (Nat.not_lt_zero _)), rfl⟩
  · rintro i d G hd ⟨a, s3, ⟨h1, h2, h3, h4⟩, h5, rfl⟩
    rw [List.getElem?_map] at hd
    obtain ⟨x, hx, rfl⟩ := Option.map_eq_some_iff.mp hd
    have hil := (List.getElem?_eq_some_iff.mp hx).1
    have hW : r.W i = x := by unfold Row.W; rw [List.getD_eq_getElem?_getD, hx]; rfl
    have hw := ok.w i hil
    rw [hW] at hw
    have hm := mn_all (x := 5000) h1 (by omega) (show 0 < x by omega)
    walk_at "gi"
    refine .a ⟨_, _, ⟨hm.1, Int.le_trans hm.2.1 h2, mul_mono hm.2.1 (by omega) h3, mul_mono hm.2.1 i1 h4⟩, fun j hj => ?_, rfl⟩
    by_cases hji : j < i
    · exact mul_mono hm.2.1 (by have := ok.w j (by omega); omega) (h5 j hji)
    · obtain rfl : j = i := by omega
      rw [hW]; exact hm.2.2
  rintro G ⟨a, s3, ⟨h1, h2, h3, h4⟩, h5, rfl⟩
  rw [List.length_map] at h5
  refine ws_seq ?_
  refine for_tuple (r.js.map Jt.dt) (fun i G => ∃ (a : Int) (s4 : Sl), (0 ≤ a ∧ a ≤ 10500 ∧ a * k.w ≤ 10500 ∧ a * k.i ≤ 99) ∧ (∀ j, j < r.ws.length → a * r.W j ≤ 5000) ∧ (∀ j, j < i → AJ a (r.J j)) ∧ G = [.val r.dt, .val k.dt, .val (.int a), s3, s4]) ?_ ?_ ?_
  · walk_at "gi"
    exact .a ⟨rfl, a, _, ⟨h1, h2, h3, h4⟩, h5, (fun j h => absurd h (Nat.not_lt_zero _)), rfl⟩
  · rintro i d G hd ⟨a, s4, ⟨h1, h2, h3, h4⟩, h5, h6, rfl⟩
    rw [List.getElem?_map] at hd
    obtain ⟨x, hx, rfl⟩ := Option.map_eq_some_iff.mp hd
    have hil := (List.getElem?_eq_some_iff.mp hx).1
    have hJ : r.J i = x := by unfold Row.J; rw [List.getD_eq_getElem?_getD, hx]; rfl
    have hj := ok.j i hil
    rw [hJ] at hj
    have mono : ∀ a' : Int, a' ≤ a → ∀ j, j < i → AJ a' (r.J j) := fun a' ha' j hj' => by
      have := h6 j hj'
      have hjo := ok.j j (by omega)
      cases hq : r.J j with
      | hy x y =>
        rw [hq] at this hjo
        exact mul_mono ha' (by have := hjo.1; omega) this
      | gap x y z =>
        rw [hq] at this hjo
        exact ⟨mul_mono ha' (by have := hjo.1; omega) this.1, mul_mono ha' hjo.2.2.1 this.2⟩
    have last : ∀ a' : Int, a' ≤ a → AJ a' x → ∀ j, j < i + 1 → AJ a' (r.J j) := fun a' ha' hAJ j hj' => by
      by_cases hji : j < i
      · exact mono a' ha' j hji
      · rw [show j = i by omega, hJ]; exact hAJ
    have mw : ∀ a' : Int, a' ≤ a → ∀ j, j < r.ws.length → a' * r.W j ≤ 5000 := fun a' ha' j hj' => mul_mono ha' (by have := ok.w j hj'; omega) (h5 j hj')
    cases x with
    | hy x y =>
      have hm := mn_all (x := 500) h1 (by omega) (show 0 < x by have := hj.1; omega)
      have hx1 := hj.1
      have hx2 := hj.2.1
      unfold Jt.dt
      walk_at "gi"
      walk_at "nn"
      exact .a ⟨_, _, ⟨hm.1, Int.le_trans hm.2.1 h2, mul_mono hm.2.1 (by omega) h3, mul_mono hm.2.1 i1 h4⟩, mw _ hm.2.1, last _ hm.2.1 hm.2.2, rfl⟩
    | gap x y z =>
      have hx1 := hj.1
      have hx2 := hj.2.1
      have hy1 := hj.2.2.1
      have hy2 := hj.2.2.2.1
      have hm := mn_all (x := 500) h1 (by omega) (show 0 < x by omega)
      unfold Jt.dt
      generalize hmv : (if 500 / x < a then 500 / x else a) = mv at hm
      by_cases hy : 0 < y
      · have hn := mn_all (x := 500) hm.1 (by omega) hy
        walk_at "gi"
        walk_at "nn"
        rw [hmv]
        exact .a ⟨_, _, ⟨hn.1, Int.le_trans hn.2.1 (Int.le_trans hm.2.1 h2), mul_mono (Int.le_trans hn.2.1 hm.2.1) (by omega) h3, mul_mono (Int.le_trans hn.2.1 hm.2.1) i1 h4⟩, mw _ (Int.le_trans hn.2.1 hm.2.1), last _ (Int.le_trans hn.2.1 hm.2.1) ⟨mul_mono hn.2.1 (by omega) hm.2.2, hn.2.2⟩, rfl⟩
      · have hz : y = 0 := by omega
        walk_at "gi"
        walk_at "nn"
        rw [hmv]
        exact .a ⟨_, _, ⟨hm.1, Int.le_trans hm.2.1 h2, mul_mono hm.2.1 (by omega) h3, mul_mono hm.2.1 i1 h4⟩, mw _ hm.2.1, last _ hm.2.1 ⟨hm.2.2, by rw [hz]; omega⟩, rfl⟩
  · rintro G ⟨a, s4, ⟨h1, h2, h3, h4⟩, h5, h6, rfl⟩
    rw [List.length_map] at h6
    walk_at "gi"
    exact p a h1 h2 h3 h4 h5 h6
theorem run_times : RunOk K [] (t__law_times K) 7 ap_times := by
  rintro as Post ⟨r, f, rfl, ⟨ok, f1, f2⟩, p⟩
  have on := ok.n
  have ol := ok.len
  unfold t__law_times
  show WS K [] _ [.val r.dt, .val (.int f), .un, .un, .un, .un, .un] _
  refine ws_seq ?_
  walk_at "gx"
  refine ws_seq ?_
  refine for_tuple (r.js.map Jt.dt) (fun i G => ∃ (s3 s4 : Sl), G = [.val r.dt, .val (.int f), .acc ((r.js.take i).map fun j => (j.up f).dt), s3, s4, .un, .un]) ?_ ?_ ?_
  · walk_at "gi"
    exact .a ⟨rfl, _, _, rfl⟩
  · rintro i d G hd ⟨s3, s4, rfl⟩
    rw [List.getElem?_map] at hd
    obtain ⟨x, hx, rfl⟩ := Option.map_eq_some_iff.mp hd
    have hil := (List.getElem?_eq_some_iff.mp hx).1
    have hJ : r.J i = x := by unfold Row.J; rw [List.getD_eq_getElem?_getD, hx]; rfl
    have hj := ok.j i hil
    rw [hJ] at hj
    have htk : r.js.take (i + 1) = r.js.take i ++ [x] := by rw [List.take_add_one, hx]; rfl
    have hal : ((r.js.take i).map fun j => (j.up f).dt).length < 1000000 := by rw [List.length_map, List.length_take]; omega
    rw [htk, List.map_append]
    have hwi := ok.w i (by omega)
    cases x with
    | hy x y =>
      have hx1 := hj.1
      have hx2 := hj.2.1
      have hy1 := hj.2.2.1
      have hy2 := hj.2.2.2.1
      rw [show (Jt.hy x y).dt = Dt.tup [.str "hyphen", .int x, .int y] from rfl]
      walk_at "gx"
      refine ws_seq ?_
      walk_at "gx"
      refine lc_tupV [x, y] Dt.int (fun z => .int (f * z)) (fun _ => true) ?_ ?_ ?_
      · walk_at "gi"
        exact .a ⟨rfl, Nat.le_of_ble_eq_true rfl, rfl, rfl, rfl⟩
      · intro z hz
        have hzb : 0 ≤ z ∧ z ≤ 5000 := by
          simp at hz
          rcases hz with rfl | rfl <;> omega
        walk_at "gi"
        exact .a ⟨rfl, rfl, rfl⟩
      walk_at "gi"
      exact .a ⟨_, _, rfl⟩
    | gap x y z =>
      have hx1 := hj.1
      have hx2 := hj.2.1
      have hy1 := hj.2.2.1
      have hy2 := hj.2.2.2.1
      have hz1 := hj.2.2.2.2.1
      have hz2 := hj.2.2.2.2.2
      rw [show (Jt.gap x y z).dt = Dt.tup [.str "gap", .int x, .int y, .int z] from rfl]
      walk_at "gx"
      refine ws_seq ?_
      walk_at "gx"
      refine lc_tupV [x, y, z] Dt.int (fun z => .int (f * z)) (fun _ => true) ?_ ?_ ?_
      · walk_at "gi"
        exact .a ⟨rfl, Nat.le_of_ble_eq_true rfl, rfl, rfl, rfl⟩
      · intro v hv
        have hzb : 0 ≤ v ∧ v ≤ 5000 := by
          simp at hv
          rcases hv with rfl | rfl | rfl <;> omega
        walk_at "gi"
        exact .a ⟨rfl, rfl, rfl⟩
      walk_at "gi"
      exact .a ⟨_, _, rfl⟩
  · rintro G ⟨s3, s4, rfl⟩
    rw [List.length_map, List.take_length]
    have hp : Post (.val (.tup [.tup (r.ws.map fun z => .int (f * z)), .tup (r.js.map fun j => (j.up f).dt)])) [.val r.dt, .val (.int f)] := by
      have e1 : (r.ws.map fun z => Dt.int (f * z)) = (r.up f).ws.map Dt.int := by show _ = (r.ws.map _).map _; rw [List.map_map]; rfl
      have e2 : (r.js.map fun j => (j.up f).dt) = (r.up f).js.map Jt.dt := by show _ = (r.js.map _).map _; rw [List.map_map]; rfl
      rw [e1, e2]; exact p
    clear p
    walk_at "gx"
    refine lc_tupV r.ws Dt.int (fun z => .int (f * z)) (fun _ => true) ?_ ?_ ?_
    · walk_at "gi"
      exact .a ⟨rfl, by omega, rfl, rfl, rfl⟩
    · intro v hv
      obtain ⟨i, hi, rfl⟩ := List.getElem_of_mem hv
      have hzb := ok.w i hi
      have hW : r.W i = r.ws[i] := by unfold Row.W; rw [List.getD_eq_getElem?_getD, List.getElem?_eq_getElem hi]; rfl
      rw [hW] at hzb
      generalize r.ws[i] = v at hzb ⊢
      walk_at "gi"
      exact .a ⟨rfl, rfl, rfl⟩
    rw [List.filter_eq_self.mpr (fun _ _ => rfl)]
    walk_at "gi"
    exact hp
theorem run_law : RunOk K [] (t_law K m ap_bare ap_pool ap_lkey ap_allowed ap_take ap_times (ap_mof m) (ap_ans3 m) (ap_same 4) (ap_cert m)) 11 ap_law := by
  rintro as Post ⟨ns, rfl, post⟩
  unfold t_law
  show WS K [] _ [.val (.scr ns), .un, .un, .un, .un, .un, .un, .un, .un, .un, .un] _
  refine ws_seq ?_
  walk_at "gx"
  refine .a ⟨ns, 0, rfl, by omega, by omega, fun d0 h0 => ?_⟩
  walk_at "gx"
  refine .a ⟨d0, 0, 0, 8, rfl, h0, by omega, by omega, by omega, by omega, by omega, by omega, fun d1 r ok hm hn => ?_⟩
  walk_at "gx"
  refine ws_seq ?_
  walk_at "gx"
  refine .a ⟨ns, 1, rfl, by omega, by omega, fun d2 h2 => ?_⟩
  walk_at "gx"
  refine .a ⟨d2, r, rfl, h2.up (by omega) (by omega), ok, fun d3 k0 kok h3 => ?_⟩
  have w1 := kok.w1; have w2 := kok.w2; have i1 := kok.i1; have i2 := kok.i2; have l1 := kok.l1; have l2 := kok.l2
  obtain ⟨k, hk⟩ : ∃ k : Lin.Key, k = ⟨k0.w, k0.i % 50, k0.b, k0.hy, k0.tw, 0, k0.lo⟩ := ⟨_, rfl⟩
  walk_at "gx"
  refine ws_cut (fun G => G = [.val (.scr ns), .val r.dt, .val k.dt, .un, .un, .un, .un, .un, .un, .un, .un]) ?_ ?_
  · walk_at "gx"
    exact .a (by rw [hk])
  rintro G rfl
  have j1 : 0 ≤ k.i ∧ k.i ≤ 99 := by rw [hk]; show 0 ≤ k0.i % 50 ∧ k0.i % 50 ≤ 99; omega
  have j2 : 1 ≤ k.w ∧ k.w ≤ 10500 := by rw [hk]; exact ⟨w1, w2⟩
  have j3 : 0 ≤ k.lo ∧ k.lo ≤ 100 := by rw [hk]; exact ⟨l1, by show k0.lo ≤ 100; omega⟩
  have j4 : k.ri = 0 := by rw [hk]
  clear hk
  have kt : KeyT k := ⟨⟨by omega, by omega, j1.1, by omega, j3.1, j3.2⟩, by omega⟩
  walk_at "gx"
  refine ws_seq ?_
  walk_at "gx"
  refine .a ⟨r, k, rfl, ⟨ok, j2.1, j2.2, j1.1, j1.2⟩, fun a a1 a2 a3 a4 a5 a6 => ?_⟩
  walk_at "gi"
  · exact post
  rename_i ha
  refine .a ⟨ns, 2, rfl, by omega, by omega, fun d6 h6 => ?_⟩
  have u6 : PoolUp 0 d6 := h6.up (by omega) (by omega)
  walk_at "gx"
  rename_i d7 g7 u7 g70 g71
  obtain ⟨f, hf⟩ : ∃ f : Int, f = 2 + g7 := ⟨_, rfl⟩
  rw [← hf]
  have f1 : 2 ≤ f ∧ f ≤ a := by omega
  clear hf
  walk_at "gx"
  refine ws_seq ?_
  walk_at "gx"
  refine .a ⟨r, f, rfl, ⟨ok, by omega, by omega⟩, ?_⟩
  have gok : RowOk (r.up f) := up_row ok (by omega) (fun i hi => mul_mono f1.2 (by have := ok.w i hi; omega) (a5 i hi)) fun i hi => by
    have h := a6 i hi
    have hjo := ok.j i hi
    cases hq : r.J i with
    | hy x y =>
      rw [hq] at h hjo
      exact mul_mono f1.2 (by have := hjo.1; omega) h
    | gap x y z =>
      rw [hq] at h hjo
      exact ⟨mul_mono f1.2 (by have := hjo.1; omega) h.1, mul_mono f1.2 hjo.2.2.1 h.2⟩
  have fw := mul_mono f1.2 (by omega : 0 ≤ k.w) a3
  have fi := mul_mono f1.2 j1.1 a4
  have fw0 : 0 ≤ f * k.w := Int.mul_nonneg (by omega) (by omega)
  have fi0 : 0 ≤ f * k.i := Int.mul_nonneg (by omega) j1.1
  have gkt : KeyT (k.up f) := ⟨⟨by show -2000000 ≤ f * k.w; omega, by show f * k.w ≤ 100000; omega, fi0, by show f * k.i ≤ 100000; omega, j3.1, j3.2⟩, fw0⟩
  have hn' : (r.up f).ws.length = r.ws.length := up_n
  have hL : LG (r.up f) (k.up f) = LG r k := up_LG (by omega)
  have hP : PP (r.up f) (k.up f) = PP r k := up_PPf j4
  walk_at "gx"
  refine ws_cut (fun G => G = [.val (.scr ns), .val r.dt, .val k.dt, .val (.int a), .val (.int f), .val (r.up f).dt, .val (k.up f).dt, .un, .un, .un, .un]) ?_ ?_
  · walk_at "gi"
    exact .a rfl
  rintro G rfl
  refine ws_seq ?_
  walk_at "gx"
  refine .a ⟨k, rfl, ?_⟩
  walk_at "gx"
  refine ws_seq ?_
  walk_at "gx"
  refine .a ⟨k.up f, rfl, ?_⟩
  walk_at "gx"
  refine ws_seq ?_
  walk_at "gx"
  refine .a ⟨r, k, rfl, ⟨ok, kt⟩, fun ds hds => ?_⟩
  have hoo := ok_out3 ok hds
  walk_at "gx"
  refine ws_seq ?_
  walk_at "gx"
  refine .a ⟨r.up f, k.up f, rfl, ⟨gok, gkt⟩, fun es hes => ?_⟩
  obtain rfl := out3_one (out3_congr hn' hL hP hes) hds
  walk_at "gx"
  refine .a ⟨_, _, .lst es, rfl, rfl, rfl, hoo.1, hoo.2, ?_⟩
  walk_at "gx"
  walk_at "nn"
  refine ws_seq ?_
  walk_at "gx"
  refine .a ⟨r, k, rfl, ⟨ok, kt⟩, ?_⟩
  have hcc := ok_certL (k := k) ok
  walk_at "gx"
  refine ws_seq ?_
  walk_at "gx"
  refine .a ⟨r.up f, k.up f, rfl, ⟨gok, gkt⟩, ?_⟩
  rw [hn', hL, hP]
  walk_at "gx"
  refine .a ⟨_, _, .lst ((certL r.ws.length (LG r k) (PP r k)).map ceD), rfl, rfl, rfl, hcc.1, hcc.2, ?_⟩
  walk_at "gx"
  walk_at "nn"
  refine .a ⟨r, k, rfl, ⟨ok, kt⟩, fun es' hes' => ?_⟩
  obtain rfl := out3_one hes' hds
  walk_at "gx"
  refine .a ⟨_, _, .lst es', rfl, rfl, rfl, hoo.1, hoo.2, ?_⟩
  walk_at "gi"
  exact post
end
section
variable {P : Program} {w : World} {K : PySem.W.Frag} {mg : Str → Option Value} {base : Heap}
theorem glueOk (T : Txt P K mg) : GlueOk K T.c_Glue := ⟨T.co_Glue, T.na_Glue_width, T.na_Glue_stretch, T.na_Glue_shrink⟩
theorem measOk (T : Txt P K mg) : MeasOk K T.c_Measure := ⟨T.co_Measure, T.na_Measure_width, T.na_Measure_indent, T.na_Measure_align, T.na_Measure_hyphen, T.na_Measure_twin, T.na_Measure_river, T.na_Measure_loose⟩
theorem ltOk (T : Txt P K mg) : LTok K T.c_LineTable := ⟨T.co_LineTable, T.na_LineTable_row, T.na_LineTable_fitting, T.na_LineTable_boxes, T.na_LineTable_rivers, T.na_LineTable_ends_from, T.na_LineTable_starts_to, T.na_LineTable_gaps⟩
theorem exm_self (T : Txt P K mg) : PySem.W.exmOne K (.ref T.c_Blocked) (.ref T.c_Blocked) = some true := PySem.W.exm_ref T.bs_Blocked T.hd_Blocked T.tx_Blocked (subTab_at T.ks_ev (i := 0) (j := 0) rfl rfl)
theorem ok_Glue___add__ (T : Txt P K mg) : FnOk P w K mg base CX0 3 T.f_Glue___add__ T.fd_Glue___add__ ["self", "other"] (toSp K (Lin.ap_add T.c_Glue)) := by
  have G_Glue___init__ := ok_Glue___init__ (P := P) (w := w) (base := base) T
  exact fn_ab [] T.F_Glue___add__ sc_Glue___add__ (by walk_at "len") rfl (fun cdv A outer s H E hr => ⟨_, tm_Glue___add__ T G_Glue___init__ cdv A outer s H E hr, Lin.run_add (glueOk T)⟩)
theorem ok_ends_at_hyphen (T : Txt P K mg) : FnOk P w K mg base CX0 1 T.f_ends_at_hyphen T.fd_ends_at_hyphen ["row", "end"] (toSp K (Lin.ap_ends)) := by
  exact fn_ab [] T.F_ends_at_hyphen sc_ends_at_hyphen (by walk_at "len") rfl (fun cdv A outer s H E hr => ⟨_, tm_ends_at_hyphen T cdv A outer s H E hr, Lin.run_ends⟩)
theorem ok_joint_glue (T : Txt P K mg) : FnOk P w K mg base CX0 3 T.f_joint_glue T.fd_joint_glue ["joint"] (toSp K (Lin.ap_jg T.c_Glue)) := by
  have G_Glue___init__ := ok_Glue___init__ (P := P) (w := w) (base := base) T
  exact fn_ab [] T.F_joint_glue sc_joint_glue (by walk_at "len") rfl (fun cdv A outer s H E hr => ⟨_, tm_joint_glue T G_Glue___init__ cdv A outer s H E hr, Lin.run_jg⟩)
theorem ok_extended_glue (T : Txt P K mg) : FnOk P w K mg base CX0 4 T.f_extended_glue T.fd_extended_glue ["row", "inner", "box"] (toSp K (Lin.ap_ext T.c_Glue)) := by
  have G_joint_glue := ok_joint_glue (P := P) (w := w) (base := base) T
  have G_Glue___add__ := ok_Glue___add__ (P := P) (w := w) (base := base) T
  have G_Glue___init__ := ok_Glue___init__ (P := P) (w := w) (base := base) T
  exact fn_ab [] T.F_extended_glue sc_extended_glue (by walk_at "len") rfl (fun cdv A outer s H E hr => ⟨_, tm_extended_glue T G_joint_glue G_Glue___add__ G_Glue___init__ cdv A outer s H E hr, Lin.run_ext⟩)
theorem ok_finished_glue (T : Txt P K mg) : FnOk P w K mg base CX0 4 T.f_finished_glue T.fd_finished_glue ["row", "inner", "end"] (toSp K (Lin.ap_fin T.c_Glue)) := by
  have G_ends_at_hyphen := ok_ends_at_hyphen (P := P) (w := w) (base := base) T
  have G_Glue___init__ := ok_Glue___init__ (P := P) (w := w) (base := base) T
  have G_Glue___add__ := ok_Glue___add__ (P := P) (w := w) (base := base) T
  exact fn_ab [] T.F_finished_glue sc_finished_glue (by walk_at "len") rfl (fun cdv A outer s H E hr => ⟨_, tm_finished_glue T G_ends_at_hyphen G_Glue___init__ G_Glue___add__ cdv A outer s H E hr, Lin.run_fin⟩)
theorem ok_line_glue (T : Txt P K mg) : FnOk P w K mg base CX0 5 T.f_line_glue T.fd_line_glue ["row", "start", "end"] (toSp K (Lin.ap_line T.c_Glue)) := by
  have G_Glue___init__ := ok_Glue___init__ (P := P) (w := w) (base := base) T
  have G_extended_glue := ok_extended_glue (P := P) (w := w) (base := base) T
  have G_finished_glue := ok_finished_glue (P := P) (w := w) (base := base) T
  exact fn_ab [] T.F_line_glue sc_line_glue (by walk_at "len") rfl (fun cdv A outer s H E hr => ⟨_, tm_line_glue T G_Glue___init__ G_extended_glue G_finished_glue cdv A outer s H E hr, Lin.run_line⟩)
theorem ok_room_of (T : Txt P K mg) : FnOk P w K mg base CX0 1 T.f_room_of T.fd_room_of ["start", "measure"] (toSp K (Lin.ap_room T.c_Measure)) := by
  exact fn_ab [] T.F_room_of sc_room_of (by walk_at "len") rfl (fun cdv A outer s H E hr => ⟨_, tm_room_of T cdv A outer s H E hr, Lin.run_room (measOk T)⟩)
theorem ok_both_price (T : Txt P K mg) : FnOk P w K mg base CX0 1 T.f_both_price T.fd_both_price ["glue", "room", "last", "loose"] (toSp K (Lin.ap_both T.c_Glue)) := by
  exact fn_ab [] T.F_both_price sc_both_price (by walk_at "len") rfl (fun cdv A outer s H E hr => ⟨_, tm_both_price T cdv A outer s H E hr, Lin.run_both (glueOk T)⟩)
theorem ok_left_price (T : Txt P K mg) : FnOk P w K mg base CX0 1 T.f_left_price T.fd_left_price ["glue", "room", "last"] (toSp K (Lin.ap_left T.c_Glue)) := by
  exact fn_ab [] T.F_left_price sc_left_price (by walk_at "len") rfl (fun cdv A outer s H E hr => ⟨_, tm_left_price T cdv A outer s H E hr, Lin.run_left (glueOk T)⟩)
theorem ok_price_with_glue (T : Txt P K mg) : FnOk P w K mg base CX0 2 T.f_price_with_glue T.fd_price_with_glue ["row", "end", "glue", "room", "measure"] (toSp K (Lin.ap_pwg T.c_Glue T.c_Measure)) := by
  have G_both_price := ok_both_price (P := P) (w := w) (base := base) T
  have G_left_price := ok_left_price (P := P) (w := w) (base := base) T
  have G_ends_at_hyphen := ok_ends_at_hyphen (P := P) (w := w) (base := base) T
  exact fn_ab [] T.F_price_with_glue sc_price_with_glue (by walk_at "len") rfl (fun cdv A outer s H E hr => ⟨_, tm_price_with_glue T G_both_price G_left_price G_ends_at_hyphen cdv A outer s H E hr, Lin.run_pwg (measOk T)⟩)
theorem ok_extra_of (T : Txt P K mg) : FnOk P w K mg base CX0 1 T.f_extra_of T.fd_extra_of ["rest", "glue", "before", "last", "measure"] (toSp K (Lin.ap_extra T.c_Glue T.c_Measure)) := by
  exact fn_ab [] T.F_extra_of sc_extra_of (by walk_at "len") rfl (fun cdv A outer s H E hr => ⟨_, tm_extra_of T cdv A outer s H E hr, Lin.run_extra (glueOk T) (measOk T)⟩)
theorem ok_box_places (T : Txt P K mg) : FnOk P w K mg base CX0 6 T.f_box_places T.fd_box_places ["row", "start", "end", "measure"] (toSp K (Lin.ap_places T.c_Measure)) := by
  have G_line_glue := ok_line_glue (P := P) (w := w) (base := base) T
  have G_room_of := ok_room_of (P := P) (w := w) (base := base) T
  have G_Glue___init__ := ok_Glue___init__ (P := P) (w := w) (base := base) T
  have G_joint_glue := ok_joint_glue (P := P) (w := w) (base := base) T
  have G_Glue___add__ := ok_Glue___add__ (P := P) (w := w) (base := base) T
  have G_extra_of := ok_extra_of (P := P) (w := w) (base := base) T
  exact fn_ab [] T.F_box_places sc_box_places (by walk_at "len") rfl (fun cdv A outer s H E hr => ⟨_, tm_box_places T G_line_glue G_room_of G_Glue___init__ G_joint_glue G_Glue___add__ G_extra_of cdv A outer s H E hr, Lin.run_places (glueOk T) (measOk T)⟩)
theorem ok_gap_spans (T : Txt P K mg) : FnOk P w K mg base CX0 7 T.f_gap_spans T.fd_gap_spans ["row", "start", "end", "measure"] (toSp K (Lin.ap_spans T.c_Measure)) := by
  have G_box_places := ok_box_places (P := P) (w := w) (base := base) T
  exact fn_ab [] T.F_gap_spans sc_gap_spans (by walk_at "len") rfl (fun cdv A outer s H E hr => ⟨_, tm_gap_spans T G_box_places cdv A outer s H E hr, Lin.run_spans⟩)
theorem ok_count_overlapping (T : Txt P K mg) : FnOk P w K mg base CX0 1 T.f_count_overlapping T.fd_count_overlapping ["upper", "lower"] (toSp K (Lin.ap_countV)) := by
  exact fn_ab [] T.F_count_overlapping sc_count_overlapping (by walk_at "len") rfl (fun cdv A outer s H E hr => ⟨_, tm_count_overlapping T cdv A outer s H E hr, Lin.run_countV⟩)
theorem ok_price_with_count (T : Txt P K mg) : FnOk P w K mg base CX0 2 T.f_price_with_count T.fd_price_with_count ["row", "middle", "end", "measure", "count"] (toSp K (Lin.ap_pwc T.c_Measure)) := by
  have G_ends_at_hyphen := ok_ends_at_hyphen (P := P) (w := w) (base := base) T
  exact fn_ab [] T.F_price_with_count sc_price_with_count (by walk_at "len") rfl (fun cdv A outer s H E hr => ⟨_, tm_price_with_count T G_ends_at_hyphen cdv A outer s H E hr, Lin.run_pwc (measOk T)⟩)
theorem ok_lines_from (T : Txt P K mg) : FnOk P w K mg base CX0 5 T.f_lines_from T.fd_lines_from ["row", "start", "measure"] (toSp K (Lin.ap_lf T.c_Measure)) := by
  have G_room_of := ok_room_of (P := P) (w := w) (base := base) T
  have G_Glue___init__ := ok_Glue___init__ (P := P) (w := w) (base := base) T
  have G_price_with_glue := ok_price_with_glue (P := P) (w := w) (base := base) T
  have G_finished_glue := ok_finished_glue (P := P) (w := w) (base := base) T
  have G_extended_glue := ok_extended_glue (P := P) (w := w) (base := base) T
  exact fn_ab [] T.F_lines_from sc_lines_from (by walk_at "len") rfl (fun cdv A outer s H E hr => ⟨_, tm_lines_from T G_room_of G_Glue___init__ G_price_with_glue G_finished_glue G_extended_glue cdv A outer s H E hr, Lin.run_lf (glueOk T)⟩)
theorem ok_LineTable___init__ (T : Txt P K mg) : FnOk P w K mg base CX0 8 T.f_LineTable___init__ T.fd_LineTable___init__ ["self", "row", "measure"] (toSpI K T.c_LineTable (Lin.ai_LT T.c_Measure w)) := by
  have G_lines_from := ok_lines_from (P := P) (w := w) (base := base) T
  have G_gap_spans := ok_gap_spans (P := P) (w := w) (base := base) T
  exact fn_initJ T.F_LineTable___init__ sc_LineTable___init__ (by first | (rintro ds Post ⟨_, rfl, _⟩; rfl) | (rintro ds Post ⟨_, _, rfl, _⟩; rfl)) rfl (fun cdv A outer s H E hr => ⟨_, tm_LineTable___init__ T G_lines_from G_gap_spans cdv A outer s H E hr, Lin.run_ltinit (ltOk T) (measOk T)⟩)
theorem ok_LineTable_pair (T : Txt P K mg) : FnOk P w K mg base CX0 3 T.f_LineTable_pair T.fd_LineTable_pair ["self", "start", "middle", "end"] (toSp K (Lin.ap_tp T.c_LineTable T.c_Measure w)) := by
  have G_count_overlapping := ok_count_overlapping (P := P) (w := w) (base := base) T
  have G_price_with_count := ok_price_with_count (P := P) (w := w) (base := base) T
  exact fn_ab [] T.F_LineTable_pair sc_LineTable_pair (by walk_at "len") rfl (fun cdv A outer s H E hr => ⟨_, tm_LineTable_pair T G_count_overlapping G_price_with_count cdv A outer s H E hr, Lin.run_tp (ltOk T)⟩)
theorem ok_farthest_ends (T : Txt P K mg) : FnOk P w K mg base CX0 4 T.f_farthest_ends T.fd_farthest_ends ["table"] (toSp K (Lin.ap_fe T.c_LineTable T.c_Measure w)) := by
  have G_LineTable_pair := ok_LineTable_pair (P := P) (w := w) (base := base) T
  exact fn_ab [] T.F_farthest_ends sc_farthest_ends (by walk_at "len") rfl (fun cdv A outer s H E hr => ⟨_, tm_farthest_ends T G_LineTable_pair cdv A outer s H E hr, Lin.run_fe (ltOk T)⟩)
theorem ok_stretch_of (T : Txt P K mg) : FnOk P w K mg base CX0 5 T.f_stretch_of T.fd_stretch_of ["table"] (toSp K (Lin.ap_str T.c_LineTable T.c_Measure w)) := by
  have G_farthest_ends := ok_farthest_ends (P := P) (w := w) (base := base) T
  exact fn_ab [] T.F_stretch_of sc_stretch_of (by walk_at "len") rfl (fun cdv A outer s H E hr => ⟨_, tm_stretch_of T G_farthest_ends cdv A outer s H E hr, Lin.run_str (ltOk T)⟩)
theorem ok_continuations (T : Txt P K mg) : FnOk P w K mg base CX0 4 T.f_continuations T.fd_continuations ["table", "best", "start", "middle"] (toSp K (Lin.ap_ct T.c_LineTable T.c_Measure w)) := by
  have G_LineTable_pair := ok_LineTable_pair (P := P) (w := w) (base := base) T
  exact fn_ab [1] T.F_continuations sc_continuations (by walk_at "len") rfl (fun cdv A outer s H E hr => ⟨_, tm_continuations T G_LineTable_pair cdv A outer s H E hr, Lin.run_ct (ltOk T)⟩)
theorem ok_best_continuations (T : Txt P K mg) : FnOk P w K mg base CX0 5 T.f_best_continuations T.fd_best_continuations ["table"] (toSp K (Lin.ap_bc T.c_LineTable T.c_Measure w)) := by
  have G_continuations := ok_continuations (P := P) (w := w) (base := base) T
  exact fn_ab [] T.F_best_continuations sc_best_continuations (by walk_at "len") rfl (fun cdv A outer s H E hr => ⟨_, tm_best_continuations T G_continuations cdv A outer s H E hr, Lin.run_bc (ltOk T)⟩)
theorem ok_break_lines (T : Txt P K mg) : FnOk P w K mg base (L2.CX P w) 10 T.f_break_lines T.fd_break_lines ["row", "measure"] (toSpX K (Lin.ap_bl T.c_Measure T.c_Blocked)) := by
  have G_LineTable___init__ := ok_LineTable___init__ (P := P) (w := w) (base := base) T
  have G_best_continuations := ok_best_continuations (P := P) (w := w) (base := base) T
  have G_continuations := ok_continuations (P := P) (w := w) (base := base) T
  have G_stretch_of := ok_stretch_of (P := P) (w := w) (base := base) T
  have GE_Blocked := okE_Blocked (P := P) (w := w) (base := base) T
  exact fn_abX [] T.F_break_lines sc_break_lines (by rintro as Post XP ⟨g, r, rfl, _⟩; rfl) rfl _ (fun cdv A outer s H E hr => tm_break_lines T G_LineTable___init__ G_best_continuations G_continuations G_stretch_of GE_Blocked cdv A outer s H E hr) (Lin.run_bl (ltOk T))
theorem ok_prefixes_to (T : Txt P K mg) : FnOk P w K mg base CX0 1 T.f_prefixes_to T.fd_prefixes_to ["table", "best", "place"] (toSp K (Lin.ap_pt T.c_LineTable T.c_Measure w)) := by
  exact fn_ab [1] T.F_prefixes_to sc_prefixes_to (by walk_at "len") rfl (fun cdv A outer s H E hr => ⟨_, tm_prefixes_to T cdv A outer s H E hr, Lin.run_pt (ltOk T)⟩)
theorem ok_best_prefixes (T : Txt P K mg) : FnOk P w K mg base CX0 4 T.f_best_prefixes T.fd_best_prefixes ["table"] (toSp K (Lin.ap_bp T.c_LineTable T.c_Measure w)) := by
  have G_prefixes_to := ok_prefixes_to (P := P) (w := w) (base := base) T
  have G_LineTable_pair := ok_LineTable_pair (P := P) (w := w) (base := base) T
  exact fn_ab [] T.F_best_prefixes sc_best_prefixes (by walk_at "len") rfl (fun cdv A outer s H E hr => ⟨_, tm_best_prefixes T G_prefixes_to G_LineTable_pair cdv A outer s H E hr, Lin.run_bp (ltOk T)⟩)
theorem ok_line_certificate (T : Txt P K mg) : FnOk P w K mg base CX0 10 T.f_line_certificate T.fd_line_certificate ["row", "measure"] (toSp K (Lin.ap_cert T.c_Measure)) := by
  have G_LineTable___init__ := ok_LineTable___init__ (P := P) (w := w) (base := base) T
  have G_best_prefixes := ok_best_prefixes (P := P) (w := w) (base := base) T
  have G_best_continuations := ok_best_continuations (P := P) (w := w) (base := base) T
  exact fn_ab [] T.F_line_certificate sc_line_certificate (by walk_at "len") rfl (fun cdv A outer s H E hr => ⟨_, tm_line_certificate T G_LineTable___init__ G_best_prefixes G_best_continuations cdv A outer s H E hr, Lin.run_cert (ltOk T)⟩)
theorem ok_Measure_of (T : Txt P K mg) : FnOk P w K mg base CX0 3 T.f_Measure_of T.fd_Measure_of ["key"] (toSp K (Lin.ap_mof T.c_Measure)) := by
  have G_Measure___init__ := ok_Measure___init__ (P := P) (w := w) (base := base) T
  exact fn_ab [] T.F_Measure_of sc_Measure_of (by walk_at "len") rfl (fun cdv A outer s H E hr => ⟨_, tm_Measure_of T G_Measure___init__ cdv A outer s H E hr, Lin.run_mof⟩)
theorem ok__law_pool (T : Txt P K mg) : FnOk P w K mg base CX0 1 T.f__law_pool T.fd__law_pool ["_law_script", "_law_at"] (toSp K (ap_pool)) := by
  exact fn_ab [] T.F__law_pool sc__law_pool (by walk_at "len") rfl (fun cdv A outer s H E hr => ⟨_, tm__law_pool T cdv A outer s H E hr, run_tPool⟩)
theorem ok__law_take (T : Txt P K mg) : FnOk P w K mg base CX0 1 T.f__law_take T.fd__law_take ["_law_pool_here", "_law_many"] (toSp K (ap_take)) := by
  exact fn_ab [0] T.F__law_take sc__law_take (by walk_at "len") rfl (fun cdv A outer s H E hr => ⟨_, tm__law_take T cdv A outer s H E hr, run_tTakeA⟩)
theorem okn_same (T : Txt P K mg) : ∀ n, FnOk P w K mg base CX0 (n + 2) T.f__law_same T.fd__law_same ["_law_one", "_law_two"] (toSp K (ap_same n))
  | 0 => fn_ab [0, 1] T.F__law_same sc__law_same len_same rfl (fun cdv A outer s H E hr => ⟨_, tm__law_same T (fn_never (k := 0) T.F__law_same sc__law_same) cdv A outer s H E hr, run_tSame fun d Post _ h => absurd h (Nat.not_lt_zero _)⟩)
  | n + 1 => fn_ab [0, 1] T.F__law_same sc__law_same len_same rfl (fun cdv A outer s H E hr => ⟨_, tm__law_same T (okn_same T n) cdv A outer s H E hr, run_tSame fun d Post ok h p => ⟨.val d, .val d, d, rfl, rfl, rfl, ok, Nat.le_of_lt_succ h, p⟩⟩)
theorem ok__law_same (T : Txt P K mg) : FnOk P w K mg base CX0 6 T.f__law_same T.fd__law_same ["_law_one", "_law_two"] (toSp K (ap_same 4)) := okn_same T 4
theorem ok__law_joint (T : Txt P K mg) : FnOk P w K mg base CX0 2 T.f__law_joint T.fd__law_joint ["_law_pool_here", "_law_below", "_law_broad"] (toSp K (Lin.ap_joint)) := by
  have G__law_take := ok__law_take (P := P) (w := w) (base := base) T
  exact fn_ab [0] T.F__law_joint sc__law_joint (by walk_at "len") rfl (fun cdv A outer s H E hr => ⟨_, tm__law_joint T G__law_take cdv A outer s H E hr, Lin.run_joint⟩)
theorem ok__law_bare (T : Txt P K mg) : FnOk P w K mg base CX0 3 T.f__law_bare T.fd__law_bare ["_law_pool_here", "_law_least", "_law_often"] (toSp K (Lin.ap_bare)) := by
  have G__law_take := ok__law_take (P := P) (w := w) (base := base) T
  have G__law_joint := ok__law_joint (P := P) (w := w) (base := base) T
  exact fn_ab [0] T.F__law_bare sc__law_bare (by walk_at "len") rfl (fun cdv A outer s H E hr => ⟨_, tm__law_bare T G__law_take G__law_joint cdv A outer s H E hr, Lin.run_bare41⟩)
theorem ok__law_glue (T : Txt P K mg) : FnOk P w K mg base CX0 1 T.f__law_glue T.fd__law_glue ["_law_row", "_law_start", "_law_end"] (toSp K (Lin.ap_lglue)) := by
  exact fn_ab [] T.F__law_glue sc__law_glue (by walk_at "len") rfl (fun cdv A outer s H E hr => ⟨_, tm__law_glue T cdv A outer s H E hr, Lin.run_lglue⟩)
theorem ok__law_line_key (T : Txt P K mg) : FnOk P w K mg base CX0 2 T.f__law_line_key T.fd__law_line_key ["_law_pool_here", "_law_row"] (toSp K (Lin.ap_lkey)) := by
  have G__law_take := ok__law_take (P := P) (w := w) (base := base) T
  have G__law_glue := ok__law_glue (P := P) (w := w) (base := base) T
  exact fn_ab [0] T.F__law_line_key sc__law_line_key (by walk_at "len") rfl (fun cdv A outer s H E hr => ⟨_, tm__law_line_key T G__law_take G__law_glue cdv A outer s H E hr, Lin.run_lkey40⟩)
theorem ok__law_allowed (T : Txt P K mg) : FnOk P w K mg base CX0 1 T.f__law_allowed T.fd__law_allowed ["_law_row", "_law_key"] (toSp K (ap_allowed)) := by
  exact fn_ab [] T.F__law_allowed sc__law_allowed (by walk_at "len") rfl (fun cdv A outer s H E hr => ⟨_, tm__law_allowed T cdv A outer s H E hr, run_allowed⟩)
theorem ok__law_times (T : Txt P K mg) : FnOk P w K mg base CX0 1 T.f__law_times T.fd__law_times ["_law_row", "_law_times_here"] (toSp K (ap_times)) := by
  exact fn_ab [] T.F__law_times sc__law_times (by walk_at "len") rfl (fun cdv A outer s H E hr => ⟨_, tm__law_times T cdv A outer s H E hr, run_times⟩)
theorem ok__law_answer (T : Txt P K mg) : FnOk P w K mg base CX0 11 T.f__law_answer T.fd__law_answer ["_law_row", "_law_measure"] (toSp K (ap_ans3 T.c_Measure)) := by
  have G_break_lines := ok_break_lines (P := P) (w := w) (base := base) T
  exact fn_ab [] T.F__law_answer sc__law_answer (by walk_at "len") rfl (fun cdv A outer s H E hr => ⟨_, tm__law_answer T G_break_lines cdv A outer s H E hr, run_ans3 (exm_self T) T.xc_Blocked T.xf_Blocked T.na_Blocked_start T.na_Blocked_end⟩)
theorem ok_law (T : Txt P K mg) : FnOk P w K mg base CX0 12 T.f_law T.fd_law ["_law_script"] (toSp K (ap_law)) := by
  have G__law_bare := ok__law_bare (P := P) (w := w) (base := base) T
  have G__law_pool := ok__law_pool (P := P) (w := w) (base := base) T
  have G__law_line_key := ok__law_line_key (P := P) (w := w) (base := base) T
  have G__law_allowed := ok__law_allowed (P := P) (w := w) (base := base) T
  have G__law_take := ok__law_take (P := P) (w := w) (base := base) T
  have G__law_times := ok__law_times (P := P) (w := w) (base := base) T
  have G_Measure_of := ok_Measure_of (P := P) (w := w) (base := base) T
  have G__law_answer := ok__law_answer (P := P) (w := w) (base := base) T
  have G__law_same := ok__law_same (P := P) (w := w) (base := base) T
  have G_line_certificate := ok_line_certificate (P := P) (w := w) (base := base) T
  exact fn_ab [] T.F_law sc_law (by walk_at "len") rfl (fun cdv A outer s H E hr => ⟨_, tm_law T G__law_bare G__law_pool G__law_line_key G__law_allowed G__law_take G__law_times G_Measure_of G__law_answer G__law_same G_line_certificate cdv A outer s H E hr, run_law⟩)
end
theorem law_pre {ns : List Int} (hl : ns.length ≤ 63) {Post : Re → List Sl → Prop} (hp : ∀ as, Post (.val (.bl true)) as) : ap_law [.val (.scr ns)] Post := ⟨ns, rfl, hp _⟩
end Lk59

namespace Lk59
open PySem L2 Ab
theorem fin_mk {l : PySem.W.OpenLaw} {w : World} {K : PySem.W.Frag} {h : Heap} {mg : Str → Option Value} {fa : Addr} (X : K.In h) (G : h.Ns mainGlobals mg) (hfa : mg "law" = some (.ref fa))
    {c_Glue : Addr} (aGlue : PySem.W.nsIn K mainGlobals "Glue" = some (some (.ref c_Glue)))
    (pgGlue : PySem.W.plainGet K c_Glue Str.empty = true) (hdGlue : PySem.W.hasDictIn K c_Glue = true) (poGlue : PySem.W.plainOver K c_Glue = true) (saGlue : PySem.W.findIn K (.ref c_Glue) "__setattr__" = some (some (.builtin "object.__setattr__"))) (mkGlue : PySem.W.makesIn K c_Glue = true) (kcGlue : PySem.W.keepIn K (.ref c_Glue) = true)
    (haGlue : PySem.W.findIn K (.ref c_Glue) "__class__" = some (some (.builtin "object.__class__"))) (hmGlue : PySem.W.mroIn K c_Glue (.type "object") = some true)
    (sfGlue : PySem.W.selfFirst K c_Glue = true)
    (naGlue_width : PySem.W.findIn K (.ref c_Glue) "width" = some none)
    (naGlue_stretch : PySem.W.findIn K (.ref c_Glue) "stretch" = some none)
    (naGlue_shrink : PySem.W.findIn K (.ref c_Glue) "shrink" = some none)
    {c_LineTable : Addr} (aLineTable : PySem.W.nsIn K mainGlobals "LineTable" = some (some (.ref c_LineTable)))
    (pgLineTable : PySem.W.plainGet K c_LineTable Str.empty = true) (hdLineTable : PySem.W.hasDictIn K c_LineTable = true) (poLineTable : PySem.W.plainOver K c_LineTable = true) (saLineTable : PySem.W.findIn K (.ref c_LineTable) "__setattr__" = some (some (.builtin "object.__setattr__"))) (mkLineTable : PySem.W.makesIn K c_LineTable = true) (kcLineTable : PySem.W.keepIn K (.ref c_LineTable) = true)
    (haLineTable : PySem.W.findIn K (.ref c_LineTable) "__class__" = some (some (.builtin "object.__class__"))) (hmLineTable : PySem.W.mroIn K c_LineTable (.type "object") = some true)
    (naLineTable_row : PySem.W.findIn K (.ref c_LineTable) "row" = some none)
    (naLineTable_fitting : PySem.W.findIn K (.ref c_LineTable) "fitting" = some none)
    (naLineTable_boxes : PySem.W.findIn K (.ref c_LineTable) "boxes" = some none)
    (naLineTable_rivers : PySem.W.findIn K (.ref c_LineTable) "rivers" = some none)
    (naLineTable_ends_from : PySem.W.findIn K (.ref c_LineTable) "ends_from" = some none)
    (naLineTable_starts_to : PySem.W.findIn K (.ref c_LineTable) "starts_to" = some none)
    (naLineTable_gaps : PySem.W.findIn K (.ref c_LineTable) "gaps" = some none)
    {c_Measure : Addr} (aMeasure : PySem.W.nsIn K mainGlobals "Measure" = some (some (.ref c_Measure)))
    (pgMeasure : PySem.W.plainGet K c_Measure Str.empty = true) (hdMeasure : PySem.W.hasDictIn K c_Measure = true) (poMeasure : PySem.W.plainOver K c_Measure = true) (saMeasure : PySem.W.findIn K (.ref c_Measure) "__setattr__" = some (some (.builtin "object.__setattr__"))) (mkMeasure : PySem.W.makesIn K c_Measure = true) (kcMeasure : PySem.W.keepIn K (.ref c_Measure) = true)
    (haMeasure : PySem.W.findIn K (.ref c_Measure) "__class__" = some (some (.builtin "object.__class__"))) (hmMeasure : PySem.W.mroIn K c_Measure (.type "object") = some true)
    (rdMeasure : PySem.W.readsIn K c_Measure (.type "type") = true) (gaMeasure : PySem.W.specialIn K (.ref c_Measure) "__getattribute__" = some (some (.builtin "type.__getattribute__")))
    (naMeasure_width : PySem.W.findIn K (.ref c_Measure) "width" = some none)
    (naMeasure_indent : PySem.W.findIn K (.ref c_Measure) "indent" = some none)
    (naMeasure_align : PySem.W.findIn K (.ref c_Measure) "align" = some none)
    (naMeasure_hyphen : PySem.W.findIn K (.ref c_Measure) "hyphen" = some none)
    (naMeasure_twin : PySem.W.findIn K (.ref c_Measure) "twin" = some none)
    (naMeasure_river : PySem.W.findIn K (.ref c_Measure) "river" = some none)
    (naMeasure_loose : PySem.W.findIn K (.ref c_Measure) "loose" = some none)
    (hnO : PySem.W.specialIn K (.builtin "object.__class__") "__get__" = some (some (.builtin "getset_descriptor.__get__"))) (htO : PySem.W.takesIn K (.builtin "object.__class__") = some true)
    {f0 : Addr} {od0 an0 : Option Addr} {sl0 : Array (Option Value)} {oc0 kV0 dc0 pm0 cd0 ct0 : Value}
    (a0 : PySem.W.findIn K (.ref c_Glue) "__init__" = some (some (.ref f0))) (l0 : K.lookup f0 = some ⟨oc0, od0, .func (PySem.W.fnOf "__init__" "Glue.__init__" (defArgs s_Glue___init__) (defBody s_Glue___init__) (defScope s_Glue___init__) .none kV0 dc0 pm0 an0 cd0 ct0), sl0⟩) (c0 : PySem.W.codeIn K cd0 "Glue.__init__" = true) (k0 : PySem.W.keepIn K (.ref f0) = true)
    (i0 : PySem.W.isFn K (.ref f0) = true)
    {f1 : Addr} {od1 an1 : Option Addr} {sl1 : Array (Option Value)} {oc1 kV1 dc1 pm1 cd1 ct1 : Value}
    (a1 : PySem.W.findIn K (.ref c_Glue) "__add__" = some (some (.ref f1))) (l1 : K.lookup f1 = some ⟨oc1, od1, .func (PySem.W.fnOf "__add__" "Glue.__add__" (defArgs s_Glue___add__) (defBody s_Glue___add__) (defScope s_Glue___add__) .none kV1 dc1 pm1 an1 cd1 ct1), sl1⟩) (c1 : PySem.W.codeIn K cd1 "Glue.__add__" = true) (k1 : PySem.W.keepIn K (.ref f1) = true)
    (i1 : PySem.W.isFn K (.ref f1) = true)
    (o1 : PySem.W.findIn K (.ref c_Glue) (PySem.dunder (PySem.Operator.Add).info.2) = some (some (.ref f1)))
    {f2 : Addr} {od2 an2 : Option Addr} {sl2 : Array (Option Value)} {oc2 kV2 dc2 pm2 cd2 ct2 : Value}
    (a2 : PySem.W.nsIn K mainGlobals "ends_at_hyphen" = some (some (.ref f2))) (l2 : K.lookup f2 = some ⟨oc2, od2, .func (PySem.W.fnOf "ends_at_hyphen" "ends_at_hyphen" (defArgs s_ends_at_hyphen) (defBody s_ends_at_hyphen) (defScope s_ends_at_hyphen) .none kV2 dc2 pm2 an2 cd2 ct2), sl2⟩) (c2 : PySem.W.codeIn K cd2 "ends_at_hyphen" = true) (k2 : PySem.W.keepIn K (.ref f2) = true)
    {f3 : Addr} {od3 an3 : Option Addr} {sl3 : Array (Option Value)} {oc3 kV3 dc3 pm3 cd3 ct3 : Value}
    (a3 : PySem.W.nsIn K mainGlobals "joint_glue" = some (some (.ref f3))) (l3 : K.lookup f3 = some ⟨oc3, od3, .func (PySem.W.fnOf "joint_glue" "joint_glue" (defArgs s_joint_glue) (defBody s_joint_glue) (defScope s_joint_glue) .none kV3 dc3 pm3 an3 cd3 ct3), sl3⟩) (c3 : PySem.W.codeIn K cd3 "joint_glue" = true) (k3 : PySem.W.keepIn K (.ref f3) = true)
    {f4 : Addr} {od4 an4 : Option Addr} {sl4 : Array (Option Value)} {oc4 kV4 dc4 pm4 cd4 ct4 : Value}
    (a4 : PySem.W.nsIn K mainGlobals "extended_glue" = some (some (.ref f4))) (l4 : K.lookup f4 = some ⟨oc4, od4, .func (PySem.W.fnOf "extended_glue" "extended_glue" (defArgs s_extended_glue) (defBody s_extended_glue) (defScope s_extended_glue) .none kV4 dc4 pm4 an4 cd4 ct4), sl4⟩) (c4 : PySem.W.codeIn K cd4 "extended_glue" = true) (k4 : PySem.W.keepIn K (.ref f4) = true)
    {f5 : Addr} {od5 an5 : Option Addr} {sl5 : Array (Option Value)} {oc5 kV5 dc5 pm5 cd5 ct5 : Value}
    (a5 : PySem.W.nsIn K mainGlobals "finished_glue" = some (some (.ref f5))) (l5 : K.lookup f5 = some ⟨oc5, od5, .func (PySem.W.fnOf "finished_glue" "finished_glue" (defArgs s_finished_glue) (defBody s_finished_glue) (defScope s_finished_glue) .none kV5 dc5 pm5 an5 cd5 ct5), sl5⟩) (c5 : PySem.W.codeIn K cd5 "finished_glue" = true) (k5 : PySem.W.keepIn K (.ref f5) = true)
    {f6 : Addr} {od6 an6 : Option Addr} {sl6 : Array (Option Value)} {oc6 kV6 dc6 pm6 cd6 ct6 : Value}
    (a6 : PySem.W.nsIn K mainGlobals "line_glue" = some (some (.ref f6))) (l6 : K.lookup f6 = some ⟨oc6, od6, .func (PySem.W.fnOf "line_glue" "line_glue" (defArgs s_line_glue) (defBody s_line_glue) (defScope s_line_glue) .none kV6 dc6 pm6 an6 cd6 ct6), sl6⟩) (c6 : PySem.W.codeIn K cd6 "line_glue" = true) (k6 : PySem.W.keepIn K (.ref f6) = true)
    {f7 : Addr} {od7 an7 : Option Addr} {sl7 : Array (Option Value)} {oc7 kV7 dc7 pm7 cd7 ct7 : Value}
    (a7 : PySem.W.nsIn K mainGlobals "room_of" = some (some (.ref f7))) (l7 : K.lookup f7 = some ⟨oc7, od7, .func (PySem.W.fnOf "room_of" "room_of" (defArgs s_room_of) (defBody s_room_of) (defScope s_room_of) .none kV7 dc7 pm7 an7 cd7 ct7), sl7⟩) (c7 : PySem.W.codeIn K cd7 "room_of" = true) (k7 : PySem.W.keepIn K (.ref f7) = true)
    {f8 : Addr} {od8 an8 : Option Addr} {sl8 : Array (Option Value)} {oc8 kV8 dc8 pm8 cd8 ct8 : Value}
    (a8 : PySem.W.nsIn K mainGlobals "both_price" = some (some (.ref f8))) (l8 : K.lookup f8 = some ⟨oc8, od8, .func (PySem.W.fnOf "both_price" "both_price" (defArgs s_both_price) (defBody s_both_price) (defScope s_both_price) .none kV8 dc8 pm8 an8 cd8 ct8), sl8⟩) (c8 : PySem.W.codeIn K cd8 "both_price" = true) (k8 : PySem.W.keepIn K (.ref f8) = true)
    {f9 : Addr} {od9 an9 : Option Addr} {sl9 : Array (Option Value)} {oc9 kV9 dc9 pm9 cd9 ct9 : Value}
    (a9 : PySem.W.nsIn K mainGlobals "left_price" = some (some (.ref f9))) (l9 : K.lookup f9 = some ⟨oc9, od9, .func (PySem.W.fnOf "left_price" "left_price" (defArgs s_left_price) (defBody s_left_price) (defScope s_left_price) .none kV9 dc9 pm9 an9 cd9 ct9), sl9⟩) (c9 : PySem.W.codeIn K cd9 "left_price" = true) (k9 : PySem.W.keepIn K (.ref f9) = true)
    {f10 : Addr} {od10 an10 : Option Addr} {sl10 : Array (Option Value)} {oc10 kV10 dc10 pm10 cd10 ct10 : Value}
    (a10 : PySem.W.nsIn K mainGlobals "price_with_glue" = some (some (.ref f10))) (l10 : K.lookup f10 = some ⟨oc10, od10, .func (PySem.W.fnOf "price_with_glue" "price_with_glue" (defArgs s_price_with_glue) (defBody s_price_with_glue) (defScope s_price_with_glue) .none kV10 dc10 pm10 an10 cd10 ct10), sl10⟩) (c10 : PySem.W.codeIn K cd10 "price_with_glue" = true) (k10 : PySem.W.keepIn K (.ref f10) = true)
    {f11 : Addr} {od11 an11 : Option Addr} {sl11 : Array (Option Value)} {oc11 kV11 dc11 pm11 cd11 ct11 : Value}
    (a11 : PySem.W.nsIn K mainGlobals "extra_of" = some (some (.ref f11))) (l11 : K.lookup f11 = some ⟨oc11, od11, .func (PySem.W.fnOf "extra_of" "extra_of" (defArgs s_extra_of) (defBody s_extra_of) (defScope s_extra_of) .none kV11 dc11 pm11 an11 cd11 ct11), sl11⟩) (c11 : PySem.W.codeIn K cd11 "extra_of" = true) (k11 : PySem.W.keepIn K (.ref f11) = true)
    {f12 : Addr} {od12 an12 : Option Addr} {sl12 : Array (Option Value)} {oc12 kV12 dc12 pm12 cd12 ct12 : Value}
    (a12 : PySem.W.nsIn K mainGlobals "box_places" = some (some (.ref f12))) (l12 : K.lookup f12 = some ⟨oc12, od12, .func (PySem.W.fnOf "box_places" "box_places" (defArgs s_box_places) (defBody s_box_places) (defScope s_box_places) .none kV12 dc12 pm12 an12 cd12 ct12), sl12⟩) (c12 : PySem.W.codeIn K cd12 "box_places" = true) (k12 : PySem.W.keepIn K (.ref f12) = true)
    {f13 : Addr} {od13 an13 : Option Addr} {sl13 : Array (Option Value)} {oc13 kV13 dc13 pm13 cd13 ct13 : Value}
    (a13 : PySem.W.nsIn K mainGlobals "gap_spans" = some (some (.ref f13))) (l13 : K.lookup f13 = some ⟨oc13, od13, .func (PySem.W.fnOf "gap_spans" "gap_spans" (defArgs s_gap_spans) (defBody s_gap_spans) (defScope s_gap_spans) .none kV13 dc13 pm13 an13 cd13 ct13), sl13⟩) (c13 : PySem.W.codeIn K cd13 "gap_spans" = true) (k13 : PySem.W.keepIn K (.ref f13) = true)
    {f14 : Addr} {od14 an14 : Option Addr} {sl14 : Array (Option Value)} {oc14 kV14 dc14 pm14 cd14 ct14 : Value}
    (a14 : PySem.W.nsIn K mainGlobals "count_overlapping" = some (some (.ref f14))) (l14 : K.lookup f14 = some ⟨oc14, od14, .func (PySem.W.fnOf "count_overlapping" "count_overlapping" (defArgs s_count_overlapping) (defBody s_count_overlapping) (defScope s_count_overlapping) .none kV14 dc14 pm14 an14 cd14 ct14), sl14⟩) (c14 : PySem.W.codeIn K cd14 "count_overlapping" = true) (k14 : PySem.W.keepIn K (.ref f14) = true)
    {f15 : Addr} {od15 an15 : Option Addr} {sl15 : Array (Option Value)} {oc15 kV15 dc15 pm15 cd15 ct15 : Value}
    (a15 : PySem.W.nsIn K mainGlobals "price_with_count" = some (some (.ref f15))) (l15 : K.lookup f15 = some ⟨oc15, od15, .func (PySem.W.fnOf "price_with_count" "price_with_count" (defArgs s_price_with_count) (defBody s_price_with_count) (defScope s_price_with_count) .none kV15 dc15 pm15 an15 cd15 ct15), sl15⟩) (c15 : PySem.W.codeIn K cd15 "price_with_count" = true) (k15 : PySem.W.keepIn K (.ref f15) = true)
    {f16 : Addr} {od16 an16 : Option Addr} {sl16 : Array (Option Value)} {oc16 kV16 dc16 pm16 cd16 ct16 : Value}
    (a16 : PySem.W.nsIn K mainGlobals "lines_from" = some (some (.ref f16))) (l16 : K.lookup f16 = some ⟨oc16, od16, .func (PySem.W.fnOf "lines_from" "lines_from" (defArgs s_lines_from) (defBody s_lines_from) (defScope s_lines_from) .none kV16 dc16 pm16 an16 cd16 ct16), sl16⟩) (c16 : PySem.W.codeIn K cd16 "lines_from" = true) (k16 : PySem.W.keepIn K (.ref f16) = true)
    {f17 : Addr} {od17 an17 : Option Addr} {sl17 : Array (Option Value)} {oc17 kV17 dc17 pm17 cd17 ct17 : Value}
    (a17 : PySem.W.findIn K (.ref c_LineTable) "__init__" = some (some (.ref f17))) (l17 : K.lookup f17 = some ⟨oc17, od17, .func (PySem.W.fnOf "__init__" "LineTable.__init__" (defArgs s_LineTable___init__) (defBody s_LineTable___init__) (defScope s_LineTable___init__) .none kV17 dc17 pm17 an17 cd17 ct17), sl17⟩) (c17 : PySem.W.codeIn K cd17 "LineTable.__init__" = true) (k17 : PySem.W.keepIn K (.ref f17) = true)
    (i17 : PySem.W.isFn K (.ref f17) = true)
    {f18 : Addr} {od18 an18 : Option Addr} {sl18 : Array (Option Value)} {oc18 kV18 dc18 pm18 cd18 ct18 : Value}
    (a18 : PySem.W.findIn K (.ref c_LineTable) "pair" = some (some (.ref f18))) (l18 : K.lookup f18 = some ⟨oc18, od18, .func (PySem.W.fnOf "pair" "LineTable.pair" (defArgs s_LineTable_pair) (defBody s_LineTable_pair) (defScope s_LineTable_pair) .none kV18 dc18 pm18 an18 cd18 ct18), sl18⟩) (c18 : PySem.W.codeIn K cd18 "LineTable.pair" = true) (k18 : PySem.W.keepIn K (.ref f18) = true)
    (i18 : PySem.W.isFn K (.ref f18) = true)
    {f19 : Addr} {od19 an19 : Option Addr} {sl19 : Array (Option Value)} {oc19 kV19 dc19 pm19 cd19 ct19 : Value}
    (a19 : PySem.W.nsIn K mainGlobals "farthest_ends" = some (some (.ref f19))) (l19 : K.lookup f19 = some ⟨oc19, od19, .func (PySem.W.fnOf "farthest_ends" "farthest_ends" (defArgs s_farthest_ends) (defBody s_farthest_ends) (defScope s_farthest_ends) .none kV19 dc19 pm19 an19 cd19 ct19), sl19⟩) (c19 : PySem.W.codeIn K cd19 "farthest_ends" = true) (k19 : PySem.W.keepIn K (.ref f19) = true)
    {f20 : Addr} {od20 an20 : Option Addr} {sl20 : Array (Option Value)} {oc20 kV20 dc20 pm20 cd20 ct20 : Value}
    (a20 : PySem.W.nsIn K mainGlobals "stretch_of" = some (some (.ref f20))) (l20 : K.lookup f20 = some ⟨oc20, od20, .func (PySem.W.fnOf "stretch_of" "stretch_of" (defArgs s_stretch_of) (defBody s_stretch_of) (defScope s_stretch_of) .none kV20 dc20 pm20 an20 cd20 ct20), sl20⟩) (c20 : PySem.W.codeIn K cd20 "stretch_of" = true) (k20 : PySem.W.keepIn K (.ref f20) = true)
    {f21 : Addr} {od21 an21 : Option Addr} {sl21 : Array (Option Value)} {oc21 kV21 dc21 pm21 cd21 ct21 : Value}
    (a21 : PySem.W.nsIn K mainGlobals "continuations" = some (some (.ref f21))) (l21 : K.lookup f21 = some ⟨oc21, od21, .func (PySem.W.fnOf "continuations" "continuations" (defArgs s_continuations) (defBody s_continuations) (defScope s_continuations) .none kV21 dc21 pm21 an21 cd21 ct21), sl21⟩) (c21 : PySem.W.codeIn K cd21 "continuations" = true) (k21 : PySem.W.keepIn K (.ref f21) = true)
    {f22 : Addr} {od22 an22 : Option Addr} {sl22 : Array (Option Value)} {oc22 kV22 dc22 pm22 cd22 ct22 : Value}
    (a22 : PySem.W.nsIn K mainGlobals "best_continuations" = some (some (.ref f22))) (l22 : K.lookup f22 = some ⟨oc22, od22, .func (PySem.W.fnOf "best_continuations" "best_continuations" (defArgs s_best_continuations) (defBody s_best_continuations) (defScope s_best_continuations) .none kV22 dc22 pm22 an22 cd22 ct22), sl22⟩) (c22 : PySem.W.codeIn K cd22 "best_continuations" = true) (k22 : PySem.W.keepIn K (.ref f22) = true)
    {f23 : Addr} {od23 an23 : Option Addr} {sl23 : Array (Option Value)} {oc23 kV23 dc23 pm23 cd23 ct23 : Value}
    (a23 : PySem.W.nsIn K mainGlobals "break_lines" = some (some (.ref f23))) (l23 : K.lookup f23 = some ⟨oc23, od23, .func (PySem.W.fnOf "break_lines" "break_lines" (defArgs s_break_lines) (defBody s_break_lines) (defScope s_break_lines) .none kV23 dc23 pm23 an23 cd23 ct23), sl23⟩) (c23 : PySem.W.codeIn K cd23 "break_lines" = true) (k23 : PySem.W.keepIn K (.ref f23) = true)
    {f24 : Addr} {od24 an24 : Option Addr} {sl24 : Array (Option Value)} {oc24 kV24 dc24 pm24 cd24 ct24 : Value}
    (a24 : PySem.W.nsIn K mainGlobals "prefixes_to" = some (some (.ref f24))) (l24 : K.lookup f24 = some ⟨oc24, od24, .func (PySem.W.fnOf "prefixes_to" "prefixes_to" (defArgs s_prefixes_to) (defBody s_prefixes_to) (defScope s_prefixes_to) .none kV24 dc24 pm24 an24 cd24 ct24), sl24⟩) (c24 : PySem.W.codeIn K cd24 "prefixes_to" = true) (k24 : PySem.W.keepIn K (.ref f24) = true)
    {f25 : Addr} {od25 an25 : Option Addr} {sl25 : Array (Option Value)} {oc25 kV25 dc25 pm25 cd25 ct25 : Value}
    (a25 : PySem.W.nsIn K mainGlobals "best_prefixes" = some (some (.ref f25))) (l25 : K.lookup f25 = some ⟨oc25, od25, .func (PySem.W.fnOf "best_prefixes" "best_prefixes" (defArgs s_best_prefixes) (defBody s_best_prefixes) (defScope s_best_prefixes) .none kV25 dc25 pm25 an25 cd25 ct25), sl25⟩) (c25 : PySem.W.codeIn K cd25 "best_prefixes" = true) (k25 : PySem.W.keepIn K (.ref f25) = true)
    {f26 : Addr} {od26 an26 : Option Addr} {sl26 : Array (Option Value)} {oc26 kV26 dc26 pm26 cd26 ct26 : Value}
    (a26 : PySem.W.nsIn K mainGlobals "line_certificate" = some (some (.ref f26))) (l26 : K.lookup f26 = some ⟨oc26, od26, .func (PySem.W.fnOf "line_certificate" "line_certificate" (defArgs s_line_certificate) (defBody s_line_certificate) (defScope s_line_certificate) .none kV26 dc26 pm26 an26 cd26 ct26), sl26⟩) (c26 : PySem.W.codeIn K cd26 "line_certificate" = true) (k26 : PySem.W.keepIn K (.ref f26) = true)
    {f27 : Addr} {od27 an27 : Option Addr} {sl27 : Array (Option Value)} {oc27  dc27 pm27 cd27 ct27 : Value}
    {D_Measure : Addr} {t_Measure_indent : Tok} {t_Measure_align : Tok} {t_Measure_hyphen : Tok} {t_Measure_twin : Tok} {t_Measure_river : Tok} {t_Measure_loose : Tok}
    (a27 : PySem.W.findIn K (.ref c_Measure) "__init__" = some (some (.ref f27))) (l27 : K.lookup f27 = some ⟨oc27, od27, .func (PySem.W.fnOf "__init__" "Measure.__init__" (defArgs s_Measure___init__) (defBody s_Measure___init__) (defScope s_Measure___init__) .none (.ref D_Measure) dc27 pm27 an27 cd27 ct27), sl27⟩) (c27 : PySem.W.codeIn K cd27 "Measure.__init__" = true) (k27 : PySem.W.keepIn K (.ref f27) = true)
    (i27 : PySem.W.isFn K (.ref f27) = true)
    (kd_Measure_indent : PySem.W.nsIn K D_Measure "indent" = some (some (.int 0 t_Measure_indent))) (kd_Measure_align : PySem.W.nsIn K D_Measure "align" = some (some (.str "both" t_Measure_align))) (kd_Measure_hyphen : PySem.W.nsIn K D_Measure "hyphen" = some (some (.int 50 t_Measure_hyphen))) (kd_Measure_twin : PySem.W.nsIn K D_Measure "twin" = some (some (.int 100 t_Measure_twin))) (kd_Measure_river : PySem.W.nsIn K D_Measure "river" = some (some (.int 0 t_Measure_river))) (kd_Measure_loose : PySem.W.nsIn K D_Measure "loose" = some (some (.int 2 t_Measure_loose)))
    {f28 : Addr} {od28 an28 : Option Addr} {sl28 : Array (Option Value)} {oc28 kV28 dc28 pm28 cd28 ct28 : Value}
    {p28 : Addr} {rest28 : List Value} (sa28 : PySem.W.findCls K (.ref c_Measure) (.type "type") "of" = some (.get (.builtin "staticmethod.__get__") (.ref p28) .none (.ref c_Measure))) (sr28 : PySem.W.recIn K p28 "staticmethod" = some (.ref f28 :: rest28))
    (l28 : K.lookup f28 = some ⟨oc28, od28, .func (PySem.W.fnOf "of" "Measure.of" (defArgs s_Measure_of) (defBody s_Measure_of) (defScope s_Measure_of) .none kV28 dc28 pm28 an28 cd28 ct28), sl28⟩) (c28 : PySem.W.codeIn K cd28 "Measure.of" = true) (k28 : PySem.W.keepIn K (.ref f28) = true)
    {f29 : Addr} {od29 an29 : Option Addr} {sl29 : Array (Option Value)} {oc29 kV29 dc29 pm29 cd29 ct29 : Value}
    (a29 : PySem.W.nsIn K mainGlobals "_law_pool" = some (some (.ref f29))) (l29 : K.lookup f29 = some ⟨oc29, od29, .func (PySem.W.fnOf "_law_pool" "_law_pool" (defArgs s__law_pool) (defBody s__law_pool) (defScope s__law_pool) .none kV29 dc29 pm29 an29 cd29 ct29), sl29⟩) (c29 : PySem.W.codeIn K cd29 "_law_pool" = true) (k29 : PySem.W.keepIn K (.ref f29) = true)
    {f30 : Addr} {od30 an30 : Option Addr} {sl30 : Array (Option Value)} {oc30 kV30 dc30 pm30 cd30 ct30 : Value}
    (a30 : PySem.W.nsIn K mainGlobals "_law_take" = some (some (.ref f30))) (l30 : K.lookup f30 = some ⟨oc30, od30, .func (PySem.W.fnOf "_law_take" "_law_take" (defArgs s__law_take) (defBody s__law_take) (defScope s__law_take) .none kV30 dc30 pm30 an30 cd30 ct30), sl30⟩) (c30 : PySem.W.codeIn K cd30 "_law_take" = true) (k30 : PySem.W.keepIn K (.ref f30) = true)
    {f31 : Addr} {od31 an31 : Option Addr} {sl31 : Array (Option Value)} {oc31 kV31 dc31 pm31 cd31 ct31 : Value}
    (a31 : PySem.W.nsIn K mainGlobals "_law_same" = some (some (.ref f31))) (l31 : K.lookup f31 = some ⟨oc31, od31, .func (PySem.W.fnOf "_law_same" "_law_same" (defArgs s__law_same) (defBody s__law_same) (defScope s__law_same) .none kV31 dc31 pm31 an31 cd31 ct31), sl31⟩) (c31 : PySem.W.codeIn K cd31 "_law_same" = true) (k31 : PySem.W.keepIn K (.ref f31) = true)
    {f32 : Addr} {od32 an32 : Option Addr} {sl32 : Array (Option Value)} {oc32 kV32 dc32 pm32 cd32 ct32 : Value}
    (a32 : PySem.W.nsIn K mainGlobals "_law_joint" = some (some (.ref f32))) (l32 : K.lookup f32 = some ⟨oc32, od32, .func (PySem.W.fnOf "_law_joint" "_law_joint" (defArgs s__law_joint) (defBody s__law_joint) (defScope s__law_joint) .none kV32 dc32 pm32 an32 cd32 ct32), sl32⟩) (c32 : PySem.W.codeIn K cd32 "_law_joint" = true) (k32 : PySem.W.keepIn K (.ref f32) = true)
    {f33 : Addr} {od33 an33 : Option Addr} {sl33 : Array (Option Value)} {oc33 kV33 dc33 pm33 cd33 ct33 : Value}
    (a33 : PySem.W.nsIn K mainGlobals "_law_bare" = some (some (.ref f33))) (l33 : K.lookup f33 = some ⟨oc33, od33, .func (PySem.W.fnOf "_law_bare" "_law_bare" (defArgs s__law_bare) (defBody s__law_bare) (defScope s__law_bare) .none kV33 dc33 pm33 an33 cd33 ct33), sl33⟩) (c33 : PySem.W.codeIn K cd33 "_law_bare" = true) (k33 : PySem.W.keepIn K (.ref f33) = true)
    {f34 : Addr} {od34 an34 : Option Addr} {sl34 : Array (Option Value)} {oc34 kV34 dc34 pm34 cd34 ct34 : Value}
    (a34 : PySem.W.nsIn K mainGlobals "_law_glue" = some (some (.ref f34))) (l34 : K.lookup f34 = some ⟨oc34, od34, .func (PySem.W.fnOf "_law_glue" "_law_glue" (defArgs s__law_glue) (defBody s__law_glue) (defScope s__law_glue) .none kV34 dc34 pm34 an34 cd34 ct34), sl34⟩) (c34 : PySem.W.codeIn K cd34 "_law_glue" = true) (k34 : PySem.W.keepIn K (.ref f34) = true)
    {f35 : Addr} {od35 an35 : Option Addr} {sl35 : Array (Option Value)} {oc35 kV35 dc35 pm35 cd35 ct35 : Value}
    (a35 : PySem.W.nsIn K mainGlobals "_law_line_key" = some (some (.ref f35))) (l35 : K.lookup f35 = some ⟨oc35, od35, .func (PySem.W.fnOf "_law_line_key" "_law_line_key" (defArgs s__law_line_key) (defBody s__law_line_key) (defScope s__law_line_key) .none kV35 dc35 pm35 an35 cd35 ct35), sl35⟩) (c35 : PySem.W.codeIn K cd35 "_law_line_key" = true) (k35 : PySem.W.keepIn K (.ref f35) = true)
    {f36 : Addr} {od36 an36 : Option Addr} {sl36 : Array (Option Value)} {oc36 kV36 dc36 pm36 cd36 ct36 : Value}
    (a36 : PySem.W.nsIn K mainGlobals "_law_allowed" = some (some (.ref f36))) (l36 : K.lookup f36 = some ⟨oc36, od36, .func (PySem.W.fnOf "_law_allowed" "_law_allowed" (defArgs s__law_allowed) (defBody s__law_allowed) (defScope s__law_allowed) .none kV36 dc36 pm36 an36 cd36 ct36), sl36⟩) (c36 : PySem.W.codeIn K cd36 "_law_allowed" = true) (k36 : PySem.W.keepIn K (.ref f36) = true)
    {f37 : Addr} {od37 an37 : Option Addr} {sl37 : Array (Option Value)} {oc37 kV37 dc37 pm37 cd37 ct37 : Value}
    (a37 : PySem.W.nsIn K mainGlobals "_law_times" = some (some (.ref f37))) (l37 : K.lookup f37 = some ⟨oc37, od37, .func (PySem.W.fnOf "_law_times" "_law_times" (defArgs s__law_times) (defBody s__law_times) (defScope s__law_times) .none kV37 dc37 pm37 an37 cd37 ct37), sl37⟩) (c37 : PySem.W.codeIn K cd37 "_law_times" = true) (k37 : PySem.W.keepIn K (.ref f37) = true)
    {f38 : Addr} {od38 an38 : Option Addr} {sl38 : Array (Option Value)} {oc38 kV38 dc38 pm38 cd38 ct38 : Value}
    (a38 : PySem.W.nsIn K mainGlobals "_law_answer" = some (some (.ref f38))) (l38 : K.lookup f38 = some ⟨oc38, od38, .func (PySem.W.fnOf "_law_answer" "_law_answer" (defArgs s__law_answer) (defBody s__law_answer) (defScope s__law_answer) .none kV38 dc38 pm38 an38 cd38 ct38), sl38⟩) (c38 : PySem.W.codeIn K cd38 "_law_answer" = true) (k38 : PySem.W.keepIn K (.ref f38) = true)
    {f39 : Addr} {od39 an39 : Option Addr} {sl39 : Array (Option Value)} {oc39 kV39 dc39 pm39 cd39 ct39 : Value}
    (a39 : PySem.W.nsIn K mainGlobals "law" = some (some (.ref f39))) (l39 : K.lookup f39 = some ⟨oc39, od39, .func (PySem.W.fnOf "law" "law" (defArgs s_law) (defBody s_law) (defScope s_law) .none kV39 dc39 pm39 an39 cd39 ct39), sl39⟩) (c39 : PySem.W.codeIn K cd39 "law" = true) (k39 : PySem.W.keepIn K (.ref f39) = true)
    (z_abs : PySem.W.nsIn K mainGlobals "abs" = some none)
    (z_bool : PySem.W.nsIn K mainGlobals "bool" = some none)
    (z_int : PySem.W.nsIn K mainGlobals "int" = some none)
    (z_isinstance : PySem.W.nsIn K mainGlobals "isinstance" = some none)
    (z_len : PySem.W.nsIn K mainGlobals "len" = some none)
    (z_list : PySem.W.nsIn K mainGlobals "list" = some none)
    (z_max : PySem.W.nsIn K mainGlobals "max" = some none)
    (z_min : PySem.W.nsIn K mainGlobals "min" = some none)
    (z_range : PySem.W.nsIn K mainGlobals "range" = some none)
    (z_str : PySem.W.nsIn K mainGlobals "str" = some none)
    (z_sum : PySem.W.nsIn K mainGlobals "sum" = some none)
    (z_super : PySem.W.nsIn K mainGlobals "super" = some none)
    (z_tuple : PySem.W.nsIn K mainGlobals "tuple" = some none)
    {c_Blocked : Addr} (a_Blocked : PySem.W.nsIn K mainGlobals "Blocked" = some (some (.ref c_Blocked))) (bs_Blocked : PySem.W.subIn K (.ref c_Blocked) (.type "BaseException") = some true) (tx_Blocked : PySem.W.typeIn K (.ref c_Blocked) = some (.type "type")) (hd_Blocked : PySem.W.hasDictIn K c_Blocked = true)
    (ga_Blocked : PySem.W.findIn K (.ref c_Blocked) "__getattribute__" = some (some (.builtin "BaseException.__getattribute__"))) (gg_Blocked : PySem.W.findIn K (.ref c_Blocked) "__getattr__" = some none) (cl_Blocked : PySem.W.findIn K (.ref c_Blocked) "__class__" = some (some (.builtin "object.__class__"))) (mo_Blocked : PySem.W.mroIn K c_Blocked (.type "object") = some true) (kx_Blocked : PySem.W.keepIn K (.ref c_Blocked) = true)
    (va_Blocked : PySem.W.subIn K (.ref c_Blocked) (.type "ValueError") = some true)
    (ks_ev : subTab K [c_Blocked] = true)
    (opq : PySem.W.nsIn K cStatics "thirdparty.any" = some none) (top0 : (l.prog.main.scope.names.lookup ("super" : Str)).isSome = false)
    {nm_Blocked qn_Blocked : Str} {N_Blocked : Addr} {bs__Blocked bm_Blocked : List Value} {sn_Blocked : List Str} {sub_Blocked : List Value} {ab_Blocked : Bool} {col_Blocked : Option Bool} {dd_Blocked : Option Addr} {k0_Blocked k1_Blocked k2_Blocked k3_Blocked k5_Blocked : Option Value} (oc_Blocked : K.lookup c_Blocked = some (excClassObj nm_Blocked qn_Blocked c_Blocked N_Blocked bs__Blocked bm_Blocked true sn_Blocked sub_Blocked ab_Blocked col_Blocked dd_Blocked k0_Blocked k1_Blocked k2_Blocked k3_Blocked k5_Blocked "ValueError.__new__")) (rv_Blocked : PySem.HandSPX.refsVE bm_Blocked = true) (oa_Blocked : PySem.W.findIn K (.ref c_Blocked) "__setattr__" = some (some (.builtin "object.__setattr__")))
    {fi_Blocked cc_Blocked cda_Blocked : Addr} {fo_Blocked kV_Blocked dc_Blocked pm_Blocked ct_Blocked ccl_Blocked cl__Blocked : Value} {fd_Blocked an_Blocked cdd_Blocked cld_Blocked : Option Addr} {fs_Blocked ccs_Blocked csl_Blocked : Array (Option Value)} {vs_Blocked : Array Value} {file_Blocked : Str} {tf_Blocked : Tok} (ic_Blocked : PySem.W.findIn K (.ref c_Blocked) "__init__" = some (some (.ref fi_Blocked))) (ti_Blocked : PySem.W.typeIn K (.ref fi_Blocked) = some (.type "function"))
    (lk_Blocked : K.lookup fi_Blocked = some ⟨fo_Blocked, fd_Blocked, .func (PySem.W.fnX "__init__" "Blocked.__init__" (defArgs s_Blocked___init__) (defBody s_Blocked___init__) (defScope s_Blocked___init__) [("__class__", cc_Blocked)] .none kV_Blocked dc_Blocked pm_Blocked an_Blocked (.ref cda_Blocked) ct_Blocked), fs_Blocked⟩) (cq_Blocked : PySem.W.codeIn K (.ref cda_Blocked) "Blocked.__init__" = true)
    (co_Blocked : K.lookup cda_Blocked = some ⟨ccl_Blocked, cdd_Blocked, .fields vs_Blocked, ccs_Blocked⟩) (fv_Blocked : vs_Blocked[2]? = some (.str file_Blocked tf_Blocked)) (fe_Blocked : ((l.prog.main.file : Str) == file_Blocked) = true) (ce_Blocked : K.lookup cc_Blocked = some ⟨cl__Blocked, cld_Blocked, .cell (some (.ref c_Blocked)), csl_Blocked⟩) (su_Blocked : PySem.W.ks_superIn K c_Blocked c_Blocked "__init__" = some (some (.builtin "ValueError.__init__")))
    (na_Blocked_start : PySem.W.findIn K (.ref c_Blocked) "start" = some none)
    (na_Blocked_end : PySem.W.findIn K (.ref c_Blocked) "end" = some none)
    : ∃ fd : FuncData, (∀ (s : Shared) (v : Value), BindsTo s fd ⟨[v], []⟩ [("_law_script", v)]) ∧ ∀ base : Heap, K.In base → base.Ns mainGlobals mg → FnOk l.prog w K mg base CX0 12 fa fd ["_law_script"] (toSp K ap_law) := by
  obtain ⟨T, e, hb⟩ := txt_mk X G aGlue pgGlue hdGlue poGlue saGlue mkGlue kcGlue haGlue hmGlue sfGlue naGlue_width naGlue_stretch naGlue_shrink aLineTable pgLineTable hdLineTable poLineTable saLineTable mkLineTable kcLineTable haLineTable hmLineTable naLineTable_row naLineTable_fitting naLineTable_boxes naLineTable_rivers naLineTable_ends_from naLineTable_starts_to naLineTable_gaps aMeasure pgMeasure hdMeasure poMeasure saMeasure mkMeasure kcMeasure haMeasure hmMeasure rdMeasure gaMeasure naMeasure_width naMeasure_indent naMeasure_align naMeasure_hyphen naMeasure_twin naMeasure_river naMeasure_loose hnO htO a0 l0 c0 k0 i0 a1 l1 c1 k1 i1 o1 a2 l2 c2 k2 a3 l3 c3 k3 a4 l4 c4 k4 a5 l5 c5 k5 a6 l6 c6 k6 a7 l7 c7 k7 a8 l8 c8 k8 a9 l9 c9 k9 a10 l10 c10 k10 a11 l11 c11 k11 a12 l12 c12 k12 a13 l13 c13 k13 a14 l14 c14 k14 a15 l15 c15 k15 a16 l16 c16 k16 a17 l17 c17 k17 i17 a18 l18 c18 k18 i18 a19 l19 c19 k19 a20 l20 c20 k20 a21 l21 c21 k21 a22 l22 c22 k22 a23 l23 c23 k23 a24 l24 c24 k24 a25 l25 c25 k25 a26 l26 c26 k26 a27 l27 c27 k27 i27 kd_Measure_indent kd_Measure_align kd_Measure_hyphen kd_Measure_twin kd_Measure_river kd_Measure_loose sa28 sr28 l28 c28 k28 a29 l29 c29 k29 a30 l30 c30 k30 a31 l31 c31 k31 a32 l32 c32 k32 a33 l33 c33 k33 a34 l34 c34 k34 a35 l35 c35 k35 a36 l36 c36 k36 a37 l37 c37 k37 a38 l38 c38 k38 a39 l39 c39 k39 z_abs z_bool z_int z_isinstance z_len z_list z_max z_min z_range z_str z_sum z_super z_tuple a_Blocked bs_Blocked tx_Blocked hd_Blocked ga_Blocked gg_Blocked cl_Blocked mo_Blocked kx_Blocked va_Blocked ks_ev opq top0 oc_Blocked rv_Blocked oa_Blocked ic_Blocked ti_Blocked lk_Blocked cq_Blocked co_Blocked fv_Blocked fe_Blocked ce_Blocked su_Blocked na_Blocked_start na_Blocked_end
  have e2 : T.f_law = fa := by
    have := T.g_law
    rw [hfa] at this
    cases this
    rfl
  exact ⟨T.fd_law, hb, fun base _ _ => by rw [← e2]; exact ok_law T⟩
end Lk59

end Lin
open PySem PySem.W PyProof.Rows
set_option maxRecDepth 100000 in
set_option maxHeartbeats 0 in
theorem PySem.Challenge.cw_stylepages_k59_whole_breaking_scales_holds : PySem.Challenge.rw_stylepages_k59_whole_breaking_scales.Holds := by
  w_on; o_law; k_head; (case hw => w_witness2)
  k_fill
  refine L2.walk_of (l := PySem.Challenge.rw_stylepages_k59_whole_breaking_scales) (n := 63) (k := 12) (x := "_law_script") (CX := fun _ => L2.CX0) (sp := fun w => Ab.toSp _ Lin.Lk59.ap_law) rfl (by decide) rfl ⟨rfl, by decide, by decide⟩ (fun w h Y => PySem.W.kIn_of Y) ?F (fun _ _ a ns hl _ hS => Ab.law_sp hS (fun Post hp => Lin.Lk59.law_pre hl hp)) (fun _ _ _ _ _ h => h)
  case F =>
    intro w mg fa h KX G hmg
    refine' Lin.Lk59.fin_mk KX G hmg ?aGlue ?pgGlue ?hdGlue ?poGlue ?saGlue ?mkGlue ?kcGlue ?haGlue ?hmGlue ?sfGlue ?naGlue_width ?naGlue_stretch ?naGlue_shrink ?aLineTable ?pgLineTable ?hdLineTable ?poLineTable ?saLineTable ?mkLineTable ?kcLineTable ?haLineTable ?hmLineTable ?naLineTable_row ?naLineTable_fitting ?naLineTable_boxes ?naLineTable_rivers ?naLineTable_ends_from ?naLineTable_starts_to ?naLineTable_gaps ?aMeasure ?pgMeasure ?hdMeasure ?poMeasure ?saMeasure ?mkMeasure ?kcMeasure ?haMeasure ?hmMeasure ?rdMeasure ?gaMeasure ?naMeasure_width ?naMeasure_indent ?naMeasure_align ?naMeasure_hyphen ?naMeasure_twin ?naMeasure_river ?naMeasure_loose ?hnO ?htO ?a0 ?l0 ?c0 ?k0 ?i0 ?a1 ?l1 ?c1 ?k1 ?i1 ?o1 ?a2 ?l2 ?c2 ?k2 ?a3 ?l3 ?c3 ?k3 ?a4 ?l4 ?c4 ?k4 ?a5 ?l5 ?c5 ?k5 ?a6 ?l6 ?c6 ?k6 ?a7 ?l7 ?c7 ?k7 ?a8 ?l8 ?c8 ?k8 ?a9 ?l9 ?c9 ?k9 ?a10 ?l10 ?c10 ?k10 ?a11 ?l11 ?c11 ?k11 ?a12 ?l12 ?c12 ?k12 ?a13 ?l13 ?c13 ?k13 ?a14 ?l14 ?c14 ?k14 ?a15 ?l15 ?c15 ?k15 ?a16 ?l16 ?c16 ?k16 ?a17 ?l17 ?c17 ?k17 ?i17 ?a18 ?l18 ?c18 ?k18 ?i18 ?a19 ?l19 ?c19 ?k19 ?a20 ?l20 ?c20 ?k20 ?a21 ?l21 ?c21 ?k21 ?a22 ?l22 ?c22 ?k22 ?a23 ?l23 ?c23 ?k23 ?a24 ?l24 ?c24 ?k24 ?a25 ?l25 ?c25 ?k25 ?a26 ?l26 ?c26 ?k26 ?a27 ?l27 ?c27 ?k27 ?i27 ?kd_Measure_indent ?kd_Measure_align ?kd_Measure_hyphen ?kd_Measure_twin ?kd_Measure_river ?kd_Measure_loose ?sa28 ?sr28 ?l28 ?c28 ?k28 ?a29 ?l29 ?c29 ?k29 ?a30 ?l30 ?c30 ?k30 ?a31 ?l31 ?c31 ?k31 ?a32 ?l32 ?c32 ?k32 ?a33 ?l33 ?c33 ?k33 ?a34 ?l34 ?c34 ?k34 ?a35 ?l35 ?c35 ?k35 ?a36 ?l36 ?c36 ?k36 ?a37 ?l37 ?c37 ?k37 ?a38 ?l38 ?c38 ?k38 ?a39 ?l39 ?c39 ?k39 ?z_abs ?z_bool ?z_int ?z_isinstance ?z_len ?z_list ?z_max ?z_min ?z_range ?z_str ?z_sum ?z_super ?z_tuple ?a_Blocked ?bs_Blocked ?tx_Blocked ?hd_Blocked ?ga_Blocked ?gg_Blocked ?cl_Blocked ?mo_Blocked ?kx_Blocked ?va_Blocked ?ks_ev ?opq ?top0 ?oc_Blocked ?rv_Blocked ?oa_Blocked ?ic_Blocked ?ti_Blocked ?lk_Blocked ?cq_Blocked ?co_Blocked ?fv_Blocked ?fe_Blocked ?ce_Blocked ?su_Blocked ?na_Blocked_start ?na_Blocked_end
    (case aGlue => k_is); (case pgGlue => k_is); (case hdGlue => k_is); (case poGlue => k_is); (case saGlue => k_is); (case mkGlue => k_is); (case kcGlue => k_is); (case haGlue => k_is); (case hmGlue => k_is); (case sfGlue => k_is); (case naGlue_width => k_is); (case naGlue_stretch => k_is); (case naGlue_shrink => k_is); (case aLineTable => k_is); (case pgLineTable => k_is); (case hdLineTable => k_is); (case poLineTable => k_is); (case saLineTable => k_is); (case mkLineTable => k_is); (case kcLineTable => k_is); (case haLineTable => k_is); (case hmLineTable => k_is); (case naLineTable_row => k_is); (case naLineTable_fitting => k_is); (case naLineTable_boxes => k_is); (case naLineTable_rivers => k_is); (case naLineTable_ends_from => k_is); (case naLineTable_starts_to => k_is); (case naLineTable_gaps => k_is); (case aMeasure => k_is); (case pgMeasure => k_is); (case hdMeasure => k_is); (case poMeasure => k_is); (case saMeasure => k_is); (case mkMeasure => k_is); (case kcMeasure => k_is); (case haMeasure => k_is); (case hmMeasure => k_is); (case rdMeasure => k_is); (case gaMeasure => k_is); (case naMeasure_width => k_is); (case naMeasure_indent => k_is); (case naMeasure_align => k_is); (case naMeasure_hyphen => k_is); (case naMeasure_twin => k_is); (case naMeasure_river => k_is); (case naMeasure_loose => k_is); (case hnO => k_is); (case htO => k_is); (case a0 => k_is); (case l0 => k_is); (case c0 => k_is); (case k0 => k_is); (case i0 => k_is); (case a1 => k_is); (case l1 => k_is); (case c1 => k_is); (case k1 => k_is); (case i1 => k_is); (case o1 => k_is); (case a2 => k_is); (case l2 => k_is); (case c2 => k_is); (case k2 => k_is); (case a3 => k_is); (case l3 => k_is); (case c3 => k_is); (case k3 => k_is); (case a4 => k_is); (case l4 => k_is); (case c4 => k_is); (case k4 => k_is); (case a5 => k_is); (case l5 => k_is); (case c5 => k_is); (case k5 => k_is); (case a6 => k_is); (case l6 => k_is); (case c6 => k_is); (case k6 => k_is); (case a7 => k_is); (case l7 => k_is); (case c7 => k_is); (case k7 => k_is); (case a8 => k_is); (case l8 => k_is); (case c8 => k_is); (case k8 => k_is); (case a9 => k_is); (case l9 => k_is); (case c9 => k_is); (case k9 => k_is); (case a10 => k_is); (case l10 => k_is); (case c10 => k_is); (case k10 => k_is); (case a11 => k_is); (case l11 => k_is); (case c11 => k_is); (case k11 => k_is); (case a12 => k_is); (case l12 => k_is); (case c12 => k_is); (case k12 => k_is); (case a13 => k_is); (case l13 => k_is); (case c13 => k_is); (case k13 => k_is); (case a14 => k_is); (case l14 => k_is); (case c14 => k_is); (case k14 => k_is); (case a15 => k_is); (case l15 => k_is); (case c15 => k_is); (case k15 => k_is); (case a16 => k_is); (case l16 => k_is); (case c16 => k_is); (case k16 => k_is); (case a17 => k_is); (case l17 => k_is); (case c17 => k_is); (case k17 => k_is); (case i17 => k_is); (case a18 => k_is); (case l18 => k_is); (case c18 => k_is); (case k18 => k_is); (case i18 => k_is); (case a19 => k_is); (case l19 => k_is); (case c19 => k_is); (case k19 => k_is); (case a20 => k_is); (case l20 => k_is); (case c20 => k_is); (case k20 => k_is); (case a21 => k_is); (case l21 => k_is); (case c21 => k_is); (case k21 => k_is); (case a22 => k_is); (case l22 => k_is); (case c22 => k_is); (case k22 => k_is); (case a23 => k_is); (case l23 => k_is); (case c23 => k_is); (case k23 => k_is); (case a24 => k_is); (case l24 => k_is); (case c24 => k_is); (case k24 => k_is); (case a25 => k_is); (case l25 => k_is); (case c25 => k_is); (case k25 => k_is); (case a26 => k_is); (case l26 => k_is); (case c26 => k_is); (case k26 => k_is); (case a27 => k_is); (case l27 => k_is); (case c27 => k_is); (case k27 => k_is); (case i27 => k_is); (case kd_Measure_indent => k_is); (case kd_Measure_align => k_is); (case kd_Measure_hyphen => k_is); (case kd_Measure_twin => k_is); (case kd_Measure_river => k_is); (case kd_Measure_loose => k_is); (case sa28 => k_is); (case sr28 => k_is); (case l28 => k_is); (case c28 => k_is); (case k28 => k_is); (case a29 => k_is); (case l29 => k_is); (case c29 => k_is); (case k29 => k_is); (case a30 => k_is); (case l30 => k_is); (case c30 => k_is); (case k30 => k_is); (case a31 => k_is); (case l31 => k_is); (case c31 => k_is); (case k31 => k_is); (case a32 => k_is); (case l32 => k_is); (case c32 => k_is); (case k32 => k_is); (case a33 => k_is); (case l33 => k_is); (case c33 => k_is); (case k33 => k_is); (case a34 => k_is); (case l34 => k_is); (case c34 => k_is); (case k34 => k_is); (case a35 => k_is); (case l35 => k_is); (case c35 => k_is); (case k35 => k_is); (case a36 => k_is); (case l36 => k_is); (case c36 => k_is); (case k36 => k_is); (case a37 => k_is); (case l37 => k_is); (case c37 => k_is); (case k37 => k_is); (case a38 => k_is); (case l38 => k_is); (case c38 => k_is); (case k38 => k_is); (case a39 => k_is); (case l39 => k_is); (case c39 => k_is); (case k39 => k_is); (case z_abs => k_is); (case z_bool => k_is); (case z_int => k_is); (case z_isinstance => k_is); (case z_len => k_is); (case z_list => k_is); (case z_max => k_is); (case z_min => k_is); (case z_range => k_is); (case z_str => k_is); (case z_sum => k_is); (case z_super => k_is); (case z_tuple => k_is); (case a_Blocked => k_is); (case bs_Blocked => k_is); (case tx_Blocked => k_is); (case hd_Blocked => k_is); (case ga_Blocked => k_is); (case gg_Blocked => k_is); (case cl_Blocked => k_is); (case mo_Blocked => k_is); (case kx_Blocked => k_is); (case va_Blocked => k_is); (case ks_ev => first | rfl | decide +kernel | k_is); (case opq => k_is); (case top0 => first | rfl | decide +kernel | k_is); (case oc_Blocked => k_is); (case rv_Blocked => first | rfl | decide +kernel | k_is); (case oa_Blocked => k_is); (case ic_Blocked => k_is); (case ti_Blocked => k_is); (case lk_Blocked => k_is); (case cq_Blocked => k_is); (case co_Blocked => k_is); (case fv_Blocked => first | rfl | decide +kernel | k_is); (case fe_Blocked => first | rfl | decide +kernel | k_is); (case ce_Blocked => k_is); (case su_Blocked => first | rfl | decide +kernel | k_is); (case na_Blocked_start => k_is); (case na_Blocked_end => k_is)
