import PyProof.Rows.All
import Wide.All
import OpenK.AllK
import Wide.FinOn
import HandS.ForMost
import HandS.IsInst
import HandS.TupAny
import HandS.Wide
import HandS.Flow
import HandS.Exc
import HandS.ExcOwn
import HandS.TryOnly
import HandS.TryMany
import HandS.ExcIs
import HandS.ExcField
import HandS.WordsExc
import HandS.ExcInit
import KE.KDictKeyed
import KE.KTupSum
import HandS.MakeKwOnly
import HandS.ClsMeth
import HandS.TupMul
import KE.GoesEnum
import HandS.RaiseMore
import HandS.Conv
import KE.KDictDisplayH
import KE.SortData
import KE.DataMinMax
import HandS.SortKw
import HandS.ReCall
import HandS.More
import HandS.Rev
import HandS.Text
import KE.KDictLaws
import KE.KTops
import HandS.GenList
import HandS.Spec
import HandS.DictComp
import HandS.Nested
import KE.KExcSuper
import HandS.ExcValue
import KE.KExcIs
import PySem.Challenge.RW_stylepages_k69_whole_widows_and_orphans
set_option Elab.async false
set_option linter.all false
set_option maxRecDepth 100000
set_option maxHeartbeats 4000000
namespace Ab
open PySem L2

inductive Dt where
  | raw (v : V)
  | tup (ds : List Dt)
  | lst (ds : List Dt)
  | obj (C : Addr) (fs : List (Str × Dt))
  | scr (ns : List Int)
  | dK (kvs : List (Key × Dt))
  | dT (kvs : List (List Key × Dt))
  | exn (a : Addr) (d : Option Addr) (fs : List (Str × Dt))
  | err (C : Addr) (fs : List (Str × Dt))
  | dN (w : World) (kvs : List (NestedKey × Dt))
abbrev Dt.int (i : Int) : Dt := .raw (.int i)
abbrev Dt.bl (b : Bool) : Dt := .raw (.bl b)
abbrev Dt.str (s : Str) : Dt := .raw (.str s)
abbrev Dt.non : Dt := .raw .non

mutual
def dtN : NestedKey → Dt
  | .none => .raw .non
  | .num i => .raw (.int i)
  | .text x => .raw (.str x)
  | .tup ks => .tup (dtNs ks)
def dtNs : List NestedKey → List Dt
  | [] => []
  | k :: r => dtN k :: dtNs r
end
def DNOk (w : World) (a : Addr) (xs : List (NestedKey × Addr × V)) (h : Heap) : Prop :=
  xs.length ≤ sizeLine ∧ (a == sysModules) = false ∧ (∀ x ∈ xs, x.1.depth ≤ 8) ∧
  ∃ ys : List (NestedKey × Addr × Value), Paired (fun p q => p.1 = q.1 ∧ p.2.1 = q.2.1 ∧ RelV p.2.2 q.2.2) xs ys ∧
    ∃ o es ep, h.get? a = some o ∧ o.ExactDict ∧ o.data = .dict es ep ∧ es.toList = ys.map (fun y => (⟨y.1.hash w, .ref y.2.1, y.2.2⟩ : DictEntry)) ∧ (ys.map (·.1)).Nodup
def dNO (w : World) (a : Addr) (xs : List (NestedKey × Addr × V)) : HO := .ext (DNOk w a xs)

inductive Is (K : PySem.W.Frag) (B : Hp) : V → Dt → Prop where
  | raw (v : V) : Is K B v (.raw v)
  | tup {a : Addr} {xs : List V} {ds : List Dt} (h : SqT K B a xs) (hl : xs.length = ds.length) (hi : ∀ (i : Nat) v d, xs[i]? = some v → ds[i]? = some d → Is K B v d) : Is K B (.ref a) (.tup ds)
  | lst {a : Addr} {xs : List V} {ds : List Dt} (h : B a = some (.lst xs)) (hl : xs.length = ds.length) (hi : ∀ (i : Nat) v d, xs[i]? = some v → ds[i]? = some d → Is K B v d) : Is K B (.ref a) (.lst ds)
  | obj {a dx C : Addr} {fs : List (Str × V)} {gs : List (Str × Dt)} (h : B a = some (.ins C dx fs)) (hk : ∀ f : Str, (fs.lookup f).isSome = (gs.lookup f).isSome) (hi : ∀ (f : Str) v d, fs.lookup f = some v → gs.lookup f = some d → Is K B v d) : Is K B (.ref a) (.obj C gs)
  | scr {a : Addr} {ns : List Int} (h : SqL K B a (ns.map V.int)) : Is K B (.ref a) (.scr ns)
  | dK {a : Addr} {xs : List (Key × V)} {kvs : List (Key × Dt)} (h : B a = some (.dK xs)) (hk : xs.map (·.1) = kvs.map (·.1)) (hi : ∀ (i : Nat) v d, (xs.map (·.2))[i]? = some v → (kvs.map (·.2))[i]? = some d → Is K B v d) : Is K B (.ref a) (.dK kvs)
  | dT {a : Addr} {xs : List (List Key × V)} {kvs : List (List Key × Dt)} (h : B a = some (.dT xs)) (hk : xs.map (·.1) = kvs.map (·.1)) (hi : ∀ (i : Nat) v d, (xs.map (·.2))[i]? = some v → (kvs.map (·.2))[i]? = some d → Is K B v d) : Is K B (.ref a) (.dT kvs)
  | exn0 {a : Addr} : Is K B (.ref a) (.exn a none [])
  | exnD {a dd : Addr} {fs : List (Str × V)} {gs : List (Str × Dt)} (h : B dd = some (.xd fs)) (hk : ∀ f : Str, (fs.lookup f).isSome = (gs.lookup f).isSome) (hi : ∀ (f : Str) v d, fs.lookup f = some v → gs.lookup f = some d → Is K B v d) : Is K B (.ref a) (.exn a (some dd) gs)
  | err0 {a C : Addr} (h : B a = some (exo a C none)) : Is K B (.ref a) (.err C [])
  | errD {a dd C : Addr} {fs : List (Str × V)} {gs : List (Str × Dt)} (h : B a = some (exo a C (some dd))) (hd : B dd = some (exd dd fs)) (hk : ∀ f : Str, (fs.lookup f).isSome = (gs.lookup f).isSome) (hi : ∀ (f : Str) v d, fs.lookup f = some v → gs.lookup f = some d → Is K B v d) : Is K B (.ref a) (.err C gs)
  | dN {a : Addr} {w : World} {xs : List (NestedKey × Addr × V)} {kvs : List (NestedKey × Dt)} (h : B a = some (dNO w a xs)) (hk : xs.map (·.1) = kvs.map (·.1)) (hq : ∀ (i : Nat) x, xs[i]? = some x → Is K B (.ref x.2.1) (dtN x.1)) (hi : ∀ (i : Nat) v d, (xs.map (·.2.2))[i]? = some v → (kvs.map (·.2))[i]? = some d → Is K B v d) : Is K B (.ref a) (.dN w kvs)
structure IsA (K : PySem.W.Frag) (B : Hp) (vs : List V) (ds : List Dt) : Prop where
  len : vs.length = ds.length
  at_ : ∀ (i : Nat) v d, vs[i]? = some v → ds[i]? = some d → Is K B v d

section
variable {K : PySem.W.Frag} {B B' H H' : Hp} {v : V} {d : Dt} {vs : List V} {ds : List Dt}
theorem sqT_mono {a : Addr} {xs : List V} (e : Same B B') (h : SqT K B a xs) : SqT K B' a xs := by
  rcases h with (h | ⟨o, h⟩) | h
  · exact .inl (.inl (e _ _ h))
  · exact .inl (.inr ⟨o, e _ _ h⟩)
  · exact .inr h
theorem Is.mono (e : Same B B') (h : Is K B v d) : Is K B' v d := by
  induction h with
  | raw v => exact .raw v
  | tup h hl hi ih => exact .tup (sqT_mono e h) hl ih
  | lst h hl hi ih => exact .lst (e _ _ h) hl ih
  | obj h hk hi ih => exact .obj (e _ _ h) hk ih
  | scr h => exact .scr (e.seq h)
  | dK h hk hi ih => exact .dK (e _ _ h) hk ih
  | dT h hk hi ih => exact .dT (e _ _ h) hk ih
  | exn0 => exact .exn0
  | exnD h hk hi ih => exact .exnD (e _ _ h) hk ih
  | err0 h => exact .err0 (e _ _ h)
  | errD h hd hk hi ih => exact .errD (e _ _ h) (e _ _ hd) hk ih
  | dN h hk hq hi ihq ih => exact .dN (e _ _ h) hk ihq ih
theorem IsA.mono (e : Same B B') (h : IsA K B vs ds) : IsA K B' vs ds := ⟨h.len, fun i v d a b => (h.at_ i v d a b).mono e⟩
theorem Is.rawI (h : Is K B v (.raw u)) : v = u := by cases h; rfl
theorem IsA.nil : IsA K B [] [] := ⟨rfl, fun i v d a => by simp at a⟩
theorem IsA.snoc (h : IsA K B vs ds) (hv : Is K B v d) : IsA K B (vs ++ [v]) (ds ++ [d]) := by
  refine ⟨by simp [h.len], fun i w e a b => ?_⟩
  by_cases hi : i < vs.length
  · rw [List.getElem?_append_left hi] at a
    rw [List.getElem?_append_left (by rw [← h.len]; exact hi)] at b
    exact h.at_ i w e a b
  · rw [List.getElem?_append_right (by omega)] at a
    rw [List.getElem?_append_right (by rw [← h.len]; omega)] at b
    rw [← h.len] at b
    generalize i - vs.length = j at a b
    cases j with
    | zero => simp at a b; subst a b; exact hv
    | succ j => simp at a
theorem IsA.cons (hv : Is K B v d) (h : IsA K B vs ds) : IsA K B (v :: vs) (d :: ds) := by
  refine ⟨by simp [h.len], fun i w e a b => ?_⟩
  cases i with
  | zero => simp at a b; subst a b; exact hv
  | succ j => simp at a b; exact h.at_ j w e a b
theorem IsA.append {us : List V} {es : List Dt} (h : IsA K B vs ds) (h' : IsA K B us es) : IsA K B (vs ++ us) (ds ++ es) := by
  refine ⟨by simp [h.len, h'.len], fun i w e a b => ?_⟩
  by_cases hi : i < vs.length
  · rw [List.getElem?_append_left hi] at a
    rw [List.getElem?_append_left (by rw [← h.len]; exact hi)] at b
    exact h.at_ i w e a b
  · rw [List.getElem?_append_right (by omega)] at a
    rw [List.getElem?_append_right (by rw [← h.len]; omega)] at b
    rw [← h.len] at b
    exact h'.at_ _ w e a b
theorem IsA.get {i : Nat} (h : IsA K B vs ds) (e : ds[i]? = some d) : ∃ v, vs[i]? = some v ∧ Is K B v d := by
  have hi : i < ds.length := (List.getElem?_eq_some_iff.mp e).1
  have hv : i < vs.length := by rw [h.len]; exact hi
  exact ⟨vs[i], List.getElem?_eq_getElem hv, h.at_ i _ d (List.getElem?_eq_getElem hv) e⟩
theorem IsA.set {j : Nat} (h : IsA K B vs ds) (hv : Is K B v d) : IsA K B (vs.set j v) (ds.set j d) := by
  refine ⟨by simp [h.len], fun i w e a b => ?_⟩
  by_cases hij : j = i
  · subst hij
    have h1 : j < (vs.set j v).length := (List.getElem?_eq_some_iff.mp a).1
    rw [List.length_set] at h1
    rw [List.getElem?_set_self h1] at a
    rw [List.getElem?_set_self (by rw [← h.len]; exact h1)] at b
    cases a; cases b; exact hv
  · rw [List.getElem?_set_ne hij] at a b
    exact h.at_ i w e a b
theorem IsA.drop (n : Nat) (h : IsA K B vs ds) : IsA K B (vs.drop n) (ds.drop n) := by
  refine ⟨by simp [h.len], fun i w e a b => ?_⟩
  rw [List.getElem?_drop] at a b
  exact h.at_ _ w e a b
theorem IsA.take (n : Nat) (h : IsA K B vs ds) : IsA K B (vs.take n) (ds.take n) := by
  refine ⟨by simp [h.len], fun i w e a b => ?_⟩
  rw [List.getElem?_take] at a b
  split at a
  · rename_i hi
    rw [if_pos hi] at b
    exact h.at_ _ w e a b
  · cases a
theorem IsA.reverse (h : IsA K B vs ds) : IsA K B vs.reverse ds.reverse := by
  refine ⟨by simp [h.len], fun i w e a b => ?_⟩
  have hi : i < vs.length := by
    have := (List.getElem?_eq_some_iff.mp a).1
    simpa using this
  rw [List.getElem?_reverse hi] at a
  rw [List.getElem?_reverse (by rw [← h.len]; exact hi)] at b
  rw [← h.len] at b
  exact h.at_ _ w e a b
theorem IsA.eraseIdx (j : Nat) (h : IsA K B vs ds) : IsA K B (vs.eraseIdx j) (ds.eraseIdx j) := by
  refine ⟨by simp [List.length_eraseIdx, h.len], fun i w e a b => ?_⟩
  rw [List.getElem?_eraseIdx] at a b
  split at a
  · rename_i hi; rw [if_pos hi] at b; exact h.at_ _ w e a b
  · rename_i hi; rw [if_neg hi] at b; exact h.at_ _ w e a b
theorem Is.tupR (h : Is K B v (.tup ds)) : ∃ a xs, v = .ref a ∧ SqT K B a xs ∧ IsA K B xs ds := by
  cases h with
  | tup h hl hi => exact ⟨_, _, rfl, h, hl, hi⟩
theorem Is.lstR (h : Is K B v (.lst ds)) : ∃ a xs, v = .ref a ∧ B a = some (.lst xs) ∧ IsA K B xs ds := by
  cases h with
  | lst h hl hi => exact ⟨_, _, rfl, h, hl, hi⟩
theorem IsA.atI {i : Int} {d : Dt} (h : IsA K B vs ds) (e : L2.atI ds i = some d) : ∃ v, L2.atI vs i = some v ∧ Is K B v d := by
  unfold L2.atI at e ⊢
  rw [h.len]
  cases q : ixN ds.length i with
  | none => rw [q] at e; cases e
  | some j =>
    rw [q] at e
    exact h.get e
theorem IsA.raws : ∀ {xs : List V}, IsA K B xs (xs.map Dt.raw)
  | [] => .nil
  | x :: r => .cons (.raw x) IsA.raws
theorem IsA.rawsI : ∀ {us xs : List V}, IsA K B us (xs.map Dt.raw) → us = xs
  | [], [], _ => rfl
  | [], _ :: _, h => by have := h.len; simp at this
  | _ :: _, [], h => by have := h.len; simp at this
  | u :: us, x :: xs, h => by
    have h0 := h.at_ 0 u (.raw x) rfl rfl
    have ht : IsA K B us (xs.map Dt.raw) := ⟨by have := h.len; simpa using this, fun i v d a b => h.at_ (i + 1) v d (by simpa using a) (by simpa using b)⟩
    rw [h0.rawI, ht.rawsI]
end

inductive Cn where
  | lst (ds : List Dt)
  | dK (kvs : List (Key × Dt))
  | dT (kvs : List (List Key × Dt))
  | dN (w : World) (kvs : List (NestedKey × Dt))
def Cn.dt : Cn → Dt
  | .lst ds => .lst ds
  | .dK kvs => .dK kvs
  | .dT kvs => .dT kvs
  | .dN w kvs => .dN w kvs
structure IsKv {κ : Type} (K : PySem.W.Frag) (B : Hp) (xs : List (κ × V)) (kvs : List (κ × Dt)) : Prop where
  ks : xs.map (·.1) = kvs.map (·.1)
  vs : IsA K B (xs.map (·.2)) (kvs.map (·.2))
structure IsNv (K : PySem.W.Frag) (B : Hp) (xs : List (NestedKey × Addr × V)) (kvs : List (NestedKey × Dt)) : Prop where
  ks : xs.map (·.1) = kvs.map (·.1)
  qs : ∀ (i : Nat) x, xs[i]? = some x → Is K B (.ref x.2.1) (dtN x.1)
  vs : IsA K B (xs.map (·.2.2)) (kvs.map (·.2))
def CnIs (K : PySem.W.Frag) (B : Hp) (a : Addr) (o : HO) : Cn → Prop
  | .lst ds => ∃ vs, o = .lst vs ∧ IsA K B vs ds
  | .dK kvs => ∃ xs, o = .dK xs ∧ IsKv K B xs kvs
  | .dT kvs => ∃ xs, o = .dT xs ∧ IsKv K B xs kvs
  | .dN w kvs => ∃ xs, o = dNO w a xs ∧ IsNv K B xs kvs
theorem IsNv.mono {K : PySem.W.Frag} {B B' : Hp} {xs : List (NestedKey × Addr × V)} {kvs : List (NestedKey × Dt)} (e : Same B B') (h : IsNv K B xs kvs) : IsNv K B' xs kvs := ⟨h.ks, fun i x q => (h.qs i x q).mono e, h.vs.mono e⟩
theorem CnIs.mono {K : PySem.W.Frag} {B B' : Hp} {a : Addr} {o : HO} {c : Cn} (e : Same B B') (h : CnIs K B a o c) : CnIs K B' a o c := by
  cases c with
  | lst ds => obtain ⟨vs, e1, e2⟩ := h; exact ⟨vs, e1, e2.mono e⟩
  | dK kvs => obtain ⟨vs, e1, e2, e3⟩ := h; exact ⟨vs, e1, e2, e3.mono e⟩
  | dT kvs => obtain ⟨vs, e1, e2, e3⟩ := h; exact ⟨vs, e1, e2, e3.mono e⟩
  | dN w kvs => obtain ⟨vs, e1, e2⟩ := h; exact ⟨vs, e1, e2.mono e⟩
theorem CnIs.is {K : PySem.W.Frag} {B : Hp} {o : HO} {c : Cn} {a : Addr} (hb : B a = some o) (h : CnIs K B a o c) : Is K B (.ref a) c.dt := by
  cases c with
  | lst ds => obtain ⟨vs, rfl, e2⟩ := h; exact .lst hb e2.len e2.at_
  | dK kvs => obtain ⟨vs, rfl, e2, e3⟩ := h; exact .dK hb e2 e3.at_
  | dT kvs => obtain ⟨vs, rfl, e2, e3⟩ := h; exact .dT hb e2 e3.at_
  | dN w kvs => obtain ⟨vs, rfl, e2⟩ := h; exact .dN hb e2.ks e2.qs e2.vs.at_
inductive Sl where
  | un
  | val (d : Dt)
  | cel (c : Cn)
abbrev Sl.acc (ds : List Dt) : Sl := .cel (.lst ds)
def Own (σ : L2.St) (Γ : List Sl) (a : Addr) : Prop := ∃ (i : Nat) (c : Cn), Γ[i]? = some (.cel c) ∧ σ[i]? = some (some (.ref a))
structure Env (K : PySem.W.Frag) (B H : Hp) (σ : L2.St) (Γ : List Sl) : Prop where
  len : σ.length = Γ.length
  bh : Same B H
  val : ∀ (i : Nat) d, Γ[i]? = some (.val d) → ∃ v, σ[i]? = some (some v) ∧ Is K B v d
  cel : ∀ (i : Nat) c, Γ[i]? = some (.cel c) → ∃ l o, σ[i]? = some (some (.ref l)) ∧ H l = some o ∧ B l = none ∧ CnIs K B l o c
  sep : ∀ (i j : Nat) c d l, Γ[i]? = some (.cel c) → Γ[j]? = some (.cel d) → σ[i]? = some (some (.ref l)) → σ[j]? = some (some (.ref l)) → i = j
theorem Env.acc {K : PySem.W.Frag} {B H : Hp} {σ : L2.St} {Γ : List Sl} (E : Env K B H σ Γ) (i : Nat) (ds : List Dt) (h : Γ[i]? = some (.acc ds)) : ∃ l vs, σ[i]? = some (some (.ref l)) ∧ H l = some (.lst vs) ∧ B l = none ∧ IsA K B vs ds := by
  obtain ⟨l, o, e1, e2, e3, vs, rfl, e4⟩ := E.cel i _ h
  exact ⟨l, vs, e1, e2, e3, e4⟩
structure Mv (m : Addr → Prop) (B H B' H' : Hp) : Prop where
  kp : ∀ a o, ¬ m a → H a = some o → H' a = some o
  bb : Same B B'
  off : ∀ a, ¬ m a → H a ≠ none → B a = none → B' a = none
theorem Mv.refl (m : Addr → Prop) (B H : Hp) : Mv m B H B H := ⟨fun _ _ _ h => h, Same.refl B, fun _ _ _ h => h⟩
theorem Mv.trans {m m1 : Addr → Prop} {B H B1 H1 B2 H2 : Hp} (x : Mv m B H B1 H1) (hm : ∀ a, m1 a → m a ∨ H a = none) (y : Mv m1 B1 H1 B2 H2) : Mv m B H B2 H2 := by
  have nm : ∀ a, ¬ m a → H a ≠ none → ¬ m1 a := fun a na ha z => (hm a z).elim na ha
  refine ⟨fun a o na e => ?_, x.bb.trans y.bb, fun a na ha hb => ?_⟩
  · exact y.kp a o (nm a na (by rw [e]; exact fun z => nomatch z)) (x.kp a o na e)
  · refine y.off a (nm a na ha) ?_ (x.off a na ha hb)
    cases q : H a with
    | none => exact absurd q ha
    | some o => rw [x.kp a o na q]; exact fun z => nomatch z
theorem Mv.back {m : Addr → Prop} {B H B1 H1 : Hp} (x : Mv m B H B1 H1) {a : Addr} (h : H1 a = none) : m a ∨ H a = none := by
  by_cases hm : m a
  · exact .inl hm
  · refine .inr ?_
    cases q : H a with
    | none => rfl
    | some o => rw [x.kp a o hm q] at h; cases h
inductive Re where
  | val (d : Dt)
  | nw (c : Cn)
  | own (i : Nat)
abbrev Re.new (ds : List Dt) : Re := .nw (.lst ds)
def Re.dt? : Re → Option Dt
  | .val d => some d
  | .nw c => some c.dt
  | .own _ => none
def ReOk (K : PySem.W.Frag) (σ : L2.St) (m m' : Addr → Prop) (B' H H' : Hp) (v : V) : Re → Prop
  | .val d => Is K B' v d
  | .nw c => ∃ l o, v = .ref l ∧ (m l ∨ H l = none) ∧ ¬ m' l ∧ H' l = some o ∧ B' l = none ∧ CnIs K B' l o c
  | .own i => ∃ l, v = .ref l ∧ σ[i]? = some (some (.ref l))
structure Go (K : PySem.W.Frag) (σ : L2.St) (B H : Hp) (Γ : List Sl) (B' H' : Hp) (Γ' : List Sl) : Prop where
  mv : Mv (Own σ Γ) B H B' H'
  ac : ∀ (i : Nat) c, Γ'[i]? = some (.cel c) → ∃ d, Γ[i]? = some (.cel d)
  env : Env K B' H' σ Γ'
theorem Go.sub {K : PySem.W.Frag} {σ : L2.St} {B H B' H' : Hp} {Γ Γ' : List Sl} (g : Go K σ B H Γ B' H' Γ') : ∀ a, Own σ Γ' a → Own σ Γ a := fun a ⟨i, ds, h1, h2⟩ => by
  obtain ⟨es, h⟩ := g.ac i ds h1
  exact ⟨i, es, h, h2⟩
section
variable {K : PySem.W.Frag} {σ : L2.St} {B H B1 H1 B2 H2 : Hp} {Γ Γ1 Γ2 : List Sl} {v : V} {r : Re}
theorem Go.refl (E : Env K B H σ Γ) : Go K σ B H Γ B H Γ := ⟨Mv.refl _ _ _, fun _ ds h => ⟨ds, h⟩, E⟩
theorem Go.trans (x : Go K σ B H Γ B1 H1 Γ1) (y : Go K σ B1 H1 Γ1 B2 H2 Γ2) : Go K σ B H Γ B2 H2 Γ2 :=
  ⟨x.mv.trans (fun a h => .inl (x.sub a h)) y.mv, fun i ds h => by
    obtain ⟨es, h1⟩ := y.ac i ds h
    exact x.ac i es h1, y.env⟩
theorem Env.tracked (E : Env K B H σ Γ) {a : Addr} (h : Own σ Γ a) : ∃ o, H a = some o ∧ B a = none := by
  obtain ⟨i, ds, h1, h2⟩ := h
  obtain ⟨l, vs, e1, e2, e3, _⟩ := E.cel i ds h1
  rw [h2] at e1
  cases e1
  exact ⟨vs, e2, e3⟩
theorem ReOk.raw {m m' : Addr → Prop} (v : V) : ReOk K σ m m' B1 H H1 v (.val (.raw v)) := Is.raw v
theorem ReOk.step {m m1 m2 : Addr → Prop} (h : ReOk K σ m m1 B1 H H1 v r) (y : Mv m1 B1 H1 B2 H2) (hs : ∀ a, m2 a → m1 a) : ReOk K σ m m2 B2 H H2 v r := by
  cases r with
  | val d => exact Is.mono y.bb h
  | nw ds =>
    obtain ⟨l, vs, e, h1, h2, h3, h4, h5⟩ := h
    exact ⟨l, vs, e, h1, fun z => h2 (hs l z), y.kp l _ h2 h3, y.off l h2 (by rw [h3]; exact fun z => nomatch z) h4, h5.mono y.bb⟩
  | own i => exact h
theorem ReOk.earlier {m m1 m2 : Addr → Prop} (h : ReOk K σ m1 m2 B2 H1 H2 v r) (x : Mv m B H B1 H1) (hm : ∀ a, m1 a → m a ∨ H a = none) : ReOk K σ m m2 B2 H H2 v r := by
  cases r with
  | val d => exact h
  | nw ds =>
    obtain ⟨l, vs, e, h1, h2, h3⟩ := h
    refine ⟨l, vs, e, ?_, h2, h3⟩
    rcases h1 with h1 | h1
    · exact hm l h1
    · exact x.back h1
  | own i => exact h
theorem Env.laid (E : Env K B H σ Γ) {p : Addr} {o : HO} (hp : H p = none) : Env K (upd B p o) (upd H p o) σ Γ := by
  have hb : B p = none := by
    cases q : B p with
    | none => rfl
    | some u => rw [E.bh p u q] at hp; cases hp
  have sB : Same B (upd B p o) := fun a u e => by rw [upd_ne (ne_of_none e hb)]; exact e
  refine ⟨E.len, fun a u e => ?_, fun i d h => ?_, fun i ds h => ?_, E.sep⟩
  · by_cases ha : a = p
    · subst ha; rw [upd_same] at e ⊢; exact e
    · rw [upd_ne ha] at e ⊢; exact E.bh a u e
  · obtain ⟨v, e, q⟩ := E.val i d h
    exact ⟨v, e, q.mono sB⟩
  · obtain ⟨l, vs, e, e1, e2, q⟩ := E.cel i ds h
    have hl : l ≠ p := ne_of_none e1 hp
    exact ⟨l, vs, e, by rw [upd_ne hl]; exact e1, by rw [upd_ne hl]; exact e2, q.mono sB⟩
theorem Go.laid (E : Env K B H σ Γ) {p : Addr} {o : HO} (hp : H p = none) : Go K σ B H Γ (upd B p o) (upd H p o) Γ := by
  have hb : B p = none := by
    cases q : B p with
    | none => rfl
    | some u => rw [E.bh p u q] at hp; cases hp
  refine ⟨⟨fun a u _ e => by rw [upd_ne (ne_of_none e hp)]; exact e, fun a u e => by rw [upd_ne (ne_of_none e hb)]; exact e, fun a _ ha hb' => ?_⟩, fun _ ds h => ⟨ds, h⟩, E.laid hp⟩
  have : a ≠ p := fun z => by subst z; exact ha hp
  rw [upd_ne this]; exact hb'
theorem Env.beside (E : Env K B H σ Γ) {p : Addr} {o : HO} (hp : H p = none) : Env K B (upd H p o) σ Γ := by
  refine ⟨E.len, fun a u e => ?_, E.val, fun i ds h => ?_, E.sep⟩
  · have h := E.bh a u e
    rw [upd_ne (ne_of_none h hp)]; exact h
  · obtain ⟨l, vs, e, e1, e2, q⟩ := E.cel i ds h
    exact ⟨l, vs, e, by rw [upd_ne (ne_of_none e1 hp)]; exact e1, e2, q⟩
theorem Go.beside (E : Env K B H σ Γ) {p : Addr} {o : HO} (hp : H p = none) : Go K σ B H Γ B (upd H p o) Γ :=
  ⟨⟨fun a u _ e => by rw [upd_ne (ne_of_none e hp)]; exact e, Same.refl B, fun _ _ _ h => h⟩, fun _ ds h => ⟨ds, h⟩, E.beside hp⟩
theorem Env.base_none (E : Env K B H σ Γ) {p : Addr} (hp : H p = none) : B p = none := by
  cases q : B p with
  | none => rfl
  | some u => rw [E.bh p u q] at hp; cases hp
theorem Env.not_own (E : Env K B H σ Γ) {p : Addr} (hp : H p = none) : ¬ Own σ Γ p := fun z => by
  obtain ⟨vs, h, _⟩ := E.tracked z
  rw [hp] at h; cases h
end

def WE (K : PySem.W.Frag) (te : TE) (Γ : List Sl) (Post : Re → List Sl → Prop) : Prop := ∀ σ B H, Env K B H σ Γ → ∀ Q : VK,
  (∀ v B' H' r Γ', Go K σ B H Γ B' H' Γ' → ReOk K σ (Own σ Γ) (Own σ Γ') B' H H' v r → Post r Γ' → Q v H') → te σ H Q
def WT (K : PySem.W.Frag) (tt : TT) (Γ : List Sl) (Post : Bool → List Sl → Prop) : Prop := ∀ σ B H, Env K B H σ Γ → ∀ Q : Bool → Hp → Prop,
  (∀ b B' H' Γ', Go K σ B H Γ B' H' Γ' → Post b Γ' → Q b H') → tt σ H Q
def WD (K : PySem.W.Frag) (ta : TA) (Γ : List Sl) (Post : List Dt → List Sl → Prop) : Prop := ∀ σ B H, Env K B H σ Γ → ∀ Q : List V → Hp → Prop,
  (∀ vs B' H' ds Γ', Go K σ B H Γ B' H' Γ' → IsA K B' vs ds → Post ds Γ' → Q vs H') → ta σ H Q
section
variable {K : PySem.W.Frag} {Γ : List Sl} {Post : Re → List Sl → Prop} {ta tb tc te : TE} {t u : TT}
theorem we_mono {Post' : Re → List Sl → Prop} (h : WE K te Γ Post) (hp : ∀ r Γ', Post r Γ' → Post' r Γ') : WE K te Γ Post' := fun σ B H E Q q => h σ B H E Q fun v B' H' r Γ' g k p => q v B' H' r Γ' g k (hp r Γ' p)
theorem we_var {i : Nat} {d : Dt} (h : Γ[i]? = some (.val d)) (p : Post (.val d) Γ) : WE K (tVar i) Γ Post := fun σ B H E Q q => by
  obtain ⟨v, e, k⟩ := E.val i d h
  exact ⟨v, e, q v B H (.val d) Γ (.refl E) k p⟩
theorem we_c {v : V} (p : Post (.val (.raw v)) Γ) : WE K (tC v) Γ Post := fun σ B H E Q q => q v B H (.val (.raw v)) Γ (.refl E) (.raw v) p
theorem we_own {i : Nat} {ds : Cn} (h : Γ[i]? = some (.cel ds)) (p : Post (.own i) Γ) : WE K (tVar i) Γ Post := fun σ B H E Q q => by
  obtain ⟨l, vs, e, e1, e2, k⟩ := E.cel i ds h
  exact ⟨.ref l, e, q (.ref l) B H (.own i) Γ (.refl E) ⟨l, rfl, e⟩ p⟩
theorem go_frz {σ : L2.St} {B H : Hp} {i : Nat} {ds : Cn} (h : Γ[i]? = some (.cel ds)) (E : Env K B H σ Γ) : ∃ B', Go K σ B H Γ B' H (Γ.set i (.val ds.dt)) := by
  obtain ⟨l, vs, e, e1, e2, k⟩ := E.cel i ds h
  have hl : i < Γ.length := (List.getElem?_eq_some_iff.mp h).1
  have sB : Same B (upd B l vs) := fun a u e => by rw [upd_ne (ne_of_none e e2)]; exact e
  have sub : ∀ {j : Nat} {s : Sl}, (Γ.set i (.val ds.dt))[j]? = some s → j ≠ i → Γ[j]? = some s := fun {j s} hj hn => by
    rw [List.getElem?_set_ne (fun z => hn z.symm)] at hj
    exact hj
  have acc : ∀ {j : Nat} {es : Cn}, (Γ.set i (.val ds.dt))[j]? = some (.cel es) → j ≠ i := fun {j es} hj z => by
    subst z
    rw [List.getElem?_set_self hl] at hj
    cases hj
  refine ⟨upd B l vs, ⟨fun a o _ q => q, sB, fun a na ha hb => ?_⟩, fun j es h1 => ⟨es, sub h1 (acc h1)⟩, by rw [List.length_set]; exact E.len, fun a u q => ?_, fun j d hj => ?_, fun j es hj => ?_, fun j k ds es l h1 h2 => E.sep j k ds es l (sub h1 (acc h1)) (sub h2 (acc h2))⟩
  · have : a ≠ l := fun z => by
      subst z
      exact na ⟨i, ds, h, e⟩
    rw [upd_ne this]; exact hb
  · by_cases ha : a = l
    · subst ha; rw [upd_same] at q; cases q; exact e1
    · rw [upd_ne ha] at q; exact E.bh a u q
  · by_cases hji : j = i
    · subst hji
      rw [List.getElem?_set_self hl] at hj
      cases hj
      exact ⟨.ref l, e, (k.mono sB).is upd_same⟩
    · obtain ⟨w, q1, q2⟩ := E.val j d (sub hj hji)
      exact ⟨w, q1, q2.mono sB⟩
  · obtain ⟨c, us, q1, q2, q3, q4⟩ := E.cel j es (sub hj (acc hj))
    have hc : c ≠ l := fun z => by
      subst z
      exact acc hj (E.sep j i es ds c (sub hj (acc hj)) h q1 e)
    exact ⟨c, us, q1, q2, by rw [upd_ne hc]; exact q3, q4.mono sB⟩
theorem we_move {i : Nat} {ds : Cn} (h : Γ[i]? = some (.cel ds)) (p : Post (.nw ds) (Γ.set i .un)) : WE K (tVar i) Γ Post := fun σ B H E Q q => by
  obtain ⟨l, vs, e, e1, e2, k⟩ := E.cel i ds h
  have hl : i < Γ.length := (List.getElem?_eq_some_iff.mp h).1
  have ne : ∀ {j : Nat} {s : Sl}, (Γ.set i .un)[j]? = some s → s ≠ .un → j ≠ i := fun {j s} hj hs z => by
    subst z
    rw [List.getElem?_set_self hl] at hj
    cases hj; exact hs rfl
  have sub : ∀ {j : Nat} {s : Sl}, (Γ.set i .un)[j]? = some s → s ≠ .un → Γ[j]? = some s := fun {j s} hj hs => by
    have := ne hj hs
    rw [List.getElem?_set_ne (fun z => this z.symm)] at hj
    exact hj
  have E' : Env K B H σ (Γ.set i .un) := ⟨by rw [List.length_set]; exact E.len, E.bh, fun j d hj => E.val j d (sub hj (fun z => nomatch z)), fun j es hj => E.cel j es (sub hj (fun z => nomatch z)),
    fun j k ds es l h1 h2 => E.sep j k ds es l (sub h1 (fun z => nomatch z)) (sub h2 (fun z => nomatch z))⟩
  have sb : ∀ (j : Nat) es, (Γ.set i .un)[j]? = some (.cel es) → ∃ es', Γ[j]? = some (.cel es') := fun j es h1 => ⟨es, sub h1 (fun z => nomatch z)⟩
  refine ⟨.ref l, e, q (.ref l) B H (.nw ds) _ ⟨Mv.refl _ _ _, sb, E'⟩ ⟨l, vs, rfl, .inl ⟨i, ds, h, e⟩, ?_, e1, e2, k⟩ p⟩
  rintro ⟨j, es, h1, h2⟩
  exact ne h1 (fun z => nomatch z) (E.sep j i es ds l (sub h1 (fun z => nomatch z)) h h2 e)
theorem we_freeze (h : WE K te Γ fun r Γ1 => ∃ d, r.dt? = some d ∧ Post (.val d) Γ1) : WE K te Γ Post := fun σ B H E Q q => by
  refine h σ B H E Q fun v B1 H1 r Γ1 g k p => ?_
  obtain ⟨d, hd, p⟩ := p
  cases r with
  | own i => cases hd
  | val d =>
    cases hd
    exact q v B1 H1 (.val d) Γ1 g k p
  | nw ds =>
    cases hd
    obtain ⟨l, vs, rfl, h1, h2, h3, h4, h5⟩ := k
    have sB : Same B1 (upd B1 l vs) := fun a u e => by rw [upd_ne (ne_of_none e h4)]; exact e
    refine q (.ref l) (upd B1 l vs) H1 (.val ds.dt) Γ1 ⟨⟨g.mv.kp, g.mv.bb.trans sB, fun a na ha hb => ?_⟩, g.ac, ?_⟩ ?_ p
    · have hal : a ≠ l := fun z => by
        subst z
        exact h1.elim na ha
      rw [upd_ne hal]; exact g.mv.off a na ha hb
    · refine ⟨g.env.len, fun a u e => ?_, fun i d hi => ?_, fun i es hi => ?_, g.env.sep⟩
      · by_cases ha : a = l
        · subst ha; rw [upd_same] at e; cases e; exact h3
        · rw [upd_ne ha] at e; exact g.env.bh a u e
      · obtain ⟨w, e, k⟩ := g.env.val i d hi
        exact ⟨w, e, k.mono sB⟩
      · obtain ⟨c, us, e, e1, e2, k⟩ := g.env.cel i es hi
        have hc : c ≠ l := fun z => by
          subst z
          exact h2 ⟨i, es, hi, e⟩
        exact ⟨c, us, e, e1, by rw [upd_ne hc]; exact e2, k.mono sB⟩
    · exact (h5.mono sB).is upd_same
theorem we_opI {C : Int → Int → Prop} {g : Int → Int → V} (h : WE K ta Γ fun ra Γ1 => ∃ i, ra = .val (.int i) ∧ WE K tb Γ1 fun rb Γ2 => ∃ j, rb = .val (.int j) ∧ C i j ∧ Post (.val (.raw (g i j))) Γ2) : WE K (tOp (rI C g) ta tb) Γ Post := fun σ B H E Q q => by
  refine h σ B H E _ fun x B1 H1 ra Γ1 g1 k1 p1 => ?_
  obtain ⟨i, rfl, p1⟩ := p1
  refine p1 σ B1 H1 g1.env _ fun y B2 H2 rb Γ2 g2 k2 p2 => ?_
  obtain ⟨j, rfl, hc, p⟩ := p2
  cases Is.rawI k1
  cases Is.rawI k2
  exact ⟨i, j, rfl, rfl, hc, q _ B2 H2 _ Γ2 (g1.trans g2) (.raw _) p⟩
theorem we_opI0 {g : Int → Int → V} (h : WE K ta Γ fun ra Γ1 => ∃ i, ra = .val (.int i) ∧ WE K tb Γ1 fun rb Γ2 => ∃ j, rb = .val (.int j) ∧ Post (.val (.raw (g i j))) Γ2) : WE K (tOp (rI0 g) ta tb) Γ Post := fun σ B H E Q q => by
  refine h σ B H E _ fun x B1 H1 ra Γ1 g1 k1 p1 => ?_
  obtain ⟨i, rfl, p1⟩ := p1
  refine p1 σ B1 H1 g1.env _ fun y B2 H2 rb Γ2 g2 k2 p2 => ?_
  obtain ⟨j, rfl, p⟩ := p2
  cases Is.rawI k1
  cases Is.rawI k2
  exact ⟨i, j, rfl, rfl, q _ B2 H2 _ Γ2 (g1.trans g2) (.raw _) p⟩
theorem we_neg (h : WE K ta Γ fun ra Γ1 => ∃ i, ra = .val (.int i) ∧ Post (.val (.int (-i))) Γ1) : WE K (tUn (rU fun i => .int (-i)) ta) Γ Post := fun σ B H E Q q => by
  refine h σ B H E _ fun x B1 H1 ra Γ1 g1 k1 p1 => ?_
  obtain ⟨i, rfl, p⟩ := p1
  cases Is.rawI k1
  exact ⟨i, rfl, q _ B1 H1 _ Γ1 g1 (.raw _) p⟩
theorem wt_mono {P P' : Bool → List Sl → Prop} (h : WT K t Γ P) (hp : ∀ b Γ', P b Γ' → P' b Γ') : WT K t Γ P' := fun σ B H E Q q => h σ B H E Q fun b B' H' Γ' g p => q b B' H' Γ' g (hp b Γ' p)
theorem wt_test {P : Bool → List Sl → Prop} (h : WE K te Γ fun r Γ1 => ∃ b, r = .val (.bl b) ∧ P b Γ1) : WT K (tTest te) Γ P := fun σ B H E Q q => by
  refine h σ B H E _ fun x B1 H1 r Γ1 g k p => ?_
  obtain ⟨b, rfl, p⟩ := p
  cases Is.rawI k
  exact ⟨b, rfl, q b B1 H1 Γ1 g p⟩
theorem wt_B {P : Bool → List Sl → Prop} (h : WE K te Γ fun r Γ1 => ∃ b, r = .val (.bl b) ∧ P b Γ1) : WT K (tB te) Γ P := wt_test h
theorem wt_and {P : Bool → List Sl → Prop} (h : WT K t Γ fun b Γ1 => (b = true → WT K u Γ1 P) ∧ (b = false → P false Γ1)) : WT K (tAnd t u) Γ P := fun σ B H E Q q => by
  refine h σ B H E _ fun b B1 H1 Γ1 g p => ?_
  cases b with
  | true =>
    show u σ H1 Q
    exact p.1 rfl σ B1 H1 g.env Q fun b B' H' Γ' g' p' => q b B' H' Γ' (g.trans g') p'
  | false =>
    show Q false H1
    exact q false B1 H1 Γ1 g (p.2 rfl)
theorem wt_or {P : Bool → List Sl → Prop} (h : WT K t Γ fun b Γ1 => (b = false → WT K u Γ1 P) ∧ (b = true → P true Γ1)) : WT K (tOr t u) Γ P := fun σ B H E Q q => by
  refine h σ B H E _ fun b B1 H1 Γ1 g p => ?_
  cases b with
  | false =>
    show u σ H1 Q
    exact p.1 rfl σ B1 H1 g.env Q fun b B' H' Γ' g' p' => q b B' H' Γ' (g.trans g') p'
  | true =>
    show Q true H1
    exact q true B1 H1 Γ1 g (p.2 rfl)
theorem wt_not {P : Bool → List Sl → Prop} (h : WT K t Γ fun b Γ1 => P (!b) Γ1) : WT K (tNot t) Γ P := fun σ B H E Q q => h σ B H E _ fun b B1 H1 Γ1 g p => q (!b) B1 H1 Γ1 g p
theorem we_andV (h : WE K ta Γ fun ra Γ1 => ∃ b, ra = .val (.bl b) ∧ (b = true → WE K tb Γ1 Post) ∧ (b = false → Post (.val (.bl false)) Γ1)) : WE K (tAndV ta tb) Γ Post := fun σ B H E Q q => by
  refine h σ B H E _ fun x B1 H1 ra Γ1 g k p => ?_
  obtain ⟨b, rfl, p1, p2⟩ := p
  cases Is.rawI k
  refine ⟨b, rfl, ?_⟩
  cases b with
  | true =>
    show tb σ H1 Q
    exact p1 rfl σ B1 H1 g.env Q fun v B' H' r Γ' g' k' p' => q v B' H' r Γ' (g.trans g') (ReOk.earlier k' g.mv fun a h => .inl (g.sub a h)) p'
  | false =>
    show Q (.bl false) H1
    exact q _ B1 H1 _ Γ1 g (.raw _) (p2 rfl)
theorem we_orV (h : WE K ta Γ fun ra Γ1 => ∃ b, ra = .val (.bl b) ∧ (b = false → WE K tb Γ1 Post) ∧ (b = true → Post (.val (.bl true)) Γ1)) : WE K (tOrV ta tb) Γ Post := fun σ B H E Q q => by
  refine h σ B H E _ fun x B1 H1 ra Γ1 g k p => ?_
  obtain ⟨b, rfl, p1, p2⟩ := p
  cases Is.rawI k
  refine ⟨b, rfl, ?_⟩
  cases b with
  | false =>
    show tb σ H1 Q
    exact p1 rfl σ B1 H1 g.env Q fun v B' H' r Γ' g' k' p' => q v B' H' r Γ' (g.trans g') (ReOk.earlier k' g.mv fun a h => .inl (g.sub a h)) p'
  | true =>
    show Q (.bl true) H1
    exact q _ B1 H1 _ Γ1 g (.raw _) (p2 rfl)
theorem we_notV (h : WE K ta Γ fun ra Γ1 => ∃ b, ra = .val (.bl b) ∧ Post (.val (.bl (!b))) Γ1) : WE K (tNotV ta) Γ Post := fun σ B H E Q q => by
  refine h σ B H E _ fun x B1 H1 ra Γ1 g k p => ?_
  obtain ⟨b, rfl, p⟩ := p
  cases Is.rawI k
  exact ⟨b, rfl, q _ B1 H1 _ Γ1 g (.raw _) p⟩
theorem we_if (h : WT K t Γ fun b Γ1 => (b = true → WE K ta Γ1 Post) ∧ (b = false → WE K tb Γ1 Post)) : WE K (tIf t ta tb) Γ Post := fun σ B H E Q q => by
  refine h σ B H E _ fun b B1 H1 Γ1 g p => ?_
  cases b with
  | true =>
    show ta σ H1 Q
    exact p.1 rfl σ B1 H1 g.env Q fun v B' H' r Γ' g' k' p' => q v B' H' r Γ' (g.trans g') (ReOk.earlier k' g.mv fun a h => .inl (g.sub a h)) p'
  | false =>
    show tb σ H1 Q
    exact p.2 rfl σ B1 H1 g.env Q fun v B' H' r Γ' g' k' p' => q v B' H' r Γ' (g.trans g') (ReOk.earlier k' g.mv fun a h => .inl (g.sub a h)) p'
theorem wd_nil {P : List Dt → List Sl → Prop} (p : P [] Γ) : WD K tNil Γ P := fun σ B H E Q q => q [] B H [] Γ (.refl E) .nil p
theorem wd_cons {P : List Dt → List Sl → Prop} {tr : TA} (h : WE K te Γ fun r Γ1 => ∃ d, r.dt? = some d ∧ WD K tr Γ1 fun ds Γ2 => P (d :: ds) Γ2) : WD K (tCons te tr) Γ P := fun σ B H E Q q => by
  have h' : WE K te Γ fun r Γ1 => ∃ d, r = .val d ∧ WD K tr Γ1 fun ds Γ2 => P (d :: ds) Γ2 := we_freeze (we_mono h fun r Γ1 ⟨d, hd, k⟩ => ⟨d, hd, d, rfl, k⟩)
  refine h' σ B H E _ fun x B1 H1 ra Γ1 g1 k1 p1 => ?_
  obtain ⟨d, rfl, p1⟩ := p1
  refine p1 σ B1 H1 g1.env _ fun vs B2 H2 ds Γ2 g2 k2 p2 => ?_
  exact q (x :: vs) B2 H2 (d :: ds) Γ2 (g1.trans g2) (.cons (Is.mono g2.mv.bb k1) k2) p2
theorem we_tup {t : TA} (h : WD K t Γ fun ds Γ1 => ds.length ≤ 1000000 ∧ Post (.val (.tup ds)) Γ1) : WE K (tTup t) Γ Post := fun σ B H E Q q => by
  refine h σ B H E _ fun vs B1 H1 ds Γ1 g k p => ?_
  refine ⟨Nat.le_trans (by rw [k.len]; exact p.1) (by decide), fun a ha => ?_⟩
  have g2 := Go.laid (o := .tup vs) g.env ha
  have k2 := k.mono g2.mv.bb
  exact q (.ref a) _ _ (.val (.tup ds)) Γ1 (g.trans g2) (.tup (.inl (.inl upd_same)) k2.len k2.at_) p.2
theorem we_lst {t : TA} (h : WD K t Γ fun ds Γ1 => ds.length ≤ 1000000 ∧ Post (.new ds) Γ1) : WE K (tLst t) Γ Post := fun σ B H E Q q => by
  refine h σ B H E _ fun vs B1 H1 ds Γ1 g k p => ?_
  refine ⟨Nat.le_trans (by rw [k.len]; exact p.1) (by decide), fun a ha => ?_⟩
  have g2 := Go.beside (o := .lst vs) g.env ha
  refine q (.ref a) _ _ (.new ds) Γ1 (g.trans g2) ⟨a, _, rfl, g.mv.back ha, g.env.not_own ha, upd_same, g.env.base_none ha, vs, rfl, k⟩ p.2
end
end Ab

namespace Ab
open PySem L2
def RvOk (K : PySem.W.Frag) (σ : L2.St) (B H : Hp) (Γ : List Sl) (v : V) : Re → Prop
  | .val d => Is K B v d
  | .nw c => ∃ l o, v = .ref l ∧ ¬ Own σ Γ l ∧ H l = some o ∧ B l = none ∧ CnIs K B l o c
  | .own i => ∃ l, v = .ref l ∧ σ[i]? = some (some (.ref l))
def seqOf (Γ : List Sl) : Re → Option (List Dt)
  | .val (.tup ds) => some ds
  | .val (.lst ds) => some ds
  | .val (.scr ns) => some (ns.map Dt.int)
  | .val _ => none
  | .nw (.lst ds) => some ds
  | .nw _ => none
  | .own i => match Γ[i]? with
    | some (Sl.cel (.lst ds)) => some ds
    | _ => none
def lstOf (Γ : List Sl) : Re → Option (List Dt)
  | .val (.lst ds) => some ds
  | .val (.scr ns) => some (ns.map Dt.int)
  | .val _ => none
  | .nw (.lst ds) => some ds
  | .nw _ => none
  | .own i => match Γ[i]? with
    | some (Sl.cel (.lst ds)) => some ds
    | _ => none
def tyOf : Re → Option String
  | .val (.raw .non) => some "NoneType"
  | .val (.raw (.bl _)) => some "bool"
  | .val (.raw (.int _)) => some "int"
  | .val (.raw (.str _)) => some "str"
  | .val (.tup _) => some "tuple"
  | .val (.lst _) => some "list"
  | .val (.dK _) => some "dict"
  | .val (.dT _) => some "dict"
  | .nw (.lst _) => some "list"
  | .nw (.dK _) => some "dict"
  | .nw (.dT _) => some "dict"
  | .own _ => some "list"
  | _ => none
section
variable {K : PySem.W.Frag} {σ : L2.St} {B H B1 H1 B2 H2 : Hp} {Γ Γ1 Γ2 : List Sl} {v : V} {r : Re} {ds : List Dt} {m m' : Addr → Prop}
theorem ReOk.rv (h : ReOk K σ m (Own σ Γ) B H1 H v r) : RvOk K σ B H Γ v r := by
  cases r with
  | val d => exact h
  | nw ds => obtain ⟨l, vs, e, _, h2, h3⟩ := h; exact ⟨l, vs, e, h2, h3⟩
  | own i => exact h
theorem rv_lst (E : Env K B H σ Γ) (h : RvOk K σ B H Γ v r) (e : lstOf Γ r = some ds) : ∃ a vs, v = .ref a ∧ SqL K H a vs ∧ IsA K B vs ds := by
  cases r with
  | val d =>
    cases d with
    | lst es => cases e; obtain ⟨a, xs, rfl, h1, h2⟩ := Is.lstR h; exact ⟨a, xs, rfl, .inl (.inl (E.bh _ _ h1)), h2⟩
    | scr ns =>
      cases e
      cases h with
      | scr h => exact ⟨_, _, rfl, E.bh.seq h, by
          have := IsA.raws (K := K) (B := B) (xs := ns.map V.int)
          rwa [List.map_map] at this⟩
    | raw u => cases e
    | tup es => cases e
    | obj C fs => cases e
    | dK es => cases e
    | dT es => cases e
    | exn a d fs => cases e
    | err C fs => cases e
    | dN w es => cases e
  | nw c =>
    cases c with
    | lst es => cases e; obtain ⟨l, o, rfl, _, h1, _, vs, rfl, h2⟩ := h; exact ⟨l, vs, rfl, .inl (.inl h1), h2⟩
    | dK es => cases e
    | dT es => cases e
    | dN w es => cases e
  | own i =>
    obtain ⟨l, rfl, hl⟩ := h
    have e' : (match Γ[i]? with
      | some (Sl.cel (.lst ds)) => some ds
      | _ => none) = some ds := e
    split at e'
    · rename_i es hi
      cases e'
      obtain ⟨c, us, q1, q2, q3, q4⟩ := E.acc i _ hi
      rw [hl] at q1; cases q1
      exact ⟨l, us, rfl, .inl (.inl q2), q4⟩
    · cases e'
theorem rv_seq (E : Env K B H σ Γ) (h : RvOk K σ B H Γ v r) (e : seqOf Γ r = some ds) : ∃ a vs, v = .ref a ∧ (SqL K H a vs ∨ SqT K H a vs) ∧ IsA K B vs ds := by
  cases r with
  | val d =>
    cases d with
    | tup es => cases e; obtain ⟨a, xs, rfl, h1, h2⟩ := Is.tupR h; exact ⟨a, xs, rfl, .inr (sqT_mono E.bh h1), h2⟩
    | lst es => obtain ⟨a, xs, rfl, h1, h2⟩ := rv_lst E h e; exact ⟨a, xs, rfl, .inl h1, h2⟩
    | scr es => obtain ⟨a, xs, rfl, h1, h2⟩ := rv_lst E h e; exact ⟨a, xs, rfl, .inl h1, h2⟩
    | raw u => cases e
    | obj C fs => cases e
    | dK es => cases e
    | dT es => cases e
    | exn a d fs => cases e
    | err C fs => cases e
    | dN w es => cases e
  | nw c =>
    cases c with
    | lst es => obtain ⟨a, xs, rfl, h1, h2⟩ := rv_lst E h e; exact ⟨a, xs, rfl, .inl h1, h2⟩
    | dK es => cases e
    | dT es => cases e
    | dN w es => cases e
  | own i => obtain ⟨a, xs, rfl, h1, h2⟩ := rv_lst E h e; exact ⟨a, xs, rfl, .inl h1, h2⟩
theorem ty_sqT {a : Addr} {xs : List V} (h : SqT K H a xs) : TyX K H (.ref a) (.type "tuple") := by
  rcases h with (h | ⟨o, h⟩) | ⟨o, its, n, h1, h2, _⟩
  · exact .base (.tup h)
  · exact .fTuple h
  · exact .kTuple h1 h2
theorem rv_ty {T : String} (E : Env K B H σ Γ) (hi : ∀ i, r = .own i → ∃ ds, Γ[i]? = some (.acc ds)) (h : RvOk K σ B H Γ v r) (e : tyOf r = some T) : TyX K H v (.type T) := by
  cases r with
  | val d =>
    cases d with
    | raw u =>
      have hv : v = u := Is.rawI h
      subst hv
      cases v <;> first | (cases e; first | exact .base .non | exact .base (.bl _) | exact .base (.int _) | exact .base (.str _)) | cases e
    | tup es => cases e; obtain ⟨a, xs, rfl, h1, h2⟩ := Is.tupR h; exact ty_sqT (sqT_mono E.bh h1)
    | lst es => cases e; obtain ⟨a, xs, rfl, h1, h2⟩ := Is.lstR h; exact .base (.lst (E.bh _ _ h1))
    | scr es => cases e
    | obj C fs => cases e
    | dK es => cases e; cases h with | dK h1 _ _ => exact .base (.dK (E.bh _ _ h1))
    | dT es => cases e; cases h with | dT h1 _ _ => exact .base (.dT (E.bh _ _ h1))
    | exn a d fs => cases e
    | err C fs => cases e
    | dN w es => cases e
  | nw c =>
    cases c with
    | lst es => cases e; obtain ⟨l, o, rfl, _, h1, _, vs, rfl, h2⟩ := h; exact .base (.lst h1)
    | dK es => cases e; obtain ⟨l, o, rfl, _, h1, _, vs, rfl, h2⟩ := h; exact .base (.dK h1)
    | dT es => cases e; obtain ⟨l, o, rfl, _, h1, _, vs, rfl, h2⟩ := h; exact .base (.dT h1)
    | dN w es => cases e
  | own i =>
    cases e
    obtain ⟨l, rfl, hl⟩ := h
    obtain ⟨ds, hd⟩ := hi i rfl
    obtain ⟨c, us, q1, q2, _⟩ := E.acc i _ hd
    rw [hl] at q1; cases q1
    exact .base (.lst q2)
end
section
variable {K : PySem.W.Frag} {Γ : List Sl} {Post : Re → List Sl → Prop} {ta tb tc te : TE} {t u : TT}
theorem we_two' {r : R2} (h : WE K ta Γ fun ra Γ1 => WE K tb Γ1 fun rb Γ2 =>
      ∀ σ B H x y, Env K B H σ Γ2 → RvOk K σ B H Γ2 x ra → RvOk K σ B H Γ2 y rb → ∀ Q : VK, (∀ v B' H' z Γ', Go K σ B H Γ2 B' H' Γ' → ReOk K σ (Own σ Γ2) (Own σ Γ') B' H H' v z → Post z Γ' → Q v H') → r x y H Q) : WE K (tOp r ta tb) Γ Post := fun σ B H E Q q => by
  refine h σ B H E _ fun x B1 H1 ra Γ1 g1 k1 p1 => ?_
  refine p1 σ B1 H1 g1.env _ fun y B2 H2 rb Γ2 g2 k2 p2 => ?_
  exact p2 σ B2 H2 x y g2.env (ReOk.rv (ReOk.step k1 g2.mv g2.sub)) k2.rv Q fun v B' H' z Γ' g3 k3 p3 => q v B' H' z Γ' ((g1.trans g2).trans g3) (ReOk.earlier k3 (g1.trans g2).mv fun a h => .inl ((g1.trans g2).sub a h)) p3
theorem we_one' {r : V → Hp → VK → Prop} (h : WE K ta Γ fun ra Γ1 => ∀ σ B H x, Env K B H σ Γ1 → RvOk K σ B H Γ1 x ra → ∀ Q : VK, (∀ v B' H' z Γ', Go K σ B H Γ1 B' H' Γ' → ReOk K σ (Own σ Γ1) (Own σ Γ') B' H H' v z → Post z Γ' → Q v H') → r x H Q) :
    ∀ σ B H, Env K B H σ Γ → ∀ Q : VK, (∀ v B' H' r Γ', Go K σ B H Γ B' H' Γ' → ReOk K σ (Own σ Γ) (Own σ Γ') B' H H' v r → Post r Γ' → Q v H') → ta σ H (fun x H1 => r x H1 Q) := fun σ B H E Q q => by
  refine h σ B H E _ fun x B1 H1 ra Γ1 g1 k1 p1 => ?_
  exact p1 σ B1 H1 x g1.env k1.rv Q fun v B' H' z Γ' g3 k3 p3 => q v B' H' z Γ' (g1.trans g3) (ReOk.earlier k3 g1.mv fun a h => .inl (g1.sub a h)) p3
theorem we_cb1 {r : List V → Hp → VK → Prop} (h : WE K te Γ fun ra Γ1 => ∀ σ B H x, Env K B H σ Γ1 → RvOk K σ B H Γ1 x ra → ∀ Q : VK, (∀ v B' H' z Γ', Go K σ B H Γ1 B' H' Γ' → ReOk K σ (Own σ Γ1) (Own σ Γ') B' H H' v z → Post z Γ' → Q v H') → r [x] H Q) : WE K (tCB r (tCons te tNil)) Γ Post :=
  we_one' (r := fun x H Q => r [x] H Q) h
def rLenV (K : PySem.W.Frag) : List V → Hp → VK → Prop := fun xs H Q => ∃ x n, xs = [x] ∧ LenV K x H n ∧ Q (.int n) H
def rAbs : List V → Hp → VK → Prop := fun xs H Q => ∃ i, xs = [.int i] ∧ Q (.int (if i < 0 then -i else i)) H
theorem we_abs (h : WE K te Γ fun r Γ1 => ∃ i, r = .val (.int i) ∧ Post (.val (.int (if i < 0 then -i else i))) Γ1) : WE K (tCB rAbs (tCons te tNil)) Γ Post :=
  we_cb1 (we_mono h fun r Γ1 ⟨i, e, p⟩ => fun σ B H x E kx Q q => by
    subst e
    cases Is.rawI kx
    exact ⟨i, rfl, q _ B H _ Γ1 (.refl E) (.raw _) p⟩)
def rInt1 : List V → Hp → VK → Prop := fun xs H Q => (∃ i, xs = [.int i] ∧ Q (.int i) H) ∨ ∃ k, xs = [.bl k] ∧ Q (.int (if k then 1 else 0)) H
def rTupleOf (K : PySem.W.Frag) : List V → Hp → VK → Prop := fun xs H Q => ∃ p ys, xs = [.ref p] ∧ ((SqL K H p ys ∧ ∀ l, H l = none → Q (.ref l) (upd H l (.tup ys))) ∨ (SqT K H p ys ∧ Q (.ref p) H))
def rListOf (K : PySem.W.Frag) : List V → Hp → VK → Prop := fun xs H Q => ∃ p ys, xs = [.ref p] ∧ (SqL K H p ys ∨ SqT K H p ys) ∧ ∀ l, H l = none → Q (.ref l) (upd H l (.lst ys))
theorem re_laidT {σ : L2.St} {B H : Hp} {vs : List V} {ds : List Dt} {a : Addr} (E : Env K B H σ Γ) (k : IsA K B vs ds) (ha : H a = none) : ReOk K σ (Own σ Γ) (Own σ Γ) (upd B a (.tup vs)) H (upd H a (.tup vs)) (.ref a) (.val (.tup ds)) := by
  have k2 := k.mono (Go.laid (o := .tup vs) E ha).mv.bb
  exact Is.tup (.inl (.inl upd_same)) k2.len k2.at_
theorem re_newL {σ : L2.St} {B H : Hp} {vs : List V} {ds : List Dt} {a : Addr} (E : Env K B H σ Γ) (k : IsA K B vs ds) (ha : H a = none) : ReOk K σ (Own σ Γ) (Own σ Γ) B H (upd H a (.lst vs)) (.ref a) (.new ds) :=
  ⟨a, _, rfl, .inr ha, E.not_own ha, upd_same, E.base_none ha, vs, rfl, k⟩
theorem we_tuple (h : WE K te Γ fun r Γ1 => ∃ ds, seqOf Γ1 r = some ds ∧ Post (.val (.tup ds)) Γ1) : WE K (tCB (rTupleOf K) (tCons te tNil)) Γ Post :=
  we_cb1 (we_mono h fun r Γ1 ⟨ds, hs, p⟩ => fun σ B H x E kx Q q => by
    obtain ⟨a, vs, rfl, hq, ha⟩ := rv_seq E kx hs
    rcases hq with hq | hq
    · exact ⟨a, vs, rfl, .inl ⟨hq, fun l hl => q _ _ _ _ Γ1 (Go.laid E hl) (re_laidT E ha hl) p⟩⟩
    · cases r with
      | val d =>
        cases d with
        | tup es =>
          cases hs
          exact ⟨a, vs, rfl, .inr ⟨hq, q _ B H (.val (.tup ds)) Γ1 (.refl E) kx p⟩⟩
        | lst es =>
          obtain ⟨c, us, e, h1, h2⟩ := rv_lst (ds := ds) E kx hs
          cases e
          exact ⟨a, us, rfl, .inl ⟨h1, fun l hl => q _ _ _ _ Γ1 (Go.laid E hl) (re_laidT E h2 hl) p⟩⟩
        | raw u => cases hs
        | scr es =>
          obtain ⟨c, us, e, h1, h2⟩ := rv_lst (ds := ds) E kx hs
          cases e
          exact ⟨a, us, rfl, .inl ⟨h1, fun l hl => q _ _ _ _ Γ1 (Go.laid E hl) (re_laidT E h2 hl) p⟩⟩
        | obj C fs => cases hs
        | dK es => cases hs
        | dT es => cases hs
        | exn a d fs => cases hs
        | err C fs => cases hs
        | dN w es => cases hs
      | nw c =>
        cases c with
        | lst es =>
          obtain ⟨c, us, e, h1, h2⟩ := rv_lst (ds := ds) E kx hs
          cases e
          exact ⟨a, us, rfl, .inl ⟨h1, fun l hl => q _ _ _ _ Γ1 (Go.laid E hl) (re_laidT E h2 hl) p⟩⟩
        | dK es => cases hs
        | dT es => cases hs
        | dN w es => cases hs
      | own i =>
        obtain ⟨c, us, e, h1, h2⟩ := rv_lst (ds := ds) E kx hs
        cases e
        exact ⟨a, us, rfl, .inl ⟨h1, fun l hl => q _ _ _ _ Γ1 (Go.laid E hl) (re_laidT E h2 hl) p⟩⟩)
theorem we_list (h : WE K te Γ fun r Γ1 => ∃ ds, seqOf Γ1 r = some ds ∧ Post (.new ds) Γ1) : WE K (tCB (rListOf K) (tCons te tNil)) Γ Post :=
  we_cb1 (we_mono h fun r Γ1 ⟨ds, hs, p⟩ => fun σ B H x E kx Q q => by
    obtain ⟨a, vs, rfl, hq, ha⟩ := rv_seq E kx hs
    exact ⟨a, vs, rfl, hq, fun l hl => q _ _ _ _ Γ1 (Go.beside E hl) (re_newL E ha hl) p⟩)
theorem we_isi {c : String} (h : WE K te Γ fun r Γ1 => (∀ i, r = .own i → ∃ ds, Γ1[i]? = some (.acc ds)) ∧ ∃ T b, tyOf r = some T ∧ kitB T c = some b ∧ Post (.val (.bl b)) Γ1) : WE K (tCB (rIsi K) (tCons te (tCons (tC (.ty c)) tNil))) Γ Post :=
  we_one' (r := fun x H Q => rIsi K [x, .ty c] H Q) (we_mono h fun r Γ1 ⟨ho, T, b, ht, hk, p⟩ => fun σ B H x E kx Q q =>
    ⟨x, .ty c, .type T, .type c, b, rfl, .ty c, rv_ty E ho kx ht, kit_ty hk, q _ B H _ Γ1 (.refl E) (.raw _) p⟩)
def rMx2 : List V → Hp → VK → Prop := fun xs H Q => ∃ i j, xs = [.int i, .int j] ∧ Q (.int (if j > i then j else i)) H
def rMn2 : List V → Hp → VK → Prop := fun xs H Q => ∃ i j, xs = [.int i, .int j] ∧ Q (.int (if j < i then j else i)) H
theorem we_max2 (h : WE K ta Γ fun ra Γ1 => ∃ i, ra = .val (.int i) ∧ WE K tb Γ1 fun rb Γ2 => ∃ j, rb = .val (.int j) ∧ Post (.val (.int (if j > i then j else i))) Γ2) : WE K (tCB rMx2 (tCons ta (tCons tb tNil))) Γ Post :=
  we_two' (r := fun x y H Q => rMx2 [x, y] H Q) (we_mono h fun ra Γ1 ⟨i, ei, h1⟩ => we_mono h1 fun rb Γ2 ⟨j, ej, p⟩ => fun σ B H x y E kx ky Q q => by
    subst ei ej
    cases Is.rawI kx; cases Is.rawI ky
    exact ⟨i, j, rfl, q _ B H _ Γ2 (.refl E) (.raw _) p⟩)
theorem we_min2 (h : WE K ta Γ fun ra Γ1 => ∃ i, ra = .val (.int i) ∧ WE K tb Γ1 fun rb Γ2 => ∃ j, rb = .val (.int j) ∧ Post (.val (.int (if j < i then j else i))) Γ2) : WE K (tCB rMn2 (tCons ta (tCons tb tNil))) Γ Post :=
  we_two' (r := fun x y H Q => rMn2 [x, y] H Q) (we_mono h fun ra Γ1 ⟨i, ei, h1⟩ => we_mono h1 fun rb Γ2 ⟨j, ej, p⟩ => fun σ B H x y E kx ky Q q => by
    subst ei ej
    cases Is.rawI kx; cases Is.rawI ky
    exact ⟨i, j, rfl, q _ B H _ Γ2 (.refl E) (.raw _) p⟩)
theorem we_chainI {g g' : Int → Int → Bool} (h : WE K ta Γ fun ra Γ1 => ∃ i, ra = .val (.int i) ∧ WE K tb Γ1 fun rb Γ2 => ∃ j, rb = .val (.int j) ∧
      (g i j = true → WE K tc Γ2 fun rc Γ3 => ∃ k, rc = .val (.int k) ∧ Post (.val (.bl (g' j k))) Γ3) ∧ (g i j = false → Post (.val (.bl false)) Γ2)) :
    WE K (tChain (rI0 fun i j => .bl (g i j)) (rI0 fun i j => .bl (g' i j)) ta tb tc) Γ Post := fun σ B H E Q q => by
  refine h σ B H E _ fun x B1 H1 ra Γ1 g1 k1 p1 => ?_
  obtain ⟨i, rfl, p1⟩ := p1
  refine p1 σ B1 H1 g1.env _ fun y B2 H2 rb Γ2 g2 k2 p2 => ?_
  obtain ⟨j, rfl, p2, p3⟩ := p2
  cases Is.rawI k1; cases Is.rawI k2
  refine ⟨i, j, rfl, rfl, g i j, rfl, ?_⟩
  cases hg : g i j with
  | true =>
    show tc σ H2 fun w' H4 => rI0 (fun i j => .bl (g' i j)) (.int j) w' H4 Q
    refine p2 hg σ B2 H2 g2.env _ fun z B3 H3 rc Γ3 g3 k3 p3 => ?_
    obtain ⟨k, rfl, p⟩ := p3
    cases Is.rawI k3
    exact ⟨j, k, rfl, rfl, q _ B3 H3 _ Γ3 ((g1.trans g2).trans g3) (.raw _) p⟩
  | false =>
    show Q (.bl false) H2
    exact q _ B2 H2 _ Γ2 (g1.trans g2) (.raw _) (p3 hg)
theorem we_in {neg : Bool} (h : WE K ta Γ fun ra Γ1 => WE K tb Γ1 fun rb Γ2 => ∃ (x : V) (us : List V), ra = .val (.raw x) ∧ seqOf Γ2 rb = some (us.map Dt.raw) ∧ flatV x = true ∧ us.all flatV = true ∧ Post (.val (.bl (if neg then !inV x us else inV x us))) Γ2) : WE K (tOp (rIn K neg) ta tb) Γ Post :=
  we_two' (we_mono h fun ra Γ1 h1 => we_mono h1 fun rb Γ2 ⟨x, us, e, hs, hx, hu, p⟩ => fun σ B H y z E ky kz Q q => by
    subst e
    cases Is.rawI ky
    obtain ⟨a, vs, rfl, hq, ha⟩ := rv_seq E kz hs
    cases ha.rawsI
    exact ⟨a, _, rfl, hq, hx, hu, q _ B H _ Γ2 (.refl E) (.raw _) p⟩)
end
end Ab

namespace Ab
open PySem L2
structure GoS (K : PySem.W.Frag) (pin : List Nat) (σ : L2.St) (B H : Hp) (Γ : List Sl) (σ' : L2.St) (B' H' : Hp) (Γ' : List Sl) : Prop where
  mv : Mv (Own σ Γ) B H B' H'
  new : ∀ a, Own σ' Γ' a → Own σ Γ a ∨ H a = none
  env : Env K B' H' σ' Γ'
  pin : ∀ i, i ∈ pin → σ'[i]? = σ[i]?
structure Ex where
  W : WX
  q : Value → List (Str × Dt) → List Sl → Prop
def Ex.no : Ex := ⟨fun _ _ _ _ => True, fun _ _ _ => False⟩
inductive ExB (K : PySem.W.Frag) (B : Hp) : Option Addr → List (Str × Dt) → Prop where
  | none : ExB K B none []
  | some {dd : Addr} {fs : List (Str × V)} {gs : List (Str × Dt)} (h : B dd = some (.xd fs)) (hk : ∀ f : Str, (fs.lookup f).isSome = (gs.lookup f).isSome) (hi : ∀ (f : Str) v d, fs.lookup f = some v → gs.lookup f = some d → Is K B v d) (hne : gs ≠ []) : ExB K B (some dd) gs
structure Ps where
  nx : List Sl → Prop
  rt : Re → List Sl → Prop
  bk : List Sl → Prop := fun _ => False
  ct : List Sl → Prop := fun _ => False
  ex : Ex := Ex.no
def Re.free : Re → Bool
  | .own _ => false
  | _ => true
def WS (K : PySem.W.Frag) (pin : List Nat) (ts : TS) (Γ : List Sl) (P : Ps) : Prop := ∀ σ B H (D : Ends), Env K B H σ Γ →
  (∀ σ' B' H' Γ', GoS K pin σ B H Γ σ' B' H' Γ' → P.nx Γ' → D.nx σ' H') →
  (∀ v σ' B' H' r Γ', GoS K pin σ B H Γ σ' B' H' Γ' → ReOk K [] (Own σ Γ) (Own σ' Γ') B' H H' v r → P.rt r Γ' → D.rt v H') →
  (∀ σ' B' H' Γ', GoS K pin σ B H Γ σ' B' H' Γ' → P.bk Γ' → D.bk σ' H') →
  (∀ σ' B' H' Γ', GoS K pin σ B H Γ σ' B' H' Γ' → P.ct Γ' → D.ct σ' H') →
  (∀ cls d fs σ' B' H' Γ', GoS K pin σ B H Γ σ' B' H' Γ' → ExB K B' d fs → P.ex.q cls fs Γ' → P.ex.W cls d σ' H') → ts D σ H
def WG (K : PySem.W.Frag) (pin : List Nat) (g : TG) (d : Dt) (Γ : List Sl) (P : List Sl → Prop) : Prop := ∀ σ B H x, Env K B H σ Γ → Is K B x d → ∀ Q : L2.St → Hp → Prop,
  (∀ σ' Γ', GoS K pin σ B H Γ σ' B H Γ' → P Γ' → Q σ' H) → g x σ H Q
section
variable {K : PySem.W.Frag} {pin : List Nat} {σ σ1 σ2 : L2.St} {B H B1 H1 B2 H2 : Hp} {Γ Γ1 Γ2 : List Sl} {v : V} {r : Re} {P : Ps}
theorem GoS.refl (E : Env K B H σ Γ) : GoS K pin σ B H Γ σ B H Γ := ⟨Mv.refl _ _ _, fun _ h => .inl h, E, fun _ _ => rfl⟩
theorem GoS.trans (x : GoS K pin σ B H Γ σ1 B1 H1 Γ1) (y : GoS K pin σ1 B1 H1 Γ1 σ2 B2 H2 Γ2) : GoS K pin σ B H Γ σ2 B2 H2 Γ2 :=
  ⟨x.mv.trans x.new y.mv, fun a h => (y.new a h).elim (fun z => x.new a z) fun z => x.mv.back z, y.env, fun i hi => (y.pin i hi).trans (x.pin i hi)⟩
theorem Go.s (x : Go K σ B H Γ B1 H1 Γ1) : GoS K pin σ B H Γ σ B1 H1 Γ1 := ⟨x.mv, fun a h => .inl (x.sub a h), x.env, fun _ _ => rfl⟩
theorem ReOk.off {m m' : Addr → Prop} (h : ReOk K σ m m' B1 H H1 v r) (hf : r.free = true) : ReOk K [] m m' B1 H H1 v r := by
  cases r with
  | val d => exact h
  | nw ds => exact h
  | own i => cases hf
theorem Own.set_ne {i : Nat} {x : Option V} {s : Sl} {a : Addr} (h : Own (σ.set i x) (Γ.set i s) a) (hs : ∀ ds, s = .cel ds → x ≠ some (.ref a)) : Own σ Γ a := by
  obtain ⟨j, ds, h1, h2⟩ := h
  by_cases hij : i = j
  · subst hij
    have hi : i < Γ.length := by
      have := (List.getElem?_eq_some_iff.mp h1).1
      simpa using this
    have hi2 : i < σ.length := by
      have := (List.getElem?_eq_some_iff.mp h2).1
      simpa using this
    rw [List.getElem?_set_self hi] at h1
    rw [List.getElem?_set_self hi2] at h2
    exact absurd (Option.some.inj h2) (hs ds (Option.some.inj h1))
  · rw [List.getElem?_set_ne hij] at h1 h2
    exact ⟨j, ds, h1, h2⟩
def slOf : Re → Sl
  | .val d => .val d
  | .nw c => .cel c
  | .own _ => .un
theorem Env.setV (E : Env K B H σ Γ) {i : Nat} {d : Dt} (hi : i < Γ.length) (hv : Is K B v d) : Env K B H (σ.set i (some v)) (Γ.set i (.val d)) := by
  have hi2 : i < σ.length := by rw [E.len]; exact hi
  have nac : ∀ {j : Nat} {es : Cn}, (Γ.set i (.val d))[j]? = some (.cel es) → i ≠ j := fun {j es} h z => by
    subst z
    rw [List.getElem?_set_self hi] at h; cases h
  refine ⟨by simp [E.len], E.bh, fun j e h => ?_, fun j es h => ?_, fun j k ds es l h1 h2 h3 h4 => ?_⟩
  · by_cases hij : i = j
    · subst hij
      rw [List.getElem?_set_self hi] at h
      cases h
      exact ⟨v, List.getElem?_set_self hi2, hv⟩
    · rw [List.getElem?_set_ne hij] at h ⊢
      exact E.val j e h
  · have hij := nac h
    rw [List.getElem?_set_ne hij] at h ⊢
    exact E.cel j es h
  · have a1 := nac h1
    have a2 := nac h2
    rw [List.getElem?_set_ne a1] at h1 h3
    rw [List.getElem?_set_ne a2] at h2 h4
    exact E.sep j k ds es l h1 h2 h3 h4
theorem Env.setU (E : Env K B H σ Γ) {i : Nat} (x : Option V) (hi : i < Γ.length) : Env K B H (σ.set i x) (Γ.set i .un) := by
  have nac : ∀ {j : Nat} {s : Sl}, (Γ.set i .un)[j]? = some s → s ≠ .un → i ≠ j := fun {j s} h hs z => by
    subst z
    rw [List.getElem?_set_self hi] at h; cases h; exact hs rfl
  refine ⟨by simp [E.len], E.bh, fun j e h => ?_, fun j es h => ?_, fun j k ds es l h1 h2 h3 h4 => ?_⟩
  · have hij := nac h (fun z => nomatch z)
    rw [List.getElem?_set_ne hij] at h ⊢
    exact E.val j e h
  · have hij := nac h (fun z => nomatch z)
    rw [List.getElem?_set_ne hij] at h ⊢
    exact E.cel j es h
  · have a1 := nac h1 (fun z => nomatch z)
    have a2 := nac h2 (fun z => nomatch z)
    rw [List.getElem?_set_ne a1] at h1 h3
    rw [List.getElem?_set_ne a2] at h2 h4
    exact E.sep j k ds es l h1 h2 h3 h4
theorem Env.setA (E : Env K B H σ Γ) {i : Nat} {l : Addr} {vs : HO} {ds : Cn} (hi : i < Γ.length) (hn : ¬ Own σ Γ l) (hl : H l = some vs) (hb : B l = none) (ha : CnIs K B l vs ds) : Env K B H (σ.set i (some (.ref l))) (Γ.set i (.cel ds)) := by
  have hi2 : i < σ.length := by rw [E.len]; exact hi
  refine ⟨by simp [E.len], E.bh, fun j e h => ?_, fun j es h => ?_, fun j k ds' es l' h1 h2 h3 h4 => ?_⟩
  · by_cases hij : i = j
    · subst hij
      rw [List.getElem?_set_self hi] at h
      cases h
    · rw [List.getElem?_set_ne hij] at h ⊢
      exact E.val j e h
  · by_cases hij : i = j
    · subst hij
      rw [List.getElem?_set_self hi] at h
      cases h
      exact ⟨l, vs, List.getElem?_set_self hi2, hl, hb, ha⟩
    · rw [List.getElem?_set_ne hij] at h ⊢
      exact E.cel j es h
  · by_cases h1i : i = j
    · by_cases h2i : i = k
      · exact h1i.symm.trans h2i
      · subst h1i
        rw [List.getElem?_set_self hi2] at h3
        rw [List.getElem?_set_ne h2i] at h2 h4
        cases h3
        exact absurd ⟨k, es, h2, h4⟩ hn
    · by_cases h2i : i = k
      · subst h2i
        rw [List.getElem?_set_self hi2] at h4
        rw [List.getElem?_set_ne h1i] at h1 h3
        cases h4
        exact absurd ⟨j, ds', h1, h3⟩ hn
      · rw [List.getElem?_set_ne h1i] at h1 h3
        rw [List.getElem?_set_ne h2i] at h2 h4
        exact E.sep j k ds' es l' h1 h2 h3 h4
theorem pin_set {i : Nat} {x : Option V} (hp : pin.contains i = false) : ∀ j, j ∈ pin → (σ.set i x)[j]? = σ[j]? := fun j hj => by
  have : i ≠ j := fun z => by
    subst z
    have := List.contains_iff_mem.mpr hj
    rw [hp] at this; cases this
  exact List.getElem?_set_ne this
theorem goS_set (g : Go K σ B H Γ B1 H1 Γ1) (k : ReOk K σ (Own σ Γ) (Own σ Γ1) B1 H H1 v r) {i : Nat} (hp : pin.contains i = false) (hi : i < Γ1.length) : GoS K pin σ B H Γ (σ.set i (some v)) B1 H1 (Γ1.set i (slOf r)) := by
  cases r with
  | val d => exact ⟨g.mv, fun a h => .inl (g.sub a (h.set_ne fun ds z => nomatch z)), g.env.setV hi k, pin_set hp⟩
  | own j => exact ⟨g.mv, fun a h => .inl (g.sub a (h.set_ne fun ds z => nomatch z)), g.env.setU _ hi, pin_set hp⟩
  | nw ds =>
    obtain ⟨l, vs, rfl, h1, h2, h3, h4, h5⟩ := k
    refine ⟨g.mv, fun a h => ?_, g.env.setA hi h2 h3 h4 h5, pin_set hp⟩
    by_cases ha : a = l
    · subst ha; exact h1
    · exact .inl (g.sub a (h.set_ne fun ds _ z => ha (by cases z; rfl)))
end
section
variable {K : PySem.W.Frag} {pin : List Nat} {Γ : List Sl} {P : Ps} {te ta tb : TE} {tt : TT} {t u tb' : TS} {g : TG}
theorem ws_mono {P' : Ps} (h : WS K pin t Γ P) (h1 : ∀ G, P.nx G → P'.nx G) (h2 : ∀ r G, P.rt r G → P'.rt r G) (h3 : ∀ G, P.bk G → P'.bk G) (h4 : ∀ G, P.ct G → P'.ct G) (h5 : P'.ex = P.ex := by rfl) : WS K pin t Γ P' := fun σ B H D E n r b c xx =>
  h σ B H D E (fun σ' B' H' Γ' g p => n σ' B' H' Γ' g (h1 _ p)) (fun v σ' B' H' z Γ' g k p => r v σ' B' H' z Γ' g k (h2 _ _ p)) (fun σ' B' H' Γ' g p => b σ' B' H' Γ' g (h3 _ p)) (fun σ' B' H' Γ' g p => c σ' B' H' Γ' g (h4 _ p)) (h5 ▸ xx)
theorem ws_from {σ σ1 : L2.St} {B H B1 H1 : Hp} {Γ1 : List Sl} {D : Ends} (h : WS K pin t Γ1 P) (g : GoS K pin σ B H Γ σ1 B1 H1 Γ1)
    (n : ∀ σ' B' H' Γ', GoS K pin σ B H Γ σ' B' H' Γ' → P.nx Γ' → D.nx σ' H')
    (r : ∀ v σ' B' H' r Γ', GoS K pin σ B H Γ σ' B' H' Γ' → ReOk K [] (Own σ Γ) (Own σ' Γ') B' H H' v r → P.rt r Γ' → D.rt v H')
    (b : ∀ σ' B' H' Γ', GoS K pin σ B H Γ σ' B' H' Γ' → P.bk Γ' → D.bk σ' H')
    (c : ∀ σ' B' H' Γ', GoS K pin σ B H Γ σ' B' H' Γ' → P.ct Γ' → D.ct σ' H')
    (xx : ∀ cls d fs σ' B' H' Γ', GoS K pin σ B H Γ σ' B' H' Γ' → ExB K B' d fs → P.ex.q cls fs Γ' → P.ex.W cls d σ' H') : t D σ1 H1 :=
  h σ1 B1 H1 D g.env (fun σ' B' H' Γ' g' p => n σ' B' H' Γ' (g.trans g') p) (fun v σ' B' H' z Γ' g' k p => r v σ' B' H' z Γ' (g.trans g') (ReOk.earlier k g.mv g.new) p)
    (fun σ' B' H' Γ' g' p => b σ' B' H' Γ' (g.trans g') p) (fun σ' B' H' Γ' g' p => c σ' B' H' Γ' (g.trans g') p) (fun cls d fs σ' B' H' Γ' g' hx p => xx cls d fs σ' B' H' Γ' (g.trans g') hx p)
theorem ws_seq (h : WS K pin t Γ { P with nx := fun Γ1 => WS K pin u Γ1 P }) : WS K pin (tSeq t u) Γ P := fun σ B H D E n r b c xx =>
  h σ B H { D with nx := u D } E (fun σ' B' H' Γ' g p => ws_from (t := u) (D := D) p g n r b c xx) r b c xx
theorem ws_nil (p : P.nx Γ) : WS K pin tNext Γ P := fun σ B H D E n r b c xx => n σ B H Γ (.refl E) p
theorem ws_brk (p : P.bk Γ) : WS K pin tBreak Γ P := fun σ B H D E n r b c xx => b σ B H Γ (.refl E) p
theorem ws_cont (p : P.ct Γ) : WS K pin tCont Γ P := fun σ B H D E n r b c xx => c σ B H Γ (.refl E) p
theorem ws_expr (h : WE K te Γ fun _ Γ1 => P.nx Γ1) : WS K pin (tDrop te) Γ P := fun σ B H D E n r b c xx =>
  h σ B H E _ fun v B1 H1 z Γ1 g k p => n σ B1 H1 Γ1 g.s p
theorem ws_ret (h : WE K te Γ fun z Γ1 => z.free = true ∧ P.rt z Γ1) : WS K pin (tRet te) Γ P := fun σ B H D E n r b c xx =>
  h σ B H E _ fun v B1 H1 z Γ1 g k ⟨hf, p⟩ => r v σ B1 H1 z Γ1 g.s (k.off hf) p
theorem ws_retA {i : Nat} {ds : List Dt} (h : Γ[i]? = some (.acc ds)) (p : P.rt (.new ds) (Γ.set i .un)) : WS K pin (tRet (tVar i)) Γ P := ws_ret (we_move h ⟨rfl, p⟩)
theorem ws_if (h : WT K tt Γ fun b Γ1 => (b = true → WS K pin t Γ1 P) ∧ (b = false → WS K pin u Γ1 P)) : WS K pin (tIfS tt t u) Γ P := fun σ B H D E n r b c xx =>
  h σ B H E _ fun z B1 H1 Γ1 g p => by
    cases z with
    | true =>
      show t D σ H1
      exact ws_from (p.1 rfl) g.s n r b c xx
    | false =>
      show u D σ H1
      exact ws_from (p.2 rfl) g.s n r b c xx
theorem ws_asg {i : Nat} (hp : pin.contains i = false) (hi : decide (i < Γ.length) = true) (h : WE K te Γ fun z Γ1 => P.nx (Γ1.set i (slOf z))) : WS K pin (tAsg te (gName i)) Γ P := fun σ B H D E n r b c xx =>
  h σ B H E _ fun v B1 H1 z Γ1 g k p => n _ B1 H1 _ (goS_set g k hp (by rw [← g.env.len, E.len]; exact of_decide_eq_true hi)) p
theorem ws_asgG (h : WE K te Γ fun z Γ1 => ∃ d, z = .val d ∧ WG K pin g d Γ1 P.nx) : WS K pin (tAsg te g) Γ P := fun σ B H D E n r b c xx =>
  h σ B H E _ fun v B1 H1 z Γ1 g1 k p => by
    obtain ⟨d, rfl, p⟩ := p
    exact p σ B1 H1 v g1.env k _ fun σ' Γ' g2 p2 => n σ' B1 H1 Γ' (g1.s.trans g2) p2
theorem wg_name {i : Nat} {d : Dt} {Q : List Sl → Prop} (hp : pin.contains i = false) (hi : decide (i < Γ.length) = true) (p : Q (Γ.set i (.val d))) : WG K pin (gName i) d Γ Q := fun σ B H x E k R q =>
  q _ _ (goS_set (r := .val d) (.refl E) k hp (of_decide_eq_true hi)) p
def WGs (K : PySem.W.Frag) (pin : List Nat) (g : TGs) (ds : List Dt) (Γ : List Sl) (P : List Sl → Prop) : Prop := ∀ σ B H xs, Env K B H σ Γ → IsA K B xs ds → ∀ Q : L2.St → Hp → Prop,
  (∀ σ' Γ', GoS K pin σ B H Γ σ' B H Γ' → P Γ' → Q σ' H) → g xs σ H Q
theorem wgs_nil {Q : List Sl → Prop} (p : Q Γ) : WGs K pin gNil [] Γ Q := fun σ B H xs E k R q => by
  have : xs = [] := List.eq_nil_of_length_eq_zero (by rw [k.len]; rfl)
  exact ⟨this, q σ Γ (.refl E) p⟩
theorem wgs_cons {g1 : TG} {g2 : TGs} {d : Dt} {ds : List Dt} {Q : List Sl → Prop} (h : WG K pin g1 d Γ fun Γ1 => WGs K pin g2 ds Γ1 Q) : WGs K pin (gCons g1 g2) (d :: ds) Γ Q := fun σ B H xs E k R q => by
  cases xs with
  | nil => have := k.len; simp at this
  | cons x r =>
    refine ⟨x, r, rfl, h σ B H x E (k.at_ 0 x d rfl rfl) _ fun σ1 Γ1 e1 p1 => ?_⟩
    exact p1 σ1 B H r e1.env ⟨by have := k.len; simpa using this, fun i v d a b => k.at_ (i + 1) v d (by simpa using a) (by simpa using b)⟩ R fun σ2 Γ2 e2 p2 => q σ2 Γ2 (e1.trans e2) p2
theorem wg_tup {n : Nat} {g2 : TGs} {ds : List Dt} {Q : List Sl → Prop} (hn : ds.length = n) (h : WGs K pin g2 ds Γ Q) : WG K pin (gTup K n g2) (.tup ds) Γ Q := fun σ B H x E k R q => by
  obtain ⟨a, xs, rfl, h1, h2⟩ := Is.tupR k
  exact ⟨a, xs, rfl, sqT_mono E.bh h1, by rw [h2.len]; exact hn, h σ B H xs E h2 R q⟩
theorem ws_aug {i : Nat} {f : Int → Int → Int} {a : Int} (hx : Γ[i]? = some (.val (.int a))) (hp : pin.contains i = false) (h : WE K te Γ fun z Γ1 => ∃ b, z = .val (.int b) ∧ P.nx (Γ1.set i (.val (.int (f a b))))) : WS K pin (tAug i te (ipI f)) Γ P := fun σ B H D E n r b c xx => by
  obtain ⟨v, hv, hk⟩ := E.val i _ hx
  cases hk.rawI
  refine ⟨_, hv, h σ B H E _ fun y B1 H1 z Γ1 g k p => ?_⟩
  obtain ⟨b, rfl, p⟩ := p
  cases Is.rawI k
  exact ⟨a, b, rfl, rfl, n _ B1 H1 _ (goS_set (r := .val (.int (f a b))) g (Is.raw _) hp (by rw [← g.env.len, E.len]; exact (List.getElem?_eq_some_iff.mp hx).1)) p⟩
theorem Env.put {σ : L2.St} {B H : Hp} {i : Nat} {ds es : Cn} {l : Addr} {ys : HO} (E : Env K B H σ Γ) (h : Γ[i]? = some (.cel ds)) (hl : σ[i]? = some (some (.ref l))) (ha : CnIs K B l ys es) : Env K B (upd H l ys) σ (Γ.set i (.cel es)) := by
  have hi : i < Γ.length := (List.getElem?_eq_some_iff.mp h).1
  obtain ⟨l', vs, q1, q2, q3, q4⟩ := E.cel i ds h
  rw [hl] at q1; cases q1
  have up : ∀ {j : Nat} {es' : Cn}, (Γ.set i (.cel es))[j]? = some (.cel es') → ∃ ds', Γ[j]? = some (.cel ds') := fun {j es'} hj => by
    by_cases hij : i = j
    · subst hij; exact ⟨ds, h⟩
    · rw [List.getElem?_set_ne hij] at hj; exact ⟨es', hj⟩
  refine ⟨by simp [E.len], fun a u e => ?_, fun j e hj => ?_, fun j es' hj => ?_, fun j k ds' es' l' h1 h2 h3 h4 => ?_⟩
  · rw [upd_ne (ne_of_none e q3)]; exact E.bh a u e
  · by_cases hij : i = j
    · subst hij; rw [List.getElem?_set_self hi] at hj; cases hj
    · rw [List.getElem?_set_ne hij] at hj; exact E.val j e hj
  · by_cases hij : i = j
    · subst hij; rw [List.getElem?_set_self hi] at hj; cases hj
      exact ⟨l, ys, hl, upd_same, q3, ha⟩
    · rw [List.getElem?_set_ne hij] at hj
      obtain ⟨c, us, e1, e2, e3, e4⟩ := E.cel j es' hj
      have hc : c ≠ l := fun z => by
        subst z
        exact hij (E.sep i j ds es' c h hj hl e1)
      exact ⟨c, us, e1, by rw [upd_ne hc]; exact e2, e3, e4⟩
  · obtain ⟨d1, g1⟩ := up h1
    obtain ⟨d2, g2⟩ := up h2
    exact E.sep j k d1 d2 l' g1 g2 h3 h4
theorem Own.put {σ : L2.St} {i : Nat} {ds es : Cn} {a : Addr} (h : Γ[i]? = some (.cel ds)) (o : Own σ (Γ.set i (.cel es)) a) : Own σ Γ a := by
  obtain ⟨j, es', h1, h2⟩ := o
  by_cases hij : i = j
  · subst hij; exact ⟨i, ds, h, h2⟩
  · rw [List.getElem?_set_ne hij] at h1; exact ⟨j, es', h1, h2⟩
theorem Go.putC {σ : L2.St} {B H : Hp} {i : Nat} {ds es : Cn} {l : Addr} {ys : HO} (E : Env K B H σ Γ) (h : Γ[i]? = some (.cel ds)) (hl : σ[i]? = some (some (.ref l))) (ha : CnIs K B l ys es) : Go K σ B H Γ B (upd H l ys) (Γ.set i (.cel es)) :=
  ⟨⟨fun a o na e => by rw [upd_ne (fun z => na (by subst z; exact ⟨i, ds, h, hl⟩))]; exact e, Same.refl B, fun _ _ _ e => e⟩, fun j es' hj => by
    by_cases hij : i = j
    · subst hij; exact ⟨ds, h⟩
    · rw [List.getElem?_set_ne hij] at hj; exact ⟨es', hj⟩, E.put h hl ha⟩
theorem Go.put {σ : L2.St} {B H : Hp} {i : Nat} {ds es : List Dt} {l : Addr} {ys : List V} (E : Env K B H σ Γ) (h : Γ[i]? = some (.acc ds)) (hl : σ[i]? = some (some (.ref l))) (ha : IsA K B ys es) : Go K σ B H Γ B (upd H l (.lst ys)) (Γ.set i (.acc es)) :=
  Go.putC E h hl ⟨ys, rfl, ha⟩
theorem we_append {i : Nat} {ds0 : List Dt} {Post : Re → List Sl → Prop} (h0 : Γ[i]? = some (.acc ds0)) (h : WE K te Γ fun z Γ1 => ∃ d ds, z.dt? = some d ∧ Γ1[i]? = some (.acc ds) ∧ ds.length < 1000000 ∧ Post (.val .non) (Γ1.set i (.acc (ds ++ [d])))) :
    WE K (tBM K "list" rAppend (tVar i) (tCons te tNil)) Γ Post := fun σ B H E Q q => by
  obtain ⟨l, vs, e0, e1, e2, k0⟩ := E.acc i ds0 h0
  refine ⟨.ref l, e0, .inl ⟨rfl, vs, .inl (.inl e1)⟩, ?_⟩
  have h' : WE K te Γ fun z Γ1 => ∃ d ds, z = .val d ∧ Γ1[i]? = some (.acc ds) ∧ ds.length < 1000000 ∧ Post (.val .non) (Γ1.set i (.acc (ds ++ [d]))) := we_freeze (we_mono h fun z Γ1 ⟨d, ds, hd, r⟩ => ⟨d, hd, d, ds, rfl, r⟩)
  refine h' σ B H E _ fun y B1 H1 z Γ1 g k p => ?_
  obtain ⟨d, ds, rfl, hi, hz, p⟩ := p
  obtain ⟨l', us, f0, f1, f2, k1⟩ := g.env.acc i ds hi
  rw [e0] at f0; cases f0
  refine ⟨l, us, y, rfl, rfl, f1, Nat.lt_trans (by rw [k1.len]; exact hz) (by decide), ?_⟩
  have g2 := Go.put g.env hi e0 (k1.snoc k)
  exact q .non B1 _ (.val .non) _ (g.trans g2) (Is.raw _) p
theorem ws_setA {i : Nat} {tj : TE} (h : WE K te Γ fun z Γ1 => ∃ d, z = .val d ∧ (∃ ds1, Γ1[i]? = some (.acc ds1)) ∧ WE K tj Γ1 fun y Γ2 => ∃ ds k j, y = .val (.int k) ∧ Γ2[i]? = some (.acc ds) ∧ ixN ds.length k = some j ∧ P.nx (Γ2.set i (.acc (ds.set j d)))) :
    WS K pin (tAsg te (gSub (tVar i) tj rSetL)) Γ P := fun σ B H D E n r b c xx => by
  refine h σ B H E _ fun v B1 H1 z Γ1 g1 k1 p1 => ?_
  obtain ⟨d, rfl, ⟨ds1, h1⟩, p1⟩ := p1
  obtain ⟨l, vs, e0, e1, e2, k0⟩ := g1.env.acc i ds1 h1
  refine ⟨.ref l, e0, p1 σ B1 H1 g1.env _ fun y B2 H2 w Γ2 g2 k2 p2 => ?_⟩
  obtain ⟨ds, k, j, rfl, hi, hj, p⟩ := p2
  cases Is.rawI k2
  obtain ⟨l', us, f0, f1, f2, k3⟩ := g2.env.acc i ds hi
  rw [e0] at f0; cases f0
  refine ⟨l, us, k, j, rfl, rfl, f1, by rw [k3.len]; exact hj, ?_⟩
  exact n _ B2 _ _ ((g1.trans g2).trans (Go.put g2.env hi e0 (k3.set (Is.mono g2.mv.bb k1)))).s p
theorem we_reverse {i : Nat} {ds : List Dt} {Post : Re → List Sl → Prop} (h0 : Γ[i]? = some (.acc ds)) (p : Post (.val .non) (Γ.set i (.acc ds.reverse))) : WE K (tBM0 K "list" rReverse (tVar i)) Γ Post := fun σ B H E Q q => by
  obtain ⟨l, vs, e0, e1, e2, k0⟩ := E.acc i ds h0
  exact ⟨.ref l, e0, .inl ⟨rfl, vs, .inl (.inl e1)⟩, l, vs, rfl, rfl, e1, q .non B _ (.val .non) _ (Go.put E h0 e0 k0.reverse) (Is.raw _) p⟩
theorem ws_for1 {t1 : TA} (h : WD K t1 Γ fun ds Γ1 => ∃ n : Int, ds = [.int n] ∧ -(2 ^ 62) ≤ n ∧ n < 2 ^ 62 ∧ ∃ Inv : Nat → List Sl → Prop, Inv 0 Γ1 ∧
      (∀ (i : Nat) Γ', (i : Int) < n → Inv i Γ' → WG K pin g (.int i) Γ' fun Γ2 => WS K pin tb' Γ2 ⟨Inv (i + 1), P.rt, P.nx, Inv (i + 1), P.ex⟩) ∧ ∀ Γ', Inv n.toNat Γ' → P.nx Γ') : WS K pin (tFor (iRng1 t1) g tb') Γ P := fun σ B H D E n r b c xx => by
  refine h σ B H E _ fun vs B1 H1 ds Γ1 g1 k p => ?_
  obtain ⟨m, rfl, hlo, hhi, Inv, i0, turn, done⟩ := p
  have ev : vs = [.int m] := IsA.rawsI (xs := [.int m]) k
  refine ⟨m, ev, hlo, hhi, ?_⟩
  refine for_range (lo := 0) (n := m.toNat) (fun i σ' H' => ∃ B' Γ', GoS K pin σ B H Γ σ' B' H' Γ' ∧ Inv i Γ') ⟨B1, Γ1, g1.s, i0⟩ ?_ ?_
  · rintro i σ' H' hi ⟨B', Γ', g2, inv⟩
    have e0 : (0 : Int) + (i : Int) = (i : Int) := Int.zero_add _
    rw [e0]
    refine turn i Γ' (by omega) inv σ' B' H' _ g2.env (.raw _) _ fun σ2 Γ2 g3 w => ?_
    exact ws_from w (g2.trans g3) (fun σ3 B3 H3 Γ3 g4 p => ⟨B3, Γ3, g4, p⟩) r (fun σ3 B3 H3 Γ3 g4 p => n σ3 B3 H3 Γ3 g4 p) (fun σ3 B3 H3 Γ3 g4 p => ⟨B3, Γ3, g4, p⟩) xx
  · rintro σ' H' ⟨B', Γ', g2, inv⟩
    exact n σ' B' H' Γ' g2 (done Γ' inv)
theorem ws_for2 {t1 : TA} (h : WD K t1 Γ fun ds Γ1 => ∃ lo m : Int, ds = [.int lo, .int m] ∧ (-(2 ^ 62) ≤ lo ∧ lo < 2 ^ 62 ∧ -(2 ^ 62) ≤ m ∧ m < 2 ^ 62) ∧ ∃ Inv : Nat → List Sl → Prop, Inv 0 Γ1 ∧
      (∀ (i : Nat) Γ', lo + (i : Int) < m → Inv i Γ' → WG K pin g (.int (lo + i)) Γ' fun Γ2 => WS K pin tb' Γ2 ⟨Inv (i + 1), P.rt, P.nx, Inv (i + 1), P.ex⟩) ∧ ∀ Γ', Inv (m - lo).toNat Γ' → P.nx Γ') : WS K pin (tFor (iRng2 t1) g tb') Γ P := fun σ B H D E n r b c xx => by
  refine h σ B H E _ fun vs B1 H1 ds Γ1 g1 k p => ?_
  obtain ⟨lo, m, rfl, hb, Inv, i0, turn, done⟩ := p
  have ev : vs = [.int lo, .int m] := IsA.rawsI (xs := [.int lo, .int m]) k
  refine ⟨lo, m, ev, hb, ?_⟩
  refine for_range (lo := lo) (n := (m - lo).toNat) (fun i σ' H' => ∃ B' Γ', GoS K pin σ B H Γ σ' B' H' Γ' ∧ Inv i Γ') ⟨B1, Γ1, g1.s, i0⟩ ?_ ?_
  · rintro i σ' H' hi ⟨B', Γ', g2, inv⟩
    refine turn i Γ' (by omega) inv σ' B' H' _ g2.env (.raw _) _ fun σ2 Γ2 g3 w => ?_
    exact ws_from w (g2.trans g3) (fun σ3 B3 H3 Γ3 g4 p => ⟨B3, Γ3, g4, p⟩) r (fun σ3 B3 H3 Γ3 g4 p => n σ3 B3 H3 Γ3 g4 p) (fun σ3 B3 H3 Γ3 g4 p => ⟨B3, Γ3, g4, p⟩) xx
  · rintro σ' H' ⟨B', Γ', g2, inv⟩
    exact n σ' B' H' Γ' g2 (done Γ' inv)
theorem ws_forT (h : WE K te Γ fun z Γ1 => ∃ ds, z = .val (.tup ds) ∧ ∃ Inv : Nat → List Sl → Prop, Inv 0 Γ1 ∧
      (∀ (i : Nat) d Γ', ds[i]? = some d → Inv i Γ' → WG K pin g d Γ' fun Γ2 => WS K pin tb' Γ2 ⟨Inv (i + 1), P.rt, P.nx, Inv (i + 1), P.ex⟩) ∧ ∀ Γ', Inv ds.length Γ' → P.nx Γ') : WS K pin (tFor (iTup K te) g tb') Γ P := fun σ B H D E n r b c xx => by
  refine h σ B H E _ fun v B1 H1 z Γ1 g1 k p => ?_
  obtain ⟨ds, rfl, Inv, i0, turn, done⟩ := p
  obtain ⟨a, xs, rfl, ha, hx⟩ := Is.tupR k
  refine ⟨a, rfl, ⟨xs, sqT_mono g1.env.bh ha⟩, for_tup (xs := xs) (fun i σ' H' => ∃ B' Γ', Same B1 B' ∧ GoS K pin σ B H Γ σ' B' H' Γ' ∧ Inv i Γ') ⟨B1, Γ1, Same.refl _, g1.s, i0⟩ ?_ ?_ ?_⟩
  · rintro i σ' H' _ ⟨B', Γ', sb, g2, _⟩
    exact sqT_mono (sb.trans g2.env.bh) ha
  · rintro i x σ' H' hi ⟨B', Γ', sb, g2, inv⟩
    have hlt : i < ds.length := by rw [← hx.len]; exact (List.getElem?_eq_some_iff.mp hi).1
    refine turn i ds[i] Γ' (List.getElem?_eq_getElem hlt) inv σ' B' H' x g2.env ((hx.at_ i x _ hi (List.getElem?_eq_getElem hlt)).mono sb) _ fun σ2 Γ2 g3 w => ?_
    have g23 := g2.trans g3
    refine w σ2 B' H' _ g23.env (fun σ3 B3 H3 Γ3 g4 p => ⟨B3, Γ3, sb.trans g4.mv.bb, g23.trans g4, p⟩) (fun v σ3 B3 H3 z Γ3 g4 k4 p => r v σ3 B3 H3 z Γ3 (g23.trans g4) (ReOk.earlier k4 g23.mv g23.new) p)
      (fun σ3 B3 H3 Γ3 g4 p => n σ3 B3 H3 Γ3 (g23.trans g4) p) (fun σ3 B3 H3 Γ3 g4 p => ⟨B3, Γ3, sb.trans g4.mv.bb, g23.trans g4, p⟩) (fun cls d fs σ3 B3 H3 Γ3 g4 hx p => xx cls d fs σ3 B3 H3 Γ3 (g23.trans g4) hx p)
  · rintro σ' H' ⟨B', Γ', sb, g2, inv⟩
    rw [hx.len] at inv
    exact n σ' B' H' Γ' g2 (done Γ' inv)
theorem ws_forL (h : WE K te Γ fun z Γ1 => ∃ d ds, z.dt? = some d ∧ d = .lst ds ∧ ∃ Inv : Nat → List Sl → Prop, Inv 0 Γ1 ∧
      (∀ (i : Nat) d Γ', ds[i]? = some d → Inv i Γ' → WG K pin g d Γ' fun Γ2 => WS K pin tb' Γ2 ⟨Inv (i + 1), P.rt, P.nx, Inv (i + 1), P.ex⟩) ∧ ∀ Γ', Inv ds.length Γ' → P.nx Γ') : WS K pin (tFor (iList K te) g tb') Γ P := fun σ B H D E n r b c xx => by
  have h' : WE K te Γ fun z Γ1 => ∃ ds, z = .val (.lst ds) ∧ ∃ Inv : Nat → List Sl → Prop, Inv 0 Γ1 ∧
      (∀ (i : Nat) d Γ', ds[i]? = some d → Inv i Γ' → WG K pin g d Γ' fun Γ2 => WS K pin tb' Γ2 ⟨Inv (i + 1), P.rt, P.nx, Inv (i + 1), P.ex⟩) ∧ ∀ Γ', Inv ds.length Γ' → P.nx Γ' :=
    we_freeze (we_mono h fun z Γ1 ⟨d, ds, hd, e, r⟩ => ⟨d, hd, ds, by rw [e], r⟩)
  refine h' σ B H E _ fun v B1 H1 z Γ1 g1 k p => ?_
  obtain ⟨ds, rfl, Inv, i0, turn, done⟩ := p
  obtain ⟨a, xs, rfl, ha, hx⟩ := Is.lstR k
  refine ⟨a, rfl, ⟨xs, .inl (.inl (g1.env.bh _ _ ha))⟩, for_list (xs := xs) (fun i σ' H' => ∃ B' Γ', Same B1 B' ∧ GoS K pin σ B H Γ σ' B' H' Γ' ∧ Inv i Γ') ⟨B1, Γ1, Same.refl _, g1.s, i0⟩ ?_ ?_ ?_⟩
  · rintro i σ' H' _ ⟨B', Γ', sb, g2, _⟩
    exact .inl (.inl ((sb.trans g2.env.bh) _ _ ha))
  · rintro i x σ' H' hi ⟨B', Γ', sb, g2, inv⟩
    have hlt : i < ds.length := by rw [← hx.len]; exact (List.getElem?_eq_some_iff.mp hi).1
    refine turn i ds[i] Γ' (List.getElem?_eq_getElem hlt) inv σ' B' H' x g2.env ((hx.at_ i x _ hi (List.getElem?_eq_getElem hlt)).mono sb) _ fun σ2 Γ2 g3 w => ?_
    have g23 := g2.trans g3
    refine w σ2 B' H' _ g23.env (fun σ3 B3 H3 Γ3 g4 p => ⟨B3, Γ3, sb.trans g4.mv.bb, g23.trans g4, p⟩) (fun v σ3 B3 H3 z Γ3 g4 k4 p => r v σ3 B3 H3 z Γ3 (g23.trans g4) (ReOk.earlier k4 g23.mv g23.new) p)
      (fun σ3 B3 H3 Γ3 g4 p => n σ3 B3 H3 Γ3 (g23.trans g4) p) (fun σ3 B3 H3 Γ3 g4 p => ⟨B3, Γ3, sb.trans g4.mv.bb, g23.trans g4, p⟩) (fun cls d fs σ3 B3 H3 Γ3 g4 hx p => xx cls d fs σ3 B3 H3 Γ3 (g23.trans g4) hx p)
  · rintro σ' H' ⟨B', Γ', sb, g2, inv⟩
    rw [hx.len] at inv
    exact n σ' B' H' Γ' g2 (done Γ' inv)
theorem ws_forA {k : Nat} {ds : List Dt} (h0 : Γ[k]? = some (.acc ds)) (Inv : Nat → List Sl → Prop) (i0 : Inv 0 Γ) (hk : ∀ i Γ', Inv i Γ' → Γ'[k]? = some (.acc ds))
      (turn : ∀ (i : Nat) d Γ', ds[i]? = some d → Inv i Γ' → WG K (k :: pin) g d Γ' fun Γ2 => WS K (k :: pin) tb' Γ2 ⟨Inv (i + 1), P.rt, P.nx, Inv (i + 1), P.ex⟩) (done : ∀ Γ', Inv ds.length Γ' → P.nx Γ') : WS K pin (tFor (iList K (tVar k)) g tb') Γ P := fun σ B H D E n r b c xx => by
  obtain ⟨l, xs, e0, e1, e2, hx⟩ := E.acc k ds h0
  have off : ∀ {σ' B' H' Γ'}, GoS K (k :: pin) σ B H Γ σ' B' H' Γ' → GoS K pin σ B H Γ σ' B' H' Γ' := fun g => ⟨g.mv, g.new, g.env, fun i hi => g.pin i (List.mem_cons_of_mem _ hi)⟩
  have items : ∀ {i σ' B' H' Γ'}, GoS K (k :: pin) σ B H Γ σ' B' H' Γ' → Inv i Γ' → ∃ ys, H' l = some (.lst ys) ∧ IsA K B' ys ds := fun {i σ' B' H' Γ'} g inv => by
    obtain ⟨c, ys, q1, q2, q3, q4⟩ := g.env.acc k ds (hk i Γ' inv)
    rw [g.pin k (List.mem_cons_self), e0] at q1
    cases q1
    exact ⟨ys, q2, q4⟩
  refine ⟨.ref l, e0, l, rfl, ⟨xs, .inl (.inl e1)⟩, fun i m σ' H' => m = ds.length - i ∧ i ≤ ds.length ∧ ∃ B' Γ', GoS K (k :: pin) σ B H Γ σ' B' H' Γ' ∧ Inv i Γ', ⟨ds.length, by simp, Nat.zero_le _, B, Γ, .refl E, i0⟩, ?_⟩
  rintro i m σ' H' ⟨rfl, hi, B', Γ', g2, inv⟩
  obtain ⟨ys, hy, hya⟩ := items g2 inv
  by_cases hlt : i < ds.length
  · obtain ⟨x, hx1, hx2⟩ := hya.get (List.getElem?_eq_getElem hlt)
    refine .inr ⟨⟨ys, x, .inl (.inl hy), hx1⟩, fun σ2 H2 => ∃ B' Γ', GoS K (k :: pin) σ B H Γ σ2 B' H2 Γ' ∧ Inv (i + 1) Γ', fun σ2 H2 ⟨B2, Γ2, q⟩ => ⟨ds.length - (i + 1), by omega, rfl, hlt, B2, Γ2, q⟩, fun x' H2 hyl => ?_⟩
    obtain ⟨e, hyl⟩ := hyl
    subst e
    have ex : x' = x := by
      have := hyl ys (.inl (.inl hy))
      rw [hx1] at this; cases this; rfl
    subst ex
    refine turn i ds[i] Γ' (List.getElem?_eq_getElem hlt) inv σ' B' _ x' g2.env hx2 _ fun σ2 Γ2 g3 w => ?_
    have g23 := g2.trans g3
    exact w σ2 B' _ _ g23.env (fun σ3 B3 H3 Γ3 g4 p => ⟨B3, Γ3, g23.trans g4, p⟩) (fun v σ3 B3 H3 z Γ3 g4 k4 p => r v σ3 B3 H3 z Γ3 (off (g23.trans g4)) (ReOk.earlier k4 g23.mv g23.new) p)
      (fun σ3 B3 H3 Γ3 g4 p => n σ3 B3 H3 Γ3 (off (g23.trans g4)) p) (fun σ3 B3 H3 Γ3 g4 p => ⟨B3, Γ3, g23.trans g4, p⟩) (fun cls d fs σ3 B3 H3 Γ3 g4 hx p => xx cls d fs σ3 B3 H3 Γ3 (off (g23.trans g4)) hx p)
  · have e : i = ds.length := by omega
    subst e
    exact .inl ⟨⟨ys, .inl (.inl hy), by rw [hya.len]; exact Nat.le_refl _⟩, n σ' B' H' Γ' (off g2) (done Γ' inv)⟩
theorem ws_while (Inv : Nat → List Sl → Prop) (m0 : Nat) (i0 : Inv m0 Γ)
      (turn : ∀ m Γ', Inv m Γ' → WT K tt Γ' fun z Γ1 => (z = true → WS K pin tb' Γ1 ⟨fun G => ∃ m', m' < m ∧ Inv m' G, P.rt, P.nx, fun G => ∃ m', m' < m ∧ Inv m' G, P.ex⟩) ∧ (z = false → P.nx Γ1)) : WS K pin (tWhile tt tb') Γ P := fun σ B H D E n r b c xx => by
  refine ⟨fun m σ' H' => ∃ B' Γ', GoS K pin σ B H Γ σ' B' H' Γ' ∧ Inv m Γ', ⟨m0, B, Γ, .refl E, i0⟩, ?_⟩
  rintro m σ' H' ⟨B', Γ', g, inv⟩
  refine turn m Γ' inv σ' B' H' g.env _ fun z B1 H1 Γ1 g1 p => ?_
  have gg := g.trans g1.s
  cases z with
  | true =>
    refine (show ∃ N : L2.St → Hp → Prop, _ from ⟨fun σ2 H2 => ∃ B2 Γ2, GoS K pin σ B H Γ σ2 B2 H2 Γ2 ∧ ∃ m', m' < m ∧ Inv m' Γ2, fun σ2 H2 ⟨B2, Γ2, g2, m', hm, inv'⟩ => ⟨m', hm, B2, Γ2, g2, inv'⟩, ?_⟩)
    exact ws_from (p.1 rfl) gg (fun σ3 B3 H3 Γ3 g4 p => ⟨B3, Γ3, g4, p⟩) r (fun σ3 B3 H3 Γ3 g4 p => n σ3 B3 H3 Γ3 g4 p) (fun σ3 B3 H3 Γ3 g4 p => ⟨B3, Γ3, g4, p⟩) xx
  | false => exact n σ' B1 H1 Γ1 gg (p.2 rfl)
end
end Ab

namespace Ab
open PySem L2
abbrev AP := List Sl → (Re → List Sl → Prop) → Prop
def toSp (K : PySem.W.Frag) (ap : AP) : Sp := fun vs H Q _ => ∃ B as Post, Env K B H (vs.map some) as ∧ ap as Post ∧
  ∀ v B' H' r as', Go K (vs.map some) B H as B' H' as' → ReOk K [] (Own (vs.map some) as) (Own (vs.map some) as') B' H H' v r → Post r as' → Q v H'
def exitSl (pin : List Nat) (Γ : List Sl) (i : Nat) : Sl → Sl
  | .val d => .val d
  | .un => .un
  | .cel _ => if pin.contains i then (Γ[i]?).getD .un else .un
def exitFrom (pin : List Nat) (Γ : List Sl) : Nat → List Sl → List Sl
  | _, [] => []
  | k, s :: r => exitSl pin Γ k s :: exitFrom pin Γ (k + 1) r
def exitArgs (pin : List Nat) (Γ as : List Sl) : List Sl := exitFrom pin Γ 0 as
theorem exitFrom_get (pin : List Nat) (Γ : List Sl) : ∀ (as : List Sl) (k i : Nat), (exitFrom pin Γ k as)[i]? = (as[i]?).map (exitSl pin Γ (k + i))
  | [], k, i => by simp [exitFrom]
  | s :: r, k, 0 => by simp [exitFrom]
  | s :: r, k, i + 1 => by
    rw [exitFrom]
    simp only [List.getElem?_cons_succ]
    rw [exitFrom_get pin Γ r (k + 1) i]
    rw [show k + 1 + i = k + (i + 1) by omega]
theorem exitArgs_get {pin : List Nat} {Γ as : List Sl} {i : Nat} {s : Sl} (h : (exitArgs pin Γ as)[i]? = some s) : ∃ s0, as[i]? = some s0 ∧ s = exitSl pin Γ i s0 := by
  unfold exitArgs at h
  rw [exitFrom_get] at h
  cases q : as[i]? with
  | none => rw [q] at h; cases h
  | some s0 =>
    rw [q] at h
    simp at h
    exact ⟨s0, rfl, h.symm⟩
theorem exitFrom_len (pin : List Nat) (Γ : List Sl) : ∀ (as : List Sl) (k : Nat), (exitFrom pin Γ k as).length = as.length
  | [], _ => rfl
  | s :: r, k => by rw [exitFrom, List.length_cons, List.length_cons, exitFrom_len pin Γ r (k + 1)]
section
variable {K : PySem.W.Frag}
theorem start_get {N : List Str} {vs : List V} {i : Nat} (h : i < vs.length) : (L2.start N vs)[i]? = (vs.map some)[i]? := by
  unfold L2.start
  rw [List.getElem?_append_left (by rw [List.length_map]; exact h)]
theorem env_start {B H : Hp} {N : List Str} {vs : List V} {as : List Sl} (E : Env K B H (vs.map some) as) (hn : as.length ≤ N.length) : Env K B H (L2.start N vs) (as ++ List.replicate (N.length - as.length) .un) := by
  have hl : vs.length = as.length := by have := E.len; simpa using this
  have lt : ∀ {i : Nat} {s : Sl}, (as ++ List.replicate (N.length - as.length) Sl.un)[i]? = some s → s ≠ .un → i < as.length ∧ as[i]? = some s := fun {i s} h hs => by
    by_cases hi : i < as.length
    · rw [List.getElem?_append_left hi] at h; exact ⟨hi, h⟩
    · rw [List.getElem?_append_right (by omega)] at h
      have := List.mem_of_getElem? h
      rw [List.mem_replicate] at this
      exact absurd this.2 hs
  refine ⟨?_, E.bh, fun i d h => ?_, fun i ds h => ?_, fun i j ds es l h1 h2 h3 h4 => ?_⟩
  · unfold L2.start
    rw [List.length_append, List.length_map, List.length_replicate, List.length_append, List.length_replicate, hl]
  · obtain ⟨hi, h⟩ := lt h (fun z => nomatch z)
    rw [start_get (by omega)]
    exact E.val i d h
  · obtain ⟨hi, h⟩ := lt h (fun z => nomatch z)
    rw [start_get (by omega)]
    exact E.cel i ds h
  · obtain ⟨hi, h1⟩ := lt h1 (fun z => nomatch z)
    obtain ⟨hj, h2⟩ := lt h2 (fun z => nomatch z)
    rw [start_get (by omega)] at h3 h4
    exact E.sep i j ds es l h1 h2 h3 h4
theorem own_start {N : List Str} {vs : List V} {as : List Sl} (hl : vs.length = as.length) {a : Addr} : Own (L2.start N vs) (as ++ List.replicate (N.length - as.length) .un) a ↔ Own (vs.map some) as a := by
  constructor
  · rintro ⟨i, ds, h1, h2⟩
    by_cases hi : i < as.length
    · rw [List.getElem?_append_left hi] at h1
      rw [start_get (by omega)] at h2
      exact ⟨i, ds, h1, h2⟩
    · rw [List.getElem?_append_right (by omega)] at h1
      have := List.mem_of_getElem? h1
      rw [List.mem_replicate] at this
      cases this.2
  · rintro ⟨i, ds, h1, h2⟩
    have hi : i < as.length := (List.getElem?_eq_some_iff.mp h1).1
    refine ⟨i, ds, ?_, ?_⟩
    · rw [List.getElem?_append_left hi]; exact h1
    · rw [start_get (by omega)]; exact h2
variable {P : Program} {w : World} {mg : Str → Option Value} {base : Heap}
theorem exit_go {N : List Str} {vs : List V} {as : List Sl} {B H B' H' : Hp} {pin : List Nat} {σ' : L2.St} {Γ' : List Sl} (E1 : Env K B H (vs.map some) as) (hl : vs.length = as.length)
    (g : GoS K pin (L2.start N vs) B H (as ++ List.replicate (N.length - as.length) .un) σ' B' H' Γ') : Go K (vs.map some) B H as B' H' (exitArgs pin Γ' as) ∧
      ∀ v r, ReOk K [] (Own (L2.start N vs) (as ++ List.replicate (N.length - as.length) .un)) (Own σ' Γ') B' H H' v r → ReOk K [] (Own (vs.map some) as) (Own (vs.map some) (exitArgs pin Γ' as)) B' H H' v r := by
  have hpinv : ∀ i, i < vs.length → i ∈ pin → σ'[i]? = (vs.map some)[i]? := fun i hi hp => by rw [g.pin i hp, start_get hi]
  have acc : ∀ {i : Nat} {ds : Cn}, (exitArgs pin Γ' as)[i]? = some (.cel ds) → i ∈ pin ∧ Γ'[i]? = some (.cel ds) ∧ ∃ ds0, as[i]? = some (.cel ds0) := fun {i ds} h => by
    obtain ⟨s0, h0, e⟩ := exitArgs_get h
    cases s0 with
    | un => cases e
    | val d => cases e
    | cel es =>
      unfold exitSl at e
      simp only at e
      split at e
      · rename_i hc
        refine ⟨List.contains_iff_mem.mp hc, ?_, es, h0⟩
        cases q : Γ'[i]? with
        | none => rw [q] at e; cases e
        | some s => rw [q] at e; simp at e; rw [← e]
      · cases e
  have own' : ∀ {a}, Own (vs.map some) (exitArgs pin Γ' as) a → Own σ' Γ' a := fun {a} ⟨i, ds, h1, h2⟩ => by
    obtain ⟨hp, h3, _, _⟩ := acc h1
    have hi : i < vs.length := by
      have := (List.getElem?_eq_some_iff.mp h2).1
      simpa using this
    exact ⟨i, ds, h3, by rw [hpinv i hi hp]; exact h2⟩
  have E' : Env K B' H' (vs.map some) (exitArgs pin Γ' as) := by
    refine ⟨by unfold exitArgs; rw [exitFrom_len, List.length_map, hl], g.env.bh, fun i d h => ?_, fun i ds h => ?_, fun i j ds es l h1 h2 h3 h4 => ?_⟩
    · obtain ⟨s0, h0, e⟩ := exitArgs_get h
      cases s0 with
      | un => cases e
      | val d' =>
        cases e
        obtain ⟨v, e1, e2⟩ := E1.val i d h0
        exact ⟨v, e1, e2.mono g.mv.bb⟩
      | cel es =>
        unfold exitSl at e
        simp only at e
        split at e
        · rename_i hc
          have hp := List.contains_iff_mem.mp hc
          have hi : i < vs.length := by rw [hl]; exact (List.getElem?_eq_some_iff.mp h0).1
          cases q : Γ'[i]? with
          | none => rw [q] at e; cases e
          | some s =>
            rw [q] at e
            simp at e
            subst e
            rw [← hpinv i hi hp]
            exact g.env.val i d q
        · cases e
    · obtain ⟨hp, h3, _, h4⟩ := acc h
      have hi : i < vs.length := by rw [hl]; exact (List.getElem?_eq_some_iff.mp h4).1
      rw [← hpinv i hi hp]
      exact g.env.cel i ds h3
    · obtain ⟨hp, g1, _, _⟩ := acc h1
      obtain ⟨hp2, g2, _, _⟩ := acc h2
      have hi : i < vs.length := by have := (List.getElem?_eq_some_iff.mp h3).1; simpa using this
      have hj : j < vs.length := by have := (List.getElem?_eq_some_iff.mp h4).1; simpa using this
      exact g.env.sep i j ds es l g1 g2 (by rw [hpinv i hi hp]; exact h3) (by rw [hpinv j hj hp2]; exact h4)
  have hm : ∀ a, Own (L2.start N vs) (as ++ List.replicate (N.length - as.length) .un) a ↔ Own (vs.map some) as a := fun a => own_start hl
  refine ⟨⟨⟨fun a o na e => g.mv.kp a o (fun z => na ((hm a).mp z)) e, g.mv.bb, fun a na ha hb => g.mv.off a (fun z => na ((hm a).mp z)) ha hb⟩, fun i ds h1 => ?_, E'⟩, fun v r kk => ?_⟩
  · obtain ⟨_, _, ds0, h3⟩ := acc h1
    exact ⟨ds0, h3⟩
  · cases r with
    | val d => exact kk
    | own i => exact kk
    | nw ds =>
      obtain ⟨l, us, e, h1, h2, h3⟩ := kk
      exact ⟨l, us, e, h1.imp (fun z => (hm l).mp z) id, fun z => h2 (own' z), h3⟩
theorem fn_ab {x qual : Str} {st : Stmt} {f : Addr} {fd : FuncData} {N ps : List Str} {k : Nat} {ap : AP} (pin : List Nat) (F : Fun K x qual st f fd) (S : FnScope N ps (defScope st))
    (hlen : ∀ as Post, ap as Post → as.length = ps.length) (hN : decide (ps.length ≤ N.length) = true)
    (body : ∀ (cdv : Value) (A : Around) (outer : List PySem.Env) (s : Shared) (H : Hp) (E : XK), Room k (A.deeper (PyProof.Rows.envOfC qual (defScope st) s.heap.objs.size f cdv)) →
      ∃ t, PSs (cxOf CX0 P w K mg base N qual (defScope st) f cdv A outer s H E).nox (defBody st) t ∧
        ∀ as Post, ap as Post → WS K pin t (as ++ List.replicate (N.length - as.length) .un) ⟨fun G => Post (.val .non) (exitArgs pin G as), fun r G => Post r (exitArgs pin G as), fun _ => False, fun _ => False, .no⟩) :
    FnOk P w K mg base CX0 (k + 1) f fd ps (toSp K ap) := by
  refine F.ok S (fun vs H Q E h => ?_) (fun cdv A outer s H vs Q E hr h => ?_)
  · obtain ⟨B, as, Post, E1, ha, _⟩ := h
    have := E1.len
    rw [List.length_map] at this
    rw [this]; exact hlen as Post ha
  · obtain ⟨B, as, Post, E1, ha, q⟩ := h
    obtain ⟨t, ht, hw⟩ := body cdv A outer s H E hr
    refine ⟨t, ht, ?_⟩
    have hl : vs.length = as.length := by have := E1.len; simpa using this
    have hps : as.length ≤ N.length := by rw [hlen as Post ha]; exact of_decide_eq_true hN
    have E0 := env_start E1 hps
    have fin : ∀ v σ' B' H' r Γ', GoS K pin (L2.start N vs) B H (as ++ List.replicate (N.length - as.length) .un) σ' B' H' Γ' → ReOk K [] (Own (L2.start N vs) (as ++ List.replicate (N.length - as.length) .un)) (Own σ' Γ') B' H H' v r → Post r (exitArgs pin Γ' as) → Q v H' := by
      intro v σ' B' H' r Γ' g kk p
      obtain ⟨g', kr⟩ := exit_go E1 hl g
      exact q v B' H' r _ g' (kr v r kk) p
    exact hw as Post ha (L2.start N vs) B H _ E0 (fun σ' B' H' Γ' g p => fin .non σ' B' H' (.val .non) Γ' g (Is.raw _) p) (fun v σ' B' H' r Γ' g kk p => fin v σ' B' H' r Γ' g kk p) (fun _ _ _ _ _ p => p.elim) (fun _ _ _ _ _ p => p.elim) (fun _ _ _ _ _ _ _ _ _ p => (show False from p).elim)
end
structure AsOk (K : PySem.W.Frag) (σ : L2.St) (m m' : Addr → Prop) (B' H H' : Hp) (vs : List V) (rs : List Re) : Prop where
  len : vs.length = rs.length
  at_ : ∀ (i : Nat) v r, vs[i]? = some v → rs[i]? = some r → ReOk K σ m m' B' H H' v r
  sep : ∀ (i j : Nat) ds es l, rs[i]? = some (.nw ds) → rs[j]? = some (.nw es) → vs[i]? = some (.ref l) → vs[j]? = some (.ref l) → i = j
def WA (K : PySem.W.Frag) (ta : TA) (Γ : List Sl) (Post : List Re → List Sl → Prop) : Prop := ∀ σ B H, Env K B H σ Γ → ∀ Q : List V → Hp → Prop,
  (∀ vs B' H' rs Γ', Go K σ B H Γ B' H' Γ' → AsOk K σ (Own σ Γ) (Own σ Γ') B' H H' vs rs → Post rs Γ' → Q vs H') → ta σ H Q
section
variable {K : PySem.W.Frag} {Γ : List Sl} {te : TE} {tr : TA}
theorem wa_nil {P : List Re → List Sl → Prop} (p : P [] Γ) : WA K tNil Γ P := fun σ B H E Q q => q [] B H [] Γ (.refl E) ⟨rfl, fun i v r a => by simp at a, fun i j ds es l a => by simp at a⟩ p
theorem wa_cons {P : List Re → List Sl → Prop} (h : WE K te Γ fun r Γ1 => WA K tr Γ1 fun rs Γ2 => P (r :: rs) Γ2) : WA K (tCons te tr) Γ P := fun σ B H E Q q => by
  refine h σ B H E _ fun x B1 H1 r Γ1 g1 k1 p1 => ?_
  refine p1 σ B1 H1 g1.env _ fun vs B2 H2 rs Γ2 g2 k2 p2 => ?_
  have k1' := ReOk.step k1 g2.mv g2.sub
  refine q (x :: vs) B2 H2 (r :: rs) Γ2 (g1.trans g2) ⟨by simp [k2.len], fun i v z a b => ?_, fun i j ds es l a b c d => ?_⟩ p2
  · cases i with
    | zero => simp at a b; subst a b; exact k1'
    | succ i => simp at a b; exact ReOk.earlier (k2.at_ i v z a b) g1.mv fun a h => .inl (g1.sub a h)
  · -- two new lists are apart
    have apart : ∀ (j : Nat) es, r = .nw ds → rs[j]? = some (.nw es) → x = .ref l → vs[j]? = some (.ref l) → False := fun j es hr hj hx hv => by
      subst hr
      obtain ⟨l1, us, e, _, n1, t1, _⟩ := k1
      rw [hx] at e; cases e
      obtain ⟨l2, us2, e2, f2, _⟩ := k2.at_ j _ _ hv hj
      cases e2
      rcases f2 with f2 | f2
      · exact n1 f2
      · rw [t1] at f2; cases f2
    cases i with
    | zero =>
      cases j with
      | zero => rfl
      | succ j => simp at a b c d; exact (apart j es a b c d).elim
    | succ i =>
      cases j with
      | zero =>
        simp at a b c d
        have : ∀ es', r = .nw es' → False := fun es' hr => by
          subst hr
          obtain ⟨l1, us, e, _, n1, t1, _⟩ := k1
          rw [d] at e; cases e
          obtain ⟨l2, us2, e2, f2, _⟩ := k2.at_ i _ _ c a
          cases e2
          rcases f2 with f2 | f2
          · exact n1 f2
          · rw [t1] at f2; cases f2
        exact (this es b).elim
      | succ j =>
        simp at a b c d
        rw [k2.sep i j ds es l a b c d]
end
def argSl (Γ : List Sl) : Re → Sl
  | .val d => .val d
  | .nw ds => .cel ds
  | .own i => match Γ[i]? with
    | some (.cel ds) => .cel ds
    | _ => .un
def putBack : List Re → List Sl → List Sl → List Sl
  | .own i :: rs, s :: as, Γ => putBack rs as (Γ.set i s)
  | _ :: rs, _ :: as, Γ => putBack rs as Γ
  | _, _, Γ => Γ
def ownsOf : List Re → List Nat
  | .own i :: rs => i :: ownsOf rs
  | _ :: rs => ownsOf rs
  | [] => []
def nodupB : List Nat → Bool
  | [] => true
  | x :: r => !r.contains x && nodupB r
theorem ownsOf_mem {i : Nat} : ∀ {rs : List Re}, i ∈ ownsOf rs ↔ ∃ j : Nat, rs[j]? = some (.own i)
  | [] => by simp [ownsOf]
  | r :: rs => by
    have ih := ownsOf_mem (i := i) (rs := rs)
    have split : (∃ j : Nat, (r :: rs)[j]? = some (.own i)) ↔ r = .own i ∨ ∃ j : Nat, rs[j]? = some (.own i) := by
      constructor
      · rintro ⟨j, h⟩
        cases j with
        | zero => simp at h; exact .inl h
        | succ j => simp at h; exact .inr ⟨j, h⟩
      · rintro (h | ⟨j, h⟩)
        · exact ⟨0, by simp [h]⟩
        · exact ⟨j + 1, by simp [h]⟩
    rw [split]
    cases r with
    | own k => simp only [ownsOf, List.mem_cons, ih, Re.own.injEq]; constructor <;> rintro (h | h) <;> first | exact .inl h.symm | exact .inr h
    | val d => simp [ownsOf, ih]
    | nw ds => simp [ownsOf, ih]
theorem putBack_len : ∀ (rs : List Re) (as Γ : List Sl), (putBack rs as Γ).length = Γ.length
  | [], _, _ => by simp [putBack]
  | .own i :: rs, [], Γ => by simp [putBack]
  | .own i :: rs, s :: as, Γ => by rw [putBack, putBack_len]; simp
  | .val d :: rs, [], Γ => by simp [putBack]
  | .val d :: rs, s :: as, Γ => by rw [putBack, putBack_len]; simp
  | .nw d :: rs, [], Γ => by simp [putBack]
  | .nw d :: rs, s :: as, Γ => by rw [putBack, putBack_len]; simp
theorem putBack_other {i : Nat} : ∀ (rs : List Re) (as Γ : List Sl), i ∉ ownsOf rs → (putBack rs as Γ)[i]? = Γ[i]?
  | [], _, _, _ => by simp [putBack]
  | .own k :: rs, [], Γ, _ => by simp [putBack]
  | .own k :: rs, s :: as, Γ, h => by
    rw [ownsOf, List.mem_cons, not_or] at h
    rw [putBack, putBack_other rs as _ h.2, List.getElem?_set_ne (fun z => h.1 z.symm)]
  | .val d :: rs, [], Γ, _ => by simp [putBack]
  | .val d :: rs, s :: as, Γ, h => by rw [putBack]; exact putBack_other rs as _ h; all_goals simp
  | .nw d :: rs, [], Γ, _ => by simp [putBack]
  | .nw d :: rs, s :: as, Γ, h => by rw [putBack]; exact putBack_other rs as _ h; all_goals simp
theorem putBack_own {i : Nat} : ∀ (rs : List Re) (as Γ : List Sl) (j : Nat), nodupB (ownsOf rs) = true → rs[j]? = some (.own i) → j < as.length → i < Γ.length → (putBack rs as Γ)[i]? = as[j]?
  | [], _, _, _, _, h, _, _ => by simp at h
  | r :: rs, [], Γ, j, _, _, hj, _ => by simp at hj
  | .own k :: rs, s :: as, Γ, 0, nd, h, _, hi => by
    simp at h
    subst h
    rw [ownsOf, nodupB, Bool.and_eq_true] at nd
    have : k ∉ ownsOf rs := fun z => by
      have := List.contains_iff_mem.mpr z
      rw [this] at nd; exact absurd nd.1 (by decide)
    rw [putBack, putBack_other rs as _ this, List.getElem?_set_self hi]; rfl
  | .own k :: rs, s :: as, Γ, j + 1, nd, h, hj, hi => by
    simp at h hj
    rw [ownsOf, nodupB, Bool.and_eq_true] at nd
    rw [putBack, putBack_own rs as _ j nd.2 h hj (by simpa using hi)]; simp
  | .val d :: rs, s :: as, Γ, 0, nd, h, _, hi => by simp at h
  | .val d :: rs, s :: as, Γ, j + 1, nd, h, hj, hi => by
    simp at h hj
    rw [putBack, putBack_own rs as _ j nd h hj hi]; simp
    all_goals simp
  | .nw d :: rs, s :: as, Γ, 0, nd, h, _, hi => by simp at h
  | .nw d :: rs, s :: as, Γ, j + 1, nd, h, hj, hi => by
    simp at h hj
    rw [putBack, putBack_own rs as _ j nd h hj hi]; simp
    all_goals simp
theorem nodupB_ix {rs : List Re} {i : Nat} : ∀ {j k : Nat}, nodupB (ownsOf rs) = true → rs[j]? = some (.own i) → rs[k]? = some (.own i) → j = k := by
  induction rs with
  | nil => intro j k _ h; simp at h
  | cons r rs ih =>
    intro j k nd h1 h2
    have tail : nodupB (ownsOf rs) = true := by
      cases r with
      | own i => rw [ownsOf, nodupB, Bool.and_eq_true] at nd; exact nd.2
      | val d => exact nd
      | nw d => exact nd
    have head : r = .own i → ∀ n : Nat, rs[n]? = some (.own i) → False := fun e n hn => by
      subst e
      rw [ownsOf, nodupB, Bool.and_eq_true] at nd
      have : i ∈ ownsOf rs := ownsOf_mem.mpr ⟨n, hn⟩
      rw [List.contains_iff_mem.mpr this] at nd
      exact absurd nd.1 (by decide)
    cases j with
    | zero =>
      cases k with
      | zero => rfl
      | succ k => simp at h1 h2; exact (head h1 k h2).elim
    | succ j =>
      cases k with
      | zero => simp at h1 h2; exact (head h2 j h1).elim
      | succ k => simp at h1 h2; rw [ih tail h1 h2]
theorem call_go {K : PySem.W.Frag} {σ : L2.St} {B H B1 H1 : Hp} {Γ Γ1 : List Sl} {vs : List V} {rs : List Re} (E : Env K B H σ Γ) (g1 : Go K σ B H Γ B1 H1 Γ1) (k1 : AsOk K σ (Own σ Γ) (Own σ Γ1) B1 H H1 vs rs)
    (nd : nodupB (ownsOf rs) = true) : Env K B1 H1 (vs.map some) (rs.map (argSl Γ1)) ∧ ∀ B2 H2 as', Go K (vs.map some) B1 H1 (rs.map (argSl Γ1)) B2 H2 as' → Go K σ B H Γ B2 H2 (putBack rs as' Γ1) ∧
      ∀ v r, ReOk K [] (Own (vs.map some) (rs.map (argSl Γ1))) (Own (vs.map some) as') B2 H1 H2 v r → ReOk K σ (Own σ Γ) (Own σ (putBack rs as' Γ1)) B2 H H2 v r := by
  have hl := k1.len
  have aget : ∀ {i : Nat} {s : Sl}, (rs.map (argSl Γ1))[i]? = some s → ∃ r, rs[i]? = some r ∧ s = argSl Γ1 r := fun {i s} h => by
    rw [List.getElem?_map] at h
    cases q : rs[i]? with
    | none => rw [q] at h; cases h
    | some r => rw [q] at h; simp at h; exact ⟨r, rfl, h.symm⟩
  have vget : ∀ {i : Nat} {r : Re}, rs[i]? = some r → ∃ v, vs[i]? = some v ∧ (vs.map some)[i]? = some (some v) ∧ ReOk K σ (Own σ Γ) (Own σ Γ1) B1 H H1 v r := fun {i r} h => by
    have hi : i < vs.length := by rw [hl]; exact (List.getElem?_eq_some_iff.mp h).1
    refine ⟨vs[i], List.getElem?_eq_getElem hi, by rw [List.getElem?_map, List.getElem?_eq_getElem hi]; rfl, k1.at_ i _ _ (List.getElem?_eq_getElem hi) h⟩
  -- an owned argument: new or a slot's
  have accArg : ∀ {i : Nat} {ds : Cn}, (rs.map (argSl Γ1))[i]? = some (.cel ds) → (rs[i]? = some (.nw ds)) ∨ ∃ k, rs[i]? = some (.own k) ∧ Γ1[k]? = some (.cel ds) := fun {i ds} h => by
    obtain ⟨r, h1, h2⟩ := aget h
    cases r with
    | val d => cases h2
    | nw es => cases h2; exact .inl h1
    | own k =>
      have h2' : Sl.cel ds = (match Γ1[k]? with
        | some (.cel ds) => .cel ds
        | _ => .un) := h2
      split at h2'
      · rename_i es he
        cases h2'
        exact .inr ⟨k, h1, he⟩
      · cases h2'
  -- who is owned on the callee's side
  have ownArg : ∀ {a}, Own (vs.map some) (rs.map (argSl Γ1)) a → ((∃ (i : Nat) (ds : Cn), rs[i]? = some (Re.nw ds) ∧ vs[i]? = some (V.ref a)) ∨ ∃ (i k : Nat) (ds : Cn), rs[i]? = some (Re.own k) ∧ Γ1[k]? = some (.cel ds) ∧ vs[i]? = some (.ref a) ∧ σ[k]? = some (some (.ref a))) := fun {a} ⟨i, ds, h1, h2⟩ => by
    rw [List.getElem?_map] at h2
    cases hv : vs[i]? with
    | none => rw [hv] at h2; cases h2
    | some v =>
      rw [hv] at h2
      simp at h2
      subst h2
      rcases accArg h1 with h | ⟨k, h, hk⟩
      · exact .inl ⟨i, ds, h, hv⟩
      · obtain ⟨v', e1, _, l, e2, e3⟩ := vget h
        rw [hv] at e1; cases e1; cases e2
        exact .inr ⟨i, k, ds, h, hk, hv, e3⟩
  have newOff : ∀ {i : Nat} {ds a}, rs[i]? = some (.nw ds) → vs[i]? = some (.ref a) → (Own σ Γ a ∨ H a = none) ∧ ¬ Own σ Γ1 a := fun {i ds a} h1 h2 => by
    obtain ⟨v', e1, _, l, us, e2, e3, e4, _⟩ := vget h1
    rw [h2] at e1; cases e1; cases e2
    exact ⟨e3, e4⟩
  have ownBack : ∀ {a}, Own (vs.map some) (rs.map (argSl Γ1)) a → Own σ Γ a ∨ H a = none := fun {a} o => by
    rcases ownArg o with ⟨i, ds, h1, h2⟩ | ⟨i, k, ds, h1, h2, h3, h4⟩
    · exact (newOff h1 h2).1
    · exact .inl (g1.sub a ⟨k, ds, h2, h4⟩)
  have E2 : Env K B1 H1 (vs.map some) (rs.map (argSl Γ1)) := by
    refine ⟨by simp [hl], g1.env.bh, fun i d h => ?_, fun i ds h => ?_, fun i j ds es l h1 h2 h3 h4 => ?_⟩
    · obtain ⟨r, h1, h2⟩ := aget h
      cases r with
      | val d' => cases h2; obtain ⟨v, _, e1, e2⟩ := vget h1; exact ⟨v, e1, e2⟩
      | nw es => cases h2
      | own k =>
        have h2' : Sl.val d = (match Γ1[k]? with
          | some (.cel ds) => .cel ds
          | _ => .un) := h2
        split at h2' <;> cases h2'
    · rcases accArg h with h1 | ⟨k, h1, hk⟩
      · obtain ⟨v, _, e1, l, us, e2, _, _, e3, e4, e5⟩ := vget h1
        subst e2
        exact ⟨l, us, e1, e3, e4, e5⟩
      · obtain ⟨v, _, e1, l, e2, e3⟩ := vget h1
        subst e2
        obtain ⟨c, us, f1, f2, f3, f4⟩ := g1.env.cel k ds hk
        rw [e3] at f1; cases f1
        exact ⟨l, us, e1, f2, f3, f4⟩
    · have v3 : vs[i]? = some (.ref l) := by
        rw [List.getElem?_map] at h3
        cases q : vs[i]? with
        | none => rw [q] at h3; cases h3
        | some v => rw [q] at h3; simp at h3; rw [h3]
      have v4 : vs[j]? = some (.ref l) := by
        rw [List.getElem?_map] at h4
        cases q : vs[j]? with
        | none => rw [q] at h4; cases h4
        | some v => rw [q] at h4; simp at h4; rw [h4]
      rcases accArg h1 with a1 | ⟨k, a1, b1⟩
      · rcases accArg h2 with a2 | ⟨k2, a2, b2⟩
        · exact k1.sep i j ds es l a1 a2 v3 v4
        · obtain ⟨v', e1, _, l2, e2, e3⟩ := vget a2
          rw [v4] at e1; cases e1; cases e2
          exact absurd ⟨k2, es, b2, e3⟩ (newOff a1 v3).2
      · obtain ⟨v', e1, _, l2, e2, e3⟩ := vget a1
        rw [v3] at e1; cases e1; cases e2
        rcases accArg h2 with a2 | ⟨k2, a2, b2⟩
        · exact absurd ⟨k, ds, b1, e3⟩ (newOff a2 v4).2
        · obtain ⟨v', f1, _, l2, f2, f3⟩ := vget a2
          rw [v4] at f1; cases f1; cases f2
          have := g1.env.sep k k2 ds es l b1 b2 e3 f3
          subst this
          exact nodupB_ix nd a1 a2
  refine ⟨E2, fun B2 H2 as' g2 => ?_⟩
  have hal : as'.length = rs.length := by
    have := g2.env.len
    rw [List.length_map] at this
    omega
  -- slot i of the caller afterwards
  have slot : ∀ {i : Nat} {s : Sl}, (putBack rs as' Γ1)[i]? = some s → (∃ j : Nat, rs[j]? = some (.own i) ∧ as'[j]? = some s ∧ ∃ v, (vs.map some)[j]? = some (some v) ∧ σ[i]? = some (some v)) ∨ (i ∉ ownsOf rs ∧ Γ1[i]? = some s) := fun {i s} h => by
    by_cases hi : i ∈ ownsOf rs
    · obtain ⟨j, hj⟩ := ownsOf_mem.mp hi
      have hil : i < Γ1.length := by
        have := (List.getElem?_eq_some_iff.mp h).1
        rw [putBack_len] at this; exact this
      rw [putBack_own rs as' Γ1 j nd hj (by rw [hal]; exact (List.getElem?_eq_some_iff.mp hj).1) hil] at h
      obtain ⟨v, _, e1, l, e2, e3⟩ := vget hj
      exact .inl ⟨j, hj, h, v, e1, by rw [e2]; exact e3⟩
    · rw [putBack_other rs as' Γ1 hi] at h
      exact .inr ⟨hi, h⟩
  -- a slot's list that was not handed over
  have kept : ∀ {i : Nat} {ds : Cn} {l : Addr}, i ∉ ownsOf rs → Γ1[i]? = some (.cel ds) → σ[i]? = some (some (.ref l)) → ¬ Own (vs.map some) (rs.map (argSl Γ1)) l := fun {i ds l} hi h1 h2 o => by
    rcases ownArg o with ⟨j, es, a1, a2⟩ | ⟨j, k, es, a1, a2, a3, a4⟩
    · exact (newOff a1 a2).2 ⟨i, ds, h1, h2⟩
    · have := g1.env.sep i k ds es l h1 a2 h2 a4
      subst this
      exact hi (ownsOf_mem.mpr ⟨j, a1⟩)
  have ac2 : ∀ (i : Nat) ds, (putBack rs as' Γ1)[i]? = some (.cel ds) → ∃ es, Γ1[i]? = some (.cel es) := fun i ds h1 => by
    rcases slot h1 with ⟨j, hj, ha, v, e1, e2⟩ | ⟨_, h⟩
    · obtain ⟨es, h⟩ := g2.ac j ds ha
      rcases accArg h with h | ⟨k, h, hk⟩
      · rw [hj] at h; cases h
      · rw [hj] at h; cases h; exact ⟨es, hk⟩
    · exact ⟨ds, h⟩
  have kOff : ∀ {a}, ¬ Own σ Γ a → H a ≠ none → ¬ Own (vs.map some) (rs.map (argSl Γ1)) a := fun {a} na ha o => (ownBack o).elim na ha
  have E3 : Env K B2 H2 σ (putBack rs as' Γ1) := by
    refine ⟨by rw [putBack_len]; exact g1.env.len, g2.env.bh, fun i d h => ?_, fun i ds h => ?_, fun i j ds es l h1 h2 h3 h4 => ?_⟩
    · rcases slot h with ⟨j, hj, ha, v, e1, e2⟩ | ⟨hi, h⟩
      · obtain ⟨v', f1, f2⟩ := g2.env.val j d ha
        rw [e1] at f1; cases f1
        exact ⟨v, e2, f2⟩
      · obtain ⟨v, f1, f2⟩ := g1.env.val i d h
        exact ⟨v, f1, f2.mono g2.mv.bb⟩
    · rcases slot h with ⟨j, hj, ha, v, e1, e2⟩ | ⟨hi, h⟩
      · obtain ⟨l, us, f1, f2⟩ := g2.env.cel j ds ha
        rw [e1] at f1; cases f1
        exact ⟨l, us, e2, f2⟩
      · obtain ⟨l, us, f1, f2, f3, f4⟩ := g1.env.cel i ds h
        have nk := kept hi h f1
        exact ⟨l, us, f1, g2.mv.kp l _ nk f2, g2.mv.off l nk (by rw [f2]; exact fun z => nomatch z) f3, f4.mono g2.mv.bb⟩
    · obtain ⟨d1, b1⟩ := ac2 i ds h1
      obtain ⟨d2, b2⟩ := ac2 j es h2
      exact g1.env.sep i j d1 d2 l b1 b2 h3 h4
  refine ⟨⟨⟨fun a o na e => ?_, g1.mv.bb.trans g2.mv.bb, fun a na ha hb => ?_⟩, fun i ds h => ?_, E3⟩, fun v r k2 => ?_⟩
  · exact g2.mv.kp a o (kOff na (by rw [e]; exact fun z => nomatch z)) (g1.mv.kp a o na e)
  · refine g2.mv.off a (kOff na ha) ?_ (g1.mv.off a na ha hb)
    cases q : H a with
    | none => exact absurd q ha
    | some o => rw [g1.mv.kp a o na q]; exact fun z => nomatch z
  · obtain ⟨es, h1⟩ := ac2 i ds h
    exact g1.ac i es h1
  · cases r with
    | val d => exact k2
    | own i => obtain ⟨l, _, e⟩ := k2; simp at e
    | nw ds =>
      obtain ⟨l, us, e, f1, f2, f3, f4, f5⟩ := k2
      refine ⟨l, us, e, ?_, ?_, f3, f4, f5⟩
      · rcases f1 with f1 | f1
        · exact ownBack f1
        · exact g1.mv.back f1
      · rintro ⟨i, es, h1, h2⟩
        rcases slot h1 with ⟨j, hj, ha, w, e1, e2⟩ | ⟨hi, h⟩
        · rw [h2] at e2; cases e2
          exact f2 ⟨j, es, ha, e1⟩
        · have nk := kept hi h h2
          rcases f1 with f1 | f1
          · exact nk f1
          · obtain ⟨us', t1, _⟩ := g1.env.tracked ⟨i, es, h, h2⟩
            rw [t1] at f1; cases f1
theorem call_core {K : PySem.W.Frag} {σ : L2.St} {B H B1 H1 : Hp} {Γ Γ1 : List Sl} {vs : List V} {rs : List Re} {Post : Re → List Sl → Prop} {ap : AP} {E0 : XK} {Q : VK} (E : Env K B H σ Γ) (g1 : Go K σ B H Γ B1 H1 Γ1) (k1 : AsOk K σ (Own σ Γ) (Own σ Γ1) B1 H H1 vs rs)
    (nd : nodupB (ownsOf rs) = true) (hap : ap (rs.map (argSl Γ1)) fun r as' => Post r (putBack rs as' Γ1)) (q : ∀ v B' H' r Γ', Go K σ B H Γ B' H' Γ' → ReOk K σ (Own σ Γ) (Own σ Γ') B' H H' v r → Post r Γ' → Q v H') : toSp K ap vs H1 Q E0 := by
  obtain ⟨E2, kk⟩ := call_go E g1 k1 nd
  refine ⟨B1, rs.map (argSl Γ1), _, E2, hap, fun v B2 H2 r as' g2 k2 p => ?_⟩
  obtain ⟨g, kr⟩ := kk B2 H2 as' g2
  exact q v B2 H2 r _ g (kr v r k2) p
theorem we_call {K : PySem.W.Frag} {Γ : List Sl} {Post : Re → List Sl → Prop} {ap : AP} {E0 : XK} {ta : TA} (h : WA K ta Γ fun rs Γ1 => nodupB (ownsOf rs) = true ∧ ap (rs.map (argSl Γ1)) fun r as' => Post r (putBack rs as' Γ1)) : WE K (tCall (toSp K ap) [] E0 ta) Γ Post := fun σ B H E Q q => by
  refine h σ B H E _ fun vs B1 H1 rs Γ1 g1 k1 p1 => ?_
  rw [List.append_nil]
  exact call_core E g1 k1 p1.1 p1.2 q
end Ab

namespace Ab
open PySem L2
def keepV : Option Sl → Sl
  | some (.val d) => .val d
  | _ => .un
section
variable {K : PySem.W.Frag} {σ : L2.St} {B H : Hp} {Γ : List Sl}
theorem keepV_acc {o : Option Sl} {ds : Cn} (h : keepV o = .cel ds) : False := by
  unfold keepV at h
  split at h <;> cases h
theorem Env.updOff {D : Addr} {o : HO} (E : Env K B H σ Γ) (hb : B D = none) (hn : ¬ Own σ Γ D) : Env K B (upd H D o) σ Γ := by
  refine ⟨E.len, fun a u e => ?_, E.val, fun i ds h => ?_, E.sep⟩
  · rw [upd_ne (ne_of_none e hb)]; exact E.bh a u e
  · obtain ⟨l, vs, e, e1, e2, q⟩ := E.cel i ds h
    have : l ≠ D := fun z => by subst z; exact hn ⟨i, ds, h, e⟩
    exact ⟨l, vs, e, by rw [upd_ne this]; exact e1, e2, q⟩
theorem env_back {j : Nat} {x : Option V} {Γ0 : List Sl} {B0 H0 : Hp} (E0 : Env K B0 H0 σ Γ0) (bb : Same B0 B) (E : Env K B H (σ.set j x) Γ) (hj : j < Γ.length) : Env K B H σ (Γ.set j (keepV Γ0[j]?)) := by
  have ne : ∀ {k : Nat} {ds : Cn}, (Γ.set j (keepV Γ0[j]?))[k]? = some (.cel ds) → j ≠ k := fun {k ds} h z => by
    subst z
    rw [List.getElem?_set_self hj] at h
    exact keepV_acc (Option.some.inj h)
  refine ⟨?_, E.bh, fun k d h => ?_, fun k ds h => ?_, fun i k ds es l h1 h2 h3 h4 => ?_⟩
  · have := E.len
    rw [List.length_set] at this ⊢
    exact this
  · by_cases hk : j = k
    · subst hk
      rw [List.getElem?_set_self hj] at h
      cases q : Γ0[j]? with
      | none => rw [q] at h; cases h
      | some s =>
        rw [q] at h
        cases s with
        | un => cases h
        | cel ds => cases h
        | val d' =>
          cases h
          obtain ⟨v, e1, e2⟩ := E0.val j d q
          exact ⟨v, e1, e2.mono bb⟩
    · rw [List.getElem?_set_ne hk] at h
      obtain ⟨v, e1, e2⟩ := E.val k d h
      rw [List.getElem?_set_ne hk] at e1
      exact ⟨v, e1, e2⟩
  · have hk := ne h
    rw [List.getElem?_set_ne hk] at h
    obtain ⟨l, vs, e1, e2⟩ := E.cel k ds h
    rw [List.getElem?_set_ne hk] at e1
    exact ⟨l, vs, e1, e2⟩
  · have a1 := ne h1
    have a2 := ne h2
    rw [List.getElem?_set_ne a1] at h1
    rw [List.getElem?_set_ne a2] at h2
    exact E.sep i k ds es l h1 h2 (by rw [List.getElem?_set_ne a1]; exact h3) (by rw [List.getElem?_set_ne a2]; exact h4)
theorem own_back {j : Nat} {x : Option V} {s : Sl} {a : Addr} (hs : ∀ ds, s ≠ .cel ds) (h : Own σ (Γ.set j s) a) : Own (σ.set j x) Γ a := by
  obtain ⟨k, ds, h1, h2⟩ := h
  by_cases hk : j = k
  · subst hk
    have hj : j < Γ.length := by
      have := (List.getElem?_eq_some_iff.mp h1).1
      simpa using this
    rw [List.getElem?_set_self hj] at h1
    exact absurd (Option.some.inj h1) (hs ds)
  · rw [List.getElem?_set_ne hk] at h1
    exact ⟨k, ds, h1, by rw [List.getElem?_set_ne hk]; exact h2⟩
theorem Mv.iff {m m1 : Addr → Prop} {B' H' : Hp} (h : ∀ a, m1 a → m a) (x : Mv m1 B H B' H') : Mv m B H B' H' := ⟨fun a o na e => x.kp a o (fun z => na (h a z)) e, x.bb, fun a na ha hb => x.off a (fun z => na (h a z)) ha hb⟩
structure LcSt (K : PySem.W.Frag) (σ : L2.St) (B H : Hp) (Γ : List Sl) (j : Nat) (D : Addr) (Inv : Nat → List Dt → List Sl → Prop) (i : Nat) (H' : Hp) (B' : Hp) (Γ' : List Sl) (vs : List V) (es : List Dt) : Prop where
  mv : Mv (Own σ Γ) B H B' H'
  ac : ∀ (k : Nat) ds, Γ'[k]? = some (.cel ds) → ∃ es, Γ[k]? = some (.cel es)
  env : Env K B' H' σ Γ'
  hD : H' D = some (.lst vs)
  bD : B' D = none
  oD : ¬ Own σ Γ' D
  its : IsA K B' vs es
  len : es.length ≤ i
  inv : Inv i es Γ'
theorem lc_run {j n : Nat} {J : It} {dt : Nat → Dt} {tt : TT} {te : TE} {Post : Re → List Sl → Prop} {Q : VK} (E : Env K B H σ Γ) (hj : j < Γ.length) (hja : ∀ ds, Γ[j]? ≠ some (.cel ds)) (hn : n ≤ 1000000)
    (Inv : Nat → List Dt → List Sl → Prop)
    (go : ∀ i B' H' es Γ', i < n → Same B B' → Env K B' H' σ Γ' → Inv i es Γ' → J.go i H') (yl : ∀ i H' x H'' B' es Γ', i < n → Same B B' → Env K B' H' σ Γ' → Inv i es Γ' → J.yld i H' x H'' → H'' = H' ∧ Is K B' x (dt i)) (stop : ∀ B' H' es Γ', Same B B' → Env K B' H' σ Γ' → Inv n es Γ' → J.stop n H')
    (i0 : Inv 0 [] Γ)
    (turn : ∀ i es Γ', i < n → Inv i es Γ' → WT K tt (Γ'.set j (.val (dt i))) fun b Γ2 => (b = true → WE K te Γ2 fun r Γ3 => ∃ d, r.dt? = some d ∧ Inv (i + 1) (es ++ [d]) (Γ3.set j (keepV Γ[j]?))) ∧ (b = false → Inv (i + 1) es (Γ2.set j (keepV Γ[j]?))))
    (done : ∀ es Γ', Inv n es Γ' → Post (.new es) Γ') (q : ∀ v B' H' r Γ', Go K σ B H Γ B' H' Γ' → ReOk K σ (Own σ Γ) (Own σ Γ') B' H H' v r → Post r Γ' → Q v H') :
    ∀ D, H D = none → ∃ W : Nat → Nat → Hp → Prop, (∃ m, W 0 m (upd H D (.lst []))) ∧ ∀ i m H, W i m H →
      (J.stop i H ∧ Q (.ref D) H) ∨ (J.go i H ∧ ∃ Nx : Hp → Prop, (∀ H', Nx H' → ∃ m', m' < m ∧ W (i + 1) m' H') ∧ ∀ x H', J.yld i H x H' → gName j x (wipe σ [j]) H' fun σ2 H2 => wipe σ2 [j] = wipe σ [j] ∧ tt σ2 H2 fun b H3 =>
        if b = true then te σ2 H3 fun y H4 => ∃ acc, H4 D = some (.lst acc) ∧ acc.length < sizeLine ∧ Nx (upd H4 D (.lst (acc ++ [y]))) else Nx H3) := by
  intro D hD
  have hjs : j < σ.length := by rw [E.len]; exact hj
  refine ⟨fun i m H' => m = n - i ∧ i ≤ n ∧ ∃ B' Γ' vs es, LcSt K σ B H Γ j D Inv i H' B' Γ' vs es, ⟨n, by simp, Nat.zero_le _, B, Γ, [], [], ⟨(Go.beside E hD).mv, fun k ds h => ⟨ds, h⟩, E.beside hD, upd_same, E.base_none hD, E.not_own hD, .nil, Nat.le_refl _, i0⟩⟩, ?_⟩
  rintro i m H' ⟨rfl, hi, B', Γ', vs, es, S⟩
  by_cases hlt : i < n
  · refine .inr ⟨go i B' H' es Γ' hlt S.mv.bb S.env S.inv, fun H2 => ∃ B' Γ' vs es, LcSt K σ B H Γ j D Inv (i + 1) H2 B' Γ' vs es, fun H2 ⟨B2, Γ2, vs2, es2, S2⟩ => ⟨n - (i + 1), by omega, rfl, hlt, B2, Γ2, vs2, es2, S2⟩, fun x H2 hy => ?_⟩
    obtain ⟨e, hx⟩ := yl i H' x H2 B' es Γ' hlt S.mv.bb S.env S.inv hy
    subst e
    have hj' : j < Γ'.length := by rw [← S.env.len]; exact hjs
    have es2 : (wipe σ [j]).set j (some x) = σ.set j (some x) := by
      show (σ.set j none).set j (some x) = _
      rw [List.set_set]
    show wipe ((wipe σ [j]).set j (some x)) [j] = wipe σ [j] ∧ _
    rw [es2]
    refine ⟨by show (σ.set j (some x)).set j none = σ.set j none; rw [List.set_set], ?_⟩
    have E2 := S.env.setV hj' hx
    -- owners within and without
    have ow1 : ∀ a, Own (σ.set j (some x)) (Γ'.set j (.val (dt i))) a → Own σ Γ' a := fun a h => h.set_ne fun ds z => nomatch z
    have nA : ¬ Own (σ.set j (some x)) (Γ'.set j (.val (dt i))) D := fun z => S.oD (ow1 D z)
    have tD : H2 D ≠ none := by rw [S.hD]; exact fun z => nomatch z
    -- what a turn comes to
    have fin : ∀ {B3 H3 : Hp} {Γ3 : List Sl}, Go K (σ.set j (some x)) B' H2 (Γ'.set j (.val (dt i))) B3 H3 Γ3 →
        Mv (Own σ Γ) B H B3 H3 ∧ (∀ (k : Nat) ds, (Γ3.set j (keepV Γ[j]?))[k]? = some (.cel ds) → ∃ es, Γ[k]? = some (.cel es)) ∧ Env K B3 H3 σ (Γ3.set j (keepV Γ[j]?)) ∧ H3 D = some (.lst vs) ∧ B3 D = none ∧ ¬ Own σ (Γ3.set j (keepV Γ[j]?)) D ∧ IsA K B3 vs es := by
      intro B3 H3 Γ3 g
      have hj3 : j < Γ3.length := by
        have h1 := g.env.len
        rw [List.length_set] at h1
        omega
      have subO : ∀ a, Own σ (Γ3.set j (keepV Γ[j]?)) a → Own (σ.set j (some x)) Γ3 a := fun a h => own_back (fun ds z => keepV_acc z) h
      refine ⟨S.mv.trans (m1 := Own σ Γ') (fun a ⟨k, ds, h1, h2⟩ => .inl (by obtain ⟨es, h⟩ := S.ac k ds h1; exact ⟨k, es, h, h2⟩)) (g.mv.iff ow1), fun k ds h => ?_, env_back E (S.mv.bb.trans g.mv.bb) g.env hj3, g.mv.kp D _ nA S.hD, g.mv.off D nA tD S.bD, fun z => nA (g.sub D (subO D z)), S.its.mono g.mv.bb⟩
      by_cases hk : j = k
      · subst hk
        rw [List.getElem?_set_self hj3] at h
        exact (keepV_acc (Option.some.inj h)).elim
      · rw [List.getElem?_set_ne hk] at h
        obtain ⟨es', h1⟩ := g.ac k ds h
        rw [List.getElem?_set_ne hk] at h1
        exact S.ac k es' h1
    refine turn i es Γ' hlt S.inv (σ.set j (some x)) B' H2 E2 _ fun b B3 H3 Γ3 g3 p => ?_
    cases b with
    | true =>
      show te (σ.set j (some x)) H3 _
      have p1 : WE K te Γ3 fun r Γ4 => ∃ d, r = .val d ∧ Inv (i + 1) (es ++ [d]) (Γ4.set j (keepV Γ[j]?)) := we_freeze (we_mono (p.1 rfl) fun r Γ4 ⟨d, hd, k⟩ => ⟨d, hd, d, rfl, k⟩)
      refine p1 (σ.set j (some x)) B3 H3 g3.env _ fun y B4 H4 r Γ4 g4 k4 p4 => ?_
      obtain ⟨d, rfl, inv⟩ := p4
      obtain ⟨f1, f2, f3, f4, f5, f6, f7⟩ := fin (g3.trans g4)
      refine ⟨vs, f4, ?_, B4, Γ4.set j (keepV Γ[j]?), vs ++ [y], es ++ [d], ?_⟩
      · rw [S.its.len]
        have := S.len
        exact Nat.lt_of_le_of_lt this (Nat.lt_of_lt_of_le hlt (Nat.le_trans hn (by decide)))
      · refine ⟨⟨fun a o na e => ?_, f1.bb, f1.off⟩, f2, f3.updOff f5 f6, upd_same, f5, f6, f7.snoc k4, by rw [List.length_append]; have := S.len; simp; omega, inv⟩
        rw [upd_ne (ne_of_none e hD)]
        exact f1.kp a o na e
    | false =>
      show ∃ B' Γ' vs es, _
      obtain ⟨f1, f2, f3, f4, f5, f6, f7⟩ := fin g3
      exact ⟨B3, Γ3.set j (keepV Γ[j]?), vs, es, ⟨f1, f2, f3, f4, f5, f6, f7, Nat.le_trans S.len (Nat.le_succ i), p.2 rfl⟩⟩
  · have e : i = n := by omega
    subst e
    exact .inl ⟨stop B' H' es Γ' S.mv.bb S.env S.inv, q (.ref D) B' H' (.new es) Γ' ⟨S.mv, S.ac, S.env⟩ ⟨D, _, rfl, .inr hD, S.oD, S.hD, S.bD, vs, rfl, S.its⟩ (done es Γ' S.inv)⟩
end
section
variable {K : PySem.W.Frag} {Γ : List Sl} {Post : Re → List Sl → Prop} {te tl : TE} {tt : TT} {j : Nat}
def notAcc : Option Sl → Bool
  | some (.cel _) => false
  | _ => true
theorem notAcc_ne {o : Option Sl} (h : notAcc o = true) (ds : Cn) : o ≠ some (.cel ds) := fun z => by subst z; cases h
theorem we_lc1 {t1 : TA} (h : WD K t1 Γ fun ds Γ1 => ∃ n : Nat, ds = [.int n] ∧ n ≤ 1000000 ∧ decide (j < Γ1.length) = true ∧ notAcc Γ1[j]? = true ∧ ∃ Inv : Nat → List Dt → List Sl → Prop, Inv 0 [] Γ1 ∧
      (∀ i es Γ', i < n → Inv i es Γ' → WT K tt (Γ'.set j (.val (.int i))) fun b Γ2 => (b = true → WE K te Γ2 fun r Γ3 => ∃ d, r.dt? = some d ∧ Inv (i + 1) (es ++ [d]) (Γ3.set j (keepV Γ1[j]?))) ∧ (b = false → Inv (i + 1) es (Γ2.set j (keepV Γ1[j]?)))) ∧
      ∀ es Γ', Inv n es Γ' → Post (.new es) Γ') : WE K (tLc (iRng1 t1) (gName j) tt te [j]) Γ Post := fun σ B H E Q q => by
  refine h σ B H E _ fun vs B1 H1 ds Γ1 g1 k p => ?_
  obtain ⟨n, rfl, hn, hj, hja, Inv, i0, turn, done⟩ := p
  have ev : vs = [.int n] := IsA.rawsI (xs := [.int n]) k
  refine ⟨n, ev, by omega, by omega, ?_⟩
  have e0 : ((n : Int)).toNat = n := by omega
  rw [e0]
  refine lc_run (n := n) (dt := fun i => .int i) (J := Itr 0 n) g1.env (of_decide_eq_true hj) (notAcc_ne hja) hn Inv (fun i B' H' _ _ hi _ _ _ => hi) (fun i H' x H'' B' _ _ hi _ _ _ hy => ?_) (fun B' H' _ _ _ _ _ => Nat.le_refl _) i0 turn done fun v B2 H2 r Γ2 g2 k2 p2 => q v B2 H2 r Γ2 (g1.trans g2) (ReOk.earlier k2 g1.mv fun a h => .inl (g1.sub a h)) p2
  obtain ⟨e1, e2⟩ := hy
  subst e1 e2
  rw [Int.zero_add]
  exact ⟨rfl, .raw _⟩
theorem we_lc2 {t1 : TA} (h : WD K t1 Γ fun ds Γ1 => ∃ lo hi : Int, ds = [.int lo, .int hi] ∧ (-(2 ^ 62) ≤ lo ∧ lo < 2 ^ 62 ∧ -(2 ^ 62) ≤ hi ∧ hi < 2 ^ 62) ∧ (hi - lo).toNat ≤ 1000000 ∧ decide (j < Γ1.length) = true ∧ notAcc Γ1[j]? = true ∧ ∃ Inv : Nat → List Dt → List Sl → Prop, Inv 0 [] Γ1 ∧
      (∀ (i : Nat) es Γ', lo + i < hi → Inv i es Γ' → WT K tt (Γ'.set j (.val (.int (lo + i)))) fun b Γ2 => (b = true → WE K te Γ2 fun r Γ3 => ∃ d, r.dt? = some d ∧ Inv (i + 1) (es ++ [d]) (Γ3.set j (keepV Γ1[j]?))) ∧ (b = false → Inv (i + 1) es (Γ2.set j (keepV Γ1[j]?)))) ∧
      ∀ es Γ', Inv (hi - lo).toNat es Γ' → Post (.new es) Γ') : WE K (tLc (iRng2 t1) (gName j) tt te [j]) Γ Post := fun σ B H E Q q => by
  refine h σ B H E _ fun vs B1 H1 ds Γ1 g1 k p => ?_
  obtain ⟨lo, hi, rfl, hb, hn, hj, hja, Inv, i0, turn, done⟩ := p
  have ev : vs = [.int lo, .int hi] := IsA.rawsI (xs := [.int lo, .int hi]) k
  refine ⟨lo, hi, ev, hb, ?_⟩
  refine lc_run (n := (hi - lo).toNat) (dt := fun i => .int (lo + i)) (J := Itr lo (hi - lo).toNat) g1.env (of_decide_eq_true hj) (notAcc_ne hja) hn Inv (fun i B' H' _ _ hi _ _ _ => hi) (fun i H' x H'' B' _ _ hi _ _ _ hy => ?_) (fun B' H' _ _ _ _ _ => Nat.le_refl _) i0 (fun i es Γ' hi' => turn i es Γ' (by omega)) done fun v B2 H2 r Γ2 g2 k2 p2 => q v B2 H2 r Γ2 (g1.trans g2) (ReOk.earlier k2 g1.mv fun a h => .inl (g1.sub a h)) p2
  obtain ⟨e1, e2⟩ := hy
  subst e1 e2
  exact ⟨rfl, .raw _⟩
theorem we_lcT (h : WE K tl Γ fun z Γ1 => ∃ ds, z = .val (.tup ds) ∧ ds.length ≤ 1000000 ∧ decide (j < Γ1.length) = true ∧ notAcc Γ1[j]? = true ∧ ∃ Inv : Nat → List Dt → List Sl → Prop, Inv 0 [] Γ1 ∧
      (∀ (i : Nat) d es Γ', ds[i]? = some d → Inv i es Γ' → WT K tt (Γ'.set j (.val d)) fun b Γ2 => (b = true → WE K te Γ2 fun r Γ3 => ∃ d, r.dt? = some d ∧ Inv (i + 1) (es ++ [d]) (Γ3.set j (keepV Γ1[j]?))) ∧ (b = false → Inv (i + 1) es (Γ2.set j (keepV Γ1[j]?)))) ∧
      ∀ es Γ', Inv ds.length es Γ' → Post (.new es) Γ') : WE K (tLc (iTup K tl) (gName j) tt te [j]) Γ Post := fun σ B H E Q q => by
  refine h σ B H E _ fun v B1 H1 z Γ1 g1 k p => ?_
  obtain ⟨ds, rfl, hn, hj, hja, Inv, i0, turn, done⟩ := p
  obtain ⟨a, xs, rfl, ha, hx⟩ := Is.tupR k
  refine ⟨a, rfl, ⟨xs, sqT_mono g1.env.bh ha⟩, ?_⟩
  have at_ : ∀ i, i < ds.length → ds[i]? = some (ds.getD i .non) := fun i hi => by rw [List.getD_eq_getElem?_getD, List.getElem?_eq_getElem hi]; rfl
  refine lc_run (n := ds.length) (dt := fun i => ds.getD i .non) (J := Itt K a) g1.env (of_decide_eq_true hj) (notAcc_ne hja) hn Inv (fun i B' H' _ _ hi b1 b2 _ => ?_) (fun i H' x H'' B' _ _ hi b1 b2 _ hy => ?_) (fun B' H' _ _ b1 b2 _ => ?_) i0 (fun i es Γ' hi' => turn i _ es Γ' (at_ i hi')) done fun v B2 H2 r Γ2 g2 k2 p2 => q v B2 H2 r Γ2 (g1.trans g2) (ReOk.earlier k2 g1.mv fun a h => .inl (g1.sub a h)) p2
  · obtain ⟨x, h1, _⟩ := hx.get (at_ i hi)
    exact ⟨xs, x, sqT_mono (b1.trans b2.bh) ha, h1⟩
  · obtain ⟨e1, e2⟩ := hy
    subst e1
    exact ⟨rfl, (hx.at_ i x _ (e2 xs (sqT_mono (b1.trans b2.bh) ha)) (at_ i hi)).mono b1⟩
  · exact ⟨xs, sqT_mono (b1.trans b2.bh) ha, by rw [hx.len]; exact Nat.le_refl _⟩
theorem we_lcL (h : WE K tl Γ fun z Γ1 => ∃ d ds, z.dt? = some d ∧ d = .lst ds ∧ ds.length ≤ 1000000 ∧ decide (j < Γ1.length) = true ∧ notAcc Γ1[j]? = true ∧ ∃ Inv : Nat → List Dt → List Sl → Prop, Inv 0 [] Γ1 ∧
      (∀ (i : Nat) d es Γ', ds[i]? = some d → Inv i es Γ' → WT K tt (Γ'.set j (.val d)) fun b Γ2 => (b = true → WE K te Γ2 fun r Γ3 => ∃ d, r.dt? = some d ∧ Inv (i + 1) (es ++ [d]) (Γ3.set j (keepV Γ1[j]?))) ∧ (b = false → Inv (i + 1) es (Γ2.set j (keepV Γ1[j]?)))) ∧
      ∀ es Γ', Inv ds.length es Γ' → Post (.new es) Γ') : WE K (tLc (iList K tl) (gName j) tt te [j]) Γ Post := fun σ B H E Q q => by
  have h' := we_freeze (Post := fun z Γ1 => ∃ ds, z = .val (.lst ds) ∧ ds.length ≤ 1000000 ∧ decide (j < Γ1.length) = true ∧ notAcc Γ1[j]? = true ∧ ∃ Inv : Nat → List Dt → List Sl → Prop, Inv 0 [] Γ1 ∧
      (∀ (i : Nat) d es Γ', ds[i]? = some d → Inv i es Γ' → WT K tt (Γ'.set j (.val d)) fun b Γ2 => (b = true → WE K te Γ2 fun r Γ3 => ∃ d, r.dt? = some d ∧ Inv (i + 1) (es ++ [d]) (Γ3.set j (keepV Γ1[j]?))) ∧ (b = false → Inv (i + 1) es (Γ2.set j (keepV Γ1[j]?)))) ∧
      ∀ es Γ', Inv ds.length es Γ' → Post (.new es) Γ') (we_mono h fun z Γ1 ⟨d, ds, hd, e, r⟩ => ⟨d, hd, ds, by rw [e], r⟩)
  refine h' σ B H E _ fun v B1 H1 z Γ1 g1 k p => ?_
  obtain ⟨ds, rfl, hn, hj, hja, Inv, i0, turn, done⟩ := p
  obtain ⟨a, xs, rfl, ha, hx⟩ := Is.lstR k
  refine ⟨a, rfl, ⟨xs, .inl (.inl (g1.env.bh _ _ ha))⟩, ?_⟩
  have at_ : ∀ i, i < ds.length → ds[i]? = some (ds.getD i .non) := fun i hi => by rw [List.getD_eq_getElem?_getD, List.getElem?_eq_getElem hi]; rfl
  refine lc_run (n := ds.length) (dt := fun i => ds.getD i .non) (J := Itl K a) g1.env (of_decide_eq_true hj) (notAcc_ne hja) hn Inv (fun i B' H' _ _ hi b1 b2 _ => ?_) (fun i H' x H'' B' _ _ hi b1 b2 _ hy => ?_) (fun B' H' _ _ b1 b2 _ => ?_) i0 (fun i es Γ' hi' => turn i _ es Γ' (at_ i hi')) done fun v B2 H2 r Γ2 g2 k2 p2 => q v B2 H2 r Γ2 (g1.trans g2) (ReOk.earlier k2 g1.mv fun a h => .inl (g1.sub a h)) p2
  · obtain ⟨x, h1, _⟩ := hx.get (at_ i hi)
    exact ⟨xs, x, .inl (.inl ((b1.trans b2.bh) _ _ ha)), h1⟩
  · obtain ⟨e1, e2⟩ := hy
    subst e1
    exact ⟨rfl, (hx.at_ i x _ (e2 xs (.inl (.inl ((b1.trans b2.bh) _ _ ha)))) (at_ i hi)).mono b1⟩
  · exact ⟨xs, .inl (.inl ((b1.trans b2.bh) _ _ ha)), by rw [hx.len]; exact Nat.le_refl _⟩
end
theorem we_lcA {K : PySem.W.Frag} {Γ : List Sl} {Post : Re → List Sl → Prop} {te : TE} {tt : TT} {j k : Nat} {ds : List Dt} (h0 : Γ[k]? = some (.acc ds)) (hn : ds.length ≤ 1000000) (hj : decide (j < Γ.length) = true) (hja : notAcc Γ[j]? = true) (Inv : Nat → List Dt → List Sl → Prop) (i0 : Inv 0 [] Γ)
      (hk : ∀ i es Γ', Inv i es Γ' → Γ'[k]? = some (.acc ds))
      (turn : ∀ (i : Nat) d es Γ', ds[i]? = some d → Inv i es Γ' → WT K tt (Γ'.set j (.val d)) fun b Γ2 => (b = true → WE K te Γ2 fun r Γ3 => ∃ d, r.dt? = some d ∧ Inv (i + 1) (es ++ [d]) (Γ3.set j (keepV Γ[j]?))) ∧ (b = false → Inv (i + 1) es (Γ2.set j (keepV Γ[j]?))))
      (done : ∀ es Γ', Inv ds.length es Γ' → Post (.new es) Γ') : WE K (tLc (iList K (tVar k)) (gName j) tt te [j]) Γ Post := fun σ B H E Q q => by
  obtain ⟨l, xs, e0, e1, e2, hx⟩ := E.acc k ds h0
  have at_ : ∀ i, i < ds.length → ds[i]? = some (ds.getD i .non) := fun i hi => by rw [List.getD_eq_getElem?_getD, List.getElem?_eq_getElem hi]; rfl
  have items : ∀ {i es B' H' Γ'}, Env K B' H' σ Γ' → Inv i es Γ' → ∃ ys, H' l = some (.lst ys) ∧ IsA K B' ys ds := fun {i es B' H' Γ'} E' inv => by
    obtain ⟨c, ys, q1, q2, q3, q4⟩ := E'.acc k ds (hk i es Γ' inv)
    rw [e0] at q1
    cases q1
    exact ⟨ys, q2, q4⟩
  refine ⟨.ref l, e0, l, rfl, ⟨xs, .inl (.inl e1)⟩, ?_⟩
  refine lc_run (n := ds.length) (dt := fun i => ds.getD i .non) (J := Itl K l) E (of_decide_eq_true hj) (notAcc_ne hja) hn Inv (fun i B' H' es Γ' hi b1 b2 inv => ?_) (fun i H' x H'' B' es Γ' hi b1 b2 inv hy => ?_) (fun B' H' es Γ' b1 b2 inv => ?_) i0 (fun i es Γ' hi' => turn i _ es Γ' (at_ i hi')) done q
  · obtain ⟨ys, h1, h2⟩ := items b2 inv
    obtain ⟨x, h3, _⟩ := h2.get (at_ i hi)
    exact ⟨ys, x, .inl (.inl h1), h3⟩
  · obtain ⟨ys, h1, h2⟩ := items b2 inv
    obtain ⟨e1, e2⟩ := hy
    subst e1
    exact ⟨rfl, h2.at_ i x _ (e2 ys (.inl (.inl h1))) (at_ i hi)⟩
  · obtain ⟨ys, h1, h2⟩ := items b2 inv
    exact ⟨ys, .inl (.inl h1), by rw [h2.len]; exact Nat.le_refl _⟩
mutual
def Dt.py : Dt → Option PyData
  | .raw .non => some .none
  | .raw (.bl b) => some (.bool b)
  | .raw (.int i) => some (.int i)
  | .raw (.str s) => some (.str s)
  | .raw _ => none
  | .tup ds => (pyAll ds).map .tuple
  | .lst ds => (pyAll ds).map .list
  | .obj _ _ => none
  | .scr ns => none
  | .dK _ => none
  | .dT _ => none
  | .exn _ _ _ => none
  | .err _ _ => none
  | .dN _ _ => none
def pyAll : List Dt → Option (List PyData)
  | [] => some []
  | d :: ds => match Dt.py d, pyAll ds with
    | some p, some ps => some (p :: ps)
    | _, _ => none
end
section
variable {K : PySem.W.Frag} {B H : Hp}
theorem pyAll_dp : ∀ {ds : List Dt} {ps : List PyData} {vs : List V}, (∀ d p v, d ∈ ds → Dt.py d = some p → Is K B v d → Dp K B v p) → pyAll ds = some ps → IsA K B vs ds → DpAll K B vs ps
  | [], ps, vs, _, e, h => by
    rw [pyAll] at e
    cases e
    have : vs = [] := List.eq_nil_of_length_eq_zero (by rw [h.len]; rfl)
    subst this; exact .nil
  | d :: ds, ps, vs, f, e, h => by
    rw [pyAll] at e
    split at e
    · rename_i p qs h1 h2
      cases e
      cases vs with
      | nil => have := h.len; simp at this
      | cons v vs =>
        refine .cons (f d p v (List.mem_cons_self) h1 (h.at_ 0 v d rfl rfl)) (pyAll_dp (fun d p v hd => f d p v (List.mem_cons_of_mem _ hd)) h2 ⟨by have := h.len; simpa using this, fun i v d a b => h.at_ (i + 1) v d (by simpa using a) (by simpa using b)⟩)
    · cases e
theorem is_dp {v : V} {d : Dt} (h : Is K B v d) : ∀ {p : PyData}, d.py = some p → Dp K B v p := by
  induction h with
  | raw v =>
    intro p e
    cases v <;> (simp only [Dt.py] at e; cases e) <;> constructor
  | @tup a xs ds h hl hi ih =>
    intro p e
    rw [Dt.py] at e
    cases q : pyAll ds with
    | none => rw [q] at e; cases e
    | some ps =>
      rw [q] at e
      cases e
      refine .tup h ?_
      clear h
      induction ds generalizing xs ps with
      | nil =>
        rw [pyAll] at q; cases q
        have : xs = [] := List.eq_nil_of_length_eq_zero (by rw [hl]; rfl)
        subst this; exact .nil
      | cons d ds ihd =>
        rw [pyAll] at q
        split at q
        · rename_i p1 qs h1 h2
          cases q
          cases xs with
          | nil => simp at hl
          | cons x xs =>
            exact .cons (ih 0 x d rfl rfl h1) (ihd (by simpa using hl) (fun i v d a b => hi (i + 1) v d (by simpa using a) (by simpa using b)) (fun i v d a b => ih (i + 1) v d (by simpa using a) (by simpa using b)) qs h2)
        · cases q
  | @lst a xs ds h hl hi ih =>
    intro p e
    rw [Dt.py] at e
    cases q : pyAll ds with
    | none => rw [q] at e; cases e
    | some ps =>
      rw [q] at e
      cases e
      refine .lst (.inl (.inl h)) ?_
      clear h
      induction ds generalizing xs ps with
      | nil =>
        rw [pyAll] at q; cases q
        have : xs = [] := List.eq_nil_of_length_eq_zero (by rw [hl]; rfl)
        subst this; exact .nil
      | cons d ds ihd =>
        rw [pyAll] at q
        split at q
        · rename_i p1 qs h1 h2
          cases q
          cases xs with
          | nil => simp at hl
          | cons x xs =>
            exact .cons (ih 0 x d rfl rfl h1) (ihd (by simpa using hl) (fun i v d a b => hi (i + 1) v d (by simpa using a) (by simpa using b)) (fun i v d a b => ih (i + 1) v d (by simpa using a) (by simpa using b)) qs h2)
        · cases q
  | obj h hk hi ih => intro p e; rw [Dt.py] at e; cases e
  | dK h hk hi ih => intro p e; rw [Dt.py] at e; cases e
  | dT h hk hi ih => intro p e; rw [Dt.py] at e; cases e
  | exn0 => intro p e; rw [Dt.py] at e; cases e
  | exnD h hk hi ih => intro p e; rw [Dt.py] at e; cases e
  | err0 h => intro p e; rw [Dt.py] at e; cases e
  | errD h hd hk hi ih => intro p e; rw [Dt.py] at e; cases e
  | dN h hk hq hi ihq ih => intro p e; rw [Dt.py] at e; cases e
  | scr h => intro p e; rw [Dt.py] at e; cases e
mutual
theorem dp_mono {B' : Hp} (s : Same B B') {v : V} : ∀ {p : PyData}, Dp K B v p → Dp K B' v p
  | _, .non => .non
  | _, .bl b => .bl b
  | _, .int i => .int i
  | _, .str x => .str x
  | _, .lst h hs => .lst (s.seq h) (dpAll_mono s hs)
  | _, .tup h hs => .tup (sqT_mono s h) (dpAll_mono s hs)
theorem dpAll_mono {B' : Hp} (s : Same B B') : ∀ {vs : List V} {ps : List PyData}, DpAll K B vs ps → DpAll K B' vs ps
  | _, _, .nil => .nil
  | _, _, .cons h hs => .cons (dp_mono s h) (dpAll_mono s hs)
end
end
def Re.py (Γ : List Sl) : Re → Option PyData
  | .val d => d.py
  | .nw (.lst ds) => (pyAll ds).map .list
  | .nw _ => none
  | .own i => match Γ[i]? with
    | some (Sl.cel (.lst ds)) => (pyAll ds).map .list
    | _ => none
section
variable {K : PySem.W.Frag} {Γ : List Sl} {Post : Re → List Sl → Prop} {ta tb : TE}
theorem rv_dp {σ : L2.St} {B H : Hp} {v : V} {r : Re} {p : PyData} (E : Env K B H σ Γ) (h : RvOk K σ B H Γ v r) (e : r.py Γ = some p) : Dp K H v p := by
  have lst : ∀ {ds : List Dt}, lstOf Γ r = some ds → (pyAll ds).map PyData.list = some p → Dp K H v p := fun {ds} h1 h2 => by
    obtain ⟨a, vs, rfl, hq, ha⟩ := rv_lst E h h1
    cases q : pyAll ds with
    | none => rw [q] at h2; cases h2
    | some ps =>
      rw [q] at h2
      cases h2
      exact .lst hq (dpAll_mono E.bh (pyAll_dp (fun d p v _ e k => is_dp k e) q ha))
  cases r with
  | val d => exact dp_mono E.bh (is_dp h e)
  | nw c =>
    cases c with
    | lst ds => exact lst rfl e
    | dK es => cases e
    | dT es => cases e
    | dN w es => cases e
  | own i =>
    have e' : (match Γ[i]? with
      | some (Sl.cel (.lst ds)) => (pyAll ds).map PyData.list
      | _ => none) = some p := e
    split at e'
    · rename_i ds hi
      exact lst (by show (match Γ[i]? with | some (Sl.cel (.lst ds)) => some ds | _ => none) = some ds; rw [hi]) e'
    · cases e'
end
end Ab

namespace Ab
open PySem L2
abbrev rSubI : R2 := rI0 fun i j => .int (i - j)
def CDiv64 (i j : Int) : Prop := 0 < j ∧ j < 18446744073709551616
abbrev rDivI : R2 := rI CDiv64 fun i j => .int (i / j)
theorem op_fdivW {X : Cx} : OpR X (binaryOp .FloorDiv) rDivI := opI fun i j _ _ _ _ _ hc q => by
  have h1 : (0 : Int) < j := hc.1
  have h2 : j < 18446744073709551616 := hc.2
  refine PyProof.Rows.floordiv_int (by omega) (by rw [Int.fdiv_eq_ediv_of_nonneg i (by omega)]; exact q) (.inl (PyProof.noPylong_of_log2 ?_))
  have h3 : j.natAbs < 2 ^ 64 := by omega
  have h4 : j.natAbs.log2 < 64 := (Nat.log2_lt (by omega)).mpr h3
  omega
abbrev rModI : R2 := rI (fun _ j => 0 < j) fun i j => .int (i % j)
abbrev rPowI : R2 := rI CPow fun i j => .int (i ^ j.toNat)
abbrev rLtI : R2 := rI0 fun i j => .bl (decide (i < j))
abbrev rLeI : R2 := rI0 fun i j => .bl (decide (i ≤ j))
abbrev rGtI : R2 := rI0 fun i j => .bl (decide (j < i))
abbrev rGeI : R2 := rI0 fun i j => .bl (decide (j ≤ i))
abbrev rNegI : V → Hp → VK → Prop := rU fun i => .int (-i)
def rAddG (K : PySem.W.Frag) : R2 := fun x y H Q => rI0 (fun i j => .int (i + j)) x y H Q ∨ (∃ i j, x = .str i ∧ y = .str j ∧ i.length + j.length ≤ sizeLine ∧ Q (.str (i ++ j)) H) ∨ rCatA K x y H Q ∨ rCat x y H Q
def rMulG (K : PySem.W.Frag) : R2 := fun x y H Q => rI CMul (fun i j => .int (i * j)) x y H Q ∨ rI CMulW (fun i j => .int (i * j)) x y H Q
def rEqG (K : PySem.W.Frag) : R2 := fun x y H Q => rEq x y H Q ∨ rEqD K x y H Q
def rNeG (K : PySem.W.Frag) : R2 := fun x y H Q => rNe x y H Q ∨ rNeD K x y H Q
def rLtG (K : PySem.W.Frag) : R2 := fun x y H Q => rI0 (fun i j => .bl (decide (i < j))) x y H Q ∨ (∃ i j, x = .str i ∧ y = .str j ∧ Q (.bl (decide (i.cps.toList < j.cps.toList))) H) ∨ rLtT K x y H Q
def rInG (K : PySem.W.Frag) : R2 := fun x y H Q => rIn K false x y H Q ∨ ∃ (c : Nat) (z : Str), x = .str ⟨#[c]⟩ ∧ y = .str z ∧ Q (.bl (decide (c ∈ z.cps.toList))) H
def rSlG (K : PySem.W.Frag) : V → Option Int → Option Int → Hp → VK → Prop := fun x lo hi H Q => rSlL K x lo hi H Q ∨ rSlA K x lo hi H Q ∨ rSlS x lo hi H Q
section
variable {X : Cx}
theorem op_addG : OpR X (binaryOp .Add) (rAddG X.K) := op_add.or (op_add_str.or (op_catA.or op_cat))
theorem op_mulG : OpR X (binaryOp .Mult) (rMulG X.K) := op_mul.or op_mulW
theorem op_eqG (hu : X.A.units + 64 < cLine) : OpR X (compareOp .Eq) (rEqG X.K) := op_eq.or (op_eqD hu)
theorem op_neG (hu : X.A.units + 64 < cLine) : OpR X (compareOp .NotEq) (rNeG X.K) := op_ne.or (op_neD hu)
theorem op_ltG (hu : X.A.units < cLine) : OpR X (compareOp .Lt) (rLtG X.K) := op_lt.or (op_lt_str.or (op_ltT hu))
theorem sl_G : SlR X (rSlG X.K) := sl_list.or (sl_tupA.or sl_str)
end
def Re.isScr : Re → Bool
  | .val (.scr _) => true
  | _ => false
def AddP (ra rb : Re) (Γ : List Sl) (Post : Re → List Sl → Prop) : Prop :=
  (∃ i j, ra = .val (.int i) ∧ rb = .val (.int j) ∧ Post (.val (.int (i + j))) Γ) ∨ (∃ s t : Str, ra = .val (.str s) ∧ rb = .val (.str t) ∧ s.length + t.length ≤ 1000000 ∧ Post (.val (.str (s ++ t))) Γ) ∨
  (∃ ds es, ra = .val (.tup ds) ∧ rb = .val (.tup es) ∧ ds.length + es.length ≤ 1000000 ∧ Post (.val (.tup (ds ++ es))) Γ) ∨ (∃ ds es, lstOf Γ ra = some ds ∧ lstOf Γ rb = some es ∧ ra.isScr = false ∧ rb.isScr = false ∧ ds.length + es.length ≤ 1000000 ∧ Post (.new (ds ++ es)) Γ)
def EqP (neg : Bool) (ra rb : Re) (Γ : List Sl) (Post : Re → List Sl → Prop) : Prop :=
  (∃ x y : V, ra = .val (.raw x) ∧ rb = .val (.raw y) ∧ scal x y = true ∧ Post (.val (.bl (neg ^^ decide (x = y)))) Γ) ∨
  (∃ p q : PyData, ra.py Γ = some p ∧ rb.py Γ = some q ∧ SeqAt.shaped p = true ∧ SeqAt.shaped q = true ∧ Post (.val (.bl (neg ^^ PyData.eqv p q))) Γ)
def MulP (ra rb : Re) (Γ : List Sl) (Post : Re → List Sl → Prop) : Prop := ∃ i j, ra = .val (.int i) ∧ rb = .val (.int j) ∧ (CMul i j ∨ CMulW i j) ∧ Post (.val (.int (i * j))) Γ
def IxP (ra rb : Re) (Γ : List Sl) (Post : Re → List Sl → Prop) : Prop :=
  (∃ ds k d, seqOf Γ ra = some ds ∧ rb = .val (.int k) ∧ atI ds k = some d ∧ Post (.val d) Γ) ∨ (∃ z k c, ra = .val (.str z) ∧ rb = .val (.int k) ∧ z.length ≤ 1000000 ∧ atI z.cps.toList k = some c ∧ Post (.val (.str ⟨#[c]⟩)) Γ)
def LenP (r : Re) (Γ : List Sl) (Post : Re → List Sl → Prop) : Prop := (∃ ds, seqOf Γ r = some ds ∧ Post (.val (.int ds.length)) Γ) ∨ (∃ z : Str, r = .val (.str z) ∧ z.length ≤ 1000000 ∧ Post (.val (.int z.length)) Γ)
def IntP (r : Re) (Γ : List Sl) (Post : Re → List Sl → Prop) : Prop := (∃ i, r = .val (.int i) ∧ Post (.val (.int i)) Γ) ∨ (∃ b, r = .val (.bl b) ∧ Post (.val (.int (if b then 1 else 0))) Γ)
section
variable {K : PySem.W.Frag} {Γ : List Sl} {Post : Re → List Sl → Prop} {ta tb tc te : TE}
theorem rv_lstH {σ : L2.St} {B H : Hp} {v : V} {r : Re} {ds : List Dt} (E : Env K B H σ Γ) (h : RvOk K σ B H Γ v r) (e : lstOf Γ r = some ds) (hs : r.isScr = false) : ∃ a vs, v = .ref a ∧ H a = some (.lst vs) ∧ IsA K B vs ds := by
  cases r with
  | val d =>
    cases d with
    | lst es => cases e; obtain ⟨a, xs, rfl, h1, h2⟩ := Is.lstR h; exact ⟨a, xs, rfl, E.bh _ _ h1, h2⟩
    | raw u => cases e
    | tup es => cases e
    | obj C fs => cases e
    | dK es => cases e
    | dT es => cases e
    | exn a d fs => cases e
    | err C fs => cases e
    | dN w es => cases e
    | scr ns => cases hs
  | nw c =>
    cases c with
    | lst es => cases e; obtain ⟨l, o, rfl, _, h1, _, vs, rfl, h2⟩ := h; exact ⟨l, vs, rfl, h1, h2⟩
    | dK es => cases e
    | dT es => cases e
    | dN w es => cases e
  | own i =>
    obtain ⟨l, rfl, hl⟩ := h
    have e' : (match Γ[i]? with
      | some (Sl.cel (.lst ds)) => some ds
      | _ => none) = some ds := e
    split at e'
    · rename_i es hi
      cases e'
      obtain ⟨c, us, q1, q2, q3, q4⟩ := E.acc i _ hi
      rw [hl] at q1; cases q1
      exact ⟨l, us, rfl, q2, q4⟩
    · cases e'
theorem we_addG (h : WE K ta Γ fun ra Γ1 => WE K tb Γ1 fun rb Γ2 => AddP ra rb Γ2 Post) : WE K (tOp (rAddG K) ta tb) Γ Post :=
  we_two' (we_mono h fun ra Γ1 h1 => we_mono h1 fun rb Γ2 hp => fun σ B H x y E kx ky Q q => by
    rcases hp with ⟨i, j, rfl, rfl, p⟩ | ⟨s, t, rfl, rfl, hz, p⟩ | ⟨ds, es, rfl, rfl, hz, p⟩ | ⟨ds, es, h1, h2, s1, s2, hz, p⟩
    · cases Is.rawI kx; cases Is.rawI ky
      exact .inl ⟨i, j, rfl, rfl, q _ B H _ Γ2 (.refl E) (.raw _) p⟩
    · cases Is.rawI kx; cases Is.rawI ky
      exact .inr (.inl ⟨s, t, rfl, rfl, Nat.le_trans hz (by decide), q _ B H _ Γ2 (.refl E) (.raw _) p⟩)
    · obtain ⟨a, xs, rfl, h1, h2⟩ := Is.tupR kx
      obtain ⟨b, ys, rfl, g1, g2⟩ := Is.tupR ky
      refine .inr (.inr (.inl ⟨a, b, xs, ys, rfl, rfl, sqT_mono E.bh h1, sqT_mono E.bh g1, Nat.le_trans (by rw [h2.len, g2.len]; exact hz) (by decide), fun e => ?_, fun e1 e => ?_, fun _ _ l hl => ?_⟩))
      · have : ds = [] := List.eq_nil_of_length_eq_zero (by rw [← h2.len, e]; rfl)
        subst this
        exact q _ B H (.val _) Γ2 (.refl E) (show Is K B _ _ from ky) p
      · have : es = [] := List.eq_nil_of_length_eq_zero (by rw [← g2.len, e]; rfl)
        subst this
        rw [List.append_nil] at p
        exact q _ B H (.val _) Γ2 (.refl E) (show Is K B _ _ from kx) p
      · exact q _ _ _ _ Γ2 (Go.laid E hl) (re_laidT E (h2.append g2) hl) p
    · obtain ⟨a, xs, rfl, a1, a2⟩ := rv_lstH E kx h1 s1
      obtain ⟨b, ys, rfl, b1, b2⟩ := rv_lstH E ky h2 s2
      exact .inr (.inr (.inr ⟨a, b, xs, ys, rfl, rfl, a1, b1, Nat.le_trans (by rw [a2.len, b2.len]; exact hz) (by decide), fun l hl => q _ _ _ _ Γ2 (Go.beside E hl) (re_newL E (a2.append b2) hl) p⟩)))
theorem we_mulG (h : WE K ta Γ fun ra Γ1 => WE K tb Γ1 fun rb Γ2 => MulP ra rb Γ2 Post) : WE K (tOp (rMulG K) ta tb) Γ Post :=
  we_two' (we_mono h fun ra Γ1 h1 => we_mono h1 fun rb Γ2 hp => fun σ B H x y E kx ky Q q => by
    obtain ⟨i, j, rfl, rfl, hc, p⟩ := hp
    cases Is.rawI kx; cases Is.rawI ky
    have fin := q _ B H _ Γ2 (.refl E) (.raw _) p
    rcases hc with hc | hc
    · exact .inl ⟨i, j, rfl, rfl, hc, fin⟩
    · exact .inr ⟨i, j, rfl, rfl, hc, fin⟩)
theorem we_eqG (h : WE K ta Γ fun ra Γ1 => WE K tb Γ1 fun rb Γ2 => EqP false ra rb Γ2 Post) : WE K (tOp (rEqG K) ta tb) Γ Post :=
  we_two' (we_mono h fun ra Γ1 h1 => we_mono h1 fun rb Γ2 hp => fun σ B H x y E kx ky Q q => by
    rcases hp with ⟨u, w, rfl, rfl, hs, p⟩ | ⟨a, b, e1, e2, s1, s2, p⟩
    · cases Is.rawI kx; cases Is.rawI ky
      rw [Bool.false_xor] at p
      exact .inl ⟨hs, q _ B H _ Γ2 (.refl E) (.raw _) p⟩
    · rw [Bool.false_xor] at p
      exact .inr ⟨a, b, rv_dp E kx e1, rv_dp E ky e2, s1, s2, q _ B H _ Γ2 (.refl E) (.raw _) p⟩)
theorem we_neG (h : WE K ta Γ fun ra Γ1 => WE K tb Γ1 fun rb Γ2 => EqP true ra rb Γ2 Post) : WE K (tOp (rNeG K) ta tb) Γ Post :=
  we_two' (we_mono h fun ra Γ1 h1 => we_mono h1 fun rb Γ2 hp => fun σ B H x y E kx ky Q q => by
    rcases hp with ⟨u, w, rfl, rfl, hs, p⟩ | ⟨a, b, e1, e2, s1, s2, p⟩
    · cases Is.rawI kx; cases Is.rawI ky
      rw [Bool.true_xor] at p
      exact .inl ⟨hs, q _ B H _ Γ2 (.refl E) (.raw _) p⟩
    · rw [Bool.true_xor] at p
      exact .inr ⟨a, b, rv_dp E kx e1, rv_dp E ky e2, s1, s2, q _ B H _ Γ2 (.refl E) (.raw _) p⟩)
theorem we_ixG (h : WE K ta Γ fun ra Γ1 => WE K tb Γ1 fun rb Γ2 => IxP ra rb Γ2 Post) : WE K (tOp (rIx K) ta tb) Γ Post :=
  we_two' (we_mono h fun ra Γ1 h1 => we_mono h1 fun rb Γ2 hp => fun σ B H x y E kx ky Q q => by
    rcases hp with ⟨ds, k, d, hs, rfl, hd, p⟩ | ⟨z, k, c, rfl, rfl, hz, hd, p⟩
    · cases Is.rawI ky
      obtain ⟨a, vs, rfl, hq, ha⟩ := rv_seq E kx hs
      obtain ⟨v, hv, hi⟩ := ha.atI hd
      have fin := q v B H (.val d) Γ2 (.refl E) hi p
      rcases hq with hq | hq
      · exact .inl ⟨a, vs, k, v, rfl, rfl, hq, hv, fin⟩
      · exact .inr (.inl ⟨a, vs, k, v, rfl, rfl, hq, hv, fin⟩)
    · cases Is.rawI ky
      cases Is.rawI kx
      exact .inr (.inr ⟨z, k, c, rfl, rfl, Nat.le_trans hz (by decide), hd, q _ B H _ Γ2 (.refl E) (.raw _) p⟩))
theorem we_lenG (h : WE K te Γ fun r Γ1 => LenP r Γ1 Post) : WE K (tCB (rLenV K) (tCons te tNil)) Γ Post :=
  we_cb1 (we_mono h fun r Γ1 hp => fun σ B H x E kx Q q => by
    rcases hp with ⟨ds, hs, p⟩ | ⟨z, rfl, hz, p⟩
    · obtain ⟨a, vs, rfl, hq, ha⟩ := rv_seq E kx hs
      have e : (ds.length : Int) = (vs.length : Int) := by rw [ha.len]
      rw [e] at p
      refine ⟨_, vs.length, rfl, ?_, q _ B H _ Γ1 (.refl E) (.raw _) p⟩
      rcases hq with hq | hq
      · exact .inl ⟨vs, hq, rfl⟩
      · exact .inr ⟨vs, hq, rfl⟩
    · cases Is.rawI kx
      exact ⟨_, z.length, rfl, ⟨Nat.le_trans hz (by decide), rfl⟩, q _ B H _ Γ1 (.refl E) (.raw _) p⟩)
theorem we_intG (h : WE K te Γ fun r Γ1 => IntP r Γ1 Post) : WE K (tCB rInt1 (tCons te tNil)) Γ Post :=
  we_cb1 (we_mono h fun r Γ1 hp => fun σ B H x E kx Q q => by
    rcases hp with ⟨i, rfl, p⟩ | ⟨b, rfl, p⟩
    · cases Is.rawI kx; exact .inl ⟨i, rfl, q _ B H _ Γ1 (.refl E) (.raw _) p⟩
    · cases Is.rawI kx; exact .inr ⟨b, rfl, q _ B H _ Γ1 (.refl E) (.raw _) p⟩)
def WO (K : PySem.W.Frag) (to : TO) (Γ : List Sl) (Post : Option Int → List Sl → Prop) : Prop := ∀ σ B H, Env K B H σ Γ → ∀ Q : Option Int → Hp → Prop, (∀ o B' H' Γ', Go K σ B H Γ B' H' Γ' → Post o Γ' → Q o H') → to σ H Q
theorem wo_none {P : Option Int → List Sl → Prop} (p : P none Γ) : WO K tNoPart Γ P := fun σ B H E Q q => q none B H Γ (.refl E) p
theorem wo_some {P : Option Int → List Sl → Prop} (h : WE K te Γ fun r Γ1 => ∃ i, r = .val (.int i) ∧ P (some i) Γ1) : WO K (tPart te) Γ P := fun σ B H E Q q => by
  refine h σ B H E _ fun v B1 H1 r Γ1 g k ⟨i, e, p⟩ => ?_
  subst e
  cases Is.rawI k
  exact ⟨i, rfl, q _ B1 H1 Γ1 g p⟩
def cutD (xs : List Dt) (lo hi : Option Int) : List Dt := (xs.drop (HT.sIx xs.length 0 lo)).take (HT.sIx xs.length xs.length hi - HT.sIx xs.length 0 lo)
def SlP (ra : Re) (lo hi : Option Int) (Γ : List Sl) (Post : Re → List Sl → Prop) : Prop :=
  (∃ ds, lstOf Γ ra = some ds ∧ Post (.new (cutD ds lo hi)) Γ) ∨ (∃ ds, ra = .val (.tup ds) ∧ Post (.val (.tup (cutD ds lo hi))) Γ) ∨ (∃ z : Str, ra = .val (.str z) ∧ z.length ≤ 1000000 ∧ Post (.val (.str (cutS z lo hi))) Γ)
theorem cut_is {B : Hp} {vs : List V} {ds : List Dt} (lo hi : Option Int) (h : IsA K B vs ds) : IsA K B (cutV vs lo hi) (cutD ds lo hi) := by
  unfold cutV cutD
  rw [h.len]
  exact (h.drop _).take _
theorem cut_whole {ds : List Dt} {lo hi : Option Int} (h : HT.sIx ds.length 0 lo = 0 ∧ HT.sIx ds.length ds.length hi = ds.length) : cutD ds lo hi = ds := by
  unfold cutD
  rw [h.1, h.2, List.drop_zero, Nat.sub_zero, List.take_length]
theorem we_slG {tl th : TO} (h : WE K ta Γ fun ra Γ1 => WO K tl Γ1 fun lo Γ2 => WO K th Γ2 fun hi Γ3 => SlP ra lo hi Γ3 Post) : WE K (tSl (rSlG K) ta tl th) Γ Post := fun σ B H E Q q => by
  refine h σ B H E _ fun x B1 H1 ra Γ1 g1 k1 p1 => ?_
  refine p1 σ B1 H1 g1.env _ fun lo B2 H2 Γ2 g2 p2 => ?_
  refine p2 σ B2 H2 g2.env _ fun hi B3 H3 Γ3 g3 p3 => ?_
  have g23 := g2.trans g3
  have kx := ReOk.rv (ReOk.step k1 g23.mv g23.sub)
  have g := g1.trans g23
  have fin : ∀ v B' H' z Γ', Go K σ B3 H3 Γ3 B' H' Γ' → ReOk K σ (Own σ Γ3) (Own σ Γ') B' H3 H' v z → Post z Γ' → Q v H' := fun v B' H' z Γ' g4 k4 p4 => q v B' H' z Γ' (g.trans g4) (ReOk.earlier k4 g.mv fun a h => .inl (g.sub a h)) p4
  rcases p3 with ⟨ds, hs, p⟩ | ⟨ds, rfl, p⟩ | ⟨z, rfl, hz, p⟩
  · obtain ⟨a, vs, rfl, hq, ha⟩ := rv_lst g3.env kx hs
    exact .inl ⟨a, vs, rfl, hq, fun l hl => fin _ _ _ _ Γ3 (Go.beside g3.env hl) (re_newL g3.env (cut_is lo hi ha) hl) p⟩
  · obtain ⟨a, vs, rfl, hq, ha⟩ := Is.tupR kx
    refine .inr (.inl ⟨a, vs, rfl, sqT_mono g3.env.bh hq, fun hw => ?_, fun _ l hl => fin _ _ _ _ Γ3 (Go.laid g3.env hl) (re_laidT g3.env (cut_is lo hi ha) hl) p⟩)
    rw [ha.len] at hw
    rw [cut_whole hw] at p
    exact fin _ B3 H3 (.val _) Γ3 (.refl g3.env) (show Is K B3 _ _ from kx) p
  · cases Is.rawI kx
    exact .inr (.inr ⟨z, rfl, Nat.le_trans hz (by decide), fin _ B3 H3 _ Γ3 (.refl g3.env) (.raw _) p⟩)
def InP (neg : Bool) (ra rb : Re) (Γ : List Sl) (Post : Re → List Sl → Prop) : Prop :=
  (∃ (x : V) (us : List V), ra = .val (.raw x) ∧ seqOf Γ rb = some (us.map Dt.raw) ∧ flatV x = true ∧ us.all flatV = true ∧ Post (.val (.bl (if neg then !inV x us else inV x us))) Γ)
theorem we_inG (h : WE K ta Γ fun ra Γ1 => WE K tb Γ1 fun rb Γ2 => InP false ra rb Γ2 Post ∨ ∃ (c : Nat) (z : Str), ra = .val (.str ⟨#[c]⟩) ∧ rb = .val (.str z) ∧ Post (.val (.bl (decide (c ∈ z.cps.toList)))) Γ2) : WE K (tOp (rInG K) ta tb) Γ Post :=
  we_two' (we_mono h fun ra Γ1 h1 => we_mono h1 fun rb Γ2 hp => fun σ B H y z E ky kz Q q => by
    rcases hp with ⟨x, us, rfl, hs, hx, hu, p⟩ | ⟨c, s, rfl, rfl, p⟩
    · cases Is.rawI ky
      obtain ⟨a, vs, rfl, hq, ha⟩ := rv_seq E kz hs
      cases ha.rawsI
      exact .inl ⟨a, _, rfl, hq, hx, hu, q _ B H _ Γ2 (.refl E) (.raw _) p⟩
    · cases Is.rawI ky; cases Is.rawI kz
      exact .inr ⟨c, s, rfl, rfl, q _ B H _ Γ2 (.refl E) (.raw _) p⟩)
theorem we_notInG (h : WE K ta Γ fun ra Γ1 => WE K tb Γ1 fun rb Γ2 => InP true ra rb Γ2 Post) : WE K (tOp (rIn K true) ta tb) Γ Post := we_in h
end
def LtP (ra rb : Re) (Γ : List Sl) (Post : Re → List Sl → Prop) : Prop :=
  (∃ i j, ra = .val (.int i) ∧ rb = .val (.int j) ∧ Post (.val (.bl (decide (i < j)))) Γ) ∨ (∃ s t : Str, ra = .val (.str s) ∧ rb = .val (.str t) ∧ Post (.val (.bl (decide (s.cps.toList < t.cps.toList)))) Γ) ∨
  (∃ ns ms : List Int, ra = .val (.tup (ns.map Dt.int)) ∧ rb = .val (.tup (ms.map Dt.int)) ∧ Post (.val (.bl (HT.lexLt ns ms))) Γ)
theorem we_ltG {K : PySem.W.Frag} {Γ : List Sl} {Post : Re → List Sl → Prop} {ta tb : TE} (h : WE K ta Γ fun ra Γ1 => WE K tb Γ1 fun rb Γ2 => LtP ra rb Γ2 Post) : WE K (tOp (rLtG K) ta tb) Γ Post :=
  we_two' (we_mono h fun ra Γ1 h1 => we_mono h1 fun rb Γ2 hp => fun σ B H x y E kx ky Q q => by
    rcases hp with ⟨i, j, rfl, rfl, p⟩ | ⟨s, t, rfl, rfl, p⟩ | ⟨ns, ms, rfl, rfl, p⟩
    · cases Is.rawI kx; cases Is.rawI ky
      exact .inl ⟨i, j, rfl, rfl, q _ B H _ Γ2 (.refl E) (.raw _) p⟩
    · cases Is.rawI kx; cases Is.rawI ky
      exact .inr (.inl ⟨s, t, rfl, rfl, q _ B H _ Γ2 (.refl E) (.raw _) p⟩)
    · obtain ⟨a, xs, rfl, h1, h2⟩ := Is.tupR kx
      obtain ⟨b, ys, rfl, g1, g2⟩ := Is.tupR ky
      have e1 : xs = ns.map V.int := IsA.rawsI (xs := ns.map V.int) (by rw [List.map_map]; exact h2)
      have e2 : ys = ms.map V.int := IsA.rawsI (xs := ms.map V.int) (by rw [List.map_map]; exact g2)
      subst e1 e2
      exact .inr (.inr ⟨a, b, ns, ms, rfl, rfl, sqT_mono E.bh h1, sqT_mono E.bh g1, q _ B H _ Γ2 (.refl E) (.raw _) p⟩))
theorem law_sp {K : PySem.W.Frag} {ap : AP} {H : Hp} {a : Addr} {ns : List Int} {E : XK} (hS : SqL K H a (ns.map V.int)) (h : ∀ Post : Re → List Sl → Prop, (∀ as, Post (.val (.bl true)) as) → ap [.val (.scr ns)] Post) : toSp K ap [.ref a] H (fun v _ => v = .bl true) E := by
  refine ⟨H, [.val (.scr ns)], fun r _ => r = .val (.bl true), ⟨rfl, Same.refl H, fun i d hi => ?_, fun i ds hi => ?_, fun i j ds es l hi => ?_⟩, h _ (fun _ => rfl), fun v B' H' r as' g k p => ?_⟩
  · cases i with
    | zero => simp at hi; subst hi; exact ⟨.ref a, rfl, .scr hS⟩
    | succ i => simp at hi
  · cases i with
    | zero => simp at hi
    | succ i => simp at hi
  · cases i with
    | zero => simp at hi
    | succ i => simp at hi
  · subst p; exact Is.rawI k
theorem bi_int : bootBuiltins "int" = some (.type "int") := by decide +kernel
theorem bi_bool : bootBuiltins "bool" = some (.type "bool") := by decide +kernel
theorem bi_list : bootBuiltins "list" = some (.type "list") := by decide +kernel
theorem bi_tuple : bootBuiltins "tuple" = some (.type "tuple") := by decide +kernel
theorem bi_len : bootBuiltins "len" = some (.builtin "len") := by decide +kernel
theorem bi_abs : bootBuiltins "abs" = some (.builtin "abs") := by decide +kernel
theorem bi_min : bootBuiltins "min" = some (.builtin "min") := by decide +kernel
theorem bi_max : bootBuiltins "max" = some (.builtin "max") := by decide +kernel
theorem bi_sum : bootBuiltins "sum" = some (.builtin "sum") := by decide +kernel
theorem bi_isinstance : bootBuiltins "isinstance" = some (.builtin "isinstance") := by decide +kernel
end Ab

namespace Ab
open PySem L2
section
variable {Γ : List Sl} {Post : Re → List Sl → Prop}
theorem addp_i {i j : Int} (p : Post (.val (.int (i + j))) Γ) : AddP (.val (.int i)) (.val (.int j)) Γ Post := .inl ⟨i, j, rfl, rfl, p⟩
theorem addp_s {s t : Str} (hz : s.length + t.length ≤ 1000000) (p : Post (.val (.str (s ++ t))) Γ) : AddP (.val (.str s)) (.val (.str t)) Γ Post := .inr (.inl ⟨s, t, rfl, rfl, hz, p⟩)
theorem addp_t {ds es : List Dt} (hz : ds.length + es.length ≤ 1000000) (p : Post (.val (.tup (ds ++ es))) Γ) : AddP (.val (.tup ds)) (.val (.tup es)) Γ Post := .inr (.inr (.inl ⟨ds, es, rfl, rfl, hz, p⟩))
theorem addp_l {ra rb : Re} {ds es : List Dt} (h1 : lstOf Γ ra = some ds) (h2 : lstOf Γ rb = some es) (s1 : ra.isScr = false) (s2 : rb.isScr = false) (hz : ds.length + es.length ≤ 1000000) (p : Post (.new (ds ++ es)) Γ) : AddP ra rb Γ Post := .inr (.inr (.inr ⟨ds, es, h1, h2, s1, s2, hz, p⟩))
theorem mulp_l {i j : Int} (hc : -(2 ^ 64) < i ∧ i < 2 ^ 64) (p : Post (.val (.int (i * j))) Γ) : MulP (.val (.int i)) (.val (.int j)) Γ Post := ⟨i, j, rfl, rfl, .inl (.inl hc), p⟩
theorem mulp_r {i j : Int} (hc : -(2 ^ 64) < j ∧ j < 2 ^ 64) (p : Post (.val (.int (i * j))) Γ) : MulP (.val (.int i)) (.val (.int j)) Γ Post := ⟨i, j, rfl, rfl, .inl (.inr hc), p⟩
theorem eqp_s {neg : Bool} {x y : V} (hs : scal x y = true) (p : Post (.val (.bl (neg ^^ decide (x = y)))) Γ) : EqP neg (.val (.raw x)) (.val (.raw y)) Γ Post := .inl ⟨x, y, rfl, rfl, hs, p⟩
theorem dec_i {i j : Int} : decide (V.int i = V.int j) = decide (i = j) := by
  by_cases h : i = j
  · subst h; simp
  · have : ¬ V.int i = V.int j := fun z => h (V.int.inj z)
    rw [decide_eq_false this, decide_eq_false h]
theorem eqp_i {i j : Int} (p : Post (.val (.bl (decide (i = j)))) Γ) : EqP false (.val (.int i)) (.val (.int j)) Γ Post := eqp_s rfl (by rw [dec_i, Bool.false_xor]; exact p)
theorem nep_i {i j : Int} (p : Post (.val (.bl (!decide (i = j)))) Γ) : EqP true (.val (.int i)) (.val (.int j)) Γ Post := eqp_s rfl (by rw [dec_i, Bool.true_xor]; exact p)
theorem eqp_d {neg : Bool} {ra rb : Re} {p q : PyData} (h1 : ra.py Γ = some p) (h2 : rb.py Γ = some q) (s1 : SeqAt.shaped p = true) (s2 : SeqAt.shaped q = true) (k : Post (.val (.bl (neg ^^ PyData.eqv p q))) Γ) : EqP neg ra rb Γ Post := .inr ⟨p, q, h1, h2, s1, s2, k⟩
theorem intp_i {i : Int} (p : Post (.val (.int i)) Γ) : IntP (.val (.int i)) Γ Post := .inl ⟨i, rfl, p⟩
theorem intp_b {b : Bool} (p : Post (.val (.int (if b then 1 else 0))) Γ) : IntP (.val (.bl b)) Γ Post := .inr ⟨b, rfl, p⟩
theorem ltp_i {i j : Int} (p : Post (.val (.bl (decide (i < j)))) Γ) : LtP (.val (.int i)) (.val (.int j)) Γ Post := .inl ⟨i, j, rfl, rfl, p⟩
theorem ixp {ra : Re} {ds : List Dt} {k : Int} {d : Dt} (h1 : seqOf Γ ra = some ds) (h2 : atI ds k = some d) (p : Post (.val d) Γ) : IxP ra (.val (.int k)) Γ Post := .inl ⟨ds, k, d, h1, rfl, h2, p⟩
theorem ixp_s {z : Str} {k : Int} {c : Nat} (hz : z.length ≤ 1000000) (h2 : atI z.cps.toList k = some c) (p : Post (.val (.str ⟨#[c]⟩)) Γ) : IxP (.val (.str z)) (.val (.int k)) Γ Post := .inr ⟨z, k, c, rfl, rfl, hz, h2, p⟩
theorem lenp {r : Re} {ds : List Dt} (h : seqOf Γ r = some ds) (p : Post (.val (.int ds.length)) Γ) : LenP r Γ Post := .inl ⟨ds, h, p⟩
theorem lenp_s {z : Str} (hz : z.length ≤ 1000000) (p : Post (.val (.int z.length)) Γ) : LenP (.val (.str z)) Γ Post := .inr ⟨z, rfl, hz, p⟩
theorem slp_t {ds : List Dt} {lo hi : Option Int} (p : Post (.val (.tup (cutD ds lo hi))) Γ) : SlP (.val (.tup ds)) lo hi Γ Post := .inr (.inl ⟨ds, rfl, p⟩)
theorem slp_s {z : Str} {lo hi : Option Int} (hz : z.length ≤ 1000000) (p : Post (.val (.str (cutS z lo hi))) Γ) : SlP (.val (.str z)) lo hi Γ Post := .inr (.inr ⟨z, rfl, hz, p⟩)
theorem slp_l {ra : Re} {ds : List Dt} {lo hi : Option Int} (h : lstOf Γ ra = some ds) (p : Post (.new (cutD ds lo hi)) Γ) : SlP ra lo hi Γ Post := .inl ⟨ds, h, p⟩
theorem atI_of {α : Type} {xs : List α} {k : Int} {j : Nat} {x : α} (e : k = (j : Int)) (h : xs[j]? = some x) : atI xs k = some x := by
  subst e
  have hj : j < xs.length := (List.getElem?_eq_some_iff.mp h).1
  unfold atI ixN
  rw [if_pos (by omega), if_pos (by omega)]
  simpa using h
end
section
variable {K : PySem.W.Frag} {Γ : List Sl} {Post : Re → List Sl → Prop} {te : TE}
def IsiP (c : String) (r : Re) (Γ : List Sl) (Post : Re → List Sl → Prop) : Prop := (∀ i, r = .own i → ∃ ds, Γ[i]? = some (.acc ds)) ∧ ∃ T b, tyOf r = some T ∧ kitB T c = some b ∧ Post (.val (.bl b)) Γ
theorem we_isiG {c : String} (h : WE K te Γ fun r Γ1 => IsiP c r Γ1 Post) : WE K (tCB (rIsi K) (tCons te (tCons (tC (.ty c)) tNil))) Γ Post := we_isi h
theorem isi_own {i : Nat} {ds : List Dt} {c : String} {b : Bool} (h : Γ[i]? = some (.acc ds)) (hk : kitB "list" c = some b) (p : Post (.val (.bl b)) Γ) : IsiP c (.own i) Γ Post :=
  ⟨fun j e => by cases e; exact ⟨ds, h⟩, "list", b, rfl, hk, p⟩
theorem isi_val {d : Dt} {T c : String} {b : Bool} (ht : tyOf (.val d) = some T) (hk : kitB T c = some b) (p : Post (.val (.bl b)) Γ) : IsiP c (.val d) Γ Post :=
  ⟨(fun j e => nomatch e), T, b, ht, hk, p⟩
theorem isi_new {ds : List Dt} {c : String} {b : Bool} (hk : kitB "list" c = some b) (p : Post (.val (.bl b)) Γ) : IsiP c (.new ds) Γ Post :=
  ⟨(fun j e => nomatch e), "list", b, rfl, hk, p⟩
theorem kb_tt : kitB "tuple" "tuple" = some true := by decide +kernel
theorem kb_ll : kitB "list" "list" = some true := by decide +kernel
theorem kb_ii : kitB "int" "int" = some true := by decide +kernel
theorem kb_ib : kitB "int" "bool" = some false := by decide +kernel
theorem kb_bb : kitB "bool" "bool" = some true := by decide +kernel
theorem kb_bi : kitB "bool" "int" = some true := by decide +kernel
theorem kb_ss : kitB "str" "str" = some true := by decide +kernel
theorem kb_sb : kitB "str" "bool" = some false := by decide +kernel
theorem kb_si : kitB "str" "int" = some false := by decide +kernel
theorem kb_tb : kitB "tuple" "bool" = some false := by decide +kernel
theorem kb_ti : kitB "tuple" "int" = some false := by decide +kernel
theorem kb_ts : kitB "tuple" "str" = some false := by decide +kernel
theorem kb_tl : kitB "tuple" "list" = some false := by decide +kernel
theorem kb_lb : kitB "list" "bool" = some false := by decide +kernel
theorem kb_li : kitB "list" "int" = some false := by decide +kernel
theorem kb_ls : kitB "list" "str" = some false := by decide +kernel
theorem kb_lt : kitB "list" "tuple" = some false := by decide +kernel
theorem kb_is : kitB "int" "str" = some false := by decide +kernel
theorem kb_it : kitB "int" "tuple" = some false := by decide +kernel
theorem kb_il : kitB "int" "list" = some false := by decide +kernel
theorem kb_st : kitB "str" "tuple" = some false := by decide +kernel
theorem kb_sl : kitB "str" "list" = some false := by decide +kernel
theorem kb_nb : kitB "NoneType" "bool" = some false := by decide +kernel
theorem kb_ni : kitB "NoneType" "int" = some false := by decide +kernel
theorem kb_ns : kitB "NoneType" "str" = some false := by decide +kernel
theorem kb_nt : kitB "NoneType" "tuple" = some false := by decide +kernel
theorem kb_nl : kitB "NoneType" "list" = some false := by decide +kernel
theorem kb_bs : kitB "bool" "str" = some false := by decide +kernel
theorem kb_bt : kitB "bool" "tuple" = some false := by decide +kernel
theorem kb_bl : kitB "bool" "list" = some false := by decide +kernel
end
inductive Hold (p : Prop) : Prop where
  | a (h : p)
  | b (h : p) (_ : True)
theorem Hold.get {p : Prop} (h : Hold p) : p := by
  cases h with
  | a h => exact h
  | b h _ => exact h
theorem ws_cut {K : PySem.W.Frag} {pin : List Nat} {Γ : List Sl} {P : Ps} {t u : TS} (M : List Sl → Prop) (h : WS K pin t Γ { P with nx := fun G => Hold (M G) }) (k : ∀ G, M G → WS K pin u G P) : WS K pin (tSeq t u) Γ P := ws_seq (ws_mono h (fun G hG => k G hG.get) (fun _ _ h => h) (fun _ h => h) (fun _ h => h))
section
variable {K : PySem.W.Frag} {pin : List Nat} {Γ : List Sl} {P : Ps} {te tl : TE} {tt : TT} {tb : TS} {g : TG} {j : Nat} {Post : Re → List Sl → Prop}
theorem for_range1 {t1 : TA} (n : Int) (Inv : Nat → List Sl → Prop) (h : WD K t1 Γ fun ds Γ1 => Hold (ds = [.int n] ∧ -(2 ^ 62) ≤ n ∧ n < 2 ^ 62 ∧ Inv 0 Γ1))
    (turn : ∀ (i : Nat) G, (i : Int) < n → Inv i G → WG K pin g (.int i) G fun G2 => WS K pin tb G2 ⟨fun G => Hold (Inv (i + 1) G), P.rt, P.nx, fun G => Hold (Inv (i + 1) G), P.ex⟩) (done : ∀ G, Inv n.toNat G → P.nx G) : WS K pin (tFor (iRng1 t1) g tb) Γ P :=
  ws_for1 fun σ B H E Q q => h σ B H E Q fun vs B' H' ds Γ' g k p => q vs B' H' ds Γ' g k (by
    obtain ⟨e, h1, h2, h3⟩ := p.get
    exact ⟨n, e, h1, h2, fun i G => Hold (Inv i G), .a h3, fun i G hi hG => turn i G hi hG.get, fun G hG => done G hG.get⟩)
theorem for_range2 {t1 : TA} (lo m : Int) (Inv : Nat → List Sl → Prop) (h : WD K t1 Γ fun ds Γ1 => Hold (ds = [.int lo, .int m] ∧ (-(2 ^ 62) ≤ lo ∧ lo < 2 ^ 62 ∧ -(2 ^ 62) ≤ m ∧ m < 2 ^ 62) ∧ Inv 0 Γ1))
    (turn : ∀ (i : Nat) G, lo + (i : Int) < m → Inv i G → WG K pin g (.int (lo + i)) G fun G2 => WS K pin tb G2 ⟨fun G => Hold (Inv (i + 1) G), P.rt, P.nx, fun G => Hold (Inv (i + 1) G), P.ex⟩) (done : ∀ G, Inv (m - lo).toNat G → P.nx G) : WS K pin (tFor (iRng2 t1) g tb) Γ P :=
  ws_for2 fun σ B H E Q q => h σ B H E Q fun vs B' H' ds Γ' g k p => q vs B' H' ds Γ' g k (by
    obtain ⟨e, h1, h3⟩ := p.get
    exact ⟨lo, m, e, h1, fun i G => Hold (Inv i G), .a h3, fun i G hi hG => turn i G hi hG.get, fun G hG => done G hG.get⟩)
theorem for_tuple (ds : List Dt) (Inv : Nat → List Sl → Prop) (h : WE K te Γ fun z Γ1 => Hold (z = .val (.tup ds) ∧ Inv 0 Γ1))
    (turn : ∀ (i : Nat) d G, ds[i]? = some d → Inv i G → WG K pin g d G fun G2 => WS K pin tb G2 ⟨fun G => Hold (Inv (i + 1) G), P.rt, P.nx, fun G => Hold (Inv (i + 1) G), P.ex⟩) (done : ∀ G, Inv ds.length G → P.nx G) : WS K pin (tFor (iTup K te) g tb) Γ P :=
  ws_forT (we_mono h fun z Γ1 p => by
    obtain ⟨e, h3⟩ := p.get
    exact ⟨ds, e, fun i G => Hold (Inv i G), .a h3, fun i d G hd hG => turn i d G hd hG.get, fun G hG => done G hG.get⟩)
theorem for_lst (ds : List Dt) (Inv : Nat → List Sl → Prop) (h : WE K te Γ fun z Γ1 => Hold (z.dt? = some (.lst ds) ∧ Inv 0 Γ1))
    (turn : ∀ (i : Nat) d G, ds[i]? = some d → Inv i G → WG K pin g d G fun G2 => WS K pin tb G2 ⟨fun G => Hold (Inv (i + 1) G), P.rt, P.nx, fun G => Hold (Inv (i + 1) G), P.ex⟩) (done : ∀ G, Inv ds.length G → P.nx G) : WS K pin (tFor (iList K te) g tb) Γ P :=
  ws_forL (we_mono h fun z Γ1 p => by
    obtain ⟨e, h3⟩ := p.get
    exact ⟨_, ds, e, rfl, fun i G => Hold (Inv i G), .a h3, fun i d G hd hG => turn i d G hd hG.get, fun G hG => done G hG.get⟩)
theorem for_acc {k : Nat} (ds : List Dt) (Inv : Nat → List Sl → Prop) (h0 : Γ[k]? = some (.acc ds)) (i0 : Inv 0 Γ) (hk : ∀ i G, Inv i G → G[k]? = some (.acc ds))
    (turn : ∀ (i : Nat) d G, ds[i]? = some d → Inv i G → WG K (k :: pin) g d G fun G2 => WS K (k :: pin) tb G2 ⟨fun G => Hold (Inv (i + 1) G), P.rt, P.nx, fun G => Hold (Inv (i + 1) G), P.ex⟩) (done : ∀ G, Inv ds.length G → P.nx G) : WS K pin (tFor (iList K (tVar k)) g tb) Γ P :=
  ws_forA h0 (fun i G => Hold (Inv i G)) (.a i0) (fun i G hG => hk i G hG.get) (fun i d G hd hG => turn i d G hd hG.get) fun G hG => done G hG.get
theorem while_ab (Inv : Nat → List Sl → Prop) (m0 : Nat) (i0 : Inv m0 Γ)
    (turn : ∀ m G, Inv m G → WT K tt G fun z G1 => (z = true → WS K pin tb G1 ⟨fun G => Hold (∃ m', m' < m ∧ Inv m' G), P.rt, P.nx, fun G => Hold (∃ m', m' < m ∧ Inv m' G), P.ex⟩) ∧ (z = false → P.nx G1)) : WS K pin (tWhile tt tb) Γ P :=
  ws_while Inv m0 i0 fun m G hG => wt_mono (turn m G hG) fun b G1 ⟨h1, h2⟩ => ⟨fun e => ws_mono (h1 e) (fun G h => h.get) (fun _ _ h => h) (fun _ h => h) (fun G h => h.get), h2⟩
theorem lc_range2 {t1 : TA} (lo hi : Int) (Inv : Nat → List Dt → List Sl → Prop) (h : WD K t1 Γ fun ds Γ1 => Hold (ds = [.int lo, .int hi] ∧ (-(2 ^ 62) ≤ lo ∧ lo < 2 ^ 62 ∧ -(2 ^ 62) ≤ hi ∧ hi < 2 ^ 62) ∧ (hi - lo).toNat ≤ 1000000 ∧ decide (j < Γ1.length) = true ∧ notAcc Γ1[j]? = true ∧ keepV Γ1[j]? = keepV Γ[j]? ∧ Inv 0 [] Γ1))
    (turn : ∀ (i : Nat) es G, lo + i < hi → Inv i es G → WT K tt (G.set j (.val (.int (lo + i)))) fun b G2 => (b = true → WE K te G2 fun r G3 => ∃ d, r.dt? = some d ∧ Hold (Inv (i + 1) (es ++ [d]) (G3.set j (keepV Γ[j]?)))) ∧ (b = false → Hold (Inv (i + 1) es (G2.set j (keepV Γ[j]?)))))
    (done : ∀ es G, Inv (hi - lo).toNat es G → Post (.new es) G) : WE K (tLc (iRng2 t1) (gName j) tt te [j]) Γ Post :=
  we_lc2 fun σ B H E Q q => h σ B H E Q fun vs B' H' ds Γ1 g k p => q vs B' H' ds Γ1 g k (by
    obtain ⟨e, h0, h1, h2, h3, h4, h5⟩ := p.get
    refine ⟨lo, hi, e, h0, h1, h2, h3, fun i es G => Hold (Inv i es G), .a h5, fun i es G hi hG => ?_, fun es G hG => done es G hG.get⟩
    rw [h4]
    exact turn i es G hi hG.get)
theorem lc_tuple (ds : List Dt) (Inv : Nat → List Dt → List Sl → Prop) (h : WE K tl Γ fun z Γ1 => Hold (z = .val (.tup ds) ∧ ds.length ≤ 1000000 ∧ decide (j < Γ1.length) = true ∧ notAcc Γ1[j]? = true ∧ keepV Γ1[j]? = keepV Γ[j]? ∧ Inv 0 [] Γ1))
    (turn : ∀ (i : Nat) d es G, ds[i]? = some d → Inv i es G → WT K tt (G.set j (.val d)) fun b G2 => (b = true → WE K te G2 fun r G3 => ∃ d, r.dt? = some d ∧ Hold (Inv (i + 1) (es ++ [d]) (G3.set j (keepV Γ[j]?)))) ∧ (b = false → Hold (Inv (i + 1) es (G2.set j (keepV Γ[j]?)))))
    (done : ∀ es G, Inv ds.length es G → Post (.new es) G) : WE K (tLc (iTup K tl) (gName j) tt te [j]) Γ Post :=
  we_lcT (we_mono h fun z Γ1 p => by
    obtain ⟨e, h1, h2, h3, h4, h5⟩ := p.get
    refine ⟨ds, e, h1, h2, h3, fun i es G => Hold (Inv i es G), .a h5, fun i d es G hi hG => ?_, fun es G hG => done es G hG.get⟩
    rw [h4]
    exact turn i d es G hi hG.get)
theorem lc_lst (ds : List Dt) (Inv : Nat → List Dt → List Sl → Prop) (h : WE K tl Γ fun z Γ1 => Hold (z.dt? = some (.lst ds) ∧ ds.length ≤ 1000000 ∧ decide (j < Γ1.length) = true ∧ notAcc Γ1[j]? = true ∧ keepV Γ1[j]? = keepV Γ[j]? ∧ Inv 0 [] Γ1))
    (turn : ∀ (i : Nat) d es G, ds[i]? = some d → Inv i es G → WT K tt (G.set j (.val d)) fun b G2 => (b = true → WE K te G2 fun r G3 => ∃ d, r.dt? = some d ∧ Hold (Inv (i + 1) (es ++ [d]) (G3.set j (keepV Γ[j]?)))) ∧ (b = false → Hold (Inv (i + 1) es (G2.set j (keepV Γ[j]?)))))
    (done : ∀ es G, Inv ds.length es G → Post (.new es) G) : WE K (tLc (iList K tl) (gName j) tt te [j]) Γ Post :=
  we_lcL (we_mono h fun z Γ1 p => by
    obtain ⟨e, h1, h2, h3, h4, h5⟩ := p.get
    refine ⟨_, ds, e, rfl, h1, h2, h3, fun i es G => Hold (Inv i es G), .a h5, fun i d es G hi hG => ?_, fun es G hG => done es G hG.get⟩
    rw [h4]
    exact turn i d es G hi hG.get)
theorem lc_acc {k : Nat} (ds : List Dt) (Inv : Nat → List Dt → List Sl → Prop) (h0 : Γ[k]? = some (.acc ds)) (hn : ds.length ≤ 1000000) (hj : decide (j < Γ.length) = true) (hja : notAcc Γ[j]? = true) (i0 : Inv 0 [] Γ) (hk : ∀ i es G, Inv i es G → G[k]? = some (.acc ds))
    (turn : ∀ (i : Nat) d es G, ds[i]? = some d → Inv i es G → WT K tt (G.set j (.val d)) fun b G2 => (b = true → WE K te G2 fun r G3 => ∃ d, r.dt? = some d ∧ Hold (Inv (i + 1) (es ++ [d]) (G3.set j (keepV Γ[j]?)))) ∧ (b = false → Hold (Inv (i + 1) es (G2.set j (keepV Γ[j]?)))))
    (done : ∀ es G, Inv ds.length es G → Post (.new es) G) : WE K (tLc (iList K (tVar k)) (gName j) tt te [j]) Γ Post :=
  we_lcA h0 hn hj hja (fun i es G => Hold (Inv i es G)) (.a i0) (fun i es G hG => hk i es G hG.get) (fun i d es G hi hG => turn i d es G hi hG.get) fun es G hG => done es G hG.get
theorem for_range1H {t1 : TA} (h : WD K t1 Γ fun ds Γ1 => Hold (∃ n : Int, ds = [.int n] ∧ -(2 ^ 62) ≤ n ∧ n < 2 ^ 62 ∧ ∃ Inv : Nat → List Sl → Prop, Inv 0 Γ1 ∧
      (∀ (i : Nat) Γ', (i : Int) < n → Inv i Γ' → WG K pin g (.int i) Γ' fun Γ2 => WS K pin tb Γ2 ⟨fun G => Hold (Inv (i + 1) G), P.rt, P.nx, fun G => Hold (Inv (i + 1) G), P.ex⟩) ∧ ∀ Γ', Inv n.toNat Γ' → P.nx Γ')) : WS K pin (tFor (iRng1 t1) g tb) Γ P :=
  ws_for1 fun σ B H E Q q => h σ B H E Q fun vs B' H' ds Γ' g k p => q vs B' H' ds Γ' g k (by
    obtain ⟨n, e, h1, h2, Inv, i0, turn, done⟩ := p.get
    exact ⟨n, e, h1, h2, fun i G => Hold (Inv i G), .a i0, fun i G hi hG => turn i G hi hG.get, fun G hG => done G hG.get⟩)
theorem lc_range1H {t1 : TA} (h : WD K t1 Γ fun ds Γ1 => Hold (∃ n : Nat, ds = [.int n] ∧ n ≤ 1000000 ∧ decide (j < Γ1.length) = true ∧ notAcc Γ1[j]? = true ∧ ∃ Inv : Nat → List Dt → List Sl → Prop, Inv 0 [] Γ1 ∧
      (∀ i es Γ', i < n → Inv i es Γ' → WT K tt (Γ'.set j (.val (.int i))) fun b Γ2 => (b = true → WE K te Γ2 fun r Γ3 => ∃ d, r.dt? = some d ∧ Hold (Inv (i + 1) (es ++ [d]) (Γ3.set j (keepV Γ1[j]?)))) ∧ (b = false → Hold (Inv (i + 1) es (Γ2.set j (keepV Γ1[j]?))))) ∧
      ∀ es Γ', Inv n es Γ' → Post (.new es) Γ')) : WE K (tLc (iRng1 t1) (gName j) tt te [j]) Γ Post :=
  we_lc1 fun σ B H E Q q => h σ B H E Q fun vs B' H' ds Γ1 g k p => q vs B' H' ds Γ1 g k (by
    obtain ⟨n, e, h1, h2, h3, Inv, i0, turn, done⟩ := p.get
    exact ⟨n, e, h1, h2, h3, fun i es G => Hold (Inv i es G), .a i0, fun i es G hi hG => turn i es G hi hG.get, fun es G hG => done es G hG.get⟩)
theorem wt_yes {Q : Bool → List Sl → Prop} (p : Q true Γ) : WT K tYes Γ Q := fun σ B H E R q => q true B H Γ (.refl E) p
end
theorem ws_frz {K : PySem.W.Frag} {pin : List Nat} {Γ : List Sl} {P : Ps} {t : TS} (i : Nat) {ds : Cn} (h : Γ[i]? = some (.cel ds)) (k : WS K pin t (Γ.set i (.val ds.dt)) P) : WS K pin t Γ P := fun σ B H D E n r b c xx => by
  obtain ⟨B', g⟩ := go_frz h E
  exact ws_from k g.s n r b c xx
theorem we_sum {K : PySem.W.Frag} {Γ : List Sl} {Post : Re → List Sl → Prop} {te : TE} (h : WE K te Γ fun r Γ1 => Hold (∃ ns : List Int, lstOf Γ1 r = some (ns.map Dt.int) ∧ Post (.val (.int ns.sum)) Γ1)) : WE K (tCB (rSum K) (tCons te tNil)) Γ Post :=
  we_cb1 (we_mono h fun r Γ1 hp => fun σ B H x E kx Q q => by
    obtain ⟨ns, hs, p⟩ := hp.get
    obtain ⟨a, vs, rfl, hq, ha⟩ := rv_lst E kx hs
    have e : vs = ns.map V.int := IsA.rawsI (xs := ns.map V.int) (by rw [List.map_map]; exact ha)
    subst e
    exact ⟨a, ns, rfl, hq, q _ B H _ Γ1 (.refl E) (.raw _) p⟩)
def NormP (Γ : List Sl) (Q : List Sl → Prop) : Prop := Q Γ
theorem norm_intro {Γ Γ' : List Sl} {Q : List Sl → Prop} (e : Γ = Γ') (h : Q Γ') : NormP Γ Q := by
  subst e
  exact h
theorem norm_cons {a a' : Sl} {Γ Γt Γt' : List Sl} (e : Γ = a :: Γt) (ea : a = a') (et : Γt = Γt') : Γ = a' :: Γt' := by
  subst ea et
  exact e
theorem norm_v {d : Dt} : slOf (.val d) = .val d := rfl
theorem norm_n {ds : List Dt} : slOf (.new ds) = .acc ds := rfl
theorem norm_o {i : Nat} : slOf (.own i) = .un := rfl
theorem ws_asgN {K : PySem.W.Frag} {pin : List Nat} {Γ : List Sl} {P : Ps} {te : TE} {i : Nat} (hp : pin.contains i = false) (hi : decide (i < Γ.length) = true) (h : WE K te Γ fun z Γ1 => NormP (Γ1.set i (slOf z)) P.nx) : WS K pin (tAsg te (gName i)) Γ P := ws_asg hp hi h
theorem wg_nameN {K : PySem.W.Frag} {pin : List Nat} {Γ : List Sl} {i : Nat} {d : Dt} {Q : List Sl → Prop} (hp : pin.contains i = false) (hi : decide (i < Γ.length) = true) (p : NormP (Γ.set i (.val d)) Q) : WG K pin (gName i) d Γ Q := wg_name hp hi p
theorem we_appendN {K : PySem.W.Frag} {Γ : List Sl} {te : TE} {i : Nat} {ds0 : List Dt} {Post : Re → List Sl → Prop} (h0 : Γ[i]? = some (.acc ds0)) (h : WE K te Γ fun z Γ1 => ∃ d ds, z.dt? = some d ∧ Γ1[i]? = some (.acc ds) ∧ ds.length < 1000000 ∧ NormP (Γ1.set i (.acc (ds ++ [d]))) (Post (.val .non))) :
    WE K (tBM K "list" rAppend (tVar i) (tCons te tNil)) Γ Post := we_append h0 h
theorem ws_setN {K : PySem.W.Frag} {pin : List Nat} {Γ : List Sl} {P : Ps} {te tj : TE} {i : Nat} (h : WE K te Γ fun z Γ1 => ∃ d, z = .val d ∧ (∃ ds1, Γ1[i]? = some (.acc ds1)) ∧ WE K tj Γ1 fun y Γ2 => ∃ ds k j, y = .val (.int k) ∧ Γ2[i]? = some (.acc ds) ∧ ixN ds.length k = some j ∧ NormP (Γ2.set i (.acc (ds.set j d))) P.nx) :
    WS K pin (tAsg te (gSub (tVar i) tj rSetL)) Γ P := ws_setA h
theorem we_reverseN {K : PySem.W.Frag} {Γ : List Sl} {i : Nat} {ds : List Dt} {Post : Re → List Sl → Prop} (h0 : Γ[i]? = some (.acc ds)) (p : NormP (Γ.set i (.acc ds.reverse)) (Post (.val .non))) : WE K (tBM0 K "list" rReverse (tVar i)) Γ Post := we_reverse h0 p
theorem ws_augN {K : PySem.W.Frag} {pin : List Nat} {Γ : List Sl} {P : Ps} {te : TE} {i : Nat} {f : Int → Int → Int} {a : Int} (hx : Γ[i]? = some (.val (.int a))) (hp : pin.contains i = false) (h : WE K te Γ fun z Γ1 => ∃ b, z = .val (.int b) ∧ NormP (Γ1.set i (.val (.int (f a b)))) P.nx) : WS K pin (tAug i te (ipI f)) Γ P := ws_aug hx hp h
theorem we_callH {K : PySem.W.Frag} {Γ : List Sl} {Post : Re → List Sl → Prop} {ap : AP} {E0 : XK} {ta : TA} (h : WA K ta Γ fun rs Γ1 => nodupB (ownsOf rs) = true ∧ Hold (ap (rs.map (argSl Γ1)) fun r as' => NormP (putBack rs as' Γ1) (Post r))) : WE K (tCall (toSp K ap) [] E0 ta) Γ Post :=
  we_call fun σ B H E Q q => h σ B H E Q fun vs B' H' rs Γ1 g k p => q vs B' H' rs Γ1 g k ⟨p.1, p.2.get⟩
theorem nd_t {c : Prop} [Decidable c] (h : (!decide c) = true) : ¬ c := by
  intro hc
  rw [decide_eq_true hc] at h
  cases h
theorem nd_f {c : Prop} [Decidable c] (h : (!decide c) = false) : c := by
  by_cases hc : c
  · exact hc
  · rw [decide_eq_false hc] at h; cases h
theorem len_map {α β : Type} (f : α → β) (xs : List α) : ((xs.map f).length : Int) = (xs.length : Int) := by rw [List.length_map]
theorem at_map {α β : Type} {f : α → β} {xs : List α} {k : Int} (h0 : 0 ≤ k) (h1 : k < xs.length) (d : α) : atI (xs.map f) k = some (f (xs.getD k.toNat d)) := by
  refine atI_of (j := k.toNat) (by omega) ?_
  rw [List.getElem?_map, List.getD_eq_getElem?_getD, List.getElem?_eq_getElem (by omega)]
  rfl
mutual
def plain : Dt → Bool
  | .raw .non => true
  | .raw (.int _) => true
  | .raw (.str s) => PyData.canLay0 (.str s)
  | .raw _ => false
  | .tup ds => plainAll ds
  | .lst ds => plainAll ds
  | .obj _ _ => false
  | .scr _ => false
  | .dK _ => false
  | .dT _ => false
  | .exn _ _ _ => false
  | .err _ _ => false
  | .dN _ _ => false
def plainAll : List Dt → Bool
  | [] => true
  | d :: ds => plain d && plainAll ds
end
theorem eqv_pair {a b c d : Int} : PyData.eqv (.tuple [.int a, .int b]) (.tuple [.int c, .int d]) = decide (a = c ∧ b = d) := by
  simp only [PyData.eqv, PyData.eqvAll, Bool.and_true]
  rw [Bool.eq_iff_iff]
  simp
theorem shaped_pair {a b : Int} : SeqAt.shaped (.tuple [.int a, .int b]) = true := by
  simp [SeqAt.shaped, PyData.canLay0, PyData.canLayAll0, PyData.depth, PyData.depthAll]
theorem py_pair {Γ : List Sl} {a b : Int} : Re.py Γ (.val (.tup [.int a, .int b])) = some (.tuple [.int a, .int b]) := by
  simp [Re.py, Dt.py, pyAll]
theorem eqp_pair {Γ : List Sl} {Post : Re → List Sl → Prop} {neg : Bool} {a b c d : Int} (k : Post (.val (.bl (neg ^^ decide (a = c ∧ b = d)))) Γ) : EqP neg (.val (.tup [.int a, .int b])) (.val (.tup [.int c, .int d])) Γ Post :=
  eqp_d py_pair py_pair shaped_pair shaped_pair (by rw [eqv_pair]; exact k)
end Ab

namespace Ab
open PySem L2
local macro_rules | `(tactic| walk_at "no") => `(tactic| first
  | exact fun h => Bool.noConfusion (show true = false from h)
  | exact fun h => Bool.noConfusion (show false = true from h)
  | exact fun h => absurd (of_decide_eq_true h) (by omega)
  | exact fun h => absurd (by omega) (of_decide_eq_false h)
  | exact fun h => absurd (by omega) (nd_t h)
  | exact fun h => absurd (nd_f h) (by omega)
  | fail "no")
local macro_rules | `(tactic| walk_at "kb") => `(tactic| first | exact kb_tt | exact kb_ll | exact kb_ii | exact kb_ib | exact kb_ss | exact kb_sb | exact kb_si | exact kb_tb | exact kb_ti | exact kb_ts | exact kb_tl | exact kb_lb | exact kb_li | exact kb_ls | exact kb_lt | exact kb_is | exact kb_it | exact kb_il | exact kb_st | exact kb_sl | exact kb_bb | exact kb_bi | exact kb_nb | exact kb_ni | exact kb_ns | exact kb_nt | exact kb_nl | exact kb_bs | exact kb_bt | exact kb_bl | fail "kb")
local macro_rules | `(tactic| walk_at "norm") => `(tactic| first
  | exact (rfl : _ = ([] : List Sl))
  | ((refine' norm_cons (rfl : _ = _ :: _) ?ea ?et); (case ea => first | exact norm_v | exact norm_n | exact norm_o | exact rfl | fail "norm"); (case et => walk_at "norm"))
  | fail "norm")
local macro_rules | `(tactic| walk_at "x") => `(tactic| first
  | ((with_reducible refine' norm_intro ?hn ?_); (case hn => walk_at "norm"))
  | ((with_reducible refine' we_var ?hh ?_); (case hh => exact rfl))
  | ((with_reducible refine' we_own ?hh ?_); (case hh => exact rfl))
  | with_reducible refine we_c ?_
  | with_reducible refine we_addG ?_
  | with_reducible refine addp_i ?_
  | with_reducible refine we_opI0 ?_
  | with_reducible refine we_opI ?_
  | with_reducible refine we_mulG ?_
  | ((with_reducible refine' mulp_r ?h1 ?_); (case h1 => first | decide | omega | fail "m"))
  | ((with_reducible refine' mulp_l ?h1 ?_); (case h1 => first | decide | omega | fail "m"))
  | with_reducible refine we_neg ?_
  | with_reducible refine we_ltG ?_
  | with_reducible refine ltp_i ?_
  | with_reducible refine we_eqG ?_
  | with_reducible refine we_neG ?_
  | with_reducible refine eqp_i ?_
  | with_reducible refine nep_i ?_
  | with_reducible refine we_ixG ?_
  | ((with_reducible refine' ixp ?h1 ?h2 ?_); (case h1 => exact rfl); (case h2 => exact rfl))
  | with_reducible refine we_lenG ?_
  | ((with_reducible refine' lenp ?hh ?_); (case hh => exact rfl))
  | with_reducible refine we_intG ?_
  | with_reducible refine intp_i ?_
  | with_reducible refine intp_b ?_
  | with_reducible refine we_abs ?_
  | with_reducible refine we_tup ?_
  | with_reducible refine we_lst ?_
  | with_reducible refine we_tuple ?_
  | with_reducible refine we_list ?_
  | with_reducible refine we_sum ?_
  | with_reducible refine we_max2 ?_
  | with_reducible refine we_min2 ?_
  | with_reducible refine wd_cons ?_
  | with_reducible refine wd_nil ?_
  | with_reducible refine wa_cons ?_
  | with_reducible refine wa_nil ?_
  | with_reducible refine we_callH ?_
  | with_reducible refine we_isiG ?_
  | ((with_reducible refine' isi_own ?h1 ?h2 ?_); (case h1 => exact rfl); (case h2 => walk_at "kb"))
  | ((with_reducible refine' isi_val ?h1 ?h2 ?_); (case h1 => exact rfl); (case h2 => walk_at "kb"))
  | ((with_reducible refine' isi_new ?h2 ?_); (case h2 => walk_at "kb"))
  | with_reducible refine we_chainI ?_
  | with_reducible refine we_andV ?_
  | with_reducible refine we_orV ?_
  | with_reducible refine we_notV ?_
  | with_reducible refine wt_test ?_
  | with_reducible refine wt_B ?_
  | with_reducible refine wt_yes ?_
  | with_reducible refine wt_and ?_
  | with_reducible refine wt_or ?_
  | with_reducible refine wt_not ?_
  | ((with_reducible refine' ws_retA ?hh ?_); (case hh => exact rfl))
  | with_reducible refine ws_ret ?_
  | with_reducible refine ws_if ?_
  | with_reducible refine ws_nil ?_
  | with_reducible refine ws_expr ?_
  | with_reducible refine ws_asgN rfl rfl ?_
  | with_reducible refine ws_setN ?_
  | with_reducible refine ws_asgG ?_
  | ((with_reducible refine' wg_tup ?hh ?_); (case hh => exact rfl))
  | with_reducible refine wgs_cons ?_
  | with_reducible refine wgs_nil ?_
  | with_reducible refine wg_nameN rfl rfl ?_
  | ((with_reducible refine' we_appendN ?hh ?_); (case hh => exact rfl))
  | ((with_reducible refine' we_reverseN ?hh ?_); (case hh => exact rfl))
  | ((with_reducible refine' ws_augN ?h1 ?h2 ?_); (case h1 => exact rfl); (case h2 => exact rfl))
  | (refine ⟨_, rfl, ⟨_, rfl⟩, ?_⟩)
  | (refine ⟨_, rfl, ?_⟩)
  | (refine ⟨_, _, _, rfl, rfl, rfl, ?_⟩)
  | (refine ⟨_, _, rfl, rfl, (Nat.le_of_ble_eq_true rfl : _ ≤ _), ?_⟩)
  | (refine ⟨_, _, rfl, rfl, ?_⟩)
  | (refine ⟨(Nat.le_of_ble_eq_true rfl : _ ≤ _), ?_⟩)
  | (refine ⟨(rfl : _ = true), ?_⟩)
  | ((refine' ⟨fun _ => ?_, fun hY => absurd hY ?k2⟩); (case k2 => walk_at "no"))
  | ((refine' ⟨fun hY => absurd hY ?k2, fun _ => ?_⟩); (case k2 => walk_at "no"))
  | (refine ⟨⟨(by omega), (by omega)⟩, ?_⟩)
  | (refine ⟨⟨(by decide), (by decide), (by decide)⟩, ?_⟩)
  | (refine ⟨(by first | decide | omega | fail "c"), ?_⟩)
  | fail "stop")
local macro_rules | `(tactic| walk_at "e") => `(tactic| first | with_reducible refine ws_seq ?_ | walk_at "x" | fail "stop")
local macro_rules | `(tactic| walk_at "xs") => `(tactic| repeat' walk_at "x")
local macro_rules | `(tactic| walk_at "es") => `(tactic| repeat' walk_at "e")
def PoolIs (c : Int) (ds : List Dt) : Prop := ∃ cell flag seed : Int, ds = [.int cell, .int c, .int flag, .int seed, .int 3] ∧ 0 ≤ cell ∧ 0 ≤ seed ∧ seed < 2147483647
def Pool4 (c : Int) (ds : List Dt) : Prop := ∃ cell flag seed : Int, ds = [.int cell, .int c, .int flag, .int seed] ∧ 0 ≤ cell ∧ 0 ≤ seed ∧ seed < 2147483647
def ap_pool4 : AP := fun as Post => ∃ (ns : List Int) (k : Int), as = [.val (.scr ns), .val (.int k)] ∧ 0 ≤ k ∧ k < 1000000 ∧ ∀ ds, Pool4 0 ds → Post (.new ds) as
def ap_take : AP := fun as Post => ∃ ds c n, as = [.acc ds, .val (.int n)] ∧ PoolIs c ds ∧ 0 ≤ c ∧ c < 1000000000 ∧ 0 < n ∧ n < 18446744073709551616 ∧ ∀ ds' g, PoolIs (c + 1) ds' → 0 ≤ g → g < n → Post (.val (.int g)) [.acc ds', .val (.int n)]
def ap_take4 : AP := fun as Post => ∃ ds c n, as = [.acc ds, .val (.int n)] ∧ Pool4 c ds ∧ 0 ≤ c ∧ c < 1000000000 ∧ 0 < n ∧ n < 18446744073709551616 ∧ ∀ ds' g, Pool4 (c + 1) ds' → 0 ≤ g → g < n → Post (.val (.int g)) [.acc ds', .val (.int n)]
def tPool4 (K : PySem.W.Frag) : TS :=
    (tSeq (tAsg (tC (.int 0)) (gName 2))
    (tSeq (tIfS (tTest (tOp (rLtG K) (tVar 1) (tCB (rLenV K) (tCons (tVar 0) tNil)))) (tAsg (tCB rAbs (tCons (tCB rInt1 (tCons (tOp (rIx K) (tVar 0) (tVar 1)) tNil)) tNil)) (gName 2)) tNext)
    (tRet (tLst (tCons (tVar 2) (tCons (tC (.int 0)) (tCons (tCB rInt1 (tCons (tOp rGeI (tVar 2) (tOp rPowI (tC (.int 10)) (tC (.int 18)))) tNil)) (tCons (tOp rModI (tCB rInt1 (tCons (tOp (rAddG K) (tVar 2) (tOp (rMulG K) (tVar 1) (tC (.int 7919)))) tNil)) (tC (.int 2147483647))) tNil))))))))
def tTakeD (K : PySem.W.Frag) : TS :=
    (tSeq (tAsg (tOp (rAddG K) (tOp (rIx K) (tVar 0) (tC (.int 1))) (tC (.int 1))) (gSub (tVar 0) (tC (.int 1)) rSetL))
    (tSeq (tIfS (tAnd (tTest (tOp (rEqG K) (tOp (rIx K) (tVar 0) (tC (.int 2))) (tC (.int 1)))) (tTest (tOp rGtI (tOp (rIx K) (tVar 0) (tC (.int 0))) (tC (.int 0))))) (tSeq (tAsg (tOp rModI (tCB rInt1 (tCons (tOp (rIx K) (tVar 0) (tC (.int 0))) tNil)) (tVar 1)) (gName 2))
    (tSeq (tAsg (tOp rDivI (tOp (rIx K) (tVar 0) (tC (.int 0))) (tVar 1)) (gSub (tVar 0) (tC (.int 0)) rSetL))
    (tRet (tVar 2)))) tNext)
    (tSeq (tAsg (tOp rModI (tCB rInt1 (tCons (tOp (rAddG K) (tOp (rAddG K) (tOp (rMulG K) (tOp (rIx K) (tVar 0) (tC (.int 3))) (tC (.int 48271))) (tOp (rMulG K) (tOp (rIx K) (tVar 0) (tC (.int 1))) (tC (.int 69621)))) (tC (.int 11))) tNil)) (tC (.int 2147483647))) (gName 3))
    (tSeq (tAsg (tOp rModI (tCB rInt1 (tCons (tOp (rAddG K) (tOp (rAddG K) (tOp (rMulG K) (tVar 3) (tC (.int 16807))) (tOp rDivI (tVar 3) (tC (.int 65536)))) (tOp (rMulG K) (tOp (rMulG K) (tOp (rIx K) (tVar 0) (tC (.int 1))) (tOp (rIx K) (tVar 0) (tC (.int 1)))) (tC (.int 40692)))) tNil)) (tC (.int 2147483399))) (gName 4))
    (tRet (tOp rModI (tCB rInt1 (tCons (tVar 4) tNil)) (tVar 1)))))))
theorem run_tPool4 {K : PySem.W.Frag} (as : List Sl) (Post : Re → List Sl → Prop) (h : ap_pool4 as Post) : WS K [] (tPool4 K) (as ++ List.replicate (3 - as.length) .un) ⟨fun G => Post (.val .non) (exitArgs [] G as), fun r G => Post r (exitArgs [] G as), fun _ => False, fun _ => False, .no⟩ := by
  obtain ⟨ns, k, rfl, h0, hk, p⟩ := h
  unfold tPool4
  show WS K [] _ [.val (.scr ns), .val (.int k), .un] _
  walk_at "e"; walk_at "e"; walk_at "e"
  refine ws_cut (fun G => ∃ c : Int, 0 ≤ c ∧ G = [.val (.scr ns), .val (.int k), .val (.int c)]) ?_ ?_
  · walk_at "es"
    refine ⟨fun h1 => ?_, fun h1 => ?_⟩
    · have h1' := of_decide_eq_true h1
      rw [len_map] at h1'
      walk_at "es"
      refine ixp rfl (at_map h0 h1' 0) ?_
      walk_at "es"
      refine .a ⟨_, ?_, rfl⟩
      split <;> omega
    · walk_at "es"
      exact .a ⟨0, Int.le_refl _, rfl⟩
  · rintro G ⟨c, hc, rfl⟩
    walk_at "es"
    exact p _ ⟨_, _, _, rfl, hc, Int.emod_nonneg _ (by decide), Int.emod_lt_of_pos _ (by decide)⟩
theorem run_tTakeD4 {K : PySem.W.Frag} (as : List Sl) (Post : Re → List Sl → Prop) (h : ap_take4 as Post) : WS K [0] (tTakeD K) (as ++ List.replicate (5 - as.length) .un) ⟨fun G => Post (.val .non) (exitArgs [0] G as), fun r G => Post r (exitArgs [0] G as), fun _ => False, fun _ => False, .no⟩ := by
  obtain ⟨ds, c, n, rfl, ⟨cell, flag, seed, rfl, hc, hs, hs2⟩, hc0, hc1, hn, hn2, p⟩ := h
  unfold tTakeD
  show WS K [0] _ [.acc _, .val (.int n), .un, .un, .un] _
  walk_at "e"; walk_at "e"; walk_at "e"; walk_at "e"; walk_at "e"; walk_at "e"; walk_at "e"; walk_at "e"; walk_at "e"; walk_at "e"; walk_at "e"; walk_at "e"
  refine ws_cut (fun G => G = [.acc [.int cell, .int (c + 1), .int flag, .int seed], .val (.int n), .un, .un, .un]) ?_ ?_
  · walk_at "es"
    refine ⟨fun h1 => ?_, fun h1 => ?_⟩
    · walk_at "es"
      refine ⟨fun h2 => ?_, fun h2 => ?_⟩
      · walk_at "es"
        exact p _ _ ⟨_, _, _, rfl, Int.ediv_nonneg hc (by omega), hs, hs2⟩ (Int.emod_nonneg _ (by omega)) (Int.emod_lt_of_pos _ hn)
      · walk_at "es"
        exact .a rfl
    · walk_at "es"
      exact .a rfl
  · rintro G rfl
    walk_at "es"
    exact p _ _ ⟨_, _, _, rfl, hc, hs, hs2⟩ (Int.emod_nonneg _ (by omega)) (Int.emod_lt_of_pos _ hn)
end Ab

namespace Ab
open PySem L2
def isNonR : Re → Bool
  | .val (.raw v) => decide (v = .non)
  | _ => false
theorem we_isN {K : PySem.W.Frag} {Γ : List Sl} {Post : Re → List Sl → Prop} {ta : TE} (h : WE K ta Γ fun r Γ1 => Post (.val (.bl (isNonR r))) Γ1) : WE K (tIsN ta) Γ Post := fun σ B H E Q q => by
  refine h σ B H E _ fun x B1 H1 r Γ1 g k p => ?_
  have e : decide (x = V.non) = isNonR r := by
    cases r with
    | val d =>
      cases d with
      | raw v => cases Is.rawI k; rfl
      | tup ds => obtain ⟨a, xs, rfl, _⟩ := Is.tupR k; rfl
      | lst ds => obtain ⟨a, xs, rfl, _⟩ := Is.lstR k; rfl
      | obj C fs => cases k; rfl
      | scr ns => cases k; rfl
      | dK es => cases k; rfl
      | dT es => cases k; rfl
      | exn a d fs => cases k <;> rfl
      | err C fs => cases k <;> rfl
      | dN w es => cases k; rfl
    | nw ds => obtain ⟨l, vs, rfl, _⟩ := k; rfl
    | own i => obtain ⟨l, rfl, _⟩ := k; rfl
  rw [e]
  exact q _ B1 H1 _ Γ1 g (.raw _) p
theorem we_notN {K : PySem.W.Frag} {Γ : List Sl} {Post : Re → List Sl → Prop} {ta : TE} (h : WE K ta Γ fun r Γ1 => Post (.val (.bl (!isNonR r))) Γ1) : WE K (tNotN ta) Γ Post := fun σ B H E Q q => by
  refine h σ B H E _ fun x B1 H1 r Γ1 g k p => ?_
  have e : decide (x = V.non) = isNonR r := by
    cases r with
    | val d =>
      cases d with
      | raw v => cases Is.rawI k; rfl
      | tup ds => obtain ⟨a, xs, rfl, _⟩ := Is.tupR k; rfl
      | lst ds => obtain ⟨a, xs, rfl, _⟩ := Is.lstR k; rfl
      | obj C fs => cases k; rfl
      | scr ns => cases k; rfl
      | dK es => cases k; rfl
      | dT es => cases k; rfl
      | exn a d fs => cases k <;> rfl
      | err C fs => cases k <;> rfl
      | dN w es => cases k; rfl
    | nw ds => obtain ⟨l, vs, rfl, _⟩ := k; rfl
    | own i => obtain ⟨l, rfl, _⟩ := k; rfl
  rw [e]
  exact q _ B1 H1 _ Γ1 g (.raw _) p
end Ab

set_option maxHeartbeats 2000000
namespace Ab
open PySem L2
def rJoin (K : PySem.W.Frag) : V → List V → Hp → VK → Prop := fun x xs H Q => ∃ a p, ∃ ys : List Str, x = .str a ∧ xs = [.ref p] ∧ (SqL K H p (ys.map V.str) ∨ SqT K H p (ys.map V.str)) ∧
  (ys.map (·.length)).sum + ys.length * a.length ≤ 16777216 ∧ Q (.str (Txt.join a ys)) H
theorem rawsI_str {K : PySem.W.Frag} {B : Hp} {vs : List V} {ys : List Str} (h : IsA K B vs (ys.map Dt.str)) : vs = ys.map V.str := by
  have : ys.map Dt.str = (ys.map V.str).map Dt.raw := by rw [List.map_map]; rfl
  rw [this] at h
  exact h.rawsI
theorem we_join {K : PySem.W.Frag} {Γ : List Sl} {Post : Re → List Sl → Prop} {to te : TE} (h : WE K to Γ fun r Γ1 => ∃ a : Str, r = .val (.str a) ∧ WE K te Γ1 fun z Γ2 => Hold (∃ ys : List Str, lstOf Γ2 z = some (ys.map Dt.str) ∧ (ys.map (·.length)).sum + ys.length * a.length ≤ 16777216 ∧ Post (.val (.str (Txt.join a ys))) Γ2)) :
    WE K (tM1 (rJoin K) to te) Γ Post := fun σ B H E Q q => by
  refine h σ B H E _ fun x B1 H1 r Γ1 g1 k1 p1 => ?_
  obtain ⟨a, rfl, p1⟩ := p1
  cases Is.rawI k1
  refine ⟨⟨a, rfl⟩, ?_⟩
  refine p1 σ B1 H1 g1.env _ fun y B2 H2 z Γ2 g2 k2 p2 => ?_
  obtain ⟨ys, hl, hz, p⟩ := p2.get
  obtain ⟨b, vs, rfl, hq, ha⟩ := rv_lst g2.env k2.rv hl
  rw [rawsI_str ha] at hq
  exact ⟨a, b, ys, rfl, rfl, .inl hq, hz, q _ B2 H2 _ Γ2 (g1.trans g2) (.raw _) p⟩
def rGtS : R2 := fun x y H Q => ∃ i j : Str, x = .str i ∧ y = .str j ∧ Q (.bl (decide (j.cps.toList < i.cps.toList))) H
theorem we_gtS {K : PySem.W.Frag} {Γ : List Sl} {Post : Re → List Sl → Prop} {ta tb : TE} (h : WE K ta Γ fun ra Γ1 => WE K tb Γ1 fun rb Γ2 => ∃ s t : Str, ra = .val (.str s) ∧ rb = .val (.str t) ∧ Post (.val (.bl (decide (t.cps.toList < s.cps.toList)))) Γ2) : WE K (tOp rGtS ta tb) Γ Post :=
  we_two' (we_mono h fun ra Γ1 h1 => we_mono h1 fun rb Γ2 hp => fun σ B H x y E kx ky Q q => by
    obtain ⟨s, t, rfl, rfl, p⟩ := hp
    cases Is.rawI kx; cases Is.rawI ky
    exact ⟨s, t, rfl, rfl, q _ B H _ Γ2 (.refl E) (.raw _) p⟩)
def KTup (K : PySem.W.Frag) (a : Addr) (xs : List V) : Prop := ∃ (o : Obj) (its : Array Value) (n : Nat), K.lookup a = some o ∧ o.cls = .type "tuple" ∧ o.data = .seq its n ∧ its.size ≤ sizeLine ∧ Vals xs its.toList
theorem we_ktup {K : PySem.W.Frag} {Γ : List Sl} {Post : Re → List Sl → Prop} {c : Addr} {xs : List V} (h : KTup K c xs) (p : Post (.val (.tup (xs.map Dt.raw))) Γ) : WE K (tC (.ref c)) Γ Post := fun σ B H E Q q => by
  have ha : IsA K B xs (xs.map Dt.raw) := IsA.raws
  exact q _ B H (.val _) Γ (.refl E) (Is.tup (.inr h) ha.len ha.at_) p
theorem we_extend {K : PySem.W.Frag} {Γ : List Sl} {te : TE} {i : Nat} {ds0 : List Dt} {Post : Re → List Sl → Prop} (h0 : Γ[i]? = some (.acc ds0)) (h : WE K te Γ fun z Γ1 => ∃ es ds, lstOf Γ1 z = some es ∧ z.isScr = false ∧ Γ1[i]? = some (.acc ds) ∧ ds.length + es.length ≤ 1000000 ∧ NormP (Γ1.set i (.acc (ds ++ es))) (Post (.val .non))) :
    WE K (tBM K "list" rExtend (tVar i) (tCons te tNil)) Γ Post := fun σ B H E Q q => by
  obtain ⟨l, vs, e0, e1, e2, k0⟩ := E.acc i ds0 h0
  refine ⟨.ref l, e0, .inl ⟨rfl, vs, .inl (.inl e1)⟩, ?_⟩
  refine h σ B H E _ fun y B1 H1 z Γ1 g k p => ?_
  obtain ⟨es, ds, hl, hs, hi, hz, p⟩ := p
  obtain ⟨l', us, f0, f1, f2, k1⟩ := g.env.acc i ds hi
  rw [e0] at f0; cases f0
  obtain ⟨b, zs, rfl, hb, kz⟩ := rv_lstH g.env k.rv hl hs
  refine ⟨l, b, us, zs, rfl, rfl, f1, hb, Nat.le_trans (by rw [k1.len, kz.len]; exact hz) (by decide), ?_⟩
  have g2 := Go.put g.env hi e0 (k1.append kz)
  exact q .non B1 _ (.val .non) _ (g.trans g2) (Is.raw _) p
end Ab

namespace Ab
open PySem L2
section
variable {K : PySem.W.Frag} {B H : Hp} {v : V} {C : Addr} {gs : List (Str × Dt)}
theorem Is.objR (h : Is K B v (.obj C gs)) : ∃ a dx fs, v = .ref a ∧ B a = some (.ins C dx fs) ∧ (∀ f : Str, (fs.lookup f).isSome = (gs.lookup f).isSome) ∧ ∀ (f : Str) w d, fs.lookup f = some w → gs.lookup f = some d → Is K B w d := by
  cases h with
  | obj h hk hi => exact ⟨_, _, _, rfl, h, hk, hi⟩
theorem lk_none {f : Str} {fs : List (Str × V)} (hk : (fs.lookup f).isSome = (gs.lookup f).isSome) (h : gs.lookup f = none) : fs.lookup f = none := by
  rw [h] at hk
  cases q : fs.lookup f with
  | none => rfl
  | some w => rw [q] at hk; cases hk
theorem lk_some {f : Str} {fs : List (Str × V)} {d : Dt} (hk : (fs.lookup f).isSome = (gs.lookup f).isSome) (h : gs.lookup f = some d) : ∃ w, fs.lookup f = some w := by
  rw [h] at hk
  cases q : fs.lookup f with
  | none => rw [q] at hk; cases hk
  | some w => exact ⟨w, rfl⟩
end
section
variable {K : PySem.W.Frag} {Γ : List Sl} {Post : Re → List Sl → Prop} {ta tb te : TE}
theorem asOk_val {σ : L2.St} {m m' : Addr → Prop} {B' H H' : Hp} {vs : List V} {ds : List Dt} (h : IsA K B' vs ds) : AsOk K σ m m' B' H H' vs (ds.map Re.val) := by
  refine ⟨by rw [h.len, List.length_map], fun i v r a b => ?_, fun i j es fs l a => ?_⟩
  · rw [List.getElem?_map] at b
    cases q : ds[i]? with
    | none => rw [q] at b; cases b
    | some d => rw [q] at b; cases b; exact h.at_ i v d a q
  · rw [List.getElem?_map] at a
    cases q : ds[i]? with
    | none => rw [q] at a; cases a
    | some d => rw [q] at a; cases a
theorem owns_vals : ∀ ds : List Dt, ownsOf (ds.map Re.val) = []
  | [] => rfl
  | d :: r => by show ownsOf (Re.val d :: r.map Re.val) = []; exact owns_vals r
theorem back_vals : ∀ (ds : List Dt) (as G : List Sl), putBack (ds.map Re.val) as G = G
  | [], as, G => by cases as <;> rfl
  | d :: r, [], G => rfl
  | d :: r, s :: t, G => back_vals r t G
theorem args_vals {Γ : List Sl} (ds : List Dt) : (ds.map Re.val).map (argSl Γ) = ds.map Sl.val := by rw [List.map_map]; rfl
theorem we_meth {m : Str} {C : Addr} {ap : AP} {E0 : XK} {t : TA} (h : WE K ta Γ fun r Γ1 => ∃ gs, r = .val (.obj C gs) ∧ gs.lookup m = none ∧ WD K t Γ1 fun ds Γ2 => Hold (ap (.val (.obj C gs) :: ds.map Sl.val) fun r as' => Post r Γ2)) : WE K (tMeth C m (toSp K ap) [] E0 ta t) Γ Post := fun σ B H E Q q => by
  refine h σ B H E _ fun x B1 H1 r Γ1 g1 k1 p1 => ?_
  obtain ⟨gs, rfl, hl, p1⟩ := p1
  obtain ⟨a, dx, fs, rfl, hb, hk, hi⟩ := Is.objR k1
  refine ⟨a, dx, fs, rfl, g1.env.bh _ _ hb, lk_none (hk m) hl, ?_⟩
  refine p1 σ B1 H1 g1.env _ fun vs B2 H2 ds Γ2 g2 k2 p2 => ?_
  rw [List.append_nil]
  have k3 : IsA K B2 (V.ref a :: vs) (.obj C gs :: ds) := .cons (Is.mono g2.mv.bb k1) k2
  refine call_core E (g1.trans g2) (asOk_val k3) (by rw [owns_vals]; rfl) (Post := Post) ?_ q
  rw [args_vals]
  simp only [back_vals]
  exact p2.get
def rOwn (C : Addr) (sp : Sp) (E : XK) : R2 := fun x y H Q => ∃ a b dx dy fs gs, x = .ref a ∧ y = .ref b ∧ H a = some (.ins C dx fs) ∧ H b = some (.ins C dy gs) ∧ sp [x, y] H Q E
theorem we_own2 {C : Addr} {ap : AP} {E0 : XK} (h : WE K ta Γ fun ra Γ1 => ∃ gs, ra = .val (.obj C gs) ∧ WE K tb Γ1 fun rb Γ2 => ∃ hs, rb = .val (.obj C hs) ∧ Hold (ap [.val (.obj C gs), .val (.obj C hs)] fun r as' => Post r Γ2)) : WE K (tOp (rOwn C (toSp K ap) E0) ta tb) Γ Post := fun σ B H E Q q => by
  refine h σ B H E _ fun x B1 H1 ra Γ1 g1 k1 p1 => ?_
  obtain ⟨gs, rfl, p1⟩ := p1
  refine p1 σ B1 H1 g1.env _ fun y B2 H2 rb Γ2 g2 k2 p2 => ?_
  obtain ⟨hs, rfl, p2⟩ := p2
  have k1' := Is.mono g2.mv.bb k1
  obtain ⟨a, dx, fs, rfl, hb, _, _⟩ := Is.objR k1'
  obtain ⟨b, dy, fs', rfl, hb', _, _⟩ := Is.objR k2
  refine ⟨a, b, dx, dy, fs, fs', rfl, rfl, g2.env.bh _ _ hb, g2.env.bh _ _ hb', ?_⟩
  have k3 : IsA K B2 [V.ref a, V.ref b] [.obj C gs, .obj C hs] := .cons k1' (.cons k2 .nil)
  refine call_core E (g1.trans g2) (asOk_val k3) rfl (Post := Post) ?_ q
  rw [args_vals]
  simp only [back_vals]
  exact p2.get
structure ClsOk (K : PySem.W.Frag) (C : Addr) : Prop where
  cl : Cls K C
  ha : PySem.W.findIn K (.ref C) "__class__" = some (some (.builtin "object.__class__"))
  hn : PySem.W.specialIn K (.builtin "object.__class__") "__get__" = some (some (.builtin "getset_descriptor.__get__"))
  ht : PySem.W.takesIn K (.builtin "object.__class__") = some true
  hm : PySem.W.mroIn K C (.type "object") = some true
end
structure FsIs (K : PySem.W.Frag) (B : Hp) (fs : List (Str × V)) (gs : List (Str × Dt)) : Prop where
  len : fs.length ≤ gs.length
  hk : ∀ f : Str, (fs.lookup f).isSome = (gs.lookup f).isSome
  hi : ∀ (f : Str) v d, fs.lookup f = some v → gs.lookup f = some d → Is K B v d
theorem putF_len (f : Str) (v : V) : ∀ fs : List (Str × V), (putF f v fs).length ≤ fs.length + 1
  | [] => by simp [putF]
  | (g, x) :: r => by
    unfold putF
    split
    · simp
    · have := putF_len f v r
      simp only [List.length_cons]
      omega
theorem FsIs.mono {K : PySem.W.Frag} {B B' : Hp} {fs : List (Str × V)} {gs : List (Str × Dt)} (e : Same B B') (h : FsIs K B fs gs) : FsIs K B' fs gs := ⟨h.len, h.hk, fun f v d a b => (h.hi f v d a b).mono e⟩
theorem FsIs.put {K : PySem.W.Frag} {B : Hp} {fs : List (Str × V)} {gs : List (Str × Dt)} {f : Str} {v : V} {d : Dt} (h : FsIs K B fs gs) (hn : gs.lookup f = none) (hv : Is K B v d) : FsIs K B (putF f v fs) (gs ++ [(f, d)]) := by
  have lk : ∀ g : Str, (gs ++ [(f, d)]).lookup g = if g = f then some d else gs.lookup g := fun g => by
    by_cases hg : g = f
    · subst hg
      rw [if_pos rfl]
      clear h
      induction gs with
      | nil => simp [List.lookup]
      | cons x r ih =>
        obtain ⟨k, y⟩ := x
        have hgk : (g == k) = false := by
          cases q : g == k with
          | false => rfl
          | true => simp only [List.lookup, q] at hn; cases hn
        simp only [List.lookup, hgk] at hn
        simp only [List.cons_append, List.lookup, hgk]
        exact ih hn
    · rw [if_neg hg]
      clear h hn
      have hb : (g == f) = false := beq_eq_false_iff_ne.mpr hg
      induction gs with
      | nil => simp [List.lookup, hb]
      | cons x r ih =>
        obtain ⟨k, y⟩ := x
        cases q : g == k with
        | false => simp only [List.cons_append, List.lookup, q]; exact ih
        | true => simp only [List.cons_append, List.lookup, q]
  refine ⟨?_, fun g => ?_, fun g w e a b => ?_⟩
  · have := putF_len f v fs
    have := h.len
    rw [List.length_append, List.length_singleton]
    omega
  · rw [lookup_putF, lk]
    split
    · rfl
    · exact h.hk g
  · rw [lookup_putF] at a
    rw [lk] at b
    split at a
    · rename_i hg
      rw [if_pos hg] at b
      cases a; cases b
      exact hv
    · rename_i hg
      rw [if_neg hg] at b
      exact h.hi g w e a b
abbrev AI := List Dt → (List (Str × Dt) → Prop) → Prop
def toSpI (K : PySem.W.Frag) (C : Addr) (ai : AI) : Sp := fun vs H Q _ => ∃ x dx ws B ds Post, vs = V.ref x :: ws ∧ H x = some (.ins C dx []) ∧ B x = none ∧ Same B H ∧ IsA K B ws ds ∧ ai ds Post ∧
  ∀ B' H' fs gs, Mv (fun a => a = x) B H B' H' → Same B' H' → H' x = some (.ins C dx fs) → B' x = none → FsIs K B' fs gs → Post gs → Q .non H'
structure Mg (K : PySem.W.Frag) (C x dx : Addr) (σ : L2.St) (B H : Hp) (Γ : List Sl) (gs : List (Str × Dt)) : Prop where
  env : Env K B H σ Γ
  sl : σ[0]? = some (some (.ref x))
  un : Γ[0]? = some .un
  no : ¬ Own σ Γ x
  hx : ∃ fs, H x = some (.ins C dx fs) ∧ FsIs K B fs gs
  bx : B x = none
structure GoI (K : PySem.W.Frag) (C x dx : Addr) (σ : L2.St) (B H : Hp) (Γ : List Sl) (σ' : L2.St) (B' H' : Hp) (Γ' : List Sl) (gs' : List (Str × Dt)) : Prop where
  mv : Mv (fun a => Own σ Γ a ∨ a = x) B H B' H'
  new : ∀ a, Own σ' Γ' a → Own σ Γ a ∨ H a = none
  mg : Mg K C x dx σ' B' H' Γ' gs'
theorem GoI.trans {K : PySem.W.Frag} {C x dx : Addr} {σ σ1 σ2 : L2.St} {B H B1 H1 B2 H2 : Hp} {Γ Γ1 Γ2 : List Sl} {gs1 gs2 : List (Str × Dt)} (a : GoI K C x dx σ B H Γ σ1 B1 H1 Γ1 gs1) (b : GoI K C x dx σ1 B1 H1 Γ1 σ2 B2 H2 Γ2 gs2) : GoI K C x dx σ B H Γ σ2 B2 H2 Γ2 gs2 :=
  ⟨a.mv.trans (fun c hc => hc.elim (fun h => (a.new c h).imp .inl id) fun h => .inl (.inr h)) b.mv, fun c h => (b.new c h).elim (fun z => a.new c z) fun z => (a.mv.back z).elim (fun q => q.elim .inl fun e => by
    subst e
    obtain ⟨fs, hf, _⟩ := a.mg.hx
    rw [hf] at z; cases z) .inr, b.mg⟩
def WI (K : PySem.W.Frag) (C : Addr) (t : TS) (Γ : List Sl) (gs : List (Str × Dt)) (P : List (Str × Dt) → List Sl → Prop) : Prop := ∀ σ B H (D : Ends) x dx, Mg K C x dx σ B H Γ gs →
  (∀ σ' B' H' Γ' gs', GoI K C x dx σ B H Γ σ' B' H' Γ' gs' → P gs' Γ' → D.nx σ' H') → t D σ H
section
variable {K : PySem.W.Frag} {C : Addr} {Γ : List Sl} {gs : List (Str × Dt)} {P : List (Str × Dt) → List Sl → Prop} {t u : TS} {te : TE}
theorem wi_seq (h : WI K C t Γ gs fun gs1 Γ1 => WI K C u Γ1 gs1 P) : WI K C (tSeq t u) Γ gs P := fun σ B H D x dx M n =>
  h σ B H { D with nx := u D } x dx M fun σ1 B1 H1 Γ1 gs1 g p => p σ1 B1 H1 D x dx g.mg fun σ2 B2 H2 Γ2 gs2 g2 p2 => n σ2 B2 H2 Γ2 gs2 (g.trans g2) p2
theorem wi_set {f : Str} (cl : Cls K C) (na : NoAttr K C f) (hl : gs.lookup f = none) (hz : gs.length < 900) (h : WE K te Γ fun r Γ1 => ∃ d, r.dt? = some d ∧ Γ1[0]? = some .un ∧ P (gs ++ [(f, d)]) Γ1) : WI K C (sFld K (tVar 0) te f) Γ gs P := fun σ B H D x dx M n => by
  have h' : WE K te Γ fun r Γ1 => ∃ d, r = .val d ∧ Γ1[0]? = some .un ∧ P (gs ++ [(f, d)]) Γ1 := we_freeze (we_mono h fun r Γ1 ⟨d, hd, r2⟩ => ⟨d, hd, d, rfl, r2⟩)
  refine h' σ B H M.env _ fun y B1 H1 r Γ1 g k p => ?_
  obtain ⟨d, rfl, h0, p⟩ := p
  obtain ⟨fs, hx, hf⟩ := M.hx
  have hx1 : H1 x = some (.ins C dx fs) := g.mv.kp x _ M.no hx
  have bx1 : B1 x = none := g.mv.off x M.no (by rw [hx]; exact fun z => nomatch z) M.bx
  have no1 : ¬ Own σ Γ1 x := fun z => M.no (g.sub x z)
  refine ⟨.ref x, M.sl, x, C, dx, fs, rfl, hx1, cl, na, Nat.lt_of_le_of_lt hf.len (by omega), ?_⟩
  have hd : Is K B1 y d := k
  have E2 : Env K B1 (upd H1 x (.ins C dx (putF f y fs))) σ Γ1 := by
    refine ⟨g.env.len, fun a o e => ?_, g.env.val, fun i es hi => ?_, g.env.sep⟩
    · have : a ≠ x := fun z => by subst z; rw [bx1] at e; cases e
      rw [upd_ne this]; exact g.env.bh a o e
    · obtain ⟨l, vs, e1, e2, e3, e4⟩ := g.env.cel i es hi
      have : l ≠ x := fun z => by subst z; rw [hx1] at e2; cases e2; cases es <;> (obtain ⟨_, z, _⟩ := e4; cases z)
      exact ⟨l, vs, e1, by rw [upd_ne this]; exact e2, e3, e4⟩
  refine n σ B1 _ Γ1 (gs ++ [(f, d)]) ⟨⟨fun a o na' e => ?_, g.mv.bb, fun a na' ha hb => ?_⟩, fun a h => .inl (g.sub a h), ⟨E2, M.sl, h0, no1, ⟨_, upd_same, (hf.mono g.mv.bb).put hl hd⟩, bx1⟩⟩ p
  · have h1 : ¬ Own σ Γ a := fun z => na' (.inl z)
    have h2 : a ≠ x := fun z => na' (.inr z)
    rw [upd_ne h2]; exact g.mv.kp a o h1 e
  · exact g.mv.off a (fun z => na' (.inl z)) ha hb
variable {Pg : Program} {w : World} {mg : Str → Option Value} {base : Heap}
theorem env_vals {B H : Hp} {vs : List V} {ds : List Dt} (hb : Same B H) (h : IsA K B vs ds) : Env K B H (vs.map some) (ds.map Sl.val) := by
  have na : ∀ {i : Nat} {es : Cn}, (ds.map Sl.val)[i]? = some (.cel es) → False := fun {i es} e => by
    rw [List.getElem?_map] at e
    cases q : ds[i]? with
    | none => rw [q] at e; cases e
    | some d => rw [q] at e; cases e
  refine ⟨by rw [List.length_map, List.length_map, h.len], hb, fun i d e => ?_, fun i es e => (na e).elim, fun i j es fs l e => (na e).elim⟩
  rw [List.getElem?_map] at e
  cases q : ds[i]? with
  | none => rw [q] at e; cases e
  | some d' =>
    rw [q] at e; cases e
    obtain ⟨v, hv, k⟩ := h.get q
    exact ⟨v, by rw [List.getElem?_map, hv]; rfl, k⟩
theorem fn_init {x qual : Str} {st : Stmt} {f : Addr} {fd : FuncData} {N ps : List Str} {k : Nat} {ai : AI} (F : Fun K x qual st f fd) (S : FnScope N ps (defScope st))
    (hlen : ∀ ds Post, ai ds Post → ds.length + 1 = ps.length) (hN : decide (ps.length ≤ N.length) = true)
    (body : ∀ (cdv : Value) (A : Around) (outer : List PySem.Env) (s : Shared) (H : Hp) (E : XK), Room k (A.deeper (PyProof.Rows.envOfC qual (defScope st) s.heap.objs.size f cdv)) →
      ∃ t, PSs (cxOf CX0 Pg w K mg base N qual (defScope st) f cdv A outer s H E).nox (defBody st) t ∧
        ∀ ds Post, ai ds Post → WI K C t ((.un :: ds.map Sl.val) ++ List.replicate (N.length - (ds.length + 1)) .un) [] (fun gs _ => Post gs)) :
    FnOk Pg w K mg base CX0 (k + 1) f fd ps (toSpI K C ai) := by
  refine F.ok S (fun vs H Q E h => ?_) (fun cdv A outer s H vs Q E hr h => ?_)
  · obtain ⟨x, dx, ws, B, ds, Post, rfl, _, _, _, ha, hai, _⟩ := h
    rw [List.length_cons, ha.len]; exact hlen ds Post hai
  · obtain ⟨x, dx, ws, B, ds, Post, rfl, hx, bx, hbh, ha, hai, q⟩ := h
    obtain ⟨t, ht, hw⟩ := body cdv A outer s H E hr
    refine ⟨t, ht, ?_⟩
    have E1 : Env K B H ((V.ref x :: ws).map some) (.un :: ds.map Sl.val) := by
      have e := env_vals hbh ha
      refine ⟨by simp [ha.len], hbh, fun i d h => ?_, fun i es h => ?_, fun i j es fs l h1 h2 h3 h4 => ?_⟩
      · cases i with
        | zero => cases h
        | succ i => exact e.val i d (by simpa using h)
      · cases i with
        | zero => cases h
        | succ i => exact e.cel i es (by simpa using h)
      · cases i with
        | zero => cases h1
        | succ i =>
          cases j with
          | zero => cases h2
          | succ j => exact congrArg Nat.succ (e.sep i j es fs l (by simpa using h1) (by simpa using h2) (by simpa using h3) (by simpa using h4))
    have hps : (Sl.un :: ds.map Sl.val).length ≤ N.length := by
      rw [List.length_cons, List.length_map, hlen ds Post hai]; exact of_decide_eq_true hN
    have E0 := env_start E1 hps
    have no : ∀ a, ¬ Own (L2.start N (V.ref x :: ws)) ((Sl.un :: ds.map Sl.val) ++ List.replicate (N.length - (Sl.un :: ds.map Sl.val).length) .un) a := fun a z => by
      have := (own_start (N := N) (vs := V.ref x :: ws) (as := Sl.un :: ds.map Sl.val) (by simp [ha.len])).mp z
      obtain ⟨i, es, h1, h2⟩ := this
      cases i with
      | zero => cases h1
      | succ i =>
        have h1 : (ds.map Sl.val)[i]? = some (.cel es) := by simpa using h1
        rw [List.getElem?_map] at h1
        cases q : ds[i]? with
        | none => rw [q] at h1; cases h1
        | some d => rw [q] at h1; cases h1
    have hlN : (Sl.un :: ds.map Sl.val).length = ds.length + 1 := by rw [List.length_cons, List.length_map]
    rw [hlN] at E0 no
    refine hw ds Post hai (L2.start N (V.ref x :: ws)) B H _ x dx ⟨E0, rfl, rfl, no x, ⟨[], hx, ⟨Nat.le_refl _, fun _ => rfl, fun _ _ _ z => by cases z⟩⟩, bx⟩ fun σ' B' H' Γ' gs' g p => ?_
    obtain ⟨fs, e1, e2⟩ := g.mg.hx
    exact q B' H' fs gs' ⟨fun a o na e => g.mv.kp a o (fun z => z.elim (no a) na) e, g.mv.bb, fun a na ha hb => g.mv.off a (fun z => z.elim (no a) na) ha hb⟩ g.mg.env.bh e1 g.mg.bx e2 p
theorem we_make {Post : Re → List Sl → Prop} {ai : AI} {E0 : XK} {t : TA} (h : WD K t Γ fun ds Γ1 => Hold (ai ds fun gs => Post (.val (.obj C gs)) Γ1)) : WE K (tMake C (toSpI K C ai) [] E0 t) Γ Post := fun σ B H E Q q => by
  refine h σ B H E _ fun vs B1 H1 ds Γ1 g1 k1 p1 => ?_
  intro x dx hx hdx hne
  rw [List.append_nil]
  have hxx : upd (upd H1 dx (.own x)) x (.ins C dx []) x = some (.ins C dx []) := upd_same
  have b1x : B1 x = none := g1.env.base_none hx
  have s12 : ∀ a o, H1 a = some o → upd (upd H1 dx (.own x)) x (.ins C dx []) a = some o := fun a o e => by
    rw [upd_ne (ne_of_none e hx), upd_ne (ne_of_none e hdx)]; exact e
  refine ⟨x, dx, vs, B1, ds, _, rfl, hxx, b1x, fun a o e => s12 a o (g1.env.bh a o e), k1, p1.get, fun B' H' fs gs mv sb hx' bx' hf p => ⟨rfl, ?_⟩⟩
  have sBB : Same B' (upd B' x (.ins C dx fs)) := fun a o e => by rw [upd_ne (ne_of_none e bx')]; exact e
  have kept : ∀ a o, H1 a = some o → H' a = some o := fun a o e => mv.kp a o (fun z => by subst z; rw [hx] at e; cases e) (s12 a o e)
  have offB : ∀ a, H1 a ≠ none → B1 a = none → B' a = none := fun a ha hb => by
    have hne : a ≠ x := fun z => by subst z; exact ha hx
    refine mv.off a hne ?_ hb
    cases qq : H1 a with
    | none => exact absurd qq ha
    | some o => rw [s12 a o qq]; exact fun z => nomatch z
  have E2 : Env K (upd B' x (.ins C dx fs)) H' σ Γ1 := by
    refine ⟨g1.env.len, fun a o e => ?_, fun i d hi => ?_, fun i es hi => ?_, g1.env.sep⟩
    · by_cases ha : a = x
      · subst ha; rw [upd_same] at e; cases e; exact hx'
      · rw [upd_ne ha] at e; exact sb a o e
    · obtain ⟨v, e1, e2⟩ := g1.env.val i d hi
      exact ⟨v, e1, e2.mono (mv.bb.trans sBB)⟩
    · obtain ⟨l, us, e1, e2, e3, e4⟩ := g1.env.cel i es hi
      have hl : l ≠ x := fun z => by subst z; rw [hx] at e2; cases e2
      exact ⟨l, us, e1, kept l _ e2, by rw [upd_ne hl]; exact offB l (by rw [e2]; exact fun z => nomatch z) e3, e4.mono (mv.bb.trans sBB)⟩
  have g2 : Go K σ B1 H1 Γ1 (upd B' x (.ins C dx fs)) H' Γ1 := by
    refine ⟨⟨fun a o _ e => kept a o e, mv.bb.trans sBB, fun a na ha hb => ?_⟩, fun i es hi => ⟨es, hi⟩, E2⟩
    have hne : a ≠ x := fun z => by subst z; exact ha hx
    rw [upd_ne hne]; exact offB a ha hb
  have hf' := hf.mono sBB
  exact q (.ref x) _ H' (.val (.obj C gs)) Γ1 (g1.trans g2) (Is.obj upd_same hf'.hk hf'.hi) p
end
theorem lk_hit {f : Str} {d : Dt} {r : List (Str × Dt)} : List.lookup f ((f, d) :: r) = some d := by
  have hb : (f == f) = true := beq_iff_eq.mpr rfl
  simp only [List.lookup, hb]
theorem lk_miss {f g : Str} {d : Dt} {r : List (Str × Dt)} (h : ¬ f = g) : List.lookup f ((g, d) :: r) = List.lookup f r := by
  have hb : (f == g) = false := beq_eq_false_iff_ne.mpr h
  simp only [List.lookup, hb]
section
variable {K : PySem.W.Frag} {Γ : List Sl} {Post : Re → List Sl → Prop} {ta : TE}
def FldP (K : PySem.W.Frag) (f : Str) (r : Re) (Γ : List Sl) (Post : Re → List Sl → Prop) : Prop := ∃ C gs d, r = .val (.obj C gs) ∧ Cls K C ∧ NoAttr K C f ∧ gs.lookup f = some d ∧ Post (.val d) Γ
theorem we_fldG {f : Str} (h : WE K ta Γ fun r Γ1 => FldP K f r Γ1 Post) : WE K (tFld K ta f) Γ Post := fun σ B H E Q q => by
  refine h σ B H E _ fun x B1 H1 r Γ1 g1 k1 p1 => ?_
  obtain ⟨C, gs, d, rfl, cl, na, hl, p⟩ := p1
  obtain ⟨a, dx, fs, rfl, hb, hk, hi⟩ := Is.objR k1
  obtain ⟨w, hw⟩ := lk_some (hk f) hl
  exact ⟨a, C, dx, fs, w, rfl, g1.env.bh _ _ hb, cl, na, hw, q w B1 H1 (.val d) Γ1 g1 (hi f w d hw hl) p⟩
theorem fldp {f : Str} {C : Addr} {gs : List (Str × Dt)} {d : Dt} (cl : Cls K C) (na : NoAttr K C f) (hl : gs.lookup f = some d) (p : Post (.val d) Γ) : FldP K f (.val (.obj C gs)) Γ Post := ⟨C, gs, d, rfl, cl, na, hl, p⟩
def MetP (m : Str) (C : Addr) (ap : AP) (t : TA) (K : PySem.W.Frag) (r : Re) (Γ : List Sl) (Post : Re → List Sl → Prop) : Prop := ∃ gs, r = .val (.obj C gs) ∧ gs.lookup m = none ∧ WD K t Γ fun ds Γ2 => Hold (ap (.val (.obj C gs) :: ds.map Sl.val) fun r as' => Post r Γ2)
theorem we_methG {m : Str} {C : Addr} {ap : AP} {E0 : XK} {t : TA} (h : WE K ta Γ fun r Γ1 => MetP m C ap t K r Γ1 Post) : WE K (tMeth C m (toSp K ap) [] E0 ta t) Γ Post := we_meth h
theorem metp {m : Str} {C : Addr} {ap : AP} {t : TA} {gs : List (Str × Dt)} (hl : gs.lookup m = none) (h : WD K t Γ fun ds Γ2 => Hold (ap (.val (.obj C gs) :: ds.map Sl.val) fun r as' => Post r Γ2)) : MetP m C ap t K (.val (.obj C gs)) Γ Post := ⟨gs, rfl, hl, h⟩
theorem kit_self {C : Addr} : PySem.W.kitOne K (.ref C) (.ref C) = some true := by
  unfold PySem.W.kitOne
  rw [if_pos (beq_iff_eq.mpr rfl)]
def IsoP (K : PySem.W.Frag) (D : Addr) (r : Re) (Γ : List Sl) (Post : Re → List Sl → Prop) : Prop := ∃ C gs b, r = .val (.obj C gs) ∧ ClsOk K C ∧ PySem.W.kitOne K (.ref C) (.ref D) = some b ∧ Post (.val (.bl b)) Γ
theorem we_isoG {D : Addr} (h : WE K ta Γ fun r Γ1 => IsoP K D r Γ1 Post) : WE K (tCB (rIsi K) (tCons ta (tCons (tC (.ref D)) tNil))) Γ Post :=
  we_one' (r := fun x H Q => rIsi K [x, .ref D] H Q) (we_mono h fun r Γ1 ⟨C, gs, b, e, co, hk, p⟩ => fun σ B H x E kx Q q => by
    subst e
    obtain ⟨a, dx, fs, rfl, hb, _, _⟩ := Is.objR kx
    exact ⟨.ref a, .ref D, .ref C, .ref D, b, rfl, .own D, .base (.ins (E.bh _ _ hb) co.cl co.ha co.hn co.ht co.hm), hk, q _ B H _ Γ1 (.refl E) (.raw _) p⟩)
theorem isop {C : Addr} {gs : List (Str × Dt)} (co : ClsOk K C) (p : Post (.val (.bl true)) Γ) : IsoP K C (.val (.obj C gs)) Γ Post := ⟨C, gs, true, rfl, co, kit_self, p⟩
end
end Ab

namespace Ab
open PySem L2
abbrev RunOk (K : PySem.W.Frag) (pin : List Nat) (t : TS) (N : Nat) (ap : AP) : Prop := ∀ (as : List Sl) (Post : Re → List Sl → Prop), ap as Post → WS K pin t (as ++ List.replicate (N - as.length) .un) ⟨fun G => Post (.val .non) (exitArgs pin G as), fun r G => Post r (exitArgs pin G as), fun _ => False, fun _ => False, .no⟩
theorem cut_mid {α : Type} {f : α → Dt} {xs : List α} {a b : Nat} (h : a ≤ b) (h2 : b ≤ xs.length) : cutD (xs.map f) (some (a : Int)) (some (b : Int)) = ((xs.drop a).take (b - a)).map f := by
  unfold cutD
  rw [HT.sIx_nat, HT.sIx_nat, List.length_map, Nat.min_eq_left h2, Nat.min_eq_left (show a ≤ xs.length by omega), ← List.map_drop, ← List.map_take]
def rSumG (K : PySem.W.Frag) : List V → Hp → VK → Prop := fun vs H Q => ∃ (a : Addr) (ns : List Int), vs = [V.ref a] ∧ (SqL K H a (ns.map V.int) ∨ SqT K H a (ns.map V.int)) ∧ Q (.int ns.sum) H
theorem cr_sumG {X : Cx} (hc : X.calm = true) : CallR X (.builtin "sum") (rSumG X.K) := by
  intro pins s σ H vs us Q I r h
  obtain ⟨a, ns, rfl, hs, q⟩ := h
  rcases hs with hs | hs
  · exact cr_sum hc pins s σ H _ us Q I r ⟨a, ns, rfl, hs, q⟩
  · obtain ⟨its, rv, hl, _⟩ := I.tuple hs
    rw [Vals.ref1 r]
    obtain ⟨xs, hx⟩ := rv.ints.allInts.items
    have hn : numsOf its.toArray.toList = ns := by rw [show its.toArray.toList = its from rfl, rv.ints.numsOf]
    rw [hx] at hl hn
    rw [nums_intItems] at hn
    refine PySem.W.ktm_sumG (I.ok.hd hc) hl fun h' tk t' hk => ?_
    refine ⟨.int _, H, I.kept hk, ⟨_, rfl⟩, ?_⟩
    rw [preSum_eq, List.take_of_length_le (by simp), hn]
    exact q
theorem we_sumG {K : PySem.W.Frag} {Γ : List Sl} {Post : Re → List Sl → Prop} {te : TE} (h : WE K te Γ fun r Γ1 => Hold (∃ ns : List Int, seqOf Γ1 r = some (ns.map Dt.int) ∧ Post (.val (.int ns.sum)) Γ1)) : WE K (tCB (rSumG K) (tCons te tNil)) Γ Post :=
  we_cb1 (we_mono h fun r Γ1 hp => fun σ B H x E kx Q q => by
    obtain ⟨ns, hs, p⟩ := hp.get
    obtain ⟨a, vs, rfl, hq, ha⟩ := rv_seq E kx hs
    have e : vs = ns.map V.int := IsA.rawsI (xs := ns.map V.int) (by rw [List.map_map]; exact ha)
    subst e
    exact ⟨a, ns, rfl, hq, q _ B H _ Γ1 (.refl E) (.raw _) p⟩)
theorem normD_cons {a : Dt} {l t t' : List Dt} (e : l = a :: t) (et : t = t') : l = a :: t' := by
  subst et
  exact e
theorem slp_tE {Γ : List Sl} {Post : Re → List Sl → Prop} {ds es : List Dt} {lo hi : Option Int} (h : cutD ds lo hi = es) (p : Post (.val (.tup es)) Γ) : SlP (.val (.tup ds)) lo hi Γ Post := slp_t (by rw [h]; exact p)
theorem addp_tE {Γ : List Sl} {Post : Re → List Sl → Prop} {ds es fs : List Dt} (hz : ds.length + es.length ≤ 1000000) (h : ds ++ es = fs) (p : Post (.val (.tup fs)) Γ) : AddP (.val (.tup ds)) (.val (.tup es)) Γ Post := addp_t hz (by rw [h]; exact p)
theorem we_clearN {K : PySem.W.Frag} {Γ : List Sl} {i : Nat} {ds : List Dt} {Post : Re → List Sl → Prop} (h0 : Γ[i]? = some (.acc ds)) (p : NormP (Γ.set i (.acc [])) (Post (.val .non))) : WE K (tBM0 K "list" rClear (tVar i)) Γ Post := fun σ B H E Q q => by
  obtain ⟨l, vs, e0, e1, e2, k0⟩ := E.acc i ds h0
  exact ⟨.ref l, e0, .inl ⟨rfl, vs, .inl (.inl e1)⟩, l, vs, rfl, rfl, e1, q .non B _ (.val .non) _ (Go.put E h0 e0 .nil) (Is.raw _) p⟩
def PoolUp (b : Int) (ds : List Dt) : Prop := ∃ c, PoolIs c ds ∧ 0 ≤ c ∧ c ≤ b
theorem PoolIs.up {ds : List Dt} {c b : Int} (h : PoolIs c ds) (h0 : 0 ≤ c) (hb : c ≤ b) : PoolUp b ds := ⟨c, h, h0, hb⟩
theorem PoolUp.mono {ds : List Dt} {a b : Int} (h : PoolUp a ds) (hb : a ≤ b) : PoolUp b ds := by obtain ⟨c, h1, h2, h3⟩ := h; exact ⟨c, h1, h2, by omega⟩
theorem tk {ds : List Dt} {b n : Int} {Post : Re → List Sl → Prop} (h : PoolUp b ds) (hb : b < 900000000) (hn : 0 < n) (hn2 : n < 18446744073709551616) (k : ∀ ds' g, PoolUp (b + 1) ds' → 0 ≤ g → g < n → Post (.val (.int g)) [.acc ds', .val (.int n)]) : ap_take [.acc ds, .val (.int n)] Post := by
  obtain ⟨c, h1, h2, h3⟩ := h
  exact ⟨ds, c, n, rfl, h1, h2, by omega, hn, hn2, fun ds' g h' g0 g1 => k ds' g ⟨c + 1, h', by omega, by omega⟩ g0 g1⟩
theorem str_ne {a b : Str} (h : ¬ a = b) : ¬ (V.str a = V.str b) := fun e => h (by cases e; rfl)
theorem eqp_st {Γ : List Sl} {Post : Re → List Sl → Prop} {a : Str} (p : Post (.val (.bl true)) Γ) : EqP false (.val (.str a)) (.val (.str a)) Γ Post := eqp_s rfl (by rw [decide_eq_true rfl]; exact p)
theorem nep_st {Γ : List Sl} {Post : Re → List Sl → Prop} {a : Str} (p : Post (.val (.bl false)) Γ) : EqP true (.val (.str a)) (.val (.str a)) Γ Post := eqp_s rfl (by rw [decide_eq_true rfl]; exact p)
theorem eqp_sf {Γ : List Sl} {Post : Re → List Sl → Prop} {a b : Str} (h : ¬ a = b) (p : Post (.val (.bl false)) Γ) : EqP false (.val (.str a)) (.val (.str b)) Γ Post := eqp_s rfl (by rw [decide_eq_false (str_ne h)]; exact p)
theorem nep_sf {Γ : List Sl} {Post : Re → List Sl → Prop} {a b : Str} (h : ¬ a = b) (p : Post (.val (.bl true)) Γ) : EqP true (.val (.str a)) (.val (.str b)) Γ Post := eqp_s rfl (by rw [decide_eq_false (str_ne h)]; exact p)
theorem dec_s {a b : Str} : decide (V.str a = V.str b) = decide (a = b) := by
  by_cases h : a = b
  · subst h; simp
  · rw [decide_eq_false (str_ne h), decide_eq_false h]
theorem eqp_str {Γ : List Sl} {Post : Re → List Sl → Prop} {a b : Str} (p : Post (.val (.bl (decide (a = b)))) Γ) : EqP false (.val (.str a)) (.val (.str b)) Γ Post := eqp_s rfl (by rw [dec_s, Bool.false_xor]; exact p)
theorem nep_str {Γ : List Sl} {Post : Re → List Sl → Prop} {a b : Str} (p : Post (.val (.bl (!decide (a = b)))) Γ) : EqP true (.val (.str a)) (.val (.str b)) Γ Post := eqp_s rfl (by rw [dec_s, Bool.true_xor]; exact p)
def pick {α : Type} (o : List Nat) (xs : List α) : List α := o.filterMap fun i => xs[i]?
theorem pick_cons {α : Type} {i : Nat} {o : List Nat} {xs : List α} {x : α} (h : xs[i]? = some x) : pick (i :: o) xs = x :: pick o xs := by
  unfold pick
  rw [List.filterMap_cons_some h]
theorem pick_skip {α : Type} {i : Nat} {o : List Nat} {xs : List α} (h : xs[i]? = none) : pick (i :: o) xs = pick o xs := by
  unfold pick
  rw [List.filterMap_cons_none h]
theorem pick_vals {xs : List V} {us : List Value} (r : Vals xs us) : ∀ o : List Nat, Vals (pick o xs) (pick o us)
  | [] => .nil
  | i :: o => by
    cases q : xs[i]? with
    | none => rw [pick_skip q, pick_skip (r.none_of q)]; exact pick_vals r o
    | some x =>
      obtain ⟨u, hu, ru⟩ := r.get q
      rw [pick_cons q, pick_cons hu]
      exact .cons ru (pick_vals r o)
theorem pick_isA {K : PySem.W.Frag} {B : Hp} {vs : List V} {ds : List Dt} (h : IsA K B vs ds) : ∀ o : List Nat, IsA K B (pick o vs) (pick o ds)
  | [] => .nil
  | i :: o => by
    cases q : ds[i]? with
    | none =>
      have : vs[i]? = none := by
        rw [List.getElem?_eq_none_iff] at q ⊢
        rw [h.len]; exact q
      rw [pick_skip q, pick_skip this]; exact pick_isA h o
    | some d =>
      obtain ⟨v, hv, iv⟩ := h.get q
      rw [pick_cons q, pick_cons hv]
      exact .cons iv (pick_isA h o)
def upO (o : List Nat) : List Nat := o.map (· + 1)
theorem pick_up {α : Type} (x : α) (xs : List α) : ∀ o : List Nat, pick (upO o) (x :: xs) = pick o xs
  | [] => rfl
  | i :: o => by
    show pick ((i + 1) :: upO o) (x :: xs) = _
    have e : (x :: xs)[i + 1]? = xs[i]? := List.getElem?_cons_succ
    cases q : xs[i]? with
    | none => rw [pick_skip (e.trans q), pick_skip q]; exact pick_up x xs o
    | some y => rw [pick_cons (e.trans q), pick_cons q, pick_up x xs o]
section
variable {K : PySem.W.Frag} {Γ : List Sl} {Post : Re → List Sl → Prop} {C : Addr}
theorem make_core {σ : L2.St} {B H B1 H1 : Hp} {Γ1 : List Sl} {vs : List V} {ds : List Dt} {ai : AI} {E0 : XK} {Q : VK} (g1 : Go K σ B H Γ B1 H1 Γ1) (k1 : IsA K B1 vs ds) (p1 : ai ds fun gs => Post (.val (.obj C gs)) Γ1)
    (q : ∀ v B' H' r Γ', Go K σ B H Γ B' H' Γ' → ReOk K σ (Own σ Γ) (Own σ Γ') B' H H' v r → Post r Γ' → Q v H') : ∀ x dx, H1 x = none → H1 dx = none → dx ≠ x → toSpI K C ai (.ref x :: vs) (upd (upd H1 dx (.own x)) x (.ins C dx [])) (fun v H3 => v = .non ∧ Q (.ref x) H3) E0 := by
  have t : WE K (tMake C (toSpI K C ai) [] E0 (fun _ H2 R => ∀ B2, Same B2 H2 → R vs H2)) Γ1 Post → True := fun _ => trivial
  intro x dx hx hdx hne
  have hxx : upd (upd H1 dx (.own x)) x (.ins C dx []) x = some (.ins C dx []) := upd_same
  have b1x : B1 x = none := g1.env.base_none hx
  have s12 : ∀ a o, H1 a = some o → upd (upd H1 dx (.own x)) x (.ins C dx []) a = some o := fun a o e => by
    rw [upd_ne (ne_of_none e hx), upd_ne (ne_of_none e hdx)]; exact e
  refine ⟨x, dx, vs, B1, ds, _, rfl, hxx, b1x, fun a o e => s12 a o (g1.env.bh a o e), k1, p1, fun B' H' fs gs mv sb hx' bx' hf p => ⟨rfl, ?_⟩⟩
  have sBB : Same B' (upd B' x (.ins C dx fs)) := fun a o e => by rw [upd_ne (ne_of_none e bx')]; exact e
  have kept : ∀ a o, H1 a = some o → H' a = some o := fun a o e => mv.kp a o (fun z => by subst z; rw [hx] at e; cases e) (s12 a o e)
  have offB : ∀ a, H1 a ≠ none → B1 a = none → B' a = none := fun a ha hb => by
    have hne : a ≠ x := fun z => by subst z; exact ha hx
    refine mv.off a hne ?_ hb
    cases qq : H1 a with
    | none => exact absurd qq ha
    | some o => rw [s12 a o qq]; exact fun z => nomatch z
  have E2 : Env K (upd B' x (.ins C dx fs)) H' σ Γ1 := by
    refine ⟨g1.env.len, fun a o e => ?_, fun i d hi => ?_, fun i es hi => ?_, g1.env.sep⟩
    · by_cases ha : a = x
      · subst ha; rw [upd_same] at e; cases e; exact hx'
      · rw [upd_ne ha] at e; exact sb a o e
    · obtain ⟨v, e1, e2⟩ := g1.env.val i d hi
      exact ⟨v, e1, e2.mono (mv.bb.trans sBB)⟩
    · obtain ⟨l, us, e1, e2, e3, e4⟩ := g1.env.cel i es hi
      have hl : l ≠ x := fun z => by subst z; rw [hx] at e2; cases e2
      exact ⟨l, us, e1, kept l _ e2, by rw [upd_ne hl]; exact offB l (by rw [e2]; exact fun z => nomatch z) e3, e4.mono (mv.bb.trans sBB)⟩
  have g2 : Go K σ B1 H1 Γ1 (upd B' x (.ins C dx fs)) H' Γ1 := by
    refine ⟨⟨fun a o _ e => kept a o e, mv.bb.trans sBB, fun a na ha hb => ?_⟩, fun i es hi => ⟨es, hi⟩, E2⟩
    have hne : a ≠ x := fun z => by subst z; exact ha hx
    rw [upd_ne hne]; exact offB a ha hb
  have hf' := hf.mono sBB
  exact q (.ref x) _ H' (.val (.obj C gs)) Γ1 (g1.trans g2) (Is.obj upd_same hf'.hk hf'.hi) p
theorem we_makeD {dvs : List V} {ai : AI} {E0 : XK} {t : TA} (h : WD K t Γ fun ds Γ1 => Hold (ai (ds ++ dvs.map Dt.raw) fun gs => Post (.val (.obj C gs)) Γ1)) : WE K (tMake C (toSpI K C ai) dvs E0 t) Γ Post := fun σ B H E Q q => by
  refine h σ B H E _ fun vs B1 H1 ds Γ1 g1 k1 p1 => ?_
  exact make_core g1 (k1.append .raws) p1.get q
theorem we_makeK {n m : Nat} {o : List Nat} {mz : List V} {ai : AI} {E0 : XK} {t tk : TA} (h : WD K t Γ fun ds Γ1 => WD K tk Γ1 fun es Γ2 => (ds.length == n && es.length == m) = true ∧ Hold (ai (pick o (ds ++ mz.map Dt.raw ++ es)) fun gs => Post (.val (.obj C gs)) Γ2)) :
    WE K (tMakeK C n m (toSpI K C ai) (fun vs zs => pick (0 :: upO o) (vs ++ mz ++ zs)) E0 t tk) Γ Post := fun σ B H E Q q => by
  refine h σ B H E _ fun vs B1 H1 ds Γ1 g1 k1 p1 => ?_
  refine p1 σ B1 H1 g1.env _ fun zs B2 H2 es Γ2 g2 k2 p2 => ?_
  obtain ⟨l0, p⟩ := p2
  rw [Bool.and_eq_true] at l0
  have l1 := beq_iff_eq.mp l0.1
  have l2 := beq_iff_eq.mp l0.2
  refine ⟨by rw [k1.len]; exact l1, by rw [k2.len]; exact l2, fun x dx hx hdx hne => ?_⟩
  have e : pick (0 :: upO o) ((V.ref x :: vs) ++ mz ++ zs) = .ref x :: pick o (vs ++ mz ++ zs) := by
    rw [pick_cons (x := V.ref x) rfl]
    show V.ref x :: pick (upO o) (V.ref x :: (vs ++ mz ++ zs)) = _
    rw [pick_up]
  show toSpI K C ai (pick (0 :: upO o) ((V.ref x :: vs) ++ mz ++ zs)) _ _ _
  rw [e]
  exact make_core (g1.trans g2) (pick_isA (((k1.mono g2.mv.bb).append .raws).append k2) o) p.get q x dx hx hdx hne
theorem kw_nil {D : Addr} : ∀ q ∈ ([] : List (Str × V)), ∃ u, PySem.W.nsIn K D q.1 = some (some u) ∧ RelV q.2 u := fun _ h => nomatch h
theorem kw_cons {D : Addr} {a : Str × V} {l : List (Str × V)} (h : ∃ u, PySem.W.nsIn K D a.1 = some (some u) ∧ RelV a.2 u) (r : ∀ q ∈ l, ∃ u, PySem.W.nsIn K D q.1 = some (some u) ∧ RelV q.2 u) : ∀ q ∈ a :: l, ∃ u, PySem.W.nsIn K D q.1 = some (some u) ∧ RelV q.2 u := fun q hq => (List.mem_cons.mp hq).elim (fun e => e ▸ h) (r q)
theorem sub_nil {α : Type} {l : List α} : ∀ q ∈ ([] : List α), q ∈ l := fun _ h => nomatch h
theorem pe_makeKm {X : Cx} {CX : CXT} {k n m : Nat} {f C : Addr} {fd : FuncData} {ps ks : List Str} {sp : Sp} {E : XK} {x : Str} {p pos : Pos} {e : Expr} {es : List Expr} {kws : List Keyword} {t tk : TA} {g : List Value → List Value → List Value} {gV : List V → List V → List V} (M : Mk X.K C f) (F : FnOk X.prog X.w X.K X.mg X.base CX k f fd ps sp) (hr : Room (k + 1) X.A) (hg : Gl X x) (hm : X.mg x = some (.ref C)) (hb : KBn X.K fd ps (n + 1) ks g gV) (hx : Passes CX X E) (ha : PA X (e :: es) t) (hkw : PK X kws tk) (hml : ks.length = m)
    (hall : (backToKw pos (keywordEach kws X.env)).all (·.1.isSome) = true := by rfl) (hks : (backToKw pos (keywordEach kws X.env)).filterMap (·.1) = ks := by rfl) (hdb : (x == ("__debug__" : Str)) = false := by decide)
    (he : starEach (e :: es) X.env = (false, eval e X.env) :: starEach es X.env := by rfl) (hpl : ((backTo pos (starEach (e :: es) X.env)).any (·.1) || (backToKw pos (keywordEach kws X.env)).any (·.1.isNone)) = false := by rfl) :
    PE X (.Call (.Name x p) (e :: es) kws pos) (tMakeK C n m sp gV E t tk) := by
  subst hml
  exact pe_makeK M F hr hg hm hb hx ha hkw hall hks hdb he hpl
structure SMet (K : PySem.W.Frag) (C : Addr) (m : Str) (p f : Addr) : Prop where
  rd : PySem.W.readsIn K C (.type "type") = true
  ga : PySem.W.specialIn K (.ref C) "__getattribute__" = some (some (.builtin "type.__getattribute__"))
  at_ : PySem.W.findCls K (.ref C) (.type "type") m = some (.get (.builtin "staticmethod.__get__") (.ref p) .none (.ref C))
  rc : ∃ rest, PySem.W.recIn K p "staticmethod" = some (.ref f :: rest)
def tSMeth (C : Addr) (sp : Sp) (E : XK) (ta : TE) (t : TA) : TE := fun σ H Q => ta σ H fun x H1 => x = .ref C ∧ t σ H1 fun vs H2 => sp (vs ++ []) H2 Q E
theorem pe_smeth {X : Cx} {CX : CXT} {k : Nat} {p f : Addr} {fd : FuncData} {ps : List Str} {sp : Sp} {E : XK} {o e : Expr} {es : List Expr} {m : Str} {pos apos : Pos} {ta : TE} {t : TA} {pl : Sem Bool} (he : PE X o ta) (c : SMet X.K C m p f) (F : FnOk X.prog X.w X.K X.mg X.base CX k f fd ps sp) (hr : Room k X.A)
    (hk : PySem.W.keepIn X.K (.ref f) = true) (hb : Binds X.K fd ps []) (hx : Passes CX X E) (ha : PA X (e :: es) t)
    (hst : starEach (e :: es) X.env = (false, eval e X.env) :: starEach es X.env := by rfl) (hpl : (backTo pos (starEach es X.env)).any (·.1) = false := by rfl)
    (ht : eval (.Call (.Attribute o m apos) (e :: es) [] pos) X.env = (do
      let ov ← eval o X.env
      standAt apos.atName
      let (f, first) ← holding [ov] (getMethod ov m pl)
      callWith pos f first (backTo pos (starEach (e :: es) X.env)) (backToKw pos (keywordEach [] X.env))) := by rfl) :
    PE X (.Call (.Attribute o m apos) (e :: es) [] pos) (tSMeth C sp E ta t) := by
  refine ⟨fun pins s σ H Q I h => ?_⟩
  refine PySem.W.methodCall_KW (pl := pl) (thn (he.run pins s σ H _ I h) fun u s1 ⟨x, H1, I1, rx, ex, q⟩ => ?_) ht
  subst ex
  obtain rfl : u = Value.ref C := rx
  obtain ⟨rest, hp⟩ := c.rc
  refine PySem.W.method_cls I1.kIn c.ga ?_
  refine PySem.W.cls_bind I1.kIn c.rd c.at_ (wpAny_call (PySem.W.sm_get (s := { s1 with toks := s1.toks + 1 }) I1.kIn hp (PySem.W.handed_on rfl ?_)))
  have I2 : Inv X pins σ H1 { s1 with toks := s1.toks + 1 } := I1.tok _
  refine PySem.W.callWith_K (h₀ := X.base) I2.ok.mod.kin hk (thn (ha.run pos pins _ σ H1 _ I2 q) fun us s2 ⟨vs, H2, I3, r, q2⟩ => ⟨I3.kIn, ?_⟩) hst hpl
  exact run_fn F hr hb .nil hx I3 r q2
theorem we_smeth {ap : AP} {E0 : XK} {ta : TA} (h : WA K ta Γ fun rs Γ1 => nodupB (ownsOf rs) = true ∧ Hold (ap (rs.map (argSl Γ1)) fun r as' => NormP (putBack rs as' Γ1) (Post r))) : WE K (tSMeth C (toSp K ap) E0 (tC (.ref C)) ta) Γ Post := fun σ B H E Q q => by
  refine ⟨rfl, ?_⟩
  exact we_callH (E0 := E0) h σ B H E Q q
end
end Ab

namespace Ab
open PySem L2
section
variable {κ : Type} [DecidableEq κ]
def valD (kvs : List (κ × Dt)) (k : κ) : Option Dt := (kvs.find? fun kv => decide (kv.1 = k)).map (·.2)
def putE (kvs : List (κ × Dt)) (k : κ) (v : Dt) : List (κ × Dt) :=
  if (kvs.any fun kv => decide (kv.1 = k)) = true then kvs.map (fun kv => if kv.1 = k then (kv.1, v) else kv) else kvs ++ [(k, v)]
variable {K : PySem.W.Frag} {B : Hp}
theorem IsKv.nil : IsKv K B ([] : List (κ × V)) [] := ⟨rfl, .nil⟩
theorem IsKv.cons {k : κ} {v : V} {d : Dt} {xs : List (κ × V)} {kvs : List (κ × Dt)} (h : Is K B v d) (r : IsKv K B xs kvs) : IsKv K B ((k, v) :: xs) ((k, d) :: kvs) :=
  ⟨by simp [r.ks], .cons h r.vs⟩
theorem IsKv.ind {M : List (κ × V) → List (κ × Dt) → Prop} (h0 : M [] []) (h1 : ∀ k v d xs kvs, Is K B v d → IsKv K B xs kvs → M xs kvs → M ((k, v) :: xs) ((k, d) :: kvs)) : ∀ {xs : List (κ × V)} {kvs : List (κ × Dt)}, IsKv K B xs kvs → M xs kvs
  | [], [], _ => h0
  | [], _ :: _, h => by have := h.ks; simp at this
  | _ :: _, [], h => by have := h.ks; simp at this
  | (k, v) :: xs, (k', d) :: kvs, h => by
    have e := h.ks
    simp only [List.map_cons, List.cons.injEq] at e
    obtain ⟨rfl, e⟩ := e
    have hv : Is K B v d := h.vs.at_ 0 v d (by simp) (by simp)
    have hr : IsKv K B xs kvs := ⟨e, by have := h.vs.drop 1; simpa using this⟩
    exact h1 k v d xs kvs hv hr (IsKv.ind h0 h1 hr)
theorem IsKv.len {xs : List (κ × V)} {kvs : List (κ × Dt)} (h : IsKv K B xs kvs) : xs.length = kvs.length := by
  have := congrArg List.length h.ks; simpa using this
theorem IsKv.val {xs : List (κ × V)} {kvs : List (κ × Dt)} (h : IsKv K B xs kvs) (k : κ) : (valV xs k = none ∧ valD kvs k = none) ∨ ∃ v d, valV xs k = some v ∧ valD kvs k = some d ∧ Is K B v d := by
  refine IsKv.ind (M := fun xs kvs => (valV xs k = none ∧ valD kvs k = none) ∨ ∃ v d, valV xs k = some v ∧ valD kvs k = some d ∧ Is K B v d) (.inl ⟨rfl, rfl⟩) (fun k' v d xs kvs hv _ ih => ?_) h
  by_cases e : k' = k
  · exact .inr ⟨v, d, by simp [valV, e], by simp [valD, e], hv⟩
  · simpa [valV, valD, e] using ih
theorem IsKv.valS {xs : List (κ × V)} {kvs : List (κ × Dt)} (h : IsKv K B xs kvs) {k : κ} {d : Dt} (e : valD kvs k = some d) : ∃ v, valV xs k = some v ∧ Is K B v d := by
  rcases h.val k with ⟨_, e2⟩ | ⟨v, d', e1, e2, hv⟩
  · rw [e] at e2; cases e2
  · rw [e] at e2; cases e2; exact ⟨v, e1, hv⟩
theorem IsKv.isS {xs : List (κ × V)} {kvs : List (κ × Dt)} (h : IsKv K B xs kvs) (k : κ) : (valV xs k).isSome = (valD kvs k).isSome := by
  rcases h.val k with ⟨e1, e2⟩ | ⟨v, d', e1, e2, hv⟩ <;> rw [e1, e2] <;> rfl
theorem IsKv.put {xs : List (κ × V)} {kvs : List (κ × Dt)} (h : IsKv K B xs kvs) (k : κ) {v : V} {d : Dt} (hv : Is K B v d) : IsKv K B (putK xs k v) (putE kvs k d) := by
  have ea : (xs.any fun kv => decide (kv.1 = k)) = (kvs.any fun kv => decide (kv.1 = k)) :=
    IsKv.ind (K := K) (B := B) (M := fun xs kvs => (xs.any fun kv => decide (kv.1 = k)) = (kvs.any fun kv => decide (kv.1 = k))) rfl (fun k' v d xs kvs _ _ ih => by simp only [List.any_cons, ih]) h
  have em : IsKv K B (xs.map (fun kv => if kv.1 = k then (kv.1, v) else kv)) (kvs.map (fun kv => if kv.1 = k then (kv.1, d) else kv)) :=
    IsKv.ind (K := K) (B := B) (M := fun xs kvs => IsKv K B (xs.map (fun kv => if kv.1 = k then (kv.1, v) else kv)) (kvs.map (fun kv => if kv.1 = k then (kv.1, d) else kv))) .nil (fun k' v' d' xs kvs hv' _ ih => by
      by_cases e : k' = k
      · simp only [List.map_cons, e, if_true]; exact .cons hv ih
      · simp only [List.map_cons, e, if_false]; exact .cons hv' ih) h
  have es : IsKv K B (xs ++ [(k, v)]) (kvs ++ [(k, d)]) := ⟨by simp [h.ks], by simpa using h.vs.snoc hv⟩
  unfold putK putE
  rw [ea]
  split
  · exact em
  · exact es
theorem putE_new {kvs : List (κ × Dt)} {k : κ} {d : Dt} (h : valD kvs k = none) : putE kvs k d = kvs ++ [(k, d)] := by
  have : (kvs.any fun kv => decide (kv.1 = k)) = false := by
    unfold valD at h
    rw [Option.map_eq_none_iff] at h
    rw [Bool.eq_false_iff]
    intro z
    obtain ⟨x, hx, e⟩ := List.any_eq_true.mp z
    exact (List.find?_eq_none.mp h x hx) e
  unfold putE
  rw [this]; rfl
end
section
variable {K : PySem.W.Frag} {σ : L2.St} {B H : Hp} {Γ : List Sl} {v : V} {r : Re}
end
section
variable {K : PySem.W.Frag} {pin : List Nat} {Γ : List Sl} {P : Ps} {Post : Re → List Sl → Prop} {td ty tv tx : TE}
end
section
variable {K : PySem.W.Frag} {Γ : List Sl} {Post : Re → List Sl → Prop}
theorem IsKv.mono {κ : Type} {B B' : Hp} {xs : List (κ × V)} {kvs : List (κ × Dt)} (s : Same B B') (h : IsKv K B xs kvs) : IsKv K B' xs kvs := ⟨h.ks, h.vs.mono s⟩
end
end Ab

namespace Ab
open PySem L2 PyProof.Rows
section
variable {K : PySem.W.Frag} {pin : List Nat} {Γ : List Sl} {P : Ps} {Post : Re → List Sl → Prop} {te ta tb : TE}
theorem we_sortedS (h : WE K te Γ fun r Γ1 => Hold (∃ xs : List Str, lstOf Γ1 r = some (xs.map Dt.str) ∧ xs.length < 64 ∧ ∀ ys : List Str, ys.Perm xs → sortedS ys = true → Post (.new (ys.map Dt.str)) Γ1)) : WE K (tCB (rSortedS K) (tCons te tNil)) Γ Post :=
  we_cb1 (we_mono h fun r Γ1 hp => fun σ B H x E kx Q q => by
    obtain ⟨xs, hs, hz, p⟩ := hp.get
    obtain ⟨a, vs, rfl, hq, ha⟩ := rv_lst E kx hs
    have e : vs = xs.map V.str := IsA.rawsI (xs := xs.map V.str) (by rw [List.map_map]; exact ha)
    subst e
    refine ⟨a, xs, rfl, hq, hz, fun ys l hy hs hl => q _ _ _ (.new (ys.map Dt.str)) Γ1 (Go.beside E hl) (re_newL E ?_ hl) (p ys hy hs)⟩
    have := IsA.raws (K := K) (B := B) (xs := ys.map V.str)
    rwa [List.map_map] at this)
theorem we_sorted (h : WE K te Γ fun r Γ1 => Hold (∃ xs : List Int, lstOf Γ1 r = some (xs.map Dt.int) ∧ xs.length < 64 ∧ ∀ ys : List Int, ys.Perm xs → ys.Pairwise (· ≤ ·) → Post (.new (ys.map Dt.int)) Γ1)) : WE K (tCB (rSorted K) (tCons te tNil)) Γ Post :=
  we_cb1 (we_mono h fun r Γ1 hp => fun σ B H x E kx Q q => by
    obtain ⟨xs, hs, hz, p⟩ := hp.get
    obtain ⟨a, vs, rfl, hq, ha⟩ := rv_lst E kx hs
    have e : vs = xs.map V.int := IsA.rawsI (xs := xs.map V.int) (by rw [List.map_map]; exact ha)
    subst e
    refine ⟨a, xs, rfl, hq, hz, fun ys l hy hs hl => q _ _ _ (.new (ys.map Dt.int)) Γ1 (Go.beside E hl) (re_newL E ?_ hl) (p ys hy hs)⟩
    have := IsA.raws (K := K) (B := B) (xs := ys.map V.int)
    rwa [List.map_map] at this)
theorem we_all (h : WE K te Γ fun r Γ1 => Hold (∃ bs : List Bool, lstOf Γ1 r = some (bs.map Dt.bl) ∧ Post (.val (.bl (bs.all id))) Γ1)) : WE K (tCB (rAll K) (tCons te tNil)) Γ Post :=
  we_cb1 (we_mono h fun r Γ1 hp => fun σ B H x E kx Q q => by
    obtain ⟨bs, hs, p⟩ := hp.get
    obtain ⟨a, vs, rfl, hq, ha⟩ := rv_lst E kx hs
    have e : vs = bs.map V.bl := IsA.rawsI (xs := bs.map V.bl) (by rw [List.map_map]; exact ha)
    subst e
    exact ⟨a, bs, rfl, hq, q _ B H _ Γ1 (.refl E) (.raw _) p⟩)
end
def rRepS : R2 := fun x y H Q => ∃ z n, x = .str z ∧ y = .int n ∧ -1000 ≤ n ∧ n ≤ 1000 ∧ z.length ≤ 1000 ∧ Q (.str (PySem.Txt.mul z n)) H
theorem we_repS {K : PySem.W.Frag} {Γ : List Sl} {Post : Re → List Sl → Prop} {ta tb : TE} (h : WE K ta Γ fun ra Γ1 => WE K tb Γ1 fun rb Γ2 => ∃ z n, ra = .val (.str z) ∧ rb = .val (.int n) ∧ -1000 ≤ n ∧ n ≤ 1000 ∧ z.length ≤ 1000 ∧ Post (.val (.str (PySem.Txt.mul z n))) Γ2) : WE K (tOp rRepS ta tb) Γ Post :=
  we_two' (we_mono h fun ra Γ1 h1 => we_mono h1 fun rb Γ2 hp => fun σ B H x y E kx ky Q q => by
    obtain ⟨s, t, rfl, rfl, h1, h2, h3, p⟩ := hp
    cases Is.rawI kx; cases Is.rawI ky
    exact ⟨s, t, rfl, rfl, h1, h2, h3, q _ B H _ Γ2 (.refl E) (.raw _) p⟩)
end Ab

namespace Ab
open PySem PySem.Spec L2 PyProof.Rows
def rRepA (K : PySem.W.Frag) : R2 := fun x y H Q => ∃ l k xs, x = .ref l ∧ y = .int k ∧ SqT K H l xs ∧ xs ≠ [] ∧ 0 ≤ k ∧ k ≤ 1000 ∧ xs.length ≤ 1000 ∧ (k = 1 → Q (.ref l) H) ∧ (k ≠ 1 → ∀ p, H p = none → Q (.ref p) (upd H p (.tup (List.replicate k.toNat xs).flatten)))
theorem IsA.reps {K : PySem.W.Frag} {B : Hp} {vs : List V} {ds : List Dt} (h : IsA K B vs ds) : ∀ n : Nat, IsA K B (List.replicate n vs).flatten (List.replicate n ds).flatten
  | 0 => .nil
  | n + 1 => by rw [List.replicate_succ, List.replicate_succ, List.flatten_cons, List.flatten_cons]; exact h.append (IsA.reps h n)
theorem we_repA {K : PySem.W.Frag} {Γ : List Sl} {Post : Re → List Sl → Prop} {ta tb : TE} (h : WE K ta Γ fun ra Γ1 => WE K tb Γ1 fun rb Γ2 => ∃ ds n, ra = .val (.tup ds) ∧ rb = .val (.int n) ∧ ds ≠ [] ∧ 0 ≤ n ∧ n ≤ 1000 ∧ ds.length ≤ 1000 ∧ Post (.val (.tup (List.replicate n.toNat ds).flatten)) Γ2) : WE K (tOp (rRepA K) ta tb) Γ Post :=
  we_two' (we_mono h fun ra Γ1 h1 => we_mono h1 fun rb Γ2 hp => fun σ B H x y E kx ky Q q => by
    obtain ⟨ds, n, rfl, rfl, hne, h1, h2, h3, p⟩ := hp
    cases Is.rawI ky
    obtain ⟨a, xs, rfl, hs, ha⟩ := Is.tupR kx
    refine ⟨a, n, xs, rfl, rfl, sqT_mono E.bh hs, fun z => hne ?_, h1, h2, by rw [ha.len]; exact h3, fun e => ?_, fun _ l hl => q _ _ _ (.val (.tup (List.replicate n.toNat ds).flatten)) Γ2 (Go.laid E hl) (re_laidT E (ha.reps n.toNat) hl) p⟩
    · subst z; exact List.eq_nil_of_length_eq_zero ha.len.symm
    · subst e
      have e2 : (List.replicate (Int.toNat 1) ds).flatten = ds := by simp
      rw [e2] at p
      exact q _ B H (.val (.tup ds)) Γ2 (.refl E) kx p)
end Ab

namespace Ab
open PySem PySem.Spec L2 PyProof.Rows
set_option maxHeartbeats 8000000 in
section
variable {K : PySem.W.Frag} {σ : L2.St} {B H : Hp} {Γ : List Sl}
abbrev g2 (K : PySem.W.Frag) (j k : Nat) : TG := gTup K 2 (gCons (gName j) (gCons (gName k) gNil))
end
end Ab
namespace Ab
open PySem PySem.Spec L2 PyProof.Rows
def rStrG : List V → Hp → VK → Prop := fun xs H Q => (∃ a, xs = [.str a] ∧ Q (.str a) H) ∨ ∃ i : Int, xs = [.int i] ∧ i.natAbs.log2 < 1920 ∧ Q (.str (toString i)) H
def StrP (r : Re) (Γ : List Sl) (Post : Re → List Sl → Prop) : Prop := (∃ a, r = .val (.str a) ∧ Post (.val (.str a)) Γ) ∨ ∃ i : Int, r = .val (.int i) ∧ i.natAbs.log2 < 1920 ∧ Post (.val (.str (toString i))) Γ
theorem we_strG {K : PySem.W.Frag} {Γ : List Sl} {Post : Re → List Sl → Prop} {te : TE} (h : WE K te Γ fun r Γ1 => StrP r Γ1 Post) : WE K (tCB rStrG (tCons te tNil)) Γ Post :=
  we_cb1 (we_mono h fun r Γ1 hp => fun σ B H x E kx Q q => by
    rcases hp with ⟨a, rfl, p⟩ | ⟨i, rfl, hi, p⟩
    · cases Is.rawI kx
      exact .inl ⟨a, rfl, q _ B H _ Γ1 (.refl E) (.raw _) p⟩
    · cases Is.rawI kx
      exact .inr ⟨i, rfl, hi, q _ B H _ Γ1 (.refl E) (.raw _) p⟩)
theorem strp_s {Γ : List Sl} {Post : Re → List Sl → Prop} {a : Str} (p : Post (.val (.str a)) Γ) : StrP (.val (.str a)) Γ Post := .inl ⟨a, rfl, p⟩
theorem we_any {K : PySem.W.Frag} {Γ : List Sl} {Post : Re → List Sl → Prop} {te : TE} (h : WE K te Γ fun r Γ1 => Hold (∃ bs : List Bool, lstOf Γ1 r = some (bs.map Dt.bl) ∧ Post (.val (.bl (bs.any id))) Γ1)) : WE K (tCB (rAny K) (tCons te tNil)) Γ Post :=
  we_cb1 (we_mono h fun r Γ1 hp => fun σ B H x E kx Q q => by
    obtain ⟨bs, hs, p⟩ := hp.get
    obtain ⟨a, vs, rfl, hq, ha⟩ := rv_lst E kx hs
    have e : vs = bs.map V.bl := IsA.rawsI (xs := bs.map V.bl) (by rw [List.map_map]; exact ha)
    subst e
    exact ⟨a, bs, rfl, hq, q _ B H _ Γ1 (.refl E) (.raw _) p⟩)
theorem bi_sorted : bootBuiltins "sorted" = some (.builtin "sorted") := by decide +kernel
theorem bi_any : bootBuiltins "any" = some (.builtin "any") := by decide +kernel
end Ab

namespace Ab
open PySem L2
section
variable {K : PySem.W.Frag} {pin : List Nat} {Γ : List Sl} {P : Ps} {te tl : TE} {tt : TT} {tb : TS} {g : TG} {j : Nat} {Post : Re → List Sl → Prop}
theorem take_step {α β : Type} {xs : List α} {i : Nat} {x : α} (p : α → Bool) (f : α → β) (h : xs[i]? = some x) : ((xs.take (i + 1)).filter p).map f = ((xs.take i).filter p).map f ++ (if p x = true then [f x] else []) := by
  rw [List.take_succ, h, List.filter_append, List.map_append]
  by_cases hp : p x = true
  · simp [hp]
  · simp [hp]
theorem filter_tt {α : Type} (xs : List α) : xs.filter (fun _ => true) = xs := List.filter_eq_self.mpr fun _ _ => rfl
theorem lc_tupP {α : Type} (xs : List α) (c f : α → Dt) (p : α → Bool) (G0 : List Sl) (h : WE K tl Γ fun z Γ1 => Hold (z = .val (.tup (xs.map c)) ∧ xs.length ≤ 1000000 ∧ decide (j < Γ1.length) = true ∧ notAcc Γ1[j]? = true ∧ keepV Γ1[j]? = keepV Γ[j]? ∧ Γ1 = G0))
    (turn : ∀ x ∈ xs, WT K tt (G0.set j (.val (c x))) fun b G2 => (b = true → WE K te G2 fun r G3 => ∃ d, r.dt? = some d ∧ Hold (p x = true ∧ d = f x ∧ G3.set j (keepV Γ[j]?) = G0)) ∧ (b = false → Hold (p x = false ∧ G2.set j (keepV Γ[j]?) = G0)))
    (done : Post (.new ((xs.filter p).map f)) G0) : WE K (tLc (iTup K tl) (gName j) tt te [j]) Γ Post := by
  refine lc_tuple (xs.map c) (fun i es G => G = G0 ∧ es = ((xs.take i).filter p).map f) ?_ ?_ ?_
  · refine we_mono h fun z Γ1 hp => ?_
    obtain ⟨h1, h2, h3, h4, h5, h6⟩ := hp.get
    exact .a ⟨h1, by rw [List.length_map]; exact h2, h3, h4, h5, h6, rfl⟩
  · rintro i d es G hd ⟨rfl, rfl⟩
    rw [List.getElem?_map] at hd
    obtain ⟨x, hx, rfl⟩ := Option.map_eq_some_iff.mp hd
    refine wt_mono (turn x (List.mem_of_getElem? hx)) fun b G2 hb => ⟨fun e => ?_, fun e => ?_⟩
    · refine we_mono (hb.1 e) fun r G3 hr => ?_
      obtain ⟨d, h1, h2⟩ := hr
      obtain ⟨h3, rfl, h5⟩ := h2.get
      exact ⟨_, h1, .a ⟨h5, by rw [take_step p f hx, if_pos h3]⟩⟩
    · obtain ⟨h3, h5⟩ := (hb.2 e).get
      exact .a ⟨h5, by rw [take_step p f hx, if_neg (by rw [h3]; exact Bool.false_ne_true), List.append_nil]⟩
  · rintro es G ⟨rfl, rfl⟩
    rw [List.length_map, List.take_length]
    exact done
theorem lc_lstP {α : Type} (xs : List α) (c f : α → Dt) (p : α → Bool) (G0 : List Sl) (h : WE K tl Γ fun z Γ1 => Hold (z.dt? = some (.lst (xs.map c)) ∧ xs.length ≤ 1000000 ∧ decide (j < Γ1.length) = true ∧ notAcc Γ1[j]? = true ∧ keepV Γ1[j]? = keepV Γ[j]? ∧ Γ1 = G0))
    (turn : ∀ x ∈ xs, WT K tt (G0.set j (.val (c x))) fun b G2 => (b = true → WE K te G2 fun r G3 => ∃ d, r.dt? = some d ∧ Hold (p x = true ∧ d = f x ∧ G3.set j (keepV Γ[j]?) = G0)) ∧ (b = false → Hold (p x = false ∧ G2.set j (keepV Γ[j]?) = G0)))
    (done : Post (.new ((xs.filter p).map f)) G0) : WE K (tLc (iList K tl) (gName j) tt te [j]) Γ Post := by
  refine lc_lst (xs.map c) (fun i es G => G = G0 ∧ es = ((xs.take i).filter p).map f) ?_ ?_ ?_
  · refine we_mono h fun z Γ1 hp => ?_
    obtain ⟨h1, h2, h3, h4, h5, h6⟩ := hp.get
    exact .a ⟨h1, by rw [List.length_map]; exact h2, h3, h4, h5, h6, rfl⟩
  · rintro i d es G hd ⟨rfl, rfl⟩
    rw [List.getElem?_map] at hd
    obtain ⟨x, hx, rfl⟩ := Option.map_eq_some_iff.mp hd
    refine wt_mono (turn x (List.mem_of_getElem? hx)) fun b G2 hb => ⟨fun e => ?_, fun e => ?_⟩
    · refine we_mono (hb.1 e) fun r G3 hr => ?_
      obtain ⟨d, h1, h2⟩ := hr
      obtain ⟨h3, rfl, h5⟩ := h2.get
      exact ⟨_, h1, .a ⟨h5, by rw [take_step p f hx, if_pos h3]⟩⟩
    · obtain ⟨h3, h5⟩ := (hb.2 e).get
      exact .a ⟨h5, by rw [take_step p f hx, if_neg (by rw [h3]; exact Bool.false_ne_true), List.append_nil]⟩
  · rintro es G ⟨rfl, rfl⟩
    rw [List.length_map, List.take_length]
    exact done
theorem lc_accP {α : Type} {k : Nat} (xs : List α) (c f : α → Dt) (p : α → Bool) (h0 : Γ[k]? = some (.acc (xs.map c))) (hn : xs.length ≤ 1000000) (hj : decide (j < Γ.length) = true) (hja : notAcc Γ[j]? = true)
    (turn : ∀ x ∈ xs, WT K tt (Γ.set j (.val (c x))) fun b G2 => (b = true → WE K te G2 fun r G3 => ∃ d, r.dt? = some d ∧ Hold (p x = true ∧ d = f x ∧ G3.set j (keepV Γ[j]?) = Γ)) ∧ (b = false → Hold (p x = false ∧ G2.set j (keepV Γ[j]?) = Γ)))
    (done : Post (.new ((xs.filter p).map f)) Γ) : WE K (tLc (iList K (tVar k)) (gName j) tt te [j]) Γ Post := by
  refine lc_acc (xs.map c) (fun i es G => G = Γ ∧ es = ((xs.take i).filter p).map f) h0 (by rw [List.length_map]; exact hn) hj hja ⟨rfl, rfl⟩ (fun i es G h => by rw [h.1]; exact h0) ?_ ?_
  · rintro i d es G hd ⟨rfl, rfl⟩
    rw [List.getElem?_map] at hd
    obtain ⟨x, hx, rfl⟩ := Option.map_eq_some_iff.mp hd
    refine wt_mono (turn x (List.mem_of_getElem? hx)) fun b G2 hb => ⟨fun e => ?_, fun e => ?_⟩
    · refine we_mono (hb.1 e) fun r G3 hr => ?_
      obtain ⟨d, h1, h2⟩ := hr
      obtain ⟨h3, rfl, h5⟩ := h2.get
      exact ⟨_, h1, .a ⟨h5, by rw [take_step p f hx, if_pos h3]⟩⟩
    · obtain ⟨h3, h5⟩ := (hb.2 e).get
      exact .a ⟨h5, by rw [take_step p f hx, if_neg (by rw [h3]; exact Bool.false_ne_true), List.append_nil]⟩
  · rintro es G ⟨rfl, rfl⟩
    rw [List.length_map, List.take_length]
    exact done
theorem lc_tupV {α : Type} (xs : List α) (c f : α → Dt) (p : α → Bool) (h : WE K tl Γ fun z Γ1 => Hold (z = .val (.tup (xs.map c)) ∧ xs.length ≤ 1000000 ∧ decide (j < Γ.length) = true ∧ notAcc Γ[j]? = true ∧ Γ1 = Γ))
    (turn : ∀ x ∈ xs, WT K tt (Γ.set j (.val (c x))) fun b G2 => (b = true → WE K te G2 fun r G3 => ∃ d, r.dt? = some d ∧ Hold (p x = true ∧ d = f x ∧ G3.set j (keepV Γ[j]?) = Γ)) ∧ (b = false → Hold (p x = false ∧ G2.set j (keepV Γ[j]?) = Γ)))
    (done : Post (.new ((xs.filter p).map f)) Γ) : WE K (tLc (iTup K tl) (gName j) tt te [j]) Γ Post :=
  lc_tupP xs c f p Γ (we_mono h fun z Γ1 hp => by
    obtain ⟨h1, h2, h3, h4, rfl⟩ := hp.get
    exact .a ⟨h1, h2, h3, h4, rfl, rfl⟩) turn done
theorem lc_lstV {α : Type} (xs : List α) (c f : α → Dt) (p : α → Bool) (h : WE K tl Γ fun z Γ1 => Hold (z.dt? = some (.lst (xs.map c)) ∧ xs.length ≤ 1000000 ∧ decide (j < Γ.length) = true ∧ notAcc Γ[j]? = true ∧ Γ1 = Γ))
    (turn : ∀ x ∈ xs, WT K tt (Γ.set j (.val (c x))) fun b G2 => (b = true → WE K te G2 fun r G3 => ∃ d, r.dt? = some d ∧ Hold (p x = true ∧ d = f x ∧ G3.set j (keepV Γ[j]?) = Γ)) ∧ (b = false → Hold (p x = false ∧ G2.set j (keepV Γ[j]?) = Γ)))
    (done : Post (.new ((xs.filter p).map f)) Γ) : WE K (tLc (iList K tl) (gName j) tt te [j]) Γ Post :=
  lc_lstP xs c f p Γ (we_mono h fun z Γ1 hp => by
    obtain ⟨h1, h2, h3, h4, rfl⟩ := hp.get
    exact .a ⟨h1, h2, h3, h4, rfl, rfl⟩) turn done
theorem for_tupT {α : Type} (xs : List α) (c : α → Dt) (Inv : Nat → List Sl → Prop) (h : WE K te Γ fun z Γ1 => Hold (z = .val (.tup (xs.map c)) ∧ Inv 0 Γ1))
    (turn : ∀ (i : Nat) x G, xs[i]? = some x → Inv i G → WG K pin g (c x) G fun G2 => WS K pin tb G2 ⟨fun G => Hold (Inv (i + 1) G), P.rt, P.nx, fun G => Hold (Inv (i + 1) G), P.ex⟩) (done : ∀ G, Inv xs.length G → P.nx G) : WS K pin (tFor (iTup K te) g tb) Γ P :=
  for_tuple (xs.map c) Inv h (fun i d G hd hG => by
    rw [List.getElem?_map] at hd
    obtain ⟨x, hx, rfl⟩ := Option.map_eq_some_iff.mp hd
    exact turn i x G hx hG) (fun G hG => done G (by rwa [List.length_map] at hG))
theorem for_lstT {α : Type} (xs : List α) (c : α → Dt) (Inv : Nat → List Sl → Prop) (h : WE K te Γ fun z Γ1 => Hold (z.dt? = some (.lst (xs.map c)) ∧ Inv 0 Γ1))
    (turn : ∀ (i : Nat) x G, xs[i]? = some x → Inv i G → WG K pin g (c x) G fun G2 => WS K pin tb G2 ⟨fun G => Hold (Inv (i + 1) G), P.rt, P.nx, fun G => Hold (Inv (i + 1) G), P.ex⟩) (done : ∀ G, Inv xs.length G → P.nx G) : WS K pin (tFor (iList K te) g tb) Γ P :=
  for_lst (xs.map c) Inv h (fun i d G hd hG => by
    rw [List.getElem?_map] at hd
    obtain ⟨x, hx, rfl⟩ := Option.map_eq_some_iff.mp hd
    exact turn i x G hx hG) (fun G hG => done G (by rwa [List.length_map] at hG))
theorem for_accT {α : Type} {k : Nat} (xs : List α) (c : α → Dt) (Inv : Nat → List Sl → Prop) (h0 : Γ[k]? = some (.acc (xs.map c))) (i0 : Inv 0 Γ) (hk : ∀ i G, Inv i G → G[k]? = some (.acc (xs.map c)))
    (turn : ∀ (i : Nat) x G, xs[i]? = some x → Inv i G → WG K (k :: pin) g (c x) G fun G2 => WS K (k :: pin) tb G2 ⟨fun G => Hold (Inv (i + 1) G), P.rt, P.nx, fun G => Hold (Inv (i + 1) G), P.ex⟩) (done : ∀ G, Inv xs.length G → P.nx G) : WS K pin (tFor (iList K (tVar k)) g tb) Γ P :=
  for_acc (xs.map c) Inv h0 i0 hk (fun i d G hd hG => by
    rw [List.getElem?_map] at hd
    obtain ⟨x, hx, rfl⟩ := Option.map_eq_some_iff.mp hd
    exact turn i x G hx hG) (fun G hG => done G (by rwa [List.length_map] at hG))
theorem at_mapI {α : Type} {c : α → Dt} {xs : List α} {k : Int} {i : Nat} {x : α} (e : k = (i : Int)) (h : xs[i]? = some x) : atI (xs.map c) k = some (c x) := atI_of (j := i) e (by rw [List.getElem?_map, h]; rfl)
end
theorem we_freezeV {K : PySem.W.Frag} {Γ : List Sl} {Post : Re → List Sl → Prop} {te : TE} (h : WE K te Γ fun r Γ1 => ∃ d, r.dt? = some d ∧ Post (.val d) Γ1) : WE K te Γ Post := we_freeze h
end Ab

namespace Ab
open PySem L2
abbrev APX := List Sl → (Re → List Sl → Prop) → (Value → List (Str × Dt) → List Sl → Prop) → Prop
def toSpX (K : PySem.W.Frag) (ap : APX) : Sp := fun vs H Q E => ∃ B as Post XP, Env K B H (vs.map some) as ∧ ap as Post XP ∧
  (∀ v B' H' r as', Go K (vs.map some) B H as B' H' as' → ReOk K [] (Own (vs.map some) as) (Own (vs.map some) as') B' H H' v r → Post r as' → Q v H') ∧
  ∀ cls d fs B' H' as', Go K (vs.map some) B H as B' H' as' → ExB K B' d fs → XP cls fs as' → E cls d H'
abbrev RunOkX (K : PySem.W.Frag) (pin : List Nat) (t : WX → TS) (N : Nat) (ap : APX) : Prop := ∀ (W : WX) (as : List Sl) (Post : Re → List Sl → Prop) (XP : Value → List (Str × Dt) → List Sl → Prop), ap as Post XP →
  WS K pin (t W) (as ++ List.replicate (N - as.length) .un) ⟨fun G => Post (.val .non) (exitArgs pin G as), fun r G => Post r (exitArgs pin G as), fun _ => False, fun _ => False, ⟨W, fun cls fs G => XP cls fs (exitArgs pin G as)⟩⟩
section
variable {P : Program} {w : World} {K : PySem.W.Frag} {mg : Str → Option Value} {base : Heap}
theorem fn_abX {x qual : Str} {st : Stmt} {f : Addr} {fd : FuncData} {N ps : List Str} {k : Nat} {ap : APX} (pin : List Nat) (F : Fun K x qual st f fd) (S : FnScope N ps (defScope st))
    (hlen : ∀ as Post XP, ap as Post XP → as.length = ps.length) (hN : decide (ps.length ≤ N.length) = true) (t : WX → TS)
    (body : ∀ (cdv : Value) (A : Around) (outer : List PySem.Env) (s : Shared) (H : Hp) (E : XK), Room k (A.deeper (PyProof.Rows.envOfC qual (defScope st) s.heap.objs.size f cdv)) →
      PSs (cxOf (L2.CX P w) P w K mg base N qual (defScope st) f cdv A outer s H E) (defBody st) (t fun cls d _ H' => E cls d H'))
    (run : RunOkX K pin t N.length ap) :
    FnOk P w K mg base (L2.CX P w) (k + 1) f fd ps (toSpX K ap) := by
  refine F.okX S (fun vs H Q E h => ?_) (fun cdv A outer s H vs Q E hr h => ?_)
  · obtain ⟨B, as, Post, XP, E1, ha, _⟩ := h
    have := E1.len
    rw [List.length_map] at this
    rw [this]; exact hlen as Post XP ha
  · obtain ⟨B, as, Post, XP, E1, ha, q, qx⟩ := h
    refine ⟨_, body cdv A outer s H E hr, ?_⟩
    have hl : vs.length = as.length := by have := E1.len; simpa using this
    have hps : as.length ≤ N.length := by rw [hlen as Post XP ha]; exact of_decide_eq_true hN
    have E0 := env_start E1 hps
    have fin : ∀ v σ' B' H' r Γ', GoS K pin (L2.start N vs) B H (as ++ List.replicate (N.length - as.length) .un) σ' B' H' Γ' → ReOk K [] (Own (L2.start N vs) (as ++ List.replicate (N.length - as.length) .un)) (Own σ' Γ') B' H H' v r → Post r (exitArgs pin Γ' as) → Q v H' := by
      intro v σ' B' H' r Γ' g kk p
      obtain ⟨g', kr⟩ := exit_go E1 hl g
      exact q v B' H' r _ g' (kr v r kk) p
    exact run _ as Post XP ha (L2.start N vs) B H _ E0 (fun σ' B' H' Γ' g p => fin .non σ' B' H' (.val .non) Γ' g (Is.raw _) p) (fun v σ' B' H' r Γ' g kk p => fin v σ' B' H' r Γ' g kk p) (fun _ _ _ _ _ p => p.elim) (fun _ _ _ _ _ p => p.elim)
      (fun cls d fs σ' B' H' Γ' g hx p => qx cls d fs B' H' _ (exit_go E1 hl g).1 hx p)
end
section
variable {K : PySem.W.Frag} {pin : List Nat} {Γ : List Sl} {P : Ps} {Post : Re → List Sl → Prop} {te : TE} {ta : TA}
def tCallX (K : PySem.W.Frag) (ap : APX) (W : WX) (ta : TA) : TE := fun σ H Q => ta σ H fun vs H1 => toSpX K ap vs H1 Q (fun cls d H' => W cls d σ H')
def WX' (K : PySem.W.Frag) (X : Ex) (te : TE) (Γ : List Sl) (Post : Re → List Sl → Prop) : Prop := ∀ σ B H, Env K B H σ Γ → ∀ Q : VK,
  (∀ v B' H' r Γ', Go K σ B H Γ B' H' Γ' → ReOk K σ (Own σ Γ) (Own σ Γ') B' H H' v r → Post r Γ' → Q v H') →
  (∀ cls d fs B' H' Γ', Go K σ B H Γ B' H' Γ' → ExB K B' d fs → X.q cls fs Γ' → X.W cls d σ H') → te σ H Q
theorem wx_call {X : Ex} {W : WX} {ap : APX} (hW : X.W = W) (h : WA K ta Γ fun rs Γ1 => nodupB (ownsOf rs) = true ∧ Hold (ap (rs.map (argSl Γ1)) (fun r as' => NormP (putBack rs as' Γ1) (Post r)) fun cls fs as' => NormP (putBack rs as' Γ1) (X.q cls fs))) : WX' K X (tCallX K ap W ta) Γ Post := fun σ B H E Q q qx => by
  subst hW
  refine h σ B H E _ fun vs B1 H1 rs Γ1 g1 k1 p1 => ?_
  obtain ⟨E2, kk⟩ := call_go E g1 k1 p1.1
  exact ⟨B1, rs.map (argSl Γ1), _, _, E2, p1.2.get, fun v B2 H2 r as' g2 k2 p => q v B2 H2 r _ (kk B2 H2 as' g2).1 ((kk B2 H2 as' g2).2 v r k2) p,
    fun cls d fs B2 H2 as' g2 hx p => qx cls d fs B2 H2 _ (kk B2 H2 as' g2).1 hx p⟩
theorem ws_asgX {i : Nat} (hp : pin.contains i = false) (hi : decide (i < Γ.length) = true) (h : WX' K P.ex te Γ fun z Γ1 => NormP (Γ1.set i (slOf z)) P.nx) : WS K pin (tAsg te (gName i)) Γ P := fun σ B H D E n r b c xx =>
  h σ B H E _ (fun v B1 H1 z Γ1 g k p => n _ B1 H1 _ (goS_set g k hp (by rw [← g.env.len, E.len]; exact of_decide_eq_true hi)) p) fun cls d fs B1 H1 Γ1 g hx p => xx cls d fs σ B1 H1 Γ1 g.s hx p
def tTryO (K : PySem.W.Frag) (c : Value) (tb : WX → TS) (ts : TS) (Wout : WX) : TS := fun D σ H => tb (wOnly K c (fun _ _ _ => ts) Wout D) D σ H
theorem ws_tryO {c : Value} {tb : WX → TS} {ts : TS} {Wout : WX} (q' : Value → List (Str × Dt) → List Sl → Prop) (h : ∀ W, WS K pin (tb W) Γ ⟨P.nx, P.rt, P.bk, P.ct, ⟨W, fun cls fs G => Hold (q' cls fs G)⟩⟩)
    (k : ∀ cls fs G, q' cls fs G → ∃ b, PySem.W.exmOne K cls c = some b ∧ (b = true → WS K pin ts G P) ∧ (b = false → P.ex.W = Wout ∧ P.ex.q cls fs G)) : WS K pin (tTryO K c tb ts Wout) Γ P := fun σ B H D E n r b cc xx => by
  refine h _ σ B H D E n r b cc fun cls d fs σ' B' H' Γ' g hx p => ?_
  obtain ⟨z, hz, hy, hn⟩ := k cls fs Γ' p.get
  refine ⟨z, hz, fun e a ha => ?_, fun e => ?_⟩
  · exact ws_from (hy e) g n r b cc xx
  · obtain ⟨rfl, pq⟩ := hn e
    exact xx cls d fs σ' B' H' Γ' g hx pq
end
end Ab

namespace Ab
open PySem L2
section
variable {K : PySem.W.Frag} {B H B' H' : Hp} {σ τ σ' : L2.St} {Γ Δ Γ' : List Sl} {pin : List Nat}
theorem pre_get {α : Type} {a b : List α} {i : Nat} {x : α} (h : a[i]? = some x) : (a ++ b)[i]? = some x := by
  rw [List.getElem?_append_left (List.getElem?_eq_some_iff.mp h).1]; exact h
theorem app_get {α : Type} {a b : List α} {i : Nat} {x : α} (h : (a ++ b)[i]? = some x) : a[i]? = some x ∨ (a.length ≤ i ∧ b[i - a.length]? = some x) := by
  by_cases hi : i < a.length
  · rw [List.getElem?_append_left hi] at h; exact .inl h
  · rw [List.getElem?_append_right (by omega)] at h; exact .inr ⟨by omega, h⟩
theorem env_pre (E : Env K B H (σ ++ τ) (Γ ++ Δ)) (hl : σ.length = Γ.length) : Env K B H σ Γ := by
  have pre : ∀ {i : Nat} {x : Option V}, i < Γ.length → (σ ++ τ)[i]? = some x → σ[i]? = some x := fun {i x} hi h => by
    rw [List.getElem?_append_left (by omega)] at h; exact h
  refine ⟨hl, E.bh, fun i d h => ?_, fun i c h => ?_, fun i j c d l h1 h2 h3 h4 => E.sep i j c d l (pre_get h1) (pre_get h2) (pre_get h3) (pre_get h4)⟩
  · obtain ⟨v, e1, e2⟩ := E.val i d (pre_get h)
    exact ⟨v, pre (List.getElem?_eq_some_iff.mp h).1 e1, e2⟩
  · obtain ⟨l, o, e1, e2⟩ := E.cel i c (pre_get h)
    exact ⟨l, o, pre (List.getElem?_eq_some_iff.mp h).1 e1, e2⟩
theorem own_pre {a : Addr} (h : Own σ Γ a) : Own (σ ++ τ) (Γ ++ Δ) a := by
  obtain ⟨i, c, h1, h2⟩ := h
  exact ⟨i, c, pre_get h1, pre_get h2⟩
theorem env_ext (E : Env K B H (σ ++ τ) (Γ ++ Δ)) (hl : σ.length = Γ.length) (g : GoS K pin σ B H Γ σ' B' H' Γ') : Env K B' H' (σ' ++ τ) (Γ' ++ Δ) := by
  have hl' := g.env.len
  have hL : τ.length = Δ.length := by have := E.len; rw [List.length_append, List.length_append] at this; omega
  -- a cell of a field
  have cell : ∀ {i : Nat} {c : Cn}, Δ[i]? = some (.cel c) → ∃ l o, τ[i]? = some (some (.ref l)) ∧ H l = some o ∧ B l = none ∧ CnIs K B l o c ∧ ¬ Own σ Γ l := fun {i c} h => by
    have h1 : (Γ ++ Δ)[Γ.length + i]? = some (.cel c) := by rw [List.getElem?_append_right (by omega), Nat.add_sub_cancel_left]; exact h
    obtain ⟨l, o, e1, e2, e3, e4⟩ := E.cel _ c h1
    have e1' : τ[i]? = some (some (.ref l)) := by rw [List.getElem?_append_right (by omega)] at e1; rw [← e1]; congr 1; omega
    refine ⟨l, o, e1', e2, e3, e4, fun ⟨j, d, q1, q2⟩ => ?_⟩
    have hj := (List.getElem?_eq_some_iff.mp q1).1
    have := E.sep j (Γ.length + i) d c l (pre_get q1) h1 (pre_get q2) e1
    omega
  refine ⟨by rw [List.length_append, List.length_append, hl', hL], g.env.bh, fun i d h => ?_, fun i c h => ?_, fun i j c d l h1 h2 h3 h4 => ?_⟩
  · rcases app_get h with h | ⟨hi, h⟩
    · obtain ⟨v, e1, e2⟩ := g.env.val i d h
      exact ⟨v, pre_get e1, e2⟩
    · have h1 : (Γ ++ Δ)[Γ.length + (i - Γ'.length)]? = some (.val d) := by rw [List.getElem?_append_right (by omega), Nat.add_sub_cancel_left]; exact h
      obtain ⟨v, e1, e2⟩ := E.val _ d h1
      refine ⟨v, ?_, e2.mono g.mv.bb⟩
      rw [List.getElem?_append_right (by omega)] at e1
      rw [List.getElem?_append_right (by omega), ← e1]; congr 1; omega
  · rcases app_get h with h | ⟨hi, h⟩
    · obtain ⟨l, o, e1, e2⟩ := g.env.cel i c h
      exact ⟨l, o, pre_get e1, e2⟩
    · obtain ⟨l, o, e1, e2, e3, e4, e5⟩ := cell h
      refine ⟨l, o, ?_, g.mv.kp l o e5 e2, g.mv.off l e5 (by rw [e2]; exact fun z => nomatch z) e3, e4.mono g.mv.bb⟩
      rw [List.getElem?_append_right (by omega), hl']; exact e1
  · have mix : ∀ {i j : Nat} {c d : Cn}, Γ'[i]? = some (.cel c) → Δ[j - Γ'.length]? = some (.cel d) → Γ'.length ≤ j → (σ' ++ τ)[i]? = some (some (.ref l)) → (σ' ++ τ)[j]? = some (some (.ref l)) → False := fun {i j c d} h1 h2 hj h3 h4 => by
      have hi := (List.getElem?_eq_some_iff.mp h1).1
      rw [List.getElem?_append_left (by omega)] at h3
      rw [List.getElem?_append_right (by omega), hl'] at h4
      obtain ⟨l', o, e1, e2, e3, e4, e5⟩ := cell h2
      rw [h4] at e1; cases e1
      rcases g.new l ⟨i, c, h1, h3⟩ with z | z
      · exact e5 z
      · rw [z] at e2; cases e2
    rcases app_get h1 with a1 | ⟨i1, a1⟩
    · rcases app_get h2 with a2 | ⟨i2, a2⟩
      · have b1 := (List.getElem?_eq_some_iff.mp a1).1
        have b2 := (List.getElem?_eq_some_iff.mp a2).1
        rw [List.getElem?_append_left (by omega)] at h3 h4
        exact g.env.sep i j c d l a1 a2 h3 h4
      · exact (mix a1 a2 i2 h3 h4).elim
    · rcases app_get h2 with a2 | ⟨i2, a2⟩
      · exact (mix a2 a1 i1 h4 h3).elim
      · have c1 : (Γ ++ Δ)[Γ.length + (i - Γ'.length)]? = some (.cel c) := by rw [List.getElem?_append_right (by omega), Nat.add_sub_cancel_left]; exact a1
        have c2 : (Γ ++ Δ)[Γ.length + (j - Γ'.length)]? = some (.cel d) := by rw [List.getElem?_append_right (by omega), Nat.add_sub_cancel_left]; exact a2
        rw [List.getElem?_append_right (by omega)] at h3 h4
        have d1 : (σ ++ τ)[Γ.length + (i - Γ'.length)]? = some (some (.ref l)) := by rw [List.getElem?_append_right (by omega), ← h3]; congr 1; omega
        have d2 : (σ ++ τ)[Γ.length + (j - Γ'.length)]? = some (some (.ref l)) := by rw [List.getElem?_append_right (by omega), ← h4]; congr 1; omega
        have := E.sep _ _ c d l c1 c2 d1 d2
        omega
theorem env_un (E : Env K B H σ Γ) : Env K B H (σ ++ [none]) (Γ ++ [.un]) := by
  have up : ∀ {i : Nat} {s : Sl}, (Γ ++ [.un])[i]? = some s → s ≠ .un → Γ[i]? = some s := fun {i s} h hs => by
    rcases app_get h with h | ⟨hi, h⟩
    · exact h
    · cases q : i - Γ.length with
      | zero => rw [q] at h; cases h; exact absurd rfl hs
      | succ j => rw [q] at h; simp at h
  have dn : ∀ {i : Nat} {s : Sl} {x : Option V}, Γ[i]? = some s → (σ ++ [none])[i]? = some x → σ[i]? = some x := fun {i s x} h e => by
    have := (List.getElem?_eq_some_iff.mp h).1
    rw [List.getElem?_append_left (by rw [E.len]; exact this)] at e; exact e
  refine ⟨by rw [List.length_append, List.length_append, E.len]; rfl, E.bh, fun i d h => ?_, fun i c h => ?_, fun i j c d l h1 h2 h3 h4 => ?_⟩
  · obtain ⟨v, e1, e2⟩ := E.val i d (up h (fun z => nomatch z))
    exact ⟨v, pre_get e1, e2⟩
  · obtain ⟨l, o, e1, e2⟩ := E.cel i c (up h (fun z => nomatch z))
    exact ⟨l, o, pre_get e1, e2⟩
  · have a1 := up h1 (fun z => nomatch z)
    have a2 := up h2 (fun z => nomatch z)
    exact E.sep i j c d l a1 a2 (dn a1 h3) (dn a2 h4)
end
structure Mj (K : PySem.W.Frag) (C x dx : Addr) (σ τ : L2.St) (B H : Hp) (Γ Δ : List Sl) (ns : List Str) : Prop where
  len : σ.length = Γ.length
  env : Env K B H (σ ++ τ) (Γ ++ Δ)
  sl : σ[0]? = some (some (.ref x))
  un : Γ[0]? = some .un
  no : ¬ Own (σ ++ τ) (Γ ++ Δ) x
  fs : ∃ vs : List V, τ = vs.map some ∧ H x = some (.ins C dx (ns.zip vs)) ∧ vs.length = ns.length
  bx : B x = none
structure GoJ (K : PySem.W.Frag) (C x dx : Addr) (σ τ : L2.St) (B H : Hp) (Γ Δ : List Sl) (σ' τ' : L2.St) (B' H' : Hp) (Γ' Δ' : List Sl) (ns' : List Str) : Prop where
  mv : Mv (fun a => Own (σ ++ τ) (Γ ++ Δ) a ∨ a = x) B H B' H'
  new : ∀ a, Own (σ' ++ τ') (Γ' ++ Δ') a → Own (σ ++ τ) (Γ ++ Δ) a ∨ H a = none
  mg : Mj K C x dx σ' τ' B' H' Γ' Δ' ns'
section
variable {K : PySem.W.Frag} {C x dx : Addr} {σ τ σ1 τ1 σ2 τ2 : L2.St} {B H B1 H1 B2 H2 : Hp} {Γ Δ Γ1 Δ1 Γ2 Δ2 : List Sl} {ns ns1 ns2 : List Str} {pin : List Nat}
theorem Mj.hx (M : Mj K C x dx σ τ B H Γ Δ ns) : H x ≠ none := by
  obtain ⟨vs, _, h, _⟩ := M.fs
  rw [h]; exact fun z => nomatch z
theorem GoJ.trans (a : GoJ K C x dx σ τ B H Γ Δ σ1 τ1 B1 H1 Γ1 Δ1 ns1) (b : GoJ K C x dx σ1 τ1 B1 H1 Γ1 Δ1 σ2 τ2 B2 H2 Γ2 Δ2 ns2) : GoJ K C x dx σ τ B H Γ Δ σ2 τ2 B2 H2 Γ2 Δ2 ns2 :=
  ⟨a.mv.trans (fun c hc => hc.elim (fun h => (a.new c h).imp .inl id) fun h => .inl (.inr h)) b.mv, fun c h => (b.new c h).elim (fun z => a.new c z) fun z => (a.mv.back z).elim (fun q => q.elim .inl fun e => by
    subst e
    exact absurd z a.mg.hx) .inr, b.mg⟩
theorem GoJ.refl (M : Mj K C x dx σ τ B H Γ Δ ns) : GoJ K C x dx σ τ B H Γ Δ σ τ B H Γ Δ ns := ⟨Mv.refl _ _ _, fun _ h => .inl h, M⟩
theorem GoJ.of (M : Mj K C x dx σ τ B H Γ Δ ns) (g : GoS K pin σ B H Γ σ1 B1 H1 Γ1) (hp : 0 ∈ pin) (hu : Γ1[0]? = some .un) : GoJ K C x dx σ τ B H Γ Δ σ1 τ B1 H1 Γ1 Δ ns := by
  have no : ¬ Own σ Γ x := fun z => M.no (own_pre z)
  have hL : τ.length = Δ.length := by have := M.env.len; rw [List.length_append, List.length_append] at this; have := M.len; omega
  have new : ∀ a, Own (σ1 ++ τ) (Γ1 ++ Δ) a → Own (σ ++ τ) (Γ ++ Δ) a ∨ H a = none := fun a ⟨i, c, h1, h2⟩ => by
    have hl1 := g.env.len
    rcases app_get h1 with h1 | ⟨hi, h1⟩
    · have := (List.getElem?_eq_some_iff.mp h1).1
      rw [List.getElem?_append_left (by omega)] at h2
      exact (g.new a ⟨i, c, h1, h2⟩).imp own_pre id
    · rw [List.getElem?_append_right (by omega), hl1] at h2
      refine .inl ⟨Γ.length + (i - Γ1.length), c, ?_, ?_⟩
      · rw [List.getElem?_append_right (by omega), Nat.add_sub_cancel_left]; exact h1
      · rw [List.getElem?_append_right (by have := M.len; omega), ← h2]; congr 1; have := M.len; omega
  obtain ⟨vs, e1, e2, e3⟩ := M.fs
  refine ⟨⟨fun a o na e => g.mv.kp a o (fun z => na (.inl (own_pre z))) e, g.mv.bb, fun a na ha hb => g.mv.off a (fun z => na (.inl (own_pre z))) ha hb⟩, new, ⟨g.env.len, env_ext M.env M.len g, ?_, hu, fun z => ?_, ⟨vs, e1, g.mv.kp x _ no e2, e3⟩, g.mv.off x no M.hx M.bx⟩⟩
  · rw [g.pin 0 hp]; exact M.sl
  · rcases new x z with z | z
    · exact M.no z
    · exact M.hx z
theorem GoJ.put (M : Mj K C x dx σ τ B H Γ Δ ns) {j : Nat} {ds es : List Dt} {l : Addr} {ys : List V} (h : Δ[j]? = some (.acc ds)) (hl : τ[j]? = some (some (.ref l))) (ha : IsA K B ys es) :
    GoJ K C x dx σ τ B H Γ Δ σ τ B (upd H l (.lst ys)) Γ (Δ.set j (.acc es)) ns := by
  have h' : (Γ ++ Δ)[Γ.length + j]? = some (.acc ds) := by rw [List.getElem?_append_right (by omega), Nat.add_sub_cancel_left]; exact h
  have hl' : (σ ++ τ)[Γ.length + j]? = some (some (.ref l)) := by rw [List.getElem?_append_right (by have := M.len; omega), M.len, Nat.add_sub_cancel_left]; exact hl
  have g := Go.put M.env h' hl' ha
  have es' : (Γ ++ Δ).set (Γ.length + j) (.acc es) = Γ ++ Δ.set j (.acc es) := by
    rw [List.set_append_right _ _ (by omega), Nat.add_sub_cancel_left]
  rw [es'] at g
  have own : Own (σ ++ τ) (Γ ++ Δ) l := ⟨_, _, h', hl'⟩
  have nx : x ≠ l := fun z => by subst z; exact M.no own
  obtain ⟨vs, e1, e2, e3⟩ := M.fs
  exact ⟨⟨fun a o na e => g.mv.kp a o (fun z => na (.inl z)) e, g.mv.bb, fun a na ha hb => g.mv.off a (fun z => na (.inl z)) ha hb⟩, fun a z => .inl (g.sub a z), ⟨M.len, g.env, M.sl, M.un, fun z => M.no (g.sub x z), ⟨vs, e1, by rw [upd_ne nx]; exact e2, e3⟩, M.bx⟩⟩
theorem zip_get {ns : List Str} {vs : List V} {f : Str} {j : Nat} {v : V} (hj : ns[j]? = some f) (hn : ∀ i, i < j → ∀ g, ns[i]? = some g → ¬ f = g) (hv : vs[j]? = some v) : (ns.zip vs).lookup f = some v := by
  induction ns generalizing vs j with
  | nil => simp at hj
  | cons n r ih =>
    cases vs with
    | nil => simp at hv
    | cons u us =>
      cases j with
      | zero =>
        simp at hj hv; subst hj hv
        have hb : (n == n) = true := beq_iff_eq.mpr rfl
        simp only [List.zip_cons_cons, List.lookup, hb]
      | succ j =>
        have hne := hn 0 (by omega) n rfl
        have hb : (f == n) = false := beq_eq_false_iff_ne.mpr hne
        simp only [List.zip_cons_cons, List.lookup, hb]
        exact ih (by simpa using hj) (fun i hi g hg => hn (i + 1) (by omega) g (by simpa using hg)) (by simpa using hv)
theorem putF_zip {f : Str} {v : V} : ∀ {ns : List Str} {vs : List V}, ns.length = vs.length → (∀ g ∈ ns, ¬ g = f) → putF f v (ns.zip vs) = (ns ++ [f]).zip (vs ++ [v])
  | [], [], _, _ => rfl
  | [], _ :: _, h, _ => by simp at h
  | _ :: _, [], h, _ => by simp at h
  | n :: r, u :: us, h, hn => by
    show putF f v ((n, u) :: r.zip us) = _
    unfold putF
    rw [if_neg (hn n List.mem_cons_self), putF_zip (by simpa using h) fun g hg => hn g (List.mem_cons_of_mem _ hg)]
    rfl
end
def WJ (K : PySem.W.Frag) (C : Addr) (t : TS) (Γ Δ : List Sl) (ns : List Str) (P : List Sl → List Sl → List Str → Prop) : Prop := ∀ σ τ B H (D : Ends) x dx, Mj K C x dx σ τ B H Γ Δ ns →
  (∀ σ' τ' B' H' Γ' Δ' ns', GoJ K C x dx σ τ B H Γ Δ σ' τ' B' H' Γ' Δ' ns' → P Γ' Δ' ns' → D.nx σ' H') → t D σ H
section
variable {K : PySem.W.Frag} {C : Addr} {Γ Δ : List Sl} {ns : List Str} {P : List Sl → List Sl → List Str → Prop} {t u tb : TS} {te : TE} {g : TG}
theorem wj_seq (h : WJ K C t Γ Δ ns fun G D n => WJ K C u G D n P) : WJ K C (tSeq t u) Γ Δ ns P := fun σ τ B H D x dx M n =>
  h σ τ B H { D with nx := u D } x dx M fun σ1 τ1 B1 H1 Γ1 Δ1 ns1 g p => p σ1 τ1 B1 H1 D x dx g.mg fun σ2 τ2 B2 H2 Γ2 Δ2 ns2 g2 p2 => n σ2 τ2 B2 H2 Γ2 Δ2 ns2 (g.trans g2) p2
theorem wj_set {f : Str} (cl : Cls K C) (na : NoAttr K C f) (hn : ∀ g ∈ ns, ¬ g = f) (hz : ns.length < 900)
    (h : WE K te Γ fun r Γ1 => Γ1[0]? = some .un ∧ ((∃ d, r = .val d ∧ P Γ1 (Δ ++ [.val d]) (ns ++ [f])) ∨ ∃ c, r = .nw c ∧ P Γ1 (Δ ++ [.cel c]) (ns ++ [f]))) : WJ K C (sFld K (tVar 0) te f) Γ Δ ns P := fun σ τ B H D x dx M n => by
  refine h σ B H (env_pre M.env M.len) _ fun y B1 H1 r Γ1 g k p => ?_
  obtain ⟨h0, p⟩ := p
  have G := GoJ.of (pin := [0]) M g.s (by simp) h0
  obtain ⟨vs, e1, e2, e3⟩ := G.mg.fs
  have hxn := G.mg.hx
  refine ⟨.ref x, M.sl, x, C, dx, _, rfl, e2, cl, na, by rw [List.length_zip, e3, Nat.min_self]; omega, ?_⟩
  rw [putF_zip (by omega) hn]
  -- the slot of the new field
  have E1 := env_un G.mg.env
  have hlen : (Γ1 ++ Δ).length < ((Γ1 ++ Δ) ++ [Sl.un]).length := by rw [List.length_append (as := Γ1 ++ Δ)]; simp
  have sset : ∀ {α : Type} (a : List α) (u v : α), (a ++ [u]).set a.length v = a ++ [v] := fun a u v => by rw [List.set_append_right _ _ (Nat.le_refl _), Nat.sub_self]; rfl
  have lenE : (σ ++ τ).length = (Γ1 ++ Δ).length := G.mg.env.len
  -- the instance is changed beside all that
  have upE : ∀ {σ2 Γ2 B2}, Env K B2 H1 σ2 Γ2 → B2 x = none → ¬ Own σ2 Γ2 x → Env K B2 (upd H1 x (.ins C dx ((ns ++ [f]).zip (vs ++ [y])))) σ2 Γ2 := fun {σ2 Γ2 B2} E bx nx => by
    refine ⟨E.len, fun a o e => ?_, E.val, fun i es hi => ?_, E.sep⟩
    · have : a ≠ x := fun z => by subst z; rw [bx] at e; cases e
      rw [upd_ne this]; exact E.bh a o e
    · obtain ⟨l, o, q1, q2, q3⟩ := E.cel i es hi
      have : l ≠ x := fun z => nx (by subst z; exact ⟨i, es, hi, q1⟩)
      exact ⟨l, o, q1, by rw [upd_ne this]; exact q2, q3⟩
  have fin : ∀ (s : Sl), Env K B1 H1 ((σ ++ τ) ++ [some y]) ((Γ1 ++ Δ) ++ [s]) → ¬ Own ((σ ++ τ) ++ [some y]) ((Γ1 ++ Δ) ++ [s]) x → (∀ a, Own ((σ ++ τ) ++ [some y]) ((Γ1 ++ Δ) ++ [s]) a → Own (σ ++ τ) (Γ ++ Δ) a ∨ H a = none) → P Γ1 (Δ ++ [s]) (ns ++ [f]) → D.nx σ (upd H1 x (.ins C dx ((ns ++ [f]).zip (vs ++ [y])))) := fun s E2 no2 new2 p => by
    have E3 := upE E2 G.mg.bx no2
    rw [List.append_assoc, List.append_assoc] at E3 no2
    simp only [List.append_assoc] at new2
    refine n σ (τ ++ [some y]) B1 _ Γ1 (Δ ++ [s]) (ns ++ [f]) ⟨⟨fun a o na' e => ?_, G.mv.bb, fun a na' ha hb => G.mv.off a na' ha hb⟩, new2, ⟨G.mg.len, E3, M.sl, h0, no2, ⟨vs ++ [y], by rw [e1, List.map_append]; rfl, upd_same, by rw [List.length_append, List.length_append, e3]; rfl⟩, G.mg.bx⟩⟩ p
    have h2 : a ≠ x := fun z => na' (.inr z)
    rw [upd_ne h2]; exact G.mv.kp a o na' e
  rcases p with ⟨d, rfl, p⟩ | ⟨c, rfl, p⟩
  · have E2 := E1.setV (i := (Γ1 ++ Δ).length) (d := d) (v := y) hlen k
    rw [sset, ← lenE, sset] at E2
    have sub : ∀ a, Own ((σ ++ τ) ++ [some y]) ((Γ1 ++ Δ) ++ [.val d]) a → Own (σ ++ τ) (Γ1 ++ Δ) a := fun a ⟨i, c, h1, h2⟩ => by
      rcases app_get h1 with q | ⟨hi, q⟩
      · have := (List.getElem?_eq_some_iff.mp q).1
        rw [List.getElem?_append_left (by omega)] at h2
        exact ⟨i, c, q, h2⟩
      · cases hq : i - (Γ1 ++ Δ).length with
        | zero => rw [hq] at q; cases q
        | succ m => rw [hq] at q; simp at q
    exact fin _ E2 (fun z => G.mg.no (sub x z)) (fun a z => G.new a (sub a z)) p
  · obtain ⟨l, o, rfl, k1, k2, k3, k4, k5⟩ := k
    have nol : ¬ Own (σ ++ τ) (Γ1 ++ Δ) l := fun ⟨i, cc, h1, h2⟩ => by
      rcases app_get h1 with q | ⟨hi, q⟩
      · have := (List.getElem?_eq_some_iff.mp q).1
        rw [List.getElem?_append_left (by have := G.mg.len; omega)] at h2
        exact k2 ⟨i, cc, q, h2⟩
      · -- a field's cell is neither of the frame's nor new
        have hln := G.mg.len
        rw [List.getElem?_append_right (by omega)] at h2
        have c1 : (Γ ++ Δ)[Γ.length + (i - Γ1.length)]? = some (.cel cc) := by rw [List.getElem?_append_right (by omega), Nat.add_sub_cancel_left]; exact q
        have c2 : (σ ++ τ)[Γ.length + (i - Γ1.length)]? = some (some (.ref l)) := by rw [List.getElem?_append_right (by have := M.len; omega), ← h2]; congr 1; have := M.len; omega
        rcases k1 with k1 | k1
        · obtain ⟨m, dd, m1, m2⟩ := k1
          have hm := (List.getElem?_eq_some_iff.mp m1).1
          have := M.env.sep m _ dd cc l (pre_get m1) c1 (pre_get m2) c2
          omega
        · obtain ⟨l', o', f1, f2, _⟩ := M.env.cel _ cc c1
          rw [c2] at f1; cases f1
          rw [k1] at f2; cases f2
    have E2 := E1.setA (i := (Γ1 ++ Δ).length) (l := l) (vs := o) (ds := c) hlen (fun z => nol (by
      obtain ⟨i, cc, h1, h2⟩ := z
      rcases app_get h1 with q | ⟨hi, q⟩
      · have := (List.getElem?_eq_some_iff.mp q).1
        rw [List.getElem?_append_left (by omega)] at h2
        exact ⟨i, cc, q, h2⟩
      · cases hq : i - (Γ1 ++ Δ).length with
        | zero => rw [hq] at q; cases q
        | succ m => rw [hq] at q; simp at q)) k3 k4 k5
    rw [sset, ← lenE, sset] at E2
    have sub : ∀ a, Own ((σ ++ τ) ++ [some (V.ref l)]) ((Γ1 ++ Δ) ++ [.cel c]) a → Own (σ ++ τ) (Γ1 ++ Δ) a ∨ a = l := fun a ⟨i, cc, h1, h2⟩ => by
      rcases app_get h1 with q | ⟨hi, q⟩
      · have := (List.getElem?_eq_some_iff.mp q).1
        rw [List.getElem?_append_left (by omega)] at h2
        exact .inl ⟨i, cc, q, h2⟩
      · cases hq : i - (Γ1 ++ Δ).length with
        | zero =>
          rw [List.getElem?_append_right (by omega), lenE, hq] at h2
          cases h2; exact .inr rfl
        | succ m => rw [hq] at q; simp at q
    refine fin _ E2 (fun z => ?_) (fun a z => ?_) p
    · rcases sub x z with z | z
      · exact G.mg.no z
      · subst z
        obtain ⟨vs', _, q, _⟩ := G.mg.fs
        rw [q] at k3; cases k3
        cases c <;> (obtain ⟨_, z, _⟩ := k5; cases z)
    · rcases sub a z with z | z
      · exact G.new a z
      · subst z
        exact k1.imp own_pre id
end
def WEJ (K : PySem.W.Frag) (C : Addr) (te : TE) (Γ Δ : List Sl) (ns : List Str) (Post : Dt → List Sl → Prop) : Prop := ∀ σ τ B H x dx, Mj K C x dx σ τ B H Γ Δ ns →
  ∀ Q : VK, (∀ v B' H' d Γ', GoJ K C x dx σ τ B H Γ Δ σ τ B' H' Γ' Δ ns → Is K B' v d → Post d Γ' → Q v H') → te σ H Q
section
variable {K : PySem.W.Frag} {C : Addr} {Γ Δ : List Sl} {ns : List Str} {P : List Sl → List Sl → List Str → Prop} {Post : Dt → List Sl → Prop} {t u tb : TS} {te ta tb' : TE} {g : TG} {f : Str} {j : Nat}
theorem wej_we (h : WE K te Γ fun r Γ1 => ∃ d, r = .val d ∧ Γ1[0]? = some .un ∧ Post d Γ1) : WEJ K C te Γ Δ ns Post := fun σ τ B H x dx M Q q => by
  refine h σ B H (env_pre M.env M.len) Q fun v B' H' r Γ' g k p => ?_
  obtain ⟨d, rfl, h0, p⟩ := p
  exact q v B' H' d Γ' (GoJ.of (pin := [0]) M g.s (by simp) h0) k p
theorem Mj.cell {x dx : Addr} {σ τ : L2.St} {B H : Hp} {ds : List Dt} (M : Mj K C x dx σ τ B H Γ Δ ns) (hf : ns[j]? = some f) (hn : ∀ i, i < j → ∀ g, ns[i]? = some g → ¬ f = g) (h : Δ[j]? = some (.acc ds)) :
    ∃ l vs fs, τ[j]? = some (some (.ref l)) ∧ H l = some (.lst vs) ∧ IsA K B vs ds ∧ H x = some (.ins C dx fs) ∧ fs.lookup f = some (.ref l) := by
  have h' : (Γ ++ Δ)[Γ.length + j]? = some (.acc ds) := by rw [List.getElem?_append_right (by omega), Nat.add_sub_cancel_left]; exact h
  obtain ⟨l, vs, e1, e2, e3, e4⟩ := M.env.acc _ _ h'
  rw [List.getElem?_append_right (by have := M.len; omega), M.len, Nat.add_sub_cancel_left] at e1
  obtain ⟨us, f1, f2, f3⟩ := M.fs
  have hu : us[j]? = some (.ref l) := by
    rw [f1, List.getElem?_map] at e1
    cases q : us[j]? with
    | none => rw [q] at e1; cases e1
    | some u => rw [q] at e1; cases e1; rfl
  exact ⟨l, vs, _, e1, e2, e4, f2, zip_get hf hn hu⟩
theorem wej_last {ds : List Dt} {d : Dt} (cl : Cls K C) (na : NoAttr K C f) (hf : ns[j]? = some f) (hn : ∀ i, i < j → ∀ g, ns[i]? = some g → ¬ f = g) (h : Δ[j]? = some (.acc ds)) (hd : atI ds (-1) = some d) (p : Post d Γ) :
    WEJ K C (tOp (rIx K) (tFld K (tVar 0) f) (tUn rNegI (tC (.int 1)))) Γ Δ ns Post := fun σ τ B H x dx M Q q => by
  obtain ⟨l, vs, fs, e1, e2, e3, e4, e5⟩ := M.cell hf hn h
  obtain ⟨v, hv, hi⟩ := e3.atI hd
  refine ⟨.ref x, M.sl, x, C, dx, fs, .ref l, rfl, e4, cl, na, e5, 1, rfl, ?_⟩
  exact .inl ⟨l, vs, -1, v, rfl, rfl, .inl (.inl e2), hv, q v B H d Γ (.refl M) hi p⟩
theorem wej_add (h : WEJ K C ta Γ Δ ns fun a Γ1 => ∃ i, a = .int i ∧ WEJ K C tb' Γ1 Δ ns fun b Γ2 => ∃ k, b = .int k ∧ Post (.int (i + k)) Γ2) : WEJ K C (tOp (rAddG K) ta tb') Γ Δ ns Post := fun σ τ B H x dx M Q q => by
  refine h σ τ B H x dx M _ fun v B1 H1 d Γ1 g1 k1 ⟨i, e, h1⟩ => ?_
  subst e
  refine h1 σ τ B1 H1 x dx g1.mg _ fun w B2 H2 d2 Γ2 g2 k2 ⟨k, e, p⟩ => ?_
  subst e
  cases Is.rawI k1; cases Is.rawI k2
  exact .inl ⟨i, k, rfl, rfl, q _ B2 H2 _ Γ2 (g1.trans g2) (.raw _) p⟩
theorem wj_app {ds0 : List Dt} (cl : Cls K C) (na : NoAttr K C f) (hf : ns[j]? = some f) (hn : ∀ i, i < j → ∀ g, ns[i]? = some g → ¬ f = g) (h0 : Δ[j]? = some (.acc ds0)) (hz : ds0.length < 1000000)
    (h : WEJ K C te Γ Δ ns fun d Γ1 => P Γ1 (Δ.set j (.acc (ds0 ++ [d]))) ns) : WJ K C (tDrop (tBM K "list" rAppend (tFld K (tVar 0) f) (tCons te tNil))) Γ Δ ns P := fun σ τ B H D x dx M n => by
  obtain ⟨l, vs, fs, e1, e2, e3, e4, e5⟩ := M.cell hf hn h0
  refine ⟨.ref x, M.sl, x, C, dx, fs, .ref l, rfl, e4, cl, na, e5, .inl ⟨rfl, vs, .inl (.inl e2)⟩, ?_⟩
  refine h σ τ B H x dx M _ fun v B1 H1 d Γ1 g1 k1 p => ?_
  obtain ⟨l', us, fs', f1, f2, f3, f4, f5⟩ := g1.mg.cell hf hn h0
  rw [e1] at f1; cases f1
  refine ⟨l, us, v, rfl, rfl, f2, Nat.lt_trans (by rw [f3.len]; exact hz) (by decide), ?_⟩
  exact n σ τ B1 _ Γ1 _ ns (g1.trans (GoJ.put g1.mg h0 e1 (f3.snoc k1))) p
theorem wj_ext {ds0 : List Dt} (cl : Cls K C) (na : NoAttr K C f) (hf : ns[j]? = some f) (hn : ∀ i, i < j → ∀ g, ns[i]? = some g → ¬ f = g) (h0 : Δ[j]? = some (.acc ds0))
    (h : WE K te Γ fun z Γ1 => ∃ es, lstOf Γ1 z = some es ∧ z.isScr = false ∧ Γ1[0]? = some .un ∧ ds0.length + es.length ≤ 1000000 ∧ P Γ1 (Δ.set j (.acc (ds0 ++ es))) ns) : WJ K C (tDrop (tBM K "list" rExtend (tFld K (tVar 0) f) (tCons te tNil))) Γ Δ ns P := fun σ τ B H D x dx M n => by
  obtain ⟨l, vs, fs, e1, e2, e3, e4, e5⟩ := M.cell hf hn h0
  refine ⟨.ref x, M.sl, x, C, dx, fs, .ref l, rfl, e4, cl, na, e5, .inl ⟨rfl, vs, .inl (.inl e2)⟩, ?_⟩
  refine h σ B H (env_pre M.env M.len) _ fun y B1 H1 z Γ1 g k p => ?_
  obtain ⟨es, hl, hs, hu, hz, p⟩ := p
  have G := GoJ.of (pin := [0]) M g.s (by simp) hu
  obtain ⟨l', us, fs', f1, f2, f3, f4, f5⟩ := G.mg.cell hf hn h0
  rw [e1] at f1; cases f1
  obtain ⟨b, zs, rfl, hb, kz⟩ := rv_lstH g.env k.rv hl hs
  refine ⟨l, b, us, zs, rfl, rfl, f2, hb, Nat.le_trans (by rw [f3.len, kz.len]; exact hz) (by decide), ?_⟩
  exact n σ τ B1 _ Γ1 _ ns (G.trans (GoJ.put G.mg h0 e1 (f3.append kz))) p
theorem wj_forT (ds : List Dt) (Inv : Nat → List Sl → List Sl → List Str → Prop) (h : WE K te Γ fun z Γ1 => Hold (z = .val (.tup ds) ∧ Γ1[0]? = some .un ∧ Inv 0 Γ1 Δ ns))
    (turn : ∀ (i : Nat) d Γ' Δ' ns', ds[i]? = some d → Inv i Γ' Δ' ns' → WG K [0] g d Γ' fun Γ2 => Γ2[0]? = some .un ∧ WJ K C tb Γ2 Δ' ns' fun G D n => Hold (Inv (i + 1) G D n)) (done : ∀ G D n, Inv ds.length G D n → P G D n) :
    WJ K C (tFor (iTup K te) g tb) Γ Δ ns P := fun σ τ B H D x dx M n => by
  refine h σ B H (env_pre M.env M.len) _ fun v B1 H1 z Γ1 g1 k p => ?_
  obtain ⟨rfl, hu, i0⟩ := p.get
  have G := GoJ.of (pin := [0]) M g1.s (by simp) hu
  obtain ⟨a, xs, rfl, ha, hx⟩ := Is.tupR k
  refine ⟨a, rfl, ⟨xs, sqT_mono g1.env.bh ha⟩, for_tup (xs := xs) (fun i σ' H' => ∃ τ' B' Γ' Δ' ns', Same B1 B' ∧ GoJ K C x dx σ τ B H Γ Δ σ' τ' B' H' Γ' Δ' ns' ∧ Inv i Γ' Δ' ns') ⟨τ, B1, Γ1, Δ, ns, Same.refl _, G, i0⟩ ?_ ?_ ?_⟩
  · rintro i σ' H' _ ⟨τ', B', Γ', Δ', ns', sb, g2, _⟩
    exact sqT_mono (sb.trans g2.mg.env.bh) ha
  · rintro i y σ' H' hi ⟨τ', B', Γ', Δ', ns', sb, g2, inv⟩
    have hlt : i < ds.length := by rw [← hx.len]; exact (List.getElem?_eq_some_iff.mp hi).1
    refine turn i ds[i] Γ' Δ' ns' (List.getElem?_eq_getElem hlt) inv σ' B' H' y (env_pre g2.mg.env g2.mg.len) ((hx.at_ i y _ hi (List.getElem?_eq_getElem hlt)).mono sb) _ fun σ2 Γ2 g3 w => ?_
    have G3 := g2.trans (GoJ.of g2.mg g3 List.mem_cons_self w.1)
    exact w.2 σ2 τ' B' H' _ x dx G3.mg fun σ4 τ4 B4 H4 Γ4 Δ4 ns4 g4 p => ⟨τ4, B4, Γ4, Δ4, ns4, sb.trans g4.mv.bb, G3.trans g4, p.get⟩
  · rintro σ' H' ⟨τ', B', Γ', Δ', ns', sb, g2, inv⟩
    rw [hx.len] at inv
    exact n σ' τ' B' H' Γ' Δ' ns' g2 (done Γ' Δ' ns' inv)
def fdt : Sl → Dt
  | .val d => d
  | .cel c => c.dt
  | .un => .non
def frzS : Sl → Sl
  | .cel c => .val c.dt
  | s => s
end
theorem go_frzN {K : PySem.W.Frag} {σ : L2.St} {B H : Hp} {G : List Sl} (E : Env K B H σ G) : ∀ n, n ≤ G.length → ∃ B', Go K σ B H G B' H ((G.take n).map frzS ++ G.drop n)
  | 0, _ => ⟨B, by rw [List.take_zero, List.drop_zero]; exact .refl E⟩
  | n + 1, h => by
    obtain ⟨B1, g⟩ := go_frzN E n (by omega)
    have hd : G.drop n = G[n] :: G.drop (n + 1) := List.drop_eq_getElem_cons (by omega)
    have ht : G.take (n + 1) = G.take n ++ [G[n]] := by rw [List.take_succ, List.getElem?_eq_getElem (by omega)]; rfl
    have hl : ((G.take n).map frzS).length = n := by rw [List.length_map, List.length_take]; omega
    have hat : ((G.take n).map frzS ++ G.drop n)[n]? = some G[n] := by
      rw [List.getElem?_append_right (by omega), hl, Nat.sub_self, hd]; rfl
    have hset : ∀ s, ((G.take n).map frzS ++ G.drop n).set n s = (G.take n).map frzS ++ (s :: G.drop (n + 1)) := fun s => by
      rw [List.set_append_right _ _ (by omega), hl, Nat.sub_self, hd]; rfl
    rw [ht, List.map_append, List.append_assoc]
    cases hs : G[n] with
    | cel c =>
      rw [hs] at hat
      obtain ⟨B2, g2⟩ := go_frz hat g.env
      rw [hset] at g2
      exact ⟨B2, g.trans g2⟩
    | val d => rw [hd, hs] at g; exact ⟨B1, g⟩
    | un => rw [hd, hs] at g; exact ⟨B1, g⟩
theorem zip_some {α β : Type} (f : Str) : ∀ {ns : List Str} {as : List α} {bs : List β}, as.length = ns.length → bs.length = ns.length → ((ns.zip as).lookup f).isSome = ((ns.zip bs).lookup f).isSome
  | [], _, _, _, _ => rfl
  | _ :: _, [], _, h, _ => by simp at h
  | _ :: _, _ :: _, [], _, h => by simp at h
  | n :: r, a :: as, b :: bs, h, h' => by
    simp only [List.zip_cons_cons, List.lookup]
    cases f == n with
    | true => rfl
    | false => exact zip_some f (by simpa using h) (by simpa using h')
theorem zip_both {α β : Type} (f : Str) : ∀ {ns : List Str} {as : List α} {bs : List β} {a : α} {b : β}, (ns.zip as).lookup f = some a → (ns.zip bs).lookup f = some b → ∃ i : Nat, as[i]? = some a ∧ bs[i]? = some b
  | [], _, _, _, _, h, _ => by simp [List.lookup] at h
  | _ :: _, [], _, _, _, h, _ => by simp [List.lookup] at h
  | _ :: _, _ :: _, [], _, _, _, h => by simp [List.lookup] at h
  | n :: r, a :: as, b :: bs, x, y, h, h' => by
    simp only [List.zip_cons_cons, List.lookup] at h h'
    cases hq : f == n with
    | true => rw [hq] at h h'; cases h; cases h'; exact ⟨0, rfl, rfl⟩
    | false =>
      rw [hq] at h h'
      obtain ⟨i, e1, e2⟩ := zip_both f h h'
      exact ⟨i + 1, e1, e2⟩
theorem fn_initJ {K : PySem.W.Frag} {C : Addr} {Pg : Program} {w : World} {mg : Str → Option Value} {base : Heap} {x qual : Str} {st : Stmt} {f : Addr} {fd : FuncData} {N ps : List Str} {k : Nat} {ai : AI} (F : Fun K x qual st f fd) (S : FnScope N ps (defScope st))
    (hlen : ∀ ds Post, ai ds Post → ds.length + 1 = ps.length) (hN : decide (ps.length ≤ N.length) = true)
    (body : ∀ (cdv : Value) (A : Around) (outer : List PySem.Env) (s : Shared) (H : Hp) (E : XK), Room k (A.deeper (PyProof.Rows.envOfC qual (defScope st) s.heap.objs.size f cdv)) →
      ∃ t, PSs (cxOf CX0 Pg w K mg base N qual (defScope st) f cdv A outer s H E).nox (defBody st) t ∧
        ∀ ds Post, ai ds Post → WJ K C t ((.un :: ds.map Sl.val) ++ List.replicate (N.length - (ds.length + 1)) .un) [] [] (fun _ D ns => (∀ s ∈ D, s ≠ .un) ∧ Post (ns.zip (D.map fdt)))) :
    FnOk Pg w K mg base CX0 (k + 1) f fd ps (toSpI K C ai) := by
  refine F.ok S (fun vs H Q E h => ?_) (fun cdv A outer s H vs Q E hr h => ?_)
  · obtain ⟨x, dx, ws, B, ds, Post, rfl, _, _, _, ha, hai, _⟩ := h
    rw [List.length_cons, ha.len]; exact hlen ds Post hai
  · obtain ⟨x, dx, ws, B, ds, Post, rfl, hx, bx, hbh, ha, hai, q⟩ := h
    obtain ⟨t, ht, hw⟩ := body cdv A outer s H E hr
    refine ⟨t, ht, ?_⟩
    have E1 : Env K B H ((V.ref x :: ws).map some) (.un :: ds.map Sl.val) := by
      have e := env_vals hbh ha
      refine ⟨by simp [ha.len], hbh, fun i d h => ?_, fun i es h => ?_, fun i j es fs l h1 h2 h3 h4 => ?_⟩
      · cases i with
        | zero => cases h
        | succ i => exact e.val i d (by simpa using h)
      · cases i with
        | zero => cases h
        | succ i => exact e.cel i es (by simpa using h)
      · cases i with
        | zero => cases h1
        | succ i =>
          cases j with
          | zero => cases h2
          | succ j => exact congrArg Nat.succ (e.sep i j es fs l (by simpa using h1) (by simpa using h2) (by simpa using h3) (by simpa using h4))
    have hps : (Sl.un :: ds.map Sl.val).length ≤ N.length := by
      rw [List.length_cons, List.length_map, hlen ds Post hai]; exact of_decide_eq_true hN
    have E0 := env_start E1 hps
    have no : ∀ a, ¬ Own (L2.start N (V.ref x :: ws)) ((Sl.un :: ds.map Sl.val) ++ List.replicate (N.length - (Sl.un :: ds.map Sl.val).length) .un) a := fun a z => by
      have := (own_start (N := N) (vs := V.ref x :: ws) (as := Sl.un :: ds.map Sl.val) (by simp [ha.len])).mp z
      obtain ⟨i, es, h1, h2⟩ := this
      cases i with
      | zero => cases h1
      | succ i =>
        have h1 : (ds.map Sl.val)[i]? = some (.cel es) := by simpa using h1
        rw [List.getElem?_map] at h1
        cases q : ds[i]? with
        | none => rw [q] at h1; cases h1
        | some d => rw [q] at h1; cases h1
    have hlN : (Sl.un :: ds.map Sl.val).length = ds.length + 1 := by rw [List.length_cons, List.length_map]
    rw [hlN] at E0 no
    have nn : ∀ {α : Type} (l : List α), l ++ [] = l := fun l => List.append_nil l
    refine hw ds Post hai (L2.start N (V.ref x :: ws)) [] B H _ x dx ⟨E0.len, by rw [nn, nn]; exact E0, rfl, rfl, by rw [nn, nn]; exact no x, ⟨[], rfl, hx, rfl⟩, bx⟩ fun σ' τ' B' H' Γ' Δ' ns' g p => ?_
    obtain ⟨hu, p⟩ := p
    obtain ⟨vs, e1, e2, e3⟩ := g.mg.fs
    obtain ⟨B2, g2⟩ := go_frzN g.mg.env (Γ' ++ Δ').length (Nat.le_refl _)
    rw [List.take_length, List.drop_length, nn, List.map_append] at g2
    have hL : τ'.length = Δ'.length := by have := g.mg.env.len; rw [List.length_append, List.length_append] at this; have := g.mg.len; omega
    have hV : vs.length = Δ'.length := by rw [← hL, e1, List.length_map]
    have no' : ∀ a, Own (L2.start N (V.ref x :: ws) ++ []) ((Sl.un :: ds.map Sl.val) ++ List.replicate (N.length - (ds.length + 1)) .un ++ []) a → False := fun a z => no a (by rw [nn, nn] at z; exact z)
    refine q B2 H' _ _ ⟨fun a o na e => g.mv.kp a o (fun z => z.elim (no' a) na) e, g.mv.bb.trans g2.mv.bb, fun a na ha hb => ?_⟩ g2.env.bh e2 (g2.mv.off x g.mg.no (by rw [e2]; exact fun z => nomatch z) g.mg.bx) ⟨?_, fun f => zip_some f e3 (by rw [List.length_map, ← hV, e3]), fun f v d h1 h2 => ?_⟩ p
    · have h' := g.mv.off a (fun z => z.elim (no' a) na) ha hb
      refine g2.mv.off a (fun z => ?_) (fun z => ?_) h'
      · rcases g.new a z with z | z
        · exact no' a z
        · exact ha z
      · cases q : H a with
        | none => exact ha q
        | some o => rw [g.mv.kp a o (fun z => z.elim (no' a) na) q] at z; cases z
    · rw [List.length_zip, List.length_zip, List.length_map, hV]
      exact Nat.le_refl _
    · obtain ⟨i, a1, a2⟩ := zip_both f h1 h2
      rw [List.getElem?_map] at a2
      cases hs : Δ'[i]? with
      | none => rw [hs] at a2; cases a2
      | some s =>
        rw [hs] at a2
        have hd : fdt s = d := by simpa using a2
        have hsu := hu s (List.mem_of_getElem? hs)
        have hat : (Γ'.map frzS ++ Δ'.map frzS)[Γ'.length + i]? = some (.val d) := by
          rw [List.getElem?_append_right (by rw [List.length_map]; omega), List.length_map, Nat.add_sub_cancel_left, List.getElem?_map, hs]
          cases s with
          | un => exact absurd rfl hsu
          | val e => rw [← hd]; rfl
          | cel c => rw [← hd]; rfl
        obtain ⟨u, q1, q2⟩ := g2.env.val _ d hat
        rw [List.getElem?_append_right (by have := g.mg.len; omega), g.mg.len, Nat.add_sub_cancel_left, e1, List.getElem?_map, a1] at q1
        cases q1
        exact q2
end Ab

namespace Ab
open PySem L2
def CS (z : Str) : Prop := ∀ c ∈ z.cps.toList, c < 1114112
theorem CS.app {a b : Str} (ha : CS a) (hb : CS b) : CS (a ++ b) := fun c hc => by
  have e : (a ++ b).cps.toList = a.cps.toList ++ b.cps.toList := by show (a.cps ++ b.cps).toList = _; simp
  rw [e] at hc
  rcases List.mem_append.mp hc with h | h
  · exact ha c h
  · exact hb c h
theorem CS.cut {z : Str} (h : CS z) (lo hi : Option Int) : CS (cutS z lo hi) := fun c hc => by
  unfold cutS at hc
  exact h c (List.mem_of_mem_drop (List.mem_of_mem_take (by simpa using hc)))
theorem CS.nil : CS "" := fun c hc => by
  have : (("" : Str)).cps.toList = [] := by decide +kernel
  rw [this] at hc
  cases hc
theorem CS.join : ∀ {ys : List Str}, (∀ y ∈ ys, CS y) → CS (Txt.join "" ys)
  | [], _ => by rw [TL.join_eq]; exact fun c hc => nomatch hc
  | [x], h => by rw [TL.join_eq]; exact h x List.mem_cons_self
  | x :: y :: r, h => by
    have ih := CS.join (ys := y :: r) fun z hz => h z (List.mem_cons_of_mem _ hz)
    rw [TL.join_eq] at ih ⊢
    show CS (x ++ "" ++ Str.join "" (y :: r))
    exact ((h x List.mem_cons_self).app CS.nil).app ih
theorem CS.one {c : Nat} (h : c < 1114112) : CS ⟨#[c]⟩ := fun d hd => by
  rw [List.mem_singleton.mp (show d ∈ [c] from hd)]
  exact h
def Az (z : Str) : Prop := ∀ c ∈ z.cps.toList, 97 ≤ c ∧ c ≤ 122
theorem Az.cs {z : Str} (h : Az z) : CS z := fun c hc => by have := h c hc; omega
theorem Az.app {a b : Str} (ha : Az a) (hb : Az b) : Az (a ++ b) := fun c hc => by
  have e : (a ++ b).cps.toList = a.cps.toList ++ b.cps.toList := by show (a.cps ++ b.cps).toList = _; simp
  rw [e] at hc
  rcases List.mem_append.mp hc with h | h
  · exact ha c h
  · exact hb c h
theorem Az.cut {z : Str} (h : Az z) (lo hi : Option Int) : Az (cutS z lo hi) := fun c hc => by
  unfold cutS at hc
  exact h c (List.mem_of_mem_drop (List.mem_of_mem_take (by simpa using hc)))
theorem Az.nil : Az "" := fun c hc => by
  have : (("" : Str)).cps.toList = [] := by decide +kernel
  rw [this] at hc
  cases hc
def signs : Str := " abcdefghijklmnopqrstuvwxyzABCDEFGHIJKLMNOPQRSTUVWXYZ0123456789.,;:!?'()|"
def Tx (z : Str) : Prop := ∀ c ∈ z.cps.toList, c ∈ signs.cps.toList
theorem signs_cs : ∀ c ∈ signs.cps.toList, c < 1114112 := by decide +kernel
theorem Tx.cs {z : Str} (h : Tx z) : CS z := fun c hc => signs_cs c (h c hc)
end Ab

namespace Ab
open PySem L2
abbrev Ty := Dt → Prop
inductive TIs (e : Dt) : Ty where
  | mk : TIs e e
inductive TInt (lo hi : Int) : Ty where
  | mk {i : Int} (h0 : lo ≤ i) (h1 : i ≤ hi) : TInt lo hi (.int i)
inductive TBl : Ty where
  | mk {b : Bool} : TBl (.bl b)
inductive TStr (n m : Nat) : Ty where
  | mk {z : Str} (h0 : n ≤ z.length) (h1 : z.length ≤ m) : TStr n m (.str z)
inductive TNm (n m : Nat) : Ty where
  | mk {z : Str} (h0 : n ≤ z.length) (h1 : z.length ≤ m) (ha : Az z) : TNm n m (.str z)
inductive T1 (A : Ty) : Ty where
  | mk {a : Dt} (ha : A a) : T1 A (.tup [a])
inductive T2 (A B : Ty) : Ty where
  | mk {a b : Dt} (ha : A a) (hb : B b) : T2 A B (.tup [a, b])
inductive T3 (A B C : Ty) : Ty where
  | mk {a b c : Dt} (ha : A a) (hb : B b) (hc : C c) : T3 A B C (.tup [a, b, c])
inductive T4 (A B C D : Ty) : Ty where
  | mk {a b c d : Dt} (ha : A a) (hb : B b) (hc : C c) (hd : D d) : T4 A B C D (.tup [a, b, c, d])
inductive TTs (A : Ty) (n m : Nat) : Ty where
  | mk {ds : List Dt} (h0 : n ≤ ds.length) (h1 : ds.length ≤ m) (h : ∀ d ∈ ds, A d) : TTs A n m (.tup ds)
inductive TLs (A : Ty) (n m : Nat) : Ty where
  | mk {ds : List Dt} (h0 : n ≤ ds.length) (h1 : ds.length ≤ m) (h : ∀ d ∈ ds, A d) : TLs A n m (.lst ds)
abbrev STy := Sl → Prop
inductive SAny : STy where
  | mk {s : Sl} : SAny s
inductive SIs (t : Sl) : STy where
  | mk : SIs t t
inductive SVal (A : Ty) : STy where
  | mk {d : Dt} (h : A d) : SVal A (.val d)
inductive SAcc (A : Ty) (n m : Nat) : STy where
  | mk {ds : List Dt} (h0 : n ≤ ds.length) (h1 : ds.length ≤ m) (h : ∀ d ∈ ds, A d) : SAcc A n m (.cel (.lst ds))
inductive SPool (b : Int) : STy where
  | mk {ds : List Dt} (h : PoolUp b ds) : SPool b (.cel (.lst ds))
inductive EnvT : List STy → List Sl → Prop where
  | nil : EnvT [] []
  | cons {S : STy} {s : Sl} {D : List STy} {G : List Sl} (h : S s) (t : EnvT D G) : EnvT (S :: D) (s :: G)
theorem EnvT.len : ∀ {D : List STy} {G : List Sl}, EnvT D G → G.length = D.length
  | _, _, .nil => rfl
  | _, _, .cons _ t => by rw [List.length_cons, List.length_cons, t.len]
inductive RVal (A : Ty) : Re → Prop where
  | mk {d : Dt} (h : A d) : RVal A (.val d)
inductive RNew (A : Ty) (n m : Nat) : Re → Prop where
  | mk {ds : List Dt} (h0 : n ≤ ds.length) (h1 : ds.length ≤ m) (h : ∀ d ∈ ds, A d) : RNew A n m (.nw (.lst ds))
theorem ws_norm {K : PySem.W.Frag} {pin : List Nat} {Γ Γ' : List Sl} {P : Ps} {t : TS} (e : Γ = Γ') (h : WS K pin t Γ' P) : WS K pin t Γ P := by
  subst e
  exact h
section
variable {Γ : List Sl} {Post : Re → List Sl → Prop}
theorem ixp_k {ra : Re} {ds : List Dt} {k : Int} (h1 : seqOf Γ ra = some ds) (h2 : 0 ≤ k) (h3 : k < ds.length) (p : ∀ d, d ∈ ds → Post (.val d) Γ) : IxP ra (.val (.int k)) Γ Post := by
  have hk : k.toNat < ds.length := by omega
  exact ixp h1 (atI_of (j := k.toNat) (by omega) (List.getElem?_eq_getElem hk)) (p _ (List.getElem_mem hk))
theorem ixp_c0 {ra : Re} {a : Dt} {l : List Dt} (h1 : seqOf Γ ra = some (a :: l)) (p : Post (.val a) Γ) : IxP ra (.val (.int 0)) Γ Post := ixp h1 (atI_of (j := 0) rfl rfl) p
theorem ixp_kT {A : Ty} {ra : Re} {ds : List Dt} {k : Int} (h1 : seqOf Γ ra = some ds) (h2 : 0 ≤ k) (h3 : k < ds.length) (h4 : ∀ d ∈ ds, A d) (p : ∀ d, A d → Post (.val d) Γ) : IxP ra (.val (.int k)) Γ Post := ixp_k h1 h2 h3 fun d hd => p d (h4 d hd)
theorem ixp_sk {z : Str} {k : Int} (hz : z.length ≤ 1000000) (h2 : 0 ≤ k) (h3 : k < z.length) (p : ∀ c, c ∈ z.cps.toList → Post (.val (.str ⟨#[c]⟩)) Γ) : IxP (.val (.str z)) (.val (.int k)) Γ Post := by
  have e : z.length = z.cps.toList.length := by simp [Str.length]
  have hk : k.toNat < z.cps.toList.length := by omega
  exact ixp_s hz (atI_of (j := k.toNat) (by omega) (List.getElem?_eq_getElem hk)) (p _ (List.getElem_mem hk))
end
theorem all_nil {A : Ty} : ∀ d ∈ ([] : List Dt), A d := fun _ h => nomatch h
theorem all_cons {A : Ty} {a : Dt} {l : List Dt} (h : A a) (t : ∀ d ∈ l, A d) : ∀ d ∈ a :: l, A d := fun d hd => (List.mem_cons.mp hd).elim (fun e => e ▸ h) (t d)
theorem all_app {A : Ty} {l m : List Dt} (h : ∀ d ∈ l, A d) (t : ∀ d ∈ m, A d) : ∀ d ∈ l ++ m, A d := fun d hd => (List.mem_append.mp hd).elim (h d) (t d)
theorem all_take {A : Ty} {l : List Dt} {n : Nat} (h : ∀ d ∈ l, A d) : ∀ d ∈ l.take n, A d := fun d hd => h d (List.mem_of_mem_take hd)
theorem all_drop {A : Ty} {l : List Dt} {n : Nat} (h : ∀ d ∈ l, A d) : ∀ d ∈ l.drop n, A d := fun d hd => h d (List.mem_of_mem_drop hd)
theorem all_set {A : Ty} {l : List Dt} {n : Nat} {a : Dt} (h : ∀ d ∈ l, A d) (ha : A a) : ∀ d ∈ l.set n a, A d := fun d hd => (List.mem_or_eq_of_mem_set hd).elim (h d) (fun e => e ▸ ha)
theorem all_erase {A : Ty} {l : List Dt} {n : Nat} (h : ∀ d ∈ l, A d) : ∀ d ∈ l.eraseIdx n, A d := fun d hd => h d (List.mem_of_mem_eraseIdx hd)
theorem all_cut {A : Ty} {l : List Dt} {a b : Option Int} (h : ∀ d ∈ l, A d) : ∀ d ∈ cutD l a b, A d := by
  unfold cutD
  exact all_take (all_drop h)
theorem Az.one {c : Nat} (h : 97 ≤ c ∧ c ≤ 122) : Az ⟨#[c]⟩ := fun d hd => by
  rw [List.mem_singleton.mp (show d ∈ [c] from hd)]
  exact h
theorem az_abc : Az "abcdefghijklmnopqrstuvwxyz" := by unfold Az; decide +kernel
end Ab

namespace Ab
open PySem L2 PySem.Spec PyProof.Rows
def atN {β : Type} (xs : List (NestedKey × Addr × β)) (k : NestedKey) : Option β := (xs.find? fun x => decide (x.1 = k)).map (·.2.2)
def putN (xs : List (NestedKey × Addr × V)) (k : NestedKey) (b : Addr) (v : V) : List (NestedKey × Addr × V) :=
  if (atN xs k).isSome then xs.map (fun x => if x.1 = k then (x.1, x.2.1, v) else x) else xs ++ [(k, b, v)]
theorem length_putN (xs : List (NestedKey × Addr × V)) (k : NestedKey) (b : Addr) (v : V) : (putN xs k b v).length ≤ xs.length + 1 := by
  unfold putN; split <;> simp
abbrev KN : List (NestedKey × Addr × V) → List (NestedKey × Addr × Value) → Prop := Paired fun p q => p.1 = q.1 ∧ p.2.1 = q.2.1 ∧ RelV p.2.2 q.2.2
theorem KN.val {xs : List (NestedKey × Addr × V)} {ys : List (NestedKey × Addr × Value)} (r : KN xs ys) (k : NestedKey) : RelO (atN xs k) ((atKey ys k).map (·.2)) := by
  induction r with
  | nil => exact True.intro
  | @cons p q ps qs h t ih =>
    obtain ⟨h1, _, h2⟩ := h
    by_cases e : p.1 = k
    · have e' : q.1 = k := h1.symm.trans e
      have b : atKey (q :: qs) k = some q.2 := by simp [atKey, List.find?_cons, e']
      have a : atN (p :: ps) k = some p.2.2 := by simp [atN, List.find?_cons, e]
      rw [a, b]; exact h2
    · have e' : ¬ q.1 = k := fun z => e (h1.trans z)
      have b : atKey (q :: qs) k = atKey qs k := by simp [atKey, List.find?_cons, e']
      have a : atN (p :: ps) k = atN ps k := by simp [atN, List.find?_cons, e]
      rw [a, b]; exact ih
theorem KN.repl {xs : List (NestedKey × Addr × V)} {ys : List (NestedKey × Addr × Value)} (r : KN xs ys) (k : NestedKey) {y : V} {u : Value} (ry : RelV y u) :
    KN (xs.map fun x => if x.1 = k then (x.1, x.2.1, y) else x) (ys.map (putAt k u)) := by
  induction r with
  | nil => exact .nil
  | @cons p q ps qs h t ih =>
    rw [List.map_cons, List.map_cons]
    refine .cons ?_ ih
    obtain ⟨h1, h2, h3⟩ := h
    unfold putAt
    by_cases e : p.1 = k
    · rw [if_pos e, if_pos (h1.symm.trans e)]; exact ⟨h1, h2, ry⟩
    · rw [if_neg e, if_neg (fun z => e (h1.trans z))]; exact ⟨h1, h2, h3⟩
theorem KN.put {xs : List (NestedKey × Addr × V)} {ys : List (NestedKey × Addr × Value)} (r : KN xs ys) (k : NestedKey) (b : Addr) {y : V} {u : Value} (ry : RelV y u) : KN (putN xs k b y) (storedH ys k b u) := by
  have e : (atN xs k).isSome = (atKey ys k).isSome := by rw [(r.val k).isSome_eq, Option.isSome_map]
  unfold putN storedH
  rw [e]
  by_cases q : (atKey ys k).isSome = true
  · rw [if_pos q, if_pos q]; exact r.repl k ry
  · rw [if_neg q, if_neg q]; exact Paired.snoc r ⟨rfl, rfl, ry⟩
def KeysOk (K : PySem.W.Frag) (H : Hp) (xs : List (NestedKey × Addr × V)) : Prop := ∀ (i : Nat) x, xs[i]? = some x → Is K H (.ref x.2.1) (dtN x.1)
theorem KeysOk.mono {K : PySem.W.Frag} {H H' : Hp} {xs : List (NestedKey × Addr × V)} (e : Same H H') (h : KeysOk K H xs) : KeysOk K H' xs := fun i x q => (h i x q).mono e
theorem KeysOk.put {K : PySem.W.Frag} {H : Hp} {xs : List (NestedKey × Addr × V)} {k : NestedKey} {b : Addr} {v : V} (h : KeysOk K H xs) (hb : Is K H (.ref b) (dtN k)) : KeysOk K H (putN xs k b v) := fun i x q => by
  unfold putN at q
  split at q
  · rw [List.getElem?_map] at q
    obtain ⟨y, hy, rfl⟩ := Option.map_eq_some_iff.mp q
    have := h i y hy
    split <;> exact this
  · by_cases hi : i < xs.length
    · rw [List.getElem?_append_left hi] at q; exact h i x q
    · rw [List.getElem?_append_right (by omega)] at q
      generalize i - xs.length = j at q
      cases j with
      | zero => simp at q; subst q; exact hb
      | succ j => simp at q
section
variable {X : Cx} {pins : List (Addr × Obj)} {σ : L2.St} {H : Hp} {s : Shared}
mutual
theorem nk_of (I : Inv X pins σ H s) : ∀ (k : NestedKey) (v : V) (u : Value), Is X.K H v (dtN k) → RelV v u → NestedIs s.heap k u
  | .none, v, u, h, r => by
    rw [dtN] at h
    cases h.rawI
    cases (show u = Value.none from r)
    exact .none
  | .num i, v, u, h, r => by
    rw [dtN] at h
    cases h.rawI
    obtain ⟨t, rfl⟩ := (show ∃ t, u = Value.int i t from r)
    exact .int i t
  | .text x, v, u, h, r => by
    rw [dtN] at h
    cases h.rawI
    obtain ⟨t, rfl⟩ := (show ∃ t, u = Value.str x t from r)
    exact .text x t
  | .tup ks, v, u, h, r => by
    rw [dtN] at h
    obtain ⟨a, xs, rfl, hs, ha⟩ := h.tupR
    cases (show u = Value.ref a from r)
    obtain ⟨its, rv, ⟨o, ho, hc, n, hd⟩, _⟩ := I.tuple hs
    exact .tup ho hc hd (nks_of I ks xs its.toArray.toList ha (by simpa using rv))
theorem nks_of (I : Inv X pins σ H s) : ∀ (ks : List NestedKey) (vs : List V) (us : List Value), IsA X.K H vs (dtNs ks) → Vals vs us → NestedAll s.heap ks us
  | [], vs, us, h, r => by
    have := h.len
    rw [dtNs] at this
    cases vs with
    | nil => cases r; exact .nil
    | cons v vs => simp at this
  | k :: ks, vs, us, h, r => by
    rw [dtNs] at h
    cases vs with
    | nil => have := h.len; simp at this
    | cons v vs =>
      cases r with
      | cons r0 r1 => exact .cons (nk_of I k v _ (h.at_ 0 v _ rfl rfl) r0) (nks_of I ks vs _ (by have := h.drop 1; simpa using this) r1)
end
theorem dn_of {w : World} {a : Addr} {xs : List (NestedKey × Addr × V)} (hw : w = X.w) (I : Inv X pins σ H s) (e : H a = some (dNO w a xs)) (hq : KeysOk X.K H xs) :
    xs.length ≤ sizeLine ∧ (a == sysModules) = false ∧ (∀ x ∈ xs, x.1.depth ≤ 8) ∧ ∃ ys, KN xs ys ∧ s.heap.DictOfH (nestedKind X.prog X.w) a ys := by
  subst hw
  obtain ⟨⟨z, y, dp, ys, r, o, es, ep, h1, h2, h3, h4, h5⟩, _⟩ := (show ObjOk X.prog X.w H s.heap a (.ext (DNOk X.w a xs)) from I.hok a _ e)
  refine ⟨z, y, dp, ys, r, o, es, ep, h1, h2, h3, h4, fun x hx => ?_, h5⟩
  have all : ∀ {l : List (NestedKey × Addr × V)} {m : List (NestedKey × Addr × Value)}, KN l m → (∀ x ∈ l, x.1.depth ≤ 8) → KeysOk X.K H l → ∀ x ∈ m, (nestedKind X.prog X.w).is s.heap x.1 x.2.1 := by
    intro l m q
    induction q with
    | nil => intro _ _ x hx; exact nomatch hx
    | @cons p q ps qs hq t ih =>
      intro dl kl x hx
      rcases List.mem_cons.mp hx with e | hx
      · subst e
        refine ⟨?_, by rw [← hq.1]; exact dl p (by simp)⟩
        rw [← hq.1, ← hq.2.1]
        exact nk_of I p.1 (.ref p.2.1) _ (kl 0 p rfl) rfl
      · exact ih (fun y hy => dl y (by simp [hy])) (fun i y hy => kl (i + 1) y (by simpa using hy)) x hx
  exact all r dp hq x hx
theorem dNO_ok {P : Program} {w : World} {H : Hp} {h : Heap} {a : Addr} {xs : List (NestedKey × Addr × V)} (e : DNOk w a xs h) : ObjOk P w H h a (dNO w a xs) := by
  obtain ⟨z, y, dp, ys, r, o, es, ep, h1, h2, h3, h4, h5⟩ := e
  refine ⟨⟨z, y, dp, ys, r, o, es, ep, h1, h2, h3, h4, h5⟩, ⟨o, h1⟩, fun g1 g2 q k => ?_⟩
  obtain ⟨z, y, dp, ys, r, o, es, ep, h1, h2, h3, h4, h5⟩ := q
  exact ⟨z, y, dp, ys, r, o, es, ep, k o h1, h2, h3, h4, h5⟩
end
def NGet (K : PySem.W.Frag) (w : World) (H : Hp) (a : Addr) (y : V) (o : Option V) : Prop := ∃ xs k b, H a = some (dNO w a xs) ∧ KeysOk K H xs ∧ y = .ref b ∧ Is K H y (dtN k) ∧ k.depth ≤ 8 ∧ o = atN xs k
def NPut (K : PySem.W.Frag) (w : World) (H : Hp) (a : Addr) (y v : V) (H' : Hp) : Prop := ∃ xs k b, H a = some (dNO w a xs) ∧ KeysOk K H xs ∧ y = .ref b ∧ Is K H y (dtN k) ∧ k.depth ≤ 8 ∧ xs.length < sizeLine ∧ H' = upd H a (dNO w a (putN xs k b v))
section
variable {X : Cx} {pins : List (Addr × Obj)} {σ : L2.St} {H : Hp} {s : Shared} {a : Addr} {y v : V} {u r : Value} {o : Option V} {A : Around} {E : Value → Shared → Prop}
theorem n_getItem {Q : Value → Shared → Prop} (hu : A.units + 9 < cLine) (I : Inv X pins σ H s) (g : NGet X.K X.w H a y (some v)) (ry : RelV y u) (h : ∀ w' s', Inv X pins σ H s' → RelV v w' → Q w' s') :
    wpAny (model X.prog X.w) A (getItem (.ref a) u) Q E s := by
  obtain ⟨xs, k, b, e, hq, rfl, ey, hd, l⟩ := g
  cases (show u = Value.ref b from ry)
  obtain ⟨z, hsy, dp, ys, rel, dd⟩ := dn_of rfl I e hq
  obtain ⟨w', hw, rw'⟩ := RelO.some_of (v := v) (o := (atKey ys k).map (·.2)) (by rw [l]; exact rel.val k)
  obtain ⟨p, hp, hp2⟩ := Option.map_eq_some_iff.mp hw
  refine wpAny_getItem_heap (knd := nestedKind X.prog X.w) (show A.in1.units + 8 < cLine by rw [Around.in1_units]; omega) ⟨nk_of I k _ _ ey ry, hd⟩ dd hp ?_
  rw [hp2]
  exact h w' _ (I.tok _) rw'
theorem n_in {Q : Value → Shared → Prop} (hu : A.units + 9 < cLine) (I : Inv X pins σ H s) (g : NGet X.K X.w H a y o) (ry : RelV y u) (h : ∀ s', Inv X pins σ H s' → Q (.bool o.isSome) s') :
    wpAny (model X.prog X.w) A (compareOp .In u (.ref a)) Q E s := by
  obtain ⟨xs, k, b, e, hq, rfl, ey, hd, l⟩ := g
  cases (show u = Value.ref b from ry)
  obtain ⟨z, hsy, dp, ys, rel, dd⟩ := dn_of rfl I e hq
  refine wpAny_in_heap (knd := nestedKind X.prog X.w) (show A.in1.units + 8 < cLine by rw [Around.in1_units]; omega) ⟨nk_of I k _ _ ey ry, hd⟩ hsy dd ?_
  have q := (rel.val k).isSome_eq
  rw [Option.isSome_map] at q
  rw [← q, ← l]
  exact h _ (I.tok _)
theorem n_notIn {Q : Value → Shared → Prop} (hu : A.units + 9 < cLine) (I : Inv X pins σ H s) (g : NGet X.K X.w H a y o) (ry : RelV y u) (h : ∀ s', Inv X pins σ H s' → Q (.bool (!o.isSome)) s') :
    wpAny (model X.prog X.w) A (compareOp .NotIn u (.ref a)) Q E s := by
  obtain ⟨xs, k, b, e, hq, rfl, ey, hd, l⟩ := g
  cases (show u = Value.ref b from ry)
  obtain ⟨z, hsy, dp, ys, rel, dd⟩ := dn_of rfl I e hq
  refine wpAny_notIn_heap (knd := nestedKind X.prog X.w) (show A.in1.units + 8 < cLine by rw [Around.in1_units]; omega) ⟨nk_of I k _ _ ey ry, hd⟩ hsy dd ?_
  have q := (rel.val k).isSome_eq
  rw [Option.isSome_map] at q
  rw [← q, ← l]
  exact h _ (I.tok _)
theorem n_setItem {H' : Hp} {Q : Unit → Shared → Prop} (hu : A.units + 9 < cLine) (I : Inv X pins σ H s) (g : NPut X.K X.w H a y v H') (ry : RelV y u) (rv : RelV v r) (h : ∀ s', Inv X pins σ H' s' → Q () s') :
    wpAny (model X.prog X.w) A (setItem (.ref a) u r) Q E s := by
  obtain ⟨xs, k, b, e, hq, rfl, ey, hd, l, rfl⟩ := g
  cases (show u = Value.ref b from ry)
  obtain ⟨z, hsy, dp, ys, rel, dd⟩ := dn_of rfl I e hq
  have hz : ys.length ≤ sizeLine := by rw [← Paired.length rel]; exact z
  have hl : (putN xs k b v).length ≤ sizeLine := by have := length_putN xs k b v; omega
  refine wpAny_setItem_heap (knd := nestedKind X.prog X.w) (hsz := hz) (show A.in1.units + 8 < cLine by rw [Around.in1_units]; omega) ⟨nk_of I k _ _ ey ry, hd⟩ dd fun h' dd' hs => h _ ?_
  obtain ⟨q, es, ep, hqq, h2, h3, h4, _, h5⟩ := dd'
  refine d_write I (by rw [e]; exact True.intro) hs ⟨q, hqq⟩ (dNO_ok ⟨hl, hsy, fun x hx => ?_, _, rel.put k b rv, q, es, ep, hqq, h2, h3, h4, h5⟩)
  unfold putN at hx
  split at hx
  · obtain ⟨y, hy, rfl⟩ := List.mem_map.mp hx
    have := dp y hy
    split <;> exact this
  · rcases List.mem_append.mp hx with hx | hx
    · exact dp x hx
    · simp at hx; subst hx; exact hd
theorem ndict_typeIs (I : Inv X pins σ H s) (g : NGet X.K X.w H a y o) : s.TypeIs (.ref a) "dict" := by
  obtain ⟨xs, k, b, e, hq, rfl, ey, hd, l⟩ := g
  obtain ⟨z, hsy, dp, ys, rel, dd⟩ := dn_of rfl I e hq
  exact dd.typeIs
end
def tNGet (K : PySem.W.Frag) (w : World) (td ty : TE) : TE := fun σ H Q => td σ H fun x H1 => ty σ H1 fun y H2 => ∃ a v, x = .ref a ∧ NGet K w H2 a y (some v) ∧ Q v H2
def tNIn (K : PySem.W.Frag) (w : World) (ty td : TE) : TE := fun σ H Q => ty σ H fun y H1 => td σ H1 fun x H2 => ∃ a o, x = .ref a ∧ NGet K w H2 a y o ∧ Q (.bl o.isSome) H2
def tNNotIn (K : PySem.W.Frag) (w : World) (ty td : TE) : TE := fun σ H Q => ty σ H fun y H1 => td σ H1 fun x H2 => ∃ a o, x = .ref a ∧ NGet K w H2 a y o ∧ Q (.bl (!o.isSome)) H2
def sNPut (K : PySem.W.Frag) (w : World) (td ty tv : TE) : TS := fun D σ H => tv σ H fun v H1 => td σ H1 fun x H2 => ty σ H2 fun y H3 => ∃ a H4, x = .ref a ∧ NPut K w H3 a y v H4 ∧ D.nx σ H4
def tNNew (w : World) : TE := fun _ H Q => ∀ p, H p = none → Q (.ref p) (upd H p (dNO w p []))
section
variable {X : Cx} {o i e value : Expr} {pos pos' tpos : Pos} {td ty tv : TE} {w : World} {K : PySem.W.Frag}
theorem pe_nget (hw : w = X.w) (hk : K = X.K) (hu : X.A.units + 9 < cLine) (ho : PE X o td) (hi : PE X i ty) (hs : NoSl i) : PE X (.Subscript o i pos) (tNGet K w td ty) := by
  subst hw hk
  refine ⟨fun pins s σ H Q I h => ?_⟩
  refine subD_of PySem.F.slot_dict_getitem.lookup hs (thn (ho.run pins s σ H _ I h) fun u s1 ⟨x, H1, I1, rx, q1⟩ => thn (hi.run pins s1 σ H1 _ I1 q1) fun iv s2 ⟨y, H2, I2, ry, a, v, ex, g, q2⟩ => ?_)
  subst ex
  obtain rfl : u = Value.ref a := rx
  exact ⟨ndict_typeIs I2 g, n_getItem hu I2 g ry fun w' s3 I3 rw' => ⟨v, H2, I3, rw', q2⟩⟩
theorem pc_nin (hw : w = X.w) (hk : K = X.K) (hu : X.A.units + 9 < cLine) (hi : PE X i ty) (ho : PE X o td) : PC X .In i o (tNIn K w ty td) := by
  subst hw hk
  refine ⟨fun pins s σ H Q I h => ?_⟩
  refine thn (hi.run pins s σ H _ I h) fun iv s1 ⟨y, H1, I1, ry, q1⟩ => thn (ho.run pins s1 σ H1 _ I1 q1) fun u s2 ⟨x, H2, I2, rx, a, ov, ex, g, q2⟩ => ?_
  subst ex
  obtain rfl : u = Value.ref a := rx
  exact n_in hu I2 g ry fun s3 I3 => ⟨.bl ov.isSome, H2, I3, rfl, q2⟩
theorem pc_nnotin (hw : w = X.w) (hk : K = X.K) (hu : X.A.units + 9 < cLine) (hi : PE X i ty) (ho : PE X o td) : PC X .NotIn i o (tNNotIn K w ty td) := by
  subst hw hk
  refine ⟨fun pins s σ H Q I h => ?_⟩
  refine thn (hi.run pins s σ H _ I h) fun iv s1 ⟨y, H1, I1, ry, q1⟩ => thn (ho.run pins s1 σ H1 _ I1 q1) fun u s2 ⟨x, H2, I2, rx, a, ov, ex, g, q2⟩ => ?_
  subst ex
  obtain rfl : u = Value.ref a := rx
  exact n_notIn hu I2 g ry fun s3 I3 => ⟨.bl (!ov.isSome), H2, I3, rfl, q2⟩
theorem ps_nput (hw : w = X.w) (hk : K = X.K) (hu : X.A.units + 9 < cLine) (ho : PE X o td) (hi : PE X i ty) (hv : PE X value tv) (hs : swapsWith value (some (.Subscript o i pos')) pos.line X.env = pure false) :
    PS X (.Assign [.Subscript o i pos'] value pos) (sNPut K w td ty tv) := by
  subst hw hk
  refine ⟨fun pins s σ H D I h => ?_⟩
  refine wpAny_Assign_Subscript (thn (hv.run pins s σ H _ I h) fun r s1 ⟨v, H1, I1, rv, q1⟩ => thn (ho.run pins s1 σ H1 _ I1 q1) fun u s2 ⟨x, H2, I2, rx, q2⟩ => thn (hi.run pins s2 σ H2 _ I2 q2) fun iv s3 ⟨y, H3, I3, ry, a, H4, ex, g, q3⟩ => ?_) hs
  subst ex
  obtain rfl : u = Value.ref a := rx
  exact n_setItem hu I3 g ry rv fun s4 I4 => ⟨σ, H4, I4, q3⟩
theorem dn_empty {P : Program} {w : World} {H : Hp} (h : Heap) (hb : sysModules < h.objs.size) : ObjOk P w H (h.push { cls := .type "dict", data := .dict #[] }) h.objs.size (dNO w h.objs.size []) :=
  dNO_ok ⟨Nat.zero_le _, beq_eq_false_iff_ne.mpr (Ne.symm (Nat.ne_of_lt hb)), (fun x hx => by simp at hx), [], .nil, _, #[], 0, Heap.get?_push_size _ rfl, ⟨rfl, rfl, rfl⟩, rfl, rfl, List.nodup_nil⟩
theorem pe_nnew (hw : w = X.w) : PE X (.Dict [] [] pos) (tNNew w) := by
  subst hw
  exact ⟨fun pins s σ H Q I h =>
    wpAny_Dict_empty ⟨.ref s.heap.objs.size, _, I.laid (a := s.heap.objs.size) (o := dNO X.w s.heap.objs.size []) (t' := s.toks) (fun _ _ q => Heap.get?_push_of_some _ q) (Nat.le_refl _) (dn_empty s.heap I.big), rfl, h _ (I.hok.fresh (Nat.le_refl _))⟩⟩
end
theorem kn_keys {w : World} {xs : List (NestedKey × Addr × V)} {ys : List (NestedKey × Addr × Value)} (r : KN xs ys) : ys.map (fun y => Value.ref y.2.1) = (xs.map fun x => x.2.1).map Value.ref := by
  induction r with
  | nil => rfl
  | cons h t ih => rw [List.map_cons, List.map_cons, List.map_cons, ih, h.2.1]
def rListN (w : World) : List V → Hp → VK → Prop := fun xs H Q => ∃ d es, xs = [V.ref d] ∧ H d = some (dNO w d es) ∧ ∀ p, H p = none → Q (.ref p) (upd H p (.lst (es.map fun e => V.ref e.2.1)))
theorem call_list_dN {X : Cx} {w : World} (hc : X.calm = true) : CallR X (.type "list") (rListN w) := by
  intro pins s σ H xs us Q I r h
  obtain ⟨d, es0, rfl, hd, q⟩ := h
  obtain ⟨u, rfl, rx⟩ := r.one
  cases rx
  obtain ⟨⟨z, hs, dp, ks, pr, o, es, ep, ho, hx, hdt, he, hn⟩, _⟩ := (show ObjOk X.prog X.w H s.heap d (.ext (DNOk w d es0)) from I.hok d _ hd)
  have l1 : es.size = ks.length := by rw [← Array.length_toList, he, List.length_map]
  have l2 : es0.length = ks.length := Paired.length pr
  refine PySem.W.kdl_call (kdl_raw hs hx hdt) (I.ok.hd hc) ho (by omega) fun h' tk acc' c' kp e it => ?_
  have ea : acc'.toList = ks.map fun x => Value.ref x.2.1 := by
    have hl : acc'.toList.length = ks.length := by rw [Array.length_toList, it.1]; exact l1
    apply List.ext_getElem?
    intro j
    rw [List.getElem?_map]
    cases hj : acc'.toList[j]? with
    | none =>
      have h1 := List.getElem?_eq_none_iff.mp hj
      rw [List.getElem?_eq_none (by omega)]
      all_goals rfl
    | some v =>
      obtain ⟨en, hen, hv⟩ := it.2 j v (by rw [← Array.getElem?_toList]; exact hj)
      have qe : es.toList[j]? = some en := by rw [Array.getElem?_toList]; exact hen
      rw [he, List.getElem?_map] at qe
      obtain ⟨b, hb, e2⟩ := Option.map_eq_some_iff.mp qe
      rw [hb, hv, ← e2]
      all_goals rfl
  have eb : acc'.toList = (es0.map fun x => x.2.1).map Value.ref := by rw [ea]; exact kn_keys (w := w) pr
  have rv : Vals ((es0.map fun x => x.2.1).map V.ref) acc'.toList := by rw [eb]; exact vals_refs _
  have em : (es0.map fun e => V.ref e.2.1) = (es0.map fun x => x.2.1).map V.ref := by rw [List.map_map]; rfl
  have hz : ((es0.map fun x => x.2.1).map V.ref).length ≤ sizeLine := by rw [List.length_map, List.length_map]; omega
  refine ⟨.ref s.heap.objs.size, _, I.laid (t' := tk) (o := .lst ((es0.map fun x => x.2.1).map V.ref)) kp (Nat.le_refl _) ?_, rfl, by rw [← em]; exact q _ (I.hok.fresh (Nat.le_refl _))⟩
  exact ⟨hz, acc'.toList, c', rv, by rw [Array.toArray_toList]; exact e⟩
theorem inv_frzN {X : Cx} {pins : List (Addr × Obj)} {σ : L2.St} {H : Hp} {s : Shared} {d : Addr} {o : Obj} {w : World} {xs : List (NestedKey × Addr × V)} (I : Inv X pins σ H s) (h : H d = some (.frz o (dNO w d xs))) :
    (d == sysModules) = false ∧ s.heap.get? d = some o ∧ o.ExactDict ∧ ∃ (es : Array DictEntry) (ep : Nat), o.data = .dict es ep ∧ es.size = xs.length ∧
      ∀ (i : Nat) x, xs[i]? = some x → ∃ en : DictEntry, es[i]? = some en ∧ en.key = .ref x.2.1 := by
  obtain ⟨hd, ⟨z, hs, dp, ys, pr, o', es, ep, ho, hx, hdt, he, _⟩, _⟩ := (show ObjOk X.prog X.w H s.heap d (.frz o (.ext (DNOk w d xs))) from I.hok d _ h)
  rw [hd] at ho
  cases ho
  have l1 : es.size = ys.length := by rw [← Array.length_toList, he, List.length_map]
  have l2 : xs.length = ys.length := Paired.length pr
  refine ⟨hs, hd, hx, es, ep, hdt, by omega, fun i x e => ?_⟩
  obtain ⟨b, hb, e1, e2, _⟩ := paired_get pr e
  have qe : es.toList[i]? = some ⟨b.1.hash w, .ref b.2.1, b.2.2⟩ := by rw [he, List.getElem?_map, hb]; rfl
  rw [Array.getElem?_toList] at qe
  exact ⟨_, qe, by rw [e2]⟩
def Itkn (w : World) (d : Addr) (o : Obj) (xs : List (NestedKey × Addr × V)) : It :=
  ⟨fun i H => H d = some (.frz o (dNO w d xs)) ∧ i < xs.length, fun i H x H' => H' = H ∧ ∃ e, xs[i]? = some e ∧ x = .ref e.2.1, fun i H => H d = some (.frz o (dNO w d xs)) ∧ xs.length ≤ i⟩
theorem turn_keysN {P : Program} {w w' : World} {K : PySem.W.Frag} {tg : Expr} {d : Addr} {o : Obj} {es : Array DictEntry} {ep : Nat} {xs : List (NestedKey × Addr × V)} (it : Addr) (hod : o.data = .dict es ep) : Turn P w K tg (Itkn w' d o xs) [it] it (fun i h => h.IsKeyIter it d i xs.length ep) where
  mem := by simp
  obj := fun i h st b hb => by
    have e : b = it := by simpa using hb
    subst e
    obtain ⟨oi, e, c, dd⟩ := st
    exact ⟨oi, e, fun v z => by rw [dd] at z; cases z⟩
  keep := fun i h h' st k => st.at fun oi e => k it (by simp) oi e
  item := by
    intro X hP hw hK hc i pins s σ H E I hf st hg
    subst hP hw hK
    obtain ⟨hd, hi⟩ := hg
    obtain ⟨f0, f1, f2, f3, f4, f5⟩ := hf it (by simp)
    obtain ⟨hs, hgd, hx, es', ep', hdt, hsz, ent⟩ := inv_frzN I hd
    obtain ⟨rfl, rfl⟩ := dict_ep hod hdt
    obtain ⟨e0, hkv⟩ : ∃ p, xs[i]? = some p := ⟨xs[i], List.getElem?_eq_getElem hi⟩
    obtain ⟨en, hen, hkey⟩ := ent i e0 hkv
    refine next_key_item st hgd hdt hsz hen fun h' st' sb => ?_
    have I1 : Inv X pins σ H { s with heap := h' } := I.turned (t' := s.toks) (fun b ob hb e => (sb.2 b hb).trans e) f0 f1 f3 f4 f5
    obtain ⟨oi, e, c, dd⟩ := id st'
    exact ⟨en.key, rfl, go_of (s := { s with heap := h' }) e c dd (by decide) ⟨.ref e0.2.1, H, I1, hkey, ⟨rfl, e0, hkv, rfl⟩, st', fun b hb => (hf b hb).1⟩⟩
  done := by
    intro X hP hw hK hc i pins s σ H E I hf st hg
    subst hP hw hK
    obtain ⟨hd, hi⟩ := hg
    obtain ⟨f0, f1, f2, f3, f4, f5⟩ := hf it (by simp)
    obtain ⟨hs, hgd, hx, es', ep', hdt, hsz, ent⟩ := inv_frzN I hd
    obtain ⟨rfl, rfl⟩ := dict_ep hod hdt
    exact next_key_end (I.ok.hd hc) st hgd hdt hsz hi fun h' eb => ⟨rfl, I.turned (t' := s.toks) (fun b ob hb e => eb b ob hb e) f0 f1 f3 f4 f5⟩
  self := fun A i s Q E st h => by
    refine wpAny_pyIter_slot st.typeIs F.slot_dict_keyiterator_iter (wpAny_call_entry F.slot_dict_keyiterator_iter st.typeIs F.entry_dict_keyiterator_iter ?_ (F.args_dict_keyiterator_iter_1 _))
    show wpAny _ A.in1 (ret (.ref it)) _ _ s
    exact wpAny_pure ⟨_, rfl, "dict_keyiterator", _, st.typeIs, F.slot_dict_keyiterator_next.lookup, h⟩
def iKeysN (w : World) (td : TE) : TI := fun σ H R => td σ H fun x H1 => ∃ d o xs, x = .ref d ∧ H1 d = some (.frz o (dNO w d xs)) ∧ R (Itkn w d o xs) H1
theorem pi_keysN {X : Cx} {tg e : Expr} {td : TE} {w : World} (he : PE X e td) : PI X tg e (iKeysN w td) := by
  refine ⟨fun pins s σ H R I h => ?_⟩
  refine thn (he.run pins s σ H _ I h) fun u s1 ⟨x, H1, I1, rx, d, o, xs, ex, hd, q⟩ => ?_
  subst ex
  obtain rfl : u = Value.ref d := rx
  obtain ⟨hs, hgd, hx, es, ep, hdt, hsz, ent⟩ := inv_frzN I1 hd
  refine iter_keys hs hgd hx hdt (pi_one (tk := s1.toks) I1 _ (turn_keysN _ hdt) ⟨_, Heap.get?_push_size _ rfl, rfl, ?_⟩ q)
  rw [hsz] <;> rfl
def tNDisp1 (K : PySem.W.Frag) (w : World) (tk tv : TE) : TE := fun σ H Q => ∀ p, H p = none → tk σ (upd H p (dNO w p [])) fun x H1 => tv σ H1 fun y H2 => H2 p = some (dNO w p []) ∧ ∃ b k, x = .ref b ∧ Is K H2 x (dtN k) ∧ k.depth ≤ 8 ∧ Q (.ref p) (upd H2 p (dNO w p [(k, b, y)]))
theorem pe_ndisp1 {X : Cx} {w : World} {K : PySem.W.Frag} {pos : Pos} {k v : Expr} {tk tv : TE} (hw : w = X.w) (hk0 : K = X.K) (hu : X.A.units + 9 < cLine) (hk : PE X k tk) (hv : PE X v tv) : PE X (.Dict [some k] [v] pos) (tNDisp1 K w tk tv) := by
  subst hw hk0
  refine ⟨fun pins s σ H Q I q => ?_⟩
  have hn := I.hok.fresh (Nat.le_refl s.heap.objs.size)
  have I1 := I.laid (a := s.heap.objs.size) (o := dNO X.w s.heap.objs.size []) (h' := s.heap.push { cls := .type "dict", data := .dict #[] }) (t' := s.toks) (fun _ _ q => Heap.get?_push_of_some _ q) (Nat.le_refl _) (dn_empty s.heap I.big)
  have h0 : pairTrees [some k] [v] X.env pos ≠ [] := by intro z; cases z
  rw [arm_eval_Dict, zip_pairTrees [some k] [v] X.env pos rfl rfl, dictDisplay_pairs _ h0 (by show 1 < 17; omega)]
  refine wpAny_bind (wpAny_standAt (wpAny_bind (wpAny_subDictH (knd := nestedKind X.prog X.w) (Q := fun d s' => wpAny (model X.prog X.w) X.A (pure (Value.ref d)) (EP X pins σ Q) X.xe s') (show X.A.units + 8 < cLine by omega) (by show 1 ≤ 15; omega) ?_)))
  refine pairTrees_cons_walk (thn (hk.run pins _ σ _ _ I1 (q _ hn)) fun u s1 ⟨x, H1, I1, rx, q1⟩ => thn (hv.run pins s1 σ H1 _ I1 q1) fun w2 s2 ⟨y, H2, I2, ry, hp, b, kk, ex, hi, hd, q2⟩ => pairTrees_nil_walk ?_)
  subst ex
  obtain rfl : u = Value.ref b := rx
  obtain ⟨z, hsy, dp, ys0, rel, dd⟩ := dn_of rfl I2 hp (fun i x e => by simp at e)
  cases rel
  refine ⟨[(kk, b, w2)], ⟨rfl, rfl, ⟨nk_of I2 kk _ _ hi rfl, hd⟩, trivial⟩, dd, fun h' tk dd' hs => wpAny_pure ?_⟩
  have e1 : storedAllH ([] : List (NestedKey × Addr × Value)) [(kk, b, w2)] = [(kk, b, w2)] := rfl
  rw [e1] at dd'
  obtain ⟨q', es, ep, hqq, h2, h3, h4, _, h5⟩ := dd'
  refine ⟨.ref s.heap.objs.size, _, d_write I2 (by rw [hp]; exact True.intro) hs ⟨q', hqq⟩ (dNO_ok ⟨by rw [sizeLine_eq]; show 1 ≤ _; omega, hsy, fun x hx => ?_, _, .cons ⟨rfl, rfl, ry⟩ .nil, q', es, ep, hqq, h2, h3, h4, h5⟩), rfl, q2⟩
  simp at hx
  subst hx
  exact hd
end Ab

namespace Ab
open PySem L2 PySem.Spec PyProof.Rows PySem.W
section
variable {X : Cx} {pins : List (Addr × Obj)} {σ : L2.St} {H : Hp} {s : Shared}
theorem each_zip {β : Type} : ∀ {xs : List V} {us : List Value} {bs : List β}, Vals xs us → xs.length = bs.length → EachIs (fun u b => ∃ x, RelV x u ∧ (x, b) ∈ xs.zip bs) us bs
  | _, _, [], .nil, _ => .nil
  | _, _, _ :: _, .nil, h => by simp at h
  | _, _, [], .cons _ _, h => by simp at h
  | x :: xs, u :: us, b :: bs, .cons r t, h => by
    refine .cons ⟨x, r, by simp⟩ ((each_zip t (by simpa using h)).mono fun u b ⟨y, hy, hm⟩ => ⟨y, hy, by simp [hm]⟩)
theorem each_unzip {β : Type} {R : V → β → Prop} : ∀ {us : List Value} {bs : List β}, EachIs (fun u b => ∃ x, RelV x u ∧ R x b) us bs → ∃ zs : List (V × β), zs.map (·.2) = bs ∧ Vals (zs.map (·.1)) us ∧ ∀ z ∈ zs, R z.1 z.2
  | _, _, .nil => ⟨[], rfl, .nil, fun z h => by simp at h⟩
  | _, b :: _, .cons ⟨x, r, m⟩ t => by
    obtain ⟨zs, e1, e2, e3⟩ := each_unzip t
    refine ⟨(x, b) :: zs, by simp [e1], .cons r e2, fun z h => ?_⟩
    rcases List.mem_cons.mp h with h | h
    · subst h; exact m
    · exact e3 z h
theorem dpAll_len {K : PySem.W.Frag} {H : Hp} : ∀ {xs : List V} {ps : List PyData}, DpAll K H xs ps → xs.length = ps.length
  | [], [], .nil => rfl
  | _ :: _, _ :: _, .cons _ t => by simp [dpAll_len t]
def SortsD {β : Type} (K : PySem.W.Frag) (b : Bool) (a : Addr) (H : Hp) (Q : VK) (xs : List V) (bs : List β) (enc : β → PyData) : Prop :=
  SqL K H a xs ∧ DpAll K H xs (bs.map enc) ∧ AllAlike (bs.map enc) ∧ Sortable (bs.map enc) ∧ (∀ x ∈ bs, (enc x).depth ≤ 8) ∧
  ∀ (zs : List (V × β)) q, zs.map (·.2) = bs.mergeSort (dataLe b enc) → (∀ z ∈ zs, z ∈ xs.zip bs) → H q = none → Q (.ref q) (upd H q (.lst (zs.map (·.1))))
def rSortD (K : PySem.W.Frag) (b : Bool) : List V → List V → Hp → VK → Prop := fun vs zs H Q => ∃ (β : Type) (a : Addr) (xs : List V) (bs : List β) (enc : β → PyData), vs = [V.ref a] ∧ zs = [.bl b] ∧ SortsD K b a H Q xs bs enc
theorem cr_sortD {b : Bool} (hu : X.A.units + 12 < cLine) : CallRK X (.builtin "sorted") [Str.ofString "reverse"] (rSortD X.K b) := by
  intro pins s σ H vs zs us ws Q I r rz h
  obtain ⟨β, a, xs, bs, enc, rfl, rfl, hs, hd, hal, hk, dep, q⟩ := h
  obtain rfl := Vals.ref1 r
  obtain ⟨w1, rfl, e1⟩ := vals1 rz
  obtain rfl : w1 = Value.bool b := e1
  obtain ⟨its, rv, hl, hz⟩ := I.list hs
  obtain ⟨as, ra⟩ := Dp.readsAll I _ _ _ hd rv
  have hlen : xs.length = bs.length := by have := dpAll_len hd; simpa using this
  refine sorted_rev_data hl.isList (each_zip rv hlen) (readsAll_each enc ra) hal hk (by omega) (fun x hx => by have := dep x hx; omega) fun out hol eo => ?_
  obtain ⟨zs, e1, e2, e3⟩ := each_unzip (R := fun x b => (x, b) ∈ xs.zip bs) eo
  obtain ⟨ep, he'⟩ := sortedAll_at s.heap its out.toArray
  have hz2 : (zs.map (·.1)).length ≤ sizeLine := by
    have := e2.length
    rw [this, hol, ← hlen]; exact hz
  exact ⟨.ref _, upd H (s.heap.objs.size + 1) (.lst (zs.map (·.1))), I.laid (t' := s.toks) (fun _ _ => sortedAll_old) (Nat.le_succ _) ⟨hz2, out, ep, e2, he'⟩, rfl, q zs _ e1 (fun z h => e3 z h) (I.hok.fresh (Nat.le_succ _))⟩
theorem dataLt_asym {x y : PyData} (h : dataLt x y = true) : dataLt y x = false := KeyOrd.klt_asymm (O := listOrd itemOrd) h
theorem dataLt_neg {x y z : PyData} (h1 : dataLt y x = false) (h2 : dataLt z y = false) : dataLt z x = false := KeyOrd.kle_trans (O := listOrd itemOrd) h1 h2
theorem dataLt_irr (x : PyData) : dataLt x x = false := (listOrd itemOrd).irrefl (keyToks x)
theorem minD_least (x : PyData) (xs : List PyData) : (minD x xs = x ∨ minD x xs ∈ xs) ∧ dataLt x (minD x xs) = false ∧ ∀ y ∈ xs, dataLt y (minD x xs) = false := by
  induction xs generalizing x with
  | nil => exact ⟨.inl rfl, dataLt_irr x, fun y h => by simp at h⟩
  | cons z zs ih =>
    have e : minD x (z :: zs) = minD (if dataLt z x then z else x) zs := rfl
    rw [e]
    by_cases hz : dataLt z x = true
    · rw [if_pos hz]
      obtain ⟨h1, h2, h3⟩ := ih z
      refine ⟨.inr ?_, dataLt_neg h2 (dataLt_asym hz), fun y hy => ?_⟩
      · rcases h1 with h1 | h1
        · rw [h1]; simp
        · simp [h1]
      · rcases List.mem_cons.mp hy with hy | hy
        · subst hy; exact h2
        · exact h3 y hy
    · rw [if_neg hz]
      have hz' : dataLt z x = false := by simpa using hz
      obtain ⟨h1, h2, h3⟩ := ih x
      refine ⟨?_, h2, fun y hy => ?_⟩
      · rcases h1 with h1 | h1
        · exact .inl h1
        · exact .inr (by simp [h1])
      · rcases List.mem_cons.mp hy with hy | hy
        · subst hy; exact dataLt_neg h2 hz'
        · exact h3 y hy
def rMinD (K : PySem.W.Frag) : List V → Hp → VK → Prop := fun vs H Q => ∃ (β : Type) (a : Addr) (xs : List V) (bs : List β) (enc : β → PyData), vs = [V.ref a] ∧ SqL K H a xs ∧ DpAll K H xs (bs.map enc) ∧ AlikeAll (bs.map enc) ∧ 0 < bs.length ∧ PyData.depthAll (bs.map enc) ≤ 8 ∧
  ∀ x b, (x, b) ∈ xs.zip bs → (∀ b' ∈ bs, dataLt (enc b') (enc b) = false) → Q x H
theorem cr_minD (hc : X.calm = true) (hu : X.A.units + 12 < cLine) : CallR X (.builtin "min") (rMinD X.K) := by
  intro pins s σ H vs us Q I r h
  obtain ⟨β, a, xs, bs, enc, rfl, hs, hd, hal, hne, dep, q⟩ := h
  obtain rfl := Vals.ref1 r
  obtain ⟨its, rv, hl, hz⟩ := I.list hs
  obtain ⟨as, ra⟩ := Dp.readsAll I _ _ _ hd rv
  have hlen : xs.length = bs.length := by have := dpAll_len hd; simpa using this
  match bs, hne, ra, hal, dep, hlen, q, hd with
  | b0 :: bs, _, ra, hal, dep, hlen, q, hd =>
  refine min_list_data (x := enc b0) (xs := bs.map enc) (I.ok.hd hc) hl.isList (by simpa using ra) hal (by have : PyData.depthAll (enc b0 :: bs.map enc) ≤ 8 := dep; omega) fun i v h' tk cs hv hr hk => ?_
  have hv' : its[i]? = some v := by simpa using hv
  have hil : i < its.length := (List.getElem?_eq_some_iff.mp hv').1
  have hlI : xs.length = its.length := rv.length
  have hix : i < xs.length := by omega
  have hib : i < (b0 :: bs).length := by omega
  have hx : xs[i]? = some xs[i] := List.getElem?_eq_getElem hix
  obtain ⟨u, hu', ru⟩ := Vals.get rv hx
  rw [hv'] at hu'; cases hu'
  have hb : (b0 :: bs)[i]? = some (b0 :: bs)[i] := List.getElem?_eq_getElem hib
  have em : ((b0 :: bs).map enc)[i]? = some (enc (b0 :: bs)[i]) := by rw [List.getElem?_map, hb]; rfl
  obtain ⟨ds, r1, _, hm1, _⟩ := readsAll_at ra i v hv'
  have eg : ((b0 :: bs).map enc).getD i .none = enc (b0 :: bs)[i] := by rw [List.getD_eq_getElem?_getD, em]; rfl
  rw [eg] at r1 hm1
  obtain ⟨m1, m2, m3⟩ := minD_least (enc b0) (bs.map enc)
  have mm : minD (enc b0) (bs.map enc) ∈ (b0 :: bs).map enc := by
    rcases m1 with m1 | m1
    · rw [m1]; simp
    · rw [List.map_cons]; exact List.mem_cons_of_mem _ m1
  have same : enc (b0 :: bs)[i] = minD (enc b0) (bs.map enc) := alike_unique _ _ v _ _ (hal.1 _ hm1 _ mm) (reads_keeps hk r1) hr
  refine ⟨xs[i], H, I.kept hk, ru, q xs[i] (b0 :: bs)[i] ?_ fun b' hb' => ?_⟩
  · have hz : (xs.zip (b0 :: bs))[i]? = some (xs[i], (b0 :: bs)[i]) := by rw [List.getElem?_zip_eq_some]; exact ⟨hx, hb⟩
    exact List.mem_of_getElem? hz
  · rw [same]
    rcases List.mem_cons.mp hb' with e | hb'
    · subst e; exact m2
    · exact m3 _ (List.mem_map.mpr ⟨b', hb', rfl⟩)
end
end Ab

namespace Ab
open PySem L2 PySem.W
def dnOf (Γ : List Sl) : Re → Option (World × List (NestedKey × Dt))
  | .val (.dN w kvs) => some (w, kvs)
  | .nw (.dN w kvs) => some (w, kvs)
  | .own i => match Γ[i]? with
    | some (.cel (.dN w kvs)) => some (w, kvs)
    | _ => none
  | _ => none
section
variable {K : PySem.W.Frag} {σ : L2.St} {B H : Hp} {Γ : List Sl} {v : V} {r : Re}
theorem rv_dN {w : World} {kvs : List (NestedKey × Dt)} (E : Env K B H σ Γ) (h : RvOk K σ B H Γ v r) (e : dnOf Γ r = some (w, kvs)) : ∃ a xs, v = .ref a ∧ H a = some (dNO w a xs) ∧ IsNv K B xs kvs := by
  cases r with
  | val d =>
    cases d <;> first | (cases e; done) | skip
    cases e
    cases h with
    | dN h1 hk hq hi => exact ⟨_, _, rfl, E.bh _ _ h1, hk, hq, by have := congrArg List.length hk; simpa using this, hi⟩
  | nw c =>
    cases c with
    | dN w es => cases e; obtain ⟨l, o, rfl, _, h1, _, xs, rfl, h2⟩ := h; exact ⟨l, xs, rfl, h1, h2⟩
    | lst es => cases e
    | dK es => cases e
    | dT es => cases e
  | own i =>
    obtain ⟨l, rfl, hl⟩ := h
    have e' : (match Γ[i]? with
      | some (Sl.cel (.dN w ds)) => some (w, ds)
      | _ => none) = some (w, kvs) := e
    split at e'
    · rename_i es hi
      cases e'
      obtain ⟨c, o, q1, q2, q3, us, rfl, q4⟩ := E.cel i _ hi
      rw [hl] at q1; cases q1
      exact ⟨l, us, rfl, q2, q4⟩
    · cases e'
theorem IsNv.nil : IsNv K B [] [] := ⟨rfl, fun i x h => by simp at h, .nil⟩
theorem IsNv.len {xs : List (NestedKey × Addr × V)} {kvs : List (NestedKey × Dt)} (h : IsNv K B xs kvs) : xs.length = kvs.length := by
  have := congrArg List.length h.ks; simpa using this
theorem IsNv.tail {x : NestedKey × Addr × V} {xs : List (NestedKey × Addr × V)} {kv : NestedKey × Dt} {kvs : List (NestedKey × Dt)} (h : IsNv K B (x :: xs) (kv :: kvs)) : x.1 = kv.1 ∧ Is K B x.2.2 kv.2 ∧ Is K B (.ref x.2.1) (dtN x.1) ∧ IsNv K B xs kvs := by
  have e := h.ks
  simp only [List.map_cons, List.cons.injEq] at e
  exact ⟨e.1, h.vs.at_ 0 _ _ (by simp) (by simp), h.qs 0 x rfl, e.2, fun i y q => h.qs (i + 1) y (by simpa using q), by have := h.vs.drop 1; simpa using this⟩
theorem IsNv.cons {x : NestedKey × Addr × V} {xs : List (NestedKey × Addr × V)} {kv : NestedKey × Dt} {kvs : List (NestedKey × Dt)} (h1 : x.1 = kv.1) (h2 : Is K B x.2.2 kv.2) (h3 : Is K B (.ref x.2.1) (dtN x.1)) (h : IsNv K B xs kvs) : IsNv K B (x :: xs) (kv :: kvs) :=
  ⟨by simp [h1, h.ks], fun i y q => by
    cases i with
    | zero => simp at q; subst q; exact h3
    | succ i => exact h.qs i y (by simpa using q), by simpa using IsA.cons h2 h.vs⟩
theorem IsNv.val (k : NestedKey) : ∀ {xs : List (NestedKey × Addr × V)} {kvs : List (NestedKey × Dt)}, IsNv K B xs kvs → (atN xs k = none ∧ valD kvs k = none) ∨ ∃ v d, atN xs k = some v ∧ valD kvs k = some d ∧ Is K B v d
  | [], [], _ => .inl ⟨rfl, rfl⟩
  | [], _ :: _, h => by have := h.len; simp at this
  | _ :: _, [], h => by have := h.len; simp at this
  | x :: xs, kv :: kvs, h => by
    obtain ⟨h1, h2, h3, h4⟩ := h.tail
    by_cases e : x.1 = k
    · exact .inr ⟨x.2.2, kv.2, by simp [atN, e], by simp [valD, ← h1, e], h2⟩
    · have e' : ¬ kv.1 = k := by rw [← h1]; exact e
      have := IsNv.val k h4
      simpa [atN, valD, e, e'] using this
theorem IsNv.valS {xs : List (NestedKey × Addr × V)} {kvs : List (NestedKey × Dt)} (h : IsNv K B xs kvs) {k : NestedKey} {d : Dt} (e : valD kvs k = some d) : ∃ v, atN xs k = some v ∧ Is K B v d := by
  rcases h.val k with ⟨_, e2⟩ | ⟨v, d', e1, e2, hv⟩
  · rw [e] at e2; cases e2
  · rw [e] at e2; cases e2; exact ⟨v, e1, hv⟩
theorem IsNv.isS {xs : List (NestedKey × Addr × V)} {kvs : List (NestedKey × Dt)} (h : IsNv K B xs kvs) (k : NestedKey) : (atN xs k).isSome = (valD kvs k).isSome := by
  rcases h.val k with ⟨e1, e2⟩ | ⟨v, d', e1, e2, hv⟩ <;> rw [e1, e2] <;> rfl
theorem IsNv.repl {k : NestedKey} {v : V} {d : Dt} (hv : Is K B v d) : ∀ {xs : List (NestedKey × Addr × V)} {kvs : List (NestedKey × Dt)}, IsNv K B xs kvs → IsNv K B (xs.map fun x => if x.1 = k then (x.1, x.2.1, v) else x) (kvs.map fun kv => if kv.1 = k then (kv.1, d) else kv)
  | [], [], _ => .nil
  | [], _ :: _, h => by have := h.len; simp at this
  | _ :: _, [], h => by have := h.len; simp at this
  | x :: xs, kv :: kvs, h => by
    obtain ⟨h1, h2, h3, h4⟩ := h.tail
    rw [List.map_cons, List.map_cons]
    by_cases e : x.1 = k
    · have e' : kv.1 = k := by rw [← h1]; exact e
      rw [if_pos e, if_pos e']
      exact .cons h1 hv h3 (IsNv.repl hv h4)
    · have e' : ¬ kv.1 = k := by rw [← h1]; exact e
      rw [if_neg e, if_neg e']
      exact .cons h1 h2 h3 (IsNv.repl hv h4)
theorem any_valD {kvs : List (NestedKey × Dt)} (k : NestedKey) : (kvs.any fun kv => decide (kv.1 = k)) = (valD kvs k).isSome := by
  induction kvs with
  | nil => rfl
  | cons kv r ih =>
    by_cases e : kv.1 = k
    · simp [valD, e]
    · have : valD (kv :: r) k = valD r k := by simp [valD, e]
      rw [this, List.any_cons, ih]; simp [e]
theorem IsNv.put {xs : List (NestedKey × Addr × V)} {kvs : List (NestedKey × Dt)} (h : IsNv K B xs kvs) {k : NestedKey} {b : Addr} {v : V} {d : Dt} (hb : Is K B (.ref b) (dtN k)) (hv : Is K B v d) : IsNv K B (putN xs k b v) (putE kvs k d) := by
  unfold putN putE
  rw [any_valD, h.isS]
  split
  · exact h.repl hv
  · refine ⟨by simp [h.ks], fun i x q => ?_, by simpa using h.vs.snoc hv⟩
    by_cases hi : i < xs.length
    · rw [List.getElem?_append_left hi] at q; exact h.qs i x q
    · rw [List.getElem?_append_right (by omega)] at q
      generalize i - xs.length = j at q
      cases j with
      | zero => simp at q; subst q; exact hb
      | succ j => simp at q
theorem dtN_ref {v : V} {ks : List NestedKey} (h : Is K B v (dtN (.tup ks))) : ∃ b, v = .ref b := by
  rw [dtN] at h
  obtain ⟨a, xs, rfl, _⟩ := h.tupR
  exact ⟨a, rfl⟩
theorem IsNv.keysOk {xs : List (NestedKey × Addr × V)} {kvs : List (NestedKey × Dt)} (s : Same B H) (h : IsNv K B xs kvs) : KeysOk K H xs := fun i x q => (h.qs i x q).mono s
end
section
variable {K : PySem.W.Frag} {pin : List Nat} {Γ : List Sl} {P : Ps} {Post : Re → List Sl → Prop} {td ty tv tx te : TE} {w : World}
theorem we_nget (h : WE K td Γ fun ra Γ1 => WE K ty Γ1 fun rb Γ2 => Hold (∃ kvs k d, dnOf Γ2 ra = some (w, kvs) ∧ rb = .val (dtN k) ∧ (∃ ks, k = .tup ks) ∧ k.depth ≤ 8 ∧ valD kvs k = some d ∧ Post (.val d) Γ2)) : WE K (tNGet K w td ty) Γ Post :=
  we_two' (r := fun x y H Q => ∃ a v, x = .ref a ∧ NGet K w H a y (some v) ∧ Q v H) (we_mono h fun ra Γ1 h1 => we_mono h1 fun rb Γ2 hp => fun σ B H x y E kx ky Q q => by
    obtain ⟨kvs, k, d, e1, rfl, ⟨ks, rfl⟩, dp, e3, p⟩ := hp.get
    obtain ⟨a, xs, rfl, ha, hk⟩ := rv_dN E kx e1
    obtain ⟨v, hv, hd⟩ := hk.valS e3
    have ky' : Is K B y (dtN (.tup ks)) := ky
    obtain ⟨b, rfl⟩ := dtN_ref ky'
    exact ⟨a, v, rfl, ⟨xs, _, b, ha, hk.keysOk E.bh, rfl, ky'.mono E.bh, dp, hv.symm⟩, q _ B H (.val d) Γ2 (.refl E) hd p⟩)
theorem we_nin (h : WE K ty Γ fun rb Γ1 => WE K td Γ1 fun ra Γ2 => Hold (∃ kvs k, dnOf Γ2 ra = some (w, kvs) ∧ rb = .val (dtN k) ∧ (∃ ks, k = .tup ks) ∧ k.depth ≤ 8 ∧ Post (.val (.bl (valD kvs k).isSome)) Γ2)) : WE K (tNIn K w ty td) Γ Post :=
  we_two' (r := fun y x H Q => ∃ a o, x = .ref a ∧ NGet K w H a y o ∧ Q (.bl o.isSome) H) (we_mono h fun rb Γ1 h1 => we_mono h1 fun ra Γ2 hp => fun σ B H y x E ky kx Q q => by
    obtain ⟨kvs, k, e1, rfl, ⟨ks, rfl⟩, dp, p⟩ := hp.get
    obtain ⟨a, xs, rfl, ha, hk⟩ := rv_dN E kx e1
    have ky' : Is K B y (dtN (.tup ks)) := ky
    obtain ⟨b, rfl⟩ := dtN_ref ky'
    refine ⟨a, _, rfl, ⟨xs, _, b, ha, hk.keysOk E.bh, rfl, ky'.mono E.bh, dp, rfl⟩, ?_⟩
    rw [hk.isS]
    exact q _ B H _ Γ2 (.refl E) (.raw _) p)
theorem we_nnotin (h : WE K ty Γ fun rb Γ1 => WE K td Γ1 fun ra Γ2 => Hold (∃ kvs k, dnOf Γ2 ra = some (w, kvs) ∧ rb = .val (dtN k) ∧ (∃ ks, k = .tup ks) ∧ k.depth ≤ 8 ∧ Post (.val (.bl (!(valD kvs k).isSome))) Γ2)) : WE K (tNNotIn K w ty td) Γ Post :=
  we_two' (r := fun y x H Q => ∃ a o, x = .ref a ∧ NGet K w H a y o ∧ Q (.bl (!o.isSome)) H) (we_mono h fun rb Γ1 h1 => we_mono h1 fun ra Γ2 hp => fun σ B H y x E ky kx Q q => by
    obtain ⟨kvs, k, e1, rfl, ⟨ks, rfl⟩, dp, p⟩ := hp.get
    obtain ⟨a, xs, rfl, ha, hk⟩ := rv_dN E kx e1
    have ky' : Is K B y (dtN (.tup ks)) := ky
    obtain ⟨b, rfl⟩ := dtN_ref ky'
    refine ⟨a, _, rfl, ⟨xs, _, b, ha, hk.keysOk E.bh, rfl, ky'.mono E.bh, dp, rfl⟩, ?_⟩
    rw [hk.isS]
    exact q _ B H _ Γ2 (.refl E) (.raw _) p)
theorem we_nnew (p : Post (.nw (.dN w [])) Γ) : WE K (tNNew w) Γ Post := fun σ B H E Q q => fun a ha =>
  q _ _ _ (.nw (.dN w [])) Γ (Go.beside E ha) ⟨a, _, rfl, .inr ha, E.not_own ha, upd_same, E.base_none ha, [], rfl, .nil⟩ p
theorem ws_nput {i : Nat} (h : WE K tv Γ fun z Γ1 => ∃ d, z.dt? = some d ∧ (∃ c, Γ1[i]? = some (.cel c)) ∧ WE K ty Γ1 fun y Γ2 => Hold (∃ kvs k, y = .val (dtN k) ∧ (∃ ks, k = .tup ks) ∧ k.depth ≤ 8 ∧ Γ2[i]? = some (.cel (.dN w kvs)) ∧ kvs.length < 10000000 ∧ P.nx (Γ2.set i (.cel (.dN w (putE kvs k d)))))) :
    WS K pin (sNPut K w (tVar i) ty tv) Γ P := fun σ B H D E n r b c xx => by
  have h' : WE K tv Γ fun z Γ1 => ∃ d, z = .val d ∧ (∃ c, Γ1[i]? = some (.cel c)) ∧ WE K ty Γ1 fun y Γ2 => Hold (∃ kvs k, y = .val (dtN k) ∧ (∃ ks, k = .tup ks) ∧ k.depth ≤ 8 ∧ Γ2[i]? = some (.cel (.dN w kvs)) ∧ kvs.length < 10000000 ∧ P.nx (Γ2.set i (.cel (.dN w (putE kvs k d))))) := we_freeze (we_mono h fun z Γ1 ⟨d, hd, r⟩ => ⟨d, hd, d, rfl, r⟩)
  refine h' σ B H E _ fun v B1 H1 z Γ1 g1 k1 p1 => ?_
  obtain ⟨d, rfl, ⟨ds1, h1⟩, p1⟩ := p1
  obtain ⟨l, vs, e0, e1, e2, k0⟩ := g1.env.cel i ds1 h1
  refine ⟨.ref l, e0, p1 σ B1 H1 g1.env _ fun y B2 H2 w2 Γ2 g2 k2 p2 => ?_⟩
  obtain ⟨kvs, k, rfl, ⟨ks, rfl⟩, dp, hi, hz, p⟩ := p2.get
  have ky' : Is K B2 y (dtN (.tup ks)) := k2
  obtain ⟨kb, rfl⟩ := dtN_ref ky'
  obtain ⟨l', o, f0, f1, f2, us, rfl, k3⟩ := g2.env.cel i _ hi
  rw [e0] at f0; cases f0
  refine ⟨l, _, rfl, ⟨us, _, kb, f1, k3.keysOk g2.env.bh, rfl, ky'.mono g2.env.bh, dp, Nat.lt_of_lt_of_le (by rw [k3.len]; exact hz) (by decide), rfl⟩, ?_⟩
  exact n _ B2 _ _ ((g1.trans g2).trans (Go.putC (es := .dN w (putE kvs (.tup ks) d)) g2.env hi e0 ⟨_, rfl, k3.put ky' (Is.mono g2.mv.bb k1)⟩)).s p
theorem we_ndisp1 (h : WE K ty Γ fun rk Γ1 => Hold (∃ k, rk = .val (dtN k) ∧ (∃ ks, k = .tup ks) ∧ k.depth ≤ 8 ∧ WE K tv Γ1 fun rv Γ2 => ∃ d, rv.dt? = some d ∧ Post (.nw (.dN w [(k, d)])) Γ2)) : WE K (tNDisp1 K w ty tv) Γ Post := fun σ B H E Q q p hp => by
  have g0 : Go K σ B H Γ B (upd H p (dNO w p [])) Γ := Go.beside E hp
  have no : ¬ Own σ Γ p := E.not_own hp
  refine h σ B _ g0.env _ fun x B1 H1 rk Γ1 g1 k1 p1 => ?_
  obtain ⟨k, rfl, ⟨ks, rfl⟩, dp, p1⟩ := p1.get
  have p1' : WE K tv Γ1 fun rv Γ2 => ∃ d, rv = .val d ∧ Post (.nw (.dN w [(.tup ks, d)])) Γ2 := we_freeze (we_mono p1 fun z Γ1 ⟨d, hd, r⟩ => ⟨d, hd, d, rfl, r⟩)
  refine p1' σ B1 H1 g1.env _ fun y B2 H2 rv Γ2 g2 k2 p2 => ?_
  obtain ⟨d, rfl, p2⟩ := p2
  have g12 := g1.trans g2
  have hx : Is K B2 x (dtN (.tup ks)) := Is.mono g2.mv.bb k1
  obtain ⟨b, rfl⟩ := dtN_ref hx
  have h1 : H2 p = some (dNO w p []) := g12.mv.kp p _ no upd_same
  have b1 : B2 p = none := g12.mv.off p no (by rw [upd_same]; exact fun z => nomatch z) (E.base_none hp)
  have no1 : ¬ Own σ Γ2 p := fun z => no (g12.sub p z)
  refine ⟨h1, b, .tup ks, rfl, hx.mono g2.env.bh, dp, ?_⟩
  have g01 := g0.trans g12
  refine q (.ref p) B2 _ (.nw (.dN w [(.tup ks, d)])) Γ2 ⟨⟨fun a o na e => ?_, g01.mv.bb, g01.mv.off⟩, g01.ac, g01.env.updOff b1 no1⟩ ⟨p, _, rfl, .inr hp, no1, upd_same, b1, _, rfl, .cons rfl k2 hx .nil⟩ p2
  rw [upd_ne (ne_of_none e hp)]
  exact g01.mv.kp a o na e
theorem we_nlist (h : WE K te Γ fun r Γ1 => Hold (∃ kvs, dnOf Γ1 r = some (w, kvs) ∧ Post (.new (kvs.map fun kv => dtN kv.1)) Γ1)) : WE K (tCB (rListN w) (tCons te tNil)) Γ Post :=
  we_cb1 (we_mono h fun r Γ1 hp => fun σ B H x E kx Q q => by
    obtain ⟨kvs, e, p⟩ := hp.get
    obtain ⟨a, xs, rfl, ha, hk⟩ := rv_dN E kx e
    refine ⟨a, xs, rfl, ha, fun l hl => q _ _ _ (.new (kvs.map fun kv => dtN kv.1)) Γ1 (Go.beside E hl) (re_newL E ⟨by simp [hk.len], fun i v d h1 h2 => ?_⟩ hl) p⟩
    rw [List.getElem?_map] at h1 h2
    obtain ⟨x, hx, rfl⟩ := Option.map_eq_some_iff.mp h1
    obtain ⟨kv, hkv, rfl⟩ := Option.map_eq_some_iff.mp h2
    have e1 : (xs.map (·.1))[i]? = some x.1 := by rw [List.getElem?_map, hx]; rfl
    rw [hk.ks, List.getElem?_map, hkv] at e1
    have e2 : kv.1 = x.1 := Option.some.inj e1
    rw [e2]
    exact hk.qs i x hx)
theorem dpAll_of {β : Type} {B H : Hp} {c : β → Dt} {enc : β → PyData} (s : Same B H) : ∀ {bs : List β} {vs : List V}, (∀ b ∈ bs, (c b).py = some (enc b)) → IsA K B vs (bs.map c) → DpAll K H vs (bs.map enc)
  | [], vs, _, h => by
    have : vs = [] := List.eq_nil_of_length_eq_zero (by rw [h.len]; rfl)
    subst this; exact .nil
  | b :: bs, [], _, h => by have := h.len; simp at this
  | b :: bs, v :: vs, he, h => .cons (dp_mono s (is_dp (h.at_ 0 v (c b) rfl rfl) (he b (List.mem_cons_self)))) (dpAll_of s (fun x hx => he x (List.mem_cons_of_mem _ hx)) (by have := h.drop 1; simpa using this))
theorem zip_is {β : Type} {B : Hp} {c : β → Dt} : ∀ {bs : List β} {vs : List V}, IsA K B vs (bs.map c) → ∀ z ∈ vs.zip bs, Is K B z.1 (c z.2)
  | [], [], _, z, hz => by simp at hz
  | [], _ :: _, _, z, hz => by simp at hz
  | _ :: _, [], _, z, hz => by simp at hz
  | b :: bs, v :: vs, h, z, hz => by
    rw [List.zip_cons_cons] at hz
    rcases List.mem_cons.mp hz with hz | hz
    · subst hz; exact h.at_ 0 v (c b) rfl rfl
    · exact zip_is (by have := h.drop 1; simpa using this) z hz
theorem zs_is {β : Type} {B : Hp} {c : β → Dt} : ∀ (zs : List (V × β)), (∀ z ∈ zs, Is K B z.1 (c z.2)) → IsA K B (zs.map (·.1)) ((zs.map (·.2)).map c)
  | [], _ => .nil
  | z :: zs, h => by
    rw [List.map_cons, List.map_cons, List.map_cons]
    exact .cons (h z (List.mem_cons_self)) (zs_is zs fun y hy => h y (List.mem_cons_of_mem _ hy))
theorem we_sortD {β : Type} (c : β → Dt) (enc : β → PyData) {rev : Bool} (h : WE K te Γ fun r Γ1 => Hold (∃ bs : List β, lstOf Γ1 r = some (bs.map c) ∧ (∀ b ∈ bs, (c b).py = some (enc b) ∧ (enc b).depth ≤ 8) ∧ AllAlike (bs.map enc) ∧ Sortable (bs.map enc) ∧ Post (.new ((bs.mergeSort (dataLe rev enc)).map c)) Γ1)) : WE K (tCKw (rSortD K rev) (tCons te tNil) (tCons (tC (.bl rev)) tNil)) Γ Post := by
  have h2 : WE K (tCB (fun vs H Q => rSortD K rev vs [.bl rev] H Q) (tCons te tNil)) Γ Post :=
    we_cb1 (we_mono h fun r Γ1 hp => fun σ B H x E kx Q q => by
      obtain ⟨bs, hs, he, hal, hk, p⟩ := hp.get
      obtain ⟨a, vs, rfl, hq, ha⟩ := rv_lst E kx hs
      refine ⟨β, a, vs, bs, enc, rfl, rfl, hq, dpAll_of E.bh (fun b hb => (he b hb).1) ha, hal, hk, fun b hb => (he b hb).2, fun zs l e1 e2 hl => ?_⟩
      refine q _ _ _ (.new ((bs.mergeSort (dataLe rev enc)).map c)) Γ1 (Go.beside E hl) (re_newL E ?_ hl) p
      rw [← e1]
      exact zs_is zs fun z hz => zip_is ha z (e2 z hz))
  exact fun σ B H E Q q => h2 σ B H E Q q
theorem we_minD {β : Type} (c : β → Dt) (enc : β → PyData) (h : WE K te Γ fun r Γ1 => Hold (∃ bs : List β, lstOf Γ1 r = some (bs.map c) ∧ (∀ b ∈ bs, (c b).py = some (enc b)) ∧ AlikeAll (bs.map enc) ∧ 0 < bs.length ∧ PyData.depthAll (bs.map enc) ≤ 8 ∧ ∀ b ∈ bs, (∀ b' ∈ bs, dataLt (enc b') (enc b) = false) → Post (.val (c b)) Γ1)) : WE K (tCB (rMinD K) (tCons te tNil)) Γ Post :=
  we_cb1 (we_mono h fun r Γ1 hp => fun σ B H x E kx Q q => by
    obtain ⟨bs, hs, he, hal, hn, dp, p⟩ := hp.get
    obtain ⟨a, vs, rfl, hq, ha⟩ := rv_lst E kx hs
    exact ⟨β, a, vs, bs, enc, rfl, hq, dpAll_of E.bh he ha, hal, hn, dp, fun x b hz hb => q _ _ _ (.val (c b)) Γ1 (.refl E) (zip_is ha _ hz) (p b (List.of_mem_zip hz).2 hb)⟩)
end
theorem ws_retDN {K : PySem.W.Frag} {pin : List Nat} {Γ : List Sl} {P : Ps} {i : Nat} {w : World} {kvs : List (NestedKey × Dt)} (h : Γ[i]? = some (.cel (.dN w kvs))) (p : P.rt (.nw (.dN w kvs)) (Γ.set i .un)) : WS K pin (tRet (tVar i)) Γ P := ws_ret (we_move h ⟨rfl, p⟩)
end Ab

namespace Ab
open PySem L2
section
variable {X : Cx} {d : Addr} {es : Array DictEntry} {n : Nat}
end

inductive KV (K : PySem.W.Frag) : V → Dt → Prop where
  | raw (v : V) : KV K v (.raw v)
  | tup {a : Addr} {xs : List V} (h : KTup K a xs) : KV K (.ref a) (.tup (xs.map Dt.raw))
theorem KV.is {K : PySem.W.Frag} {B : Hp} {v : V} {d : Dt} (h : KV K v d) : Is K B v d := by
  cases h with
  | raw => exact .raw _
  | @tup a xs h =>
    have ha : IsA K B xs (xs.map Dt.raw) := IsA.raws
    exact Is.tup (.inr h) ha.len ha.at_
def KEnts (K : PySem.W.Frag) : List DictEntry → List (Str × Dt) → Prop
  | [], [] => True
  | e :: es, kv :: kvs => (∃ t, e.key = .str kv.1 t) ∧ (∃ v, RelV v e.val ∧ KV K v kv.2) ∧ KEnts K es kvs
  | _, _ => False
def valS (kvs : List (Str × Dt)) (z : Str) : Option Dt := (kvs.find? fun kv => decide (kv.1 = z)).map (·.2)
structure KDic (K : PySem.W.Frag) (w : World) (c : Addr) (kvs : List (Str × Dt)) : Prop where
  ex : ∃ es n, KDict K w c es n ∧ KEnts K es.toList kvs
theorem KEnts.val {K : PySem.W.Frag} : ∀ {es : List DictEntry} {kvs : List (Str × Dt)}, KEnts K es kvs → ∀ z, (es.any fun e => e.refKey) = false ∧ ((valS kvs z = none ∧ es.find? (fun e => e.key.isStr z) = none) ∨ ∃ e d v, valS kvs z = some d ∧ es.find? (fun e => e.key.isStr z) = some e ∧ RelV v e.val ∧ KV K v d)
  | [], [], _, z => ⟨rfl, .inl ⟨rfl, rfl⟩⟩
  | [], _ :: _, h, _ => h.elim
  | _ :: _, [], h, _ => h.elim
  | e :: es, kv :: kvs, h, z => by
    obtain ⟨⟨t, hk⟩, ⟨v, hv, hd⟩, hr⟩ := h
    obtain ⟨i1, i2⟩ := KEnts.val hr z
    refine ⟨?_, ?_⟩
    · rw [List.any_cons, i1, Bool.or_false]
      unfold DictEntry.refKey
      rw [hk]
    · unfold valS at *
      rw [List.find?_cons, List.find?_cons]
      have e1 : e.key.isStr z = decide (kv.1 = z) := by
        rw [hk]
        show (kv.1 == z) = decide (kv.1 = z)
        rw [Bool.eq_iff_iff]; simp
      rw [e1]
      by_cases c : kv.1 = z
      · rw [decide_eq_true c]
        exact .inr ⟨e, kv.2, v, rfl, rfl, hv, hd⟩
      · rw [decide_eq_false c]
        exact i2
theorem KDic.val {K : PySem.W.Frag} {w : World} {c : Addr} {kvs : List (Str × Dt)} (h : KDic K w c kvs) (z : Str) : (valS kvs z = none ∧ PySem.W.nsIn K c z = some none) ∨ ∃ u d v, valS kvs z = some d ∧ PySem.W.nsIn K c z = some (some u) ∧ RelV v u ∧ KV K v d := by
  obtain ⟨es, n, D, E⟩ := h.ex
  have hn : PySem.W.nsIn K c z = match es.toList.find? (fun x => x.key.isStr z) with
    | some e => some (some e.val)
    | none => if (es.toList.any fun x => x.refKey) = true then none else some none := by
    unfold PySem.W.nsIn; rw [D.at_]
    rfl
  obtain ⟨i1, i2⟩ := E.val z
  rw [hn, i1]
  rcases i2 with ⟨a, b⟩ | ⟨e, d, v, a, b, c1, c2⟩
  · rw [b]; exact .inl ⟨a, rfl⟩
  · rw [b]; exact .inr ⟨e.val, d, v, a, rfl, c1, c2⟩
section
variable {K : PySem.W.Frag} {w : World} {c : Addr} {kvs : List (Str × Dt)} {Γ : List Sl} {Post : Re → List Sl → Prop} {tk tx : TE}
end
section
variable {K : PySem.W.Frag} {pin : List Nat} {Γ : List Sl} {P : Ps} {Post : Re → List Sl → Prop} {te ta tb : TE} {g : TG} {tb' : TS}
end
section
variable {K : PySem.W.Frag} {pin : List Nat} {Γ : List Sl} {P : Ps} {Post : Re → List Sl → Prop} {td ty tv tx : TE}
end
def look {α κ : Type} [DecidableEq κ] (xs : List (κ × α)) (z : κ) : Option α := (xs.find? fun kv => decide (kv.1 = z)).map (·.2)
section
variable {K : PySem.W.Frag} {pin : List Nat} {Γ : List Sl} {P : Ps} {te : TE} {g : TG} {tb' : TS}
end
end Ab

namespace Ab
open PySem L2
structure Yp where
  nx : List Dt → List Sl → Prop
  bk : List Dt → List Sl → Prop := fun _ _ => False
  ct : List Dt → List Sl → Prop := fun _ _ => False
section
variable {K : PySem.W.Frag} {pin : List Nat} {Γ : List Sl} {ys : List Dt} {P : Yp} {te : TE} {t u tb : TGn}
end
section
variable {K : PySem.W.Frag} {Γ : List Sl} {ta : TA} {Post : Re → List Sl → Prop}
end
section
variable {K : PySem.W.Frag} {pin : List Nat} {Γ : List Sl} {P : Ps} {g : TG} {tb' : TS}
end
end Ab

namespace Ab
open PySem L2
theorem ExB.nil {K : PySem.W.Frag} {B : Hp} {d : Option Addr} (h : ExB K B d []) : d = Option.none := by
  cases h with
  | none => rfl
  | some _ _ _ hne => exact absurd rfl hne
section
variable {K : PySem.W.Frag} {pin : List Nat} {Γ : List Sl} {P : Ps}
theorem GoS.un {σ σ1 : L2.St} {B H B1 H1 : Hp} {Γ1 : List Sl} (g : GoS K pin σ B H Γ σ1 B1 H1 Γ1) {i : Nat} (hp : pin.contains i = false) : GoS K pin σ B H Γ (σ1.set i none) B1 H1 (Γ1.set i .un) := by
  by_cases hi : i < Γ1.length
  · refine g.trans ⟨Mv.refl _ _ _, fun a h => .inl (h.set_ne fun ds z => nomatch z), g.env.setU none hi, pin_set hp⟩
  · rw [List.set_eq_of_length_le (l := σ1) (by rw [g.env.len]; omega), List.set_eq_of_length_le (l := Γ1) (by omega)]
    exact g
theorem takes00 {X : Cx} : Takes X (fun _ _ _ _ => False) := fun _ _ x => by
  obtain ⟨_, _, _, _, _, _, _, _, _, _, _, _, _, _, _, _, z⟩ := x
  exact z.elim
end
end Ab

namespace Ab
open PySem L2
theorem upd_upd {H : Hp} {a : Addr} {o u : HO} : upd (upd H a o) a u = upd H a u := funext fun b => by
  by_cases h : b = a
  · subst h; rw [upd_same, upd_same]
  · rw [upd_ne h, upd_ne h, upd_ne h]
section
variable {K : PySem.W.Frag} {pin : List Nat} {Γ : List Sl} {P : Ps}
end
section
variable {K : PySem.W.Frag} {Γ : List Sl} {Post : Re → List Sl → Prop} {te tk tv : TE}
end
end Ab

namespace Ab
open PySem L2
inductive PD where
  | int (i : Int)
  | str (s : Str)
  | tup (l : List PD)
mutual
def PD.dt : PD → Dt
  | .int i => .int i
  | .str s => .str s
  | .tup l => .tup (PD.dts l)
def PD.dts : List PD → List Dt
  | [] => []
  | x :: r => x.dt :: PD.dts r
end
mutual
def PD.py : PD → PyData
  | .int i => .int i
  | .str s => .str s
  | .tup l => .tuple (PD.pys l)
def PD.pys : List PD → List PyData
  | [] => []
  | x :: r => x.py :: PD.pys r
end
mutual
def PD.dep : PD → Nat
  | .int _ => 0
  | .str _ => 0
  | .tup l => PD.deps l + 1
def PD.deps : List PD → Nat
  | [] => 0
  | x :: r => max x.dep (PD.deps r)
end
mutual
def PD.ok : PD → Prop
  | .int _ => True
  | .str s => CS s
  | .tup l => l.length ≤ 1000000 ∧ PD.oks l
def PD.oks : List PD → Prop
  | [] => True
  | x :: r => x.ok ∧ PD.oks r
end
def PD.eq (a b : PD) : Bool := PyData.eqv a.py b.py
def PD.eqs (a b : List PD) : Bool := PyData.eqvAll (PD.pys a) (PD.pys b)
inductive SmP : List Sl → Bool → Nat → Prop
  | dat (a b : PD) (ha : a.ok) (hb : b.ok) : SmP [.val a.dt, .val b.dt] (PD.eq a b) (max a.dep b.dep)
  | lst (a b : List PD) (ha : PD.oks a) (hb : PD.oks b) (la : a.length ≤ 1000000) (lb : b.length ≤ 1000000) : SmP [.acc (PD.dts a), .acc (PD.dts b)] (PD.eqs a b) (max (PD.deps a) (PD.deps b) + 1)
end Ab

namespace L2
open PySem PySem.Spec PyProof.Rows PySem.W PySem.Calls
theorem mro_has {K : Frag} {C : Addr} {cd : ClassData} {bm : List Value} (hcd : clsIn K C = some cd) (hm : cd.mro = .ref C :: bm) (b : Value) (hb : b = .ref C ∨ bm.contains b = true) : mroIn K C b = some true := by
  unfold mroIn
  rw [hcd, Option.bind_some, hm, if_neg (show ¬ (List.isEmpty (Value.ref C :: bm) = true) from Bool.false_ne_true)]
  rcases hb with rfl | hb
  · simp
  · rw [List.contains_cons, hb, Bool.or_true]
theorem sup_callWith {i : String} {u x : Addr} {M : Model} {A : Around} {E : Value → Shared → Prop} {s : Shared} {pos : Pos} {env : Env} {e : Expr} {rest : List Expr} {Q : Value → Shared → Prop}
    (h : wpAny M A (spliced (backTo pos (starEach (e :: rest) env))) (fun vs s₁ => KxsAt i u x s₁.heap ∧ wpAny M A (call (.ref u) vs) Q E s₁) E s)
    (he : starEach (e :: rest) env = (false, eval e env) :: starEach rest env) (hplain : (backTo pos (starEach rest env)).any (·.1) = false) :
    wpAny M A (callWith pos (.ref u) [] (backTo pos (starEach (e :: rest) env)) []) Q E s := by
  rw [he] at h ⊢
  refine kxs_callWith (i := i) (x := x) (by show (false || (backTo pos (starEach rest env)).any (·.1)) = false; rw [hplain]; rfl) ?_
  exact evalArgs_plain h
def tSup (C : Addr) (ta : TA) (t : TS) : TS := fun D σ H => ∃ a : Addr, σ[0]? = some (some (.ref a)) ∧ H a = some (exo a C none) ∧ ta σ H fun vs H1 => vs.length ≤ 1000 ∧ H1 a = some (exo a C none) ∧ t D σ H1
section
variable {X : Cx} {pins : List (Addr × Obj)} {σ : St} {H : Hp} {s : Shared} {D : Ends} {C f cda cc : Addr} {fd : FuncData} {body rest : List Stmt} {e : Expr} {es : List Expr} {p0 p1 p2 p3 p4 : Pos} {ta : TA} {t : TS}
  {oc ccl cl : Value} {od cdd cld : Option Addr} {osl ccs csl : Array (Option Value)} {ar : Arg} {vs : Array Value} {file : Str} {tf : Tok}
theorem sup_line (hks : X.env.kindOf "super" = some .globalImplicit) (hkc : X.env.kindOf "__class__" = some .free) (hfu : X.env.func = some f) (hco : X.env.code = .ref cda) (hcl : X.env.cells.lookup ("__class__" : Str) = some cc)
    (lk : X.K.lookup f = some ⟨oc, od, .func fd, osl⟩) (hp : (fd.params.posonlyargs ++ fd.params.args).head? = some ar) (hN : X.N[0]? = some ar.arg) (hv : X.env.kindOf ar.arg = some .local) (hvis : Vis X.env.scope ar.arg)
    (hcode : X.K.lookup cda = some ⟨ccl, cdd, .fields vs, ccs⟩) (hvs : vs[2]? = some (.str file tf)) (hfile : ((X.prog.main.file : Str) == file) = true) (htop : (X.prog.main.scope.names.lookup ("super" : Str)).isSome = false)
    (hcell : X.K.lookup cc = some ⟨cl, cld, .cell (some (.ref C)), csl⟩) (hsup : X.mg "super" = none) (T : OexC X.K C) (hm : ks_superIn X.K C C "__init__" = some (some (.builtin "ValueError.__init__")))
    (ho : nsIn X.K cStatics "thirdparty.any" = some none) (I : Inv X pins σ H s) (h : tSup C ta t D σ H) (ha : PA X (e :: es) ta) (hr : PSs X rest t) {pl : Sem Bool}
    (hc : eval (.Call (.Attribute (.Call (.Name "super" p0) [] [] p1) "__init__" p2) (e :: es) [] p3) X.env = (do
      let ov ← attributeBase (.Call (.Name "super" p0) [] [] p1) "__init__" X.env (eval (.Call (.Name "super" p0) [] [] p1) X.env)
      standAt p2.atName
      let (f, first) ← holding [ov] (getMethod ov "__init__" pl)
      callWith p3 f first (backTo p3 (starEach (e :: es) X.env)) []) := by rfl)
    (he : starEach (e :: es) X.env = (false, eval e X.env) :: starEach es X.env := by rfl) (hpl : (backTo p3 (starEach es X.env)).any (·.1) = false := by rfl) (hi : interactive X.env = false := by rfl) :
    _root_.PySem.wpAt (model X.prog X.w) X.A (.func body X.env) (execs (.Expr (.Call (.Attribute (.Call (.Name "super" p0) [] [] p1) "__init__" p2) (e :: es) [] p3) p4 :: rest) X.env) (SP X pins D) X.xe s := by
  obtain ⟨a, hσ, hH, h⟩ := h
  obtain ⟨nm, q, N, bs, bm, sn, sub, ab, col, dd, k0, k1, k2, k3, k5, hC, hbm⟩ := T.cls
  have hcd : clsIn X.K C = some { name := nm, bases := bs, mro := .ref C :: bm, ns := N, qualname := q, hasDict := true, slotNames := sn, subclasses := sub, abstract := ab, collection := col, hasDel := false } := by unfold clsIn; rw [hC] <;> rfl
  have KX := I.kIn
  obtain ⟨t1, hx⟩ := exo_at I.hok hH
  have hne : X.mg "super" = none := hsup
  obtain ⟨m, hns, hloc⟩ := id I.loc
  obtain ⟨ua, rua, hlook⟩ := hloc 0 ar.arg _ hN hσ hvis
  obtain rfl : ua = Value.ref a := rua
  have hma : m ar.arg = some (.ref a) := by
    rcases hlook with ⟨_, z⟩ | ⟨z, _⟩
    · exact z
    · rw [hv] at z; rcases z with z | z <;> cases z
  have IA : InstAt s.heap a (HandSPX.excO C t1) C none := ⟨hx, rfl, rfl, trivial⟩
  refine ks_wpAt_execs_cons (ks_wpAt_Expr_any (ks_wpAt_MethodCall ?_ hc) hi)
  refine ks_wpAt_super_base hks hkc (by decide) hfu (KX _ _ lk) rfl hp hco (KX _ _ hcode) rfl hvs hfile htop ?_
  refine ks_loadName_global I.ok.kind hks ?_
  obtain ⟨mb, hb1, hb2⟩ := I.mod.blt
  refine Calls.loadGlobal_builtin (by rw [I.ok.glob]; exact I.mod.glob.keeps I.bk) hne (by rw [I.ok.blt]; exact hb1.keeps I.bk) ((hb2 "super" (by decide)).trans (show bootBuiltins "super" = some (.type "super") from PyProof.Rows.Boot.«super»)) ⟨rfl, ?_⟩
  refine wpAny_loadName_free I.ok.kind hkc hcl ⟨_, KX _ _ hcell, rfl⟩ ?_
  refine wpAny_loadName_local I.ok.kind hv hns hma ?_
  have hDC := KX _ _ hC
  refine ks_wpAny_isType_cls hDC rfl ⟨rfl, ?_⟩
  obtain ⟨hp0, g, d, tk, os⟩ := s
  refine ks_wpAny_call_super hDC rfl hx rfl (fun c e => by cases e) (looks_mroIn KX (mro_has hcd rfl _ (.inl rfl))) (fun h1 e1 k1 => ?_)
  have I1 : Inv X pins σ H ⟨h1, g, d, tk, os⟩ := I.kept k1
  have hI : Looks (model X.prog X.w) h1 (isInstance (.ref a) (.type "ValueError")) true := (InstAt.type (⟨k1 _ _ hx, rfl, rfl, trivial⟩ : InstAt h1 a (HandSPX.excO C t1) C none)).andThen (looks_mroIn (KX.keeps k1) (mro_has hcd rfl _ (.inr ((HandSPX.refsVE_contains "ValueError" _ hbm).trans (by decide +kernel)))))
  have hm' : alongIn X.K "__init__" ((( .ref C :: bm : List Value).dropWhile (· != .ref C)).drop 1) = some (some (.builtin "ValueError.__init__")) := by
    unfold ks_superIn at hm
    rw [hcd] at hm
    exact hm
  refine kxs_getMethod kxs_ValueError e1 (looks_opaque (KX.keeps k1) ho) (l₀ := .ref C :: bm) (fun A Q E s k q => wpAny_bind ((looks_clsIn (KX.keeps k1) hcd) A _ E s k (wpAny_pure q))) rfl (KX.keeps k1) hm' hI (ks_ne KX IA hcd) (by decide) ?_
  have k2 : ∀ b o, h1.get? b = some o → (h1.push (kxs_mw "ValueError.__init__" a)).get? b = some o := fun b o e => Heap.get?_push_of_some _ e
  have hu2 : (h1.push (kxs_mw "ValueError.__init__" a)).get? h1.objs.size = some (kxs_mw "ValueError.__init__" a) := Heap.get?_push_at rfl rfl
  have I2 : Inv X pins σ H ⟨h1.push (kxs_mw "ValueError.__init__" a), g, d, tk + 1, os⟩ := I1.kept (t' := tk + 1) k2
  have hnu : H h1.objs.size = none := I1.hok.fresh (Nat.le_refl _)
  have I3 : Inv X ((h1.objs.size, kxs_mw "ValueError.__init__" a) :: pins) σ H ⟨h1.push (kxs_mw "ValueError.__init__" a), g, d, tk + 1, os⟩ := I2.pins_of fun p hp => by
    rcases List.mem_cons.mp hp with rfl | hp
    · refine ⟨hu2, hnu, fun z => ?_, fun z => ?_, fun v z => by cases z⟩
      · obtain ⟨m1, ⟨oL, _, _, hL, _⟩, _⟩ := I1.loc
        have := Heap.lt_size hL
        rw [← show h1.objs.size = X.env.locals from z] at this
        exact absurd this (Nat.lt_irrefl _)
      · exact I1.nofs (Nat.le_refl _) z
    · exact I2.pin p (List.mem_append_right _ hp)
  refine sup_callWith (i := "ValueError.__init__") (x := a) (thn (ha.run p3 _ _ σ H _ I3 h) fun us s3 ⟨vs3, H3, I4, r3, hz, hH3, q3⟩ => ⟨(I4.pin _ (List.mem_append_right _ List.mem_cons_self)).1, ?_⟩) he hpl
  have hu3 := (I4.pin _ (List.mem_append_right _ List.mem_cons_self)).1
  have I5 : Inv X pins σ H3 s3 := I4.pins_of fun p hp => I4.pin p (List.mem_append_right _ (List.mem_cons_of_mem _ hp))
  obtain ⟨t3, hx3⟩ := exo_at I5.hok hH3
  obtain ⟨h3, g3, d3, tk3, os3⟩ := s3
  have hlen : us.length ≤ sizeLine := by
    rw [← Paired.length r3, sizeLine_eq]
    omega
  show wpAny _ _ (call (.ref h1.objs.size) us) _ _ _
  refine wpAny_call (codeAny_of_tree ?_)
  show wpAny _ X.A.in1 (callAny (.ref h1.objs.size) ⟨us, []⟩) _ _ _
  simp only [callAny]
  refine wpAny_bind (wpAny_load hu3 ?_)
  simp only [kxs_mw, show (Value.type "method-wrapper" == Value.type "method" || Value.type "method-wrapper" == Value.type "builtin_function_or_method" || Value.type "method-wrapper" == Value.type "method-wrapper") = true by decide, if_true]
  refine KFB.if_so (by decide) ?_
  refine wpAny_bind (check_bound_init F.excBase_ValueError.toExcCallFacts (I5.kIn _ _ hC) hx3 rfl ?_)
  refine wpAny_bind (wpAny_pure (wpAny_pure ?_))
  refine ⟨plainId_quiet F.excBase_ValueError.init.plain _, codeAny_builtin F.excBase_ValueError.initEntry ?_⟩
  refine exc_init_tree (cls := .ref C) (t0 := t3) (dv := none) (c2 := .none) (c3 := .none) (b4 := .bool false) hx3 hlen fun h' kp he' ht' => ?_
  have J := I5.write (t' := tk3) (x := a) (e := a) (o := exo a C none) (by rw [hH3]; exact True.intro) (.inl rfl) kp ⟨_, he'⟩ (exo_ok he')
  have eu : upd H3 a (exo a C none) = H3 := by
    funext b
    by_cases hb : b = a
    · rw [hb, upd_same, hH3]
    · rw [upd_ne hb]
  rw [eu] at J
  exact wpAt_of_wpAny (hr.run pins _ σ H3 D J q3)
end
structure SupF (P : Program) (K : Frag) (C f : Addr) (F : NdefX.NF) (fd : FuncData) (x0 : Str) : Prop where
  lk : ∃ oc od dV kV doc pm an ct osl, fd = fnX F.name F.qual F.params F.body F.scope F.cl dV kV doc pm an (.ref F.c) ct ∧ K.lookup f = some ⟨oc, od, .func fd, osl⟩
  cd : codeIn K (.ref F.c) F.qual = true
  code : ∃ ccl cdd vs ccs file tf, K.lookup F.c = some ⟨ccl, cdd, .fields vs, ccs⟩ ∧ vs[2]? = some (.str file tf) ∧ ((P.main.file : Str) == file) = true
  top : (P.main.scope.names.lookup ("super" : Str)).isSome = false
  cell : ∃ cc cl cld csl, F.cl = [(("__class__" : Str), cc)] ∧ K.lookup cc = some ⟨cl, cld, .cell (some (.ref C)), csl⟩
  arg : ∃ ar, (F.params.posonlyargs ++ F.params.args).head? = some ar ∧ ar.arg = x0
  sup : ks_superIn K C C "__init__" = some (some (.builtin "ValueError.__init__"))
  opq : nsIn K cStatics "thirdparty.any" = some none
theorem fn_sup {CX : CXT} {P : Program} {w : World} {K : Frag} {mg : Str → Option Value} {base : Heap} {k : Nat} {f C : Addr} {F : NdefX.NF} {fd : FuncData} {N ps : List Str} {x0 : Str} {sp : Sp} {e : Expr} {es : List Expr} {rest : List Stmt} {p0 p1 p2 p3 p4 : Pos}
    (B : SupF P K C f F fd x0) (T : OexC K C) (hsup : mg "super" = none) (hbd : F.body = .Expr (.Call (.Attribute (.Call (.Name "super" p0) [] [] p1) "__init__" p2) (e :: es) [] p3) p4 :: rest)
    (S : NdefX.NScope N (x0 :: ps) ["__class__"] F.scope) (hks : F.scope.names.lookup ("super" : Str) = some .globalImplicit)
    (len : ∀ vs H Q E, sp vs H Q E → vs.length = (x0 :: ps).length)
    (hbody : ∀ (A : Around) (outer : List Env) (s : Shared) (H : Hp) (vs : List V) (Q : VK) (E : XK), Room k (A.deeper (NdefX.envF F f s.heap.objs.size)) → sp vs H Q E →
      ∃ ta t, PA (NdefX.ncx CX P w K mg base N F f A outer s H E) (e :: es) ta ∧ PSs (NdefX.ncx CX P w K mg base N F f A outer s H E) rest t ∧ tSup C ta t { nx := fun _ H' => Q .non H', rt := Q } (NdefX.startF N vs [some (.ref C)]) H)
    (hc : ∀ env : Env, ∃ pl : Sem Bool, eval (.Call (.Attribute (.Call (.Name "super" p0) [] [] p1) "__init__" p2) (e :: es) [] p3) env = (do
      let ov ← attributeBase (.Call (.Name "super" p0) [] [] p1) "__init__" env (eval (.Call (.Name "super" p0) [] [] p1) env)
      standAt p2.atName
      let (f, first) ← holding [ov] (getMethod ov "__init__" pl)
      callWith p3 f first (backTo p3 (starEach (e :: es) env)) []))
    (he : ∀ env : Env, starEach (e :: es) env = (false, eval e env) :: starEach es env) (hpl : ∀ env : Env, (backTo p3 (starEach es env)).any (·.1) = false) :
    FnOk P w K mg base CX (k + 1) f fd (x0 :: ps) sp := by
  obtain ⟨⟨oc, od, dV, kV, doc, pm, an, ct, osl, rfl, lk⟩, hcd, ⟨ccl, cdd, vsc, ccs, file, tf, hcode, hvs, hfile⟩, htop, ⟨cc, cl, cld, csl, hcl, hcell⟩, ⟨ar, har, rfl⟩, hm, hop⟩ := B
  refine ⟨len, fun A outer s H args us vs Q E hr e0 hb r hsp => ?_⟩
  have hl := len _ _ _ _ hsp
  have KX : K.In s.heap := e0.mod.kin.keeps fun b o e => (e0.bs b o e).1
  have lim : s.heap.NoLimit := e0.mod.nolimit.keeps fun b o e => (e0.bs b o e).1
  have h00 : N[0]? = some ar.arg := by
    have q := S.pre
    have q1 := congrArg (fun l => l[0]?) q
    simp only [List.length_cons, List.cons_append, List.getElem?_cons_zero] at q1
    rw [List.getElem?_take_of_lt (by omega)] at q1
    exact q1
  refine ks_codeAny_call_defAt (fd := fnX F.name F.qual F.params F.body F.scope F.cl dV kV doc pm an (.ref F.c) ct) (body := F.body) (binds := (ar.arg :: ps).zip us) hr.depth (KX _ _ lk) rfl lim (codeRec_of KX hcd) rfl hb S.nocell (fun ⟨n, v⟩ hy => S.par n (List.of_mem_zip hy).1) (fun h₁ hns kp => ?_) S.co S.gen S.kind
  have Cs : NdefX.CellsAt F.cl ["__class__"] [some (.ref C)] s.heap H := by
    have lkc : ∀ {y : Str} {c : Addr}, F.cl.lookup y = some c → y = "__class__" ∧ c = cc := fun {y c} q => by
      rw [hcl] at q
      by_cases hy : y = "__class__"
      · subst hy
        exact ⟨rfl, (Option.some.inj q).symm⟩
      · have z : (y == ("__class__" : Str)) = false := by simpa using hy
        simp [List.lookup, z] at q
    refine ⟨rfl, fun y c q => ?_, fun x y c q1 q2 => ?_, fun i y hi => ?_⟩
    · obtain ⟨_, rfl⟩ := lkc q
      exact ⟨(e0.bs _ _ (e0.mod.kin _ _ hcell)).2, _, _, KX _ _ hcell, rfl⟩
    · rw [(lkc q1).1, (lkc q2).1]
    · cases i with
      | zero =>
        cases hi
        refine ⟨cc, by rw [hcl]; rfl, fun v hv => ?_⟩
        cases hv
        exact ⟨_, rfl, _, KX _ _ hcell, rfl⟩
      | succ i => simp at hi
  have I : Inv (NdefX.ncx CX P w K mg base N F f A outer s H E) [] (NdefX.startF N vs [some (.ref C)]) H { s with heap := h₁, toks := s.toks + ((ar.arg :: ps).zip us).length } := NdefX.inv_startN S hr.hd e0 hl r Cs hns kp
  obtain ⟨ta, t, ha, ht, hq⟩ := hbody A outer s H vs Q E (hr.deeper _) hsp
  obtain ⟨pl, hc⟩ := hc (NdefX.ncx CX P w K mg base N F f A outer s H E).env
  have kc : (NdefX.ncx CX P w K mg base N F f A outer s H E).env.kindOf "__class__" = some .free := S.frk _ List.mem_cons_self
  have go := sup_line (X := NdefX.ncx CX P w K mg base N F f A outer s H E) (body := F.body) (p4 := p4) (D := { nx := fun _ H' => Q .non H', rt := Q }) hks kc rfl rfl (by show F.cl.lookup _ = _; rw [hcl]; rfl) lk har h00 (S.par _ List.mem_cons_self) (.inl (S.par _ List.mem_cons_self)) hcode hvs hfile htop hcell hsup T hm hop I hq ha ht hc (he _) (hpl _) (by unfold interactive; show ((F.scope.kind == .module) && _) = false; rw [S.kind]; rfl)
  rw [← hbd] at go
  refine ks_wpAt_mono go (fun fl s' hs => ?_) fun e s' hs => hs
  have fin : ∀ {σ' : L2.St} {H' : Hp} {v : V} {u : Value}, Inv (NdefX.ncx CX P w K mg base N F f A outer s H E) [] σ' H' s' → L2.RelV v u → Q v H' → CE outer P w H s Q u s' :=
    fun {σ' H' v u} J rv q => ⟨v, H', J.os, J.bare, J.base, J.hok, rv, q⟩
  cases fl with
  | ret u =>
    obtain ⟨v, σ', H', J, rv, q⟩ := hs
    exact fin J rv q
  | next =>
    obtain ⟨σ', H', J, q⟩ := hs
    exact fin (v := V.non) (u := Value.none) J rfl q
  | brk =>
    obtain ⟨_, _, _, q⟩ := hs
    exact False.elim q
  | cont =>
    obtain ⟨_, _, _, q⟩ := hs
    exact False.elim q
def spE1 (C : Addr) (f : Str) (R : V → Prop) : Sp := fun vs H Q _ => ∃ (a : Addr) (u : V), vs = [.ref a, u] ∧ R u ∧ H a = some (exo a C none) ∧ ∀ d, H d = none → d ≠ a → Q .non (upd (upd H d (exd d [(f, u)])) a (exo a C (some d)))
section
variable {CX : CXT} {P : Program} {w : World} {K : Frag} {mg : Str → Option Value} {base : Heap} {fI C : Addr} {F : NdefX.NF} {fd : FuncData} {x y f g msg : Str} {j : Nat} {p0 p1 p2 p3 p4 p5 p6 p7 q0 q1 q2 q3 q4 q5 q6 q7 : Pos}
theorem ok_e1 (B : SupF P K C fI F fd "self") (T : OexC K C) (hsup : mg "super" = none)
    (hbd : F.body = .Expr (.Call (.Attribute (.Call (.Name "super" p0) [] [] p1) "__init__" p2) [.Constant (.str msg) j p5] [] p3) p4 :: [.Assign [.Attribute (.Name "self" q0) f q1] (.Name x q2) q3])
    (S : NdefX.NScope ["self", x, "__class__"] ["self", x] ["__class__"] F.scope) (hks : F.scope.names.lookup ("super" : Str) = some .globalImplicit) (hno : findIn K (.ref C) f = some none) (hd : (x == ("__debug__" : Str)) = false) (hcd : (x == ("__classdict__" : Str)) = false) (hs : ∀ env : Env, swapsWith (.Name x q2) (some (.Attribute (.Name "self" q0) f q1)) q3.line env = pure false)
    (hc : ∀ env : Env, ∃ pl : Sem Bool, eval (.Call (.Attribute (.Call (.Name "super" p0) [] [] p1) "__init__" p2) [.Constant (.str msg) j p5] [] p3) env = (do
      let ov ← attributeBase (.Call (.Name "super" p0) [] [] p1) "__init__" env (eval (.Call (.Name "super" p0) [] [] p1) env)
      standAt p2.atName
      let (f, first) ← holding [ov] (getMethod ov "__init__" pl)
      callWith p3 f first (backTo p3 (starEach [.Constant (.str msg) j p5] env)) [])) (he : ∀ env : Env, starEach [.Constant (.str msg) j p5] env = (false, eval (.Constant (.str msg) j p5) env) :: starEach [] env) :
    FnOk P w K mg base CX 1 fI fd ["self", x] (spE1 C f fun _ => True) := by
  refine fn_sup B T hsup hbd S hks (fun vs H Q E h => ?_) (fun A outer s H vs Q E hr h => ?_) hc he (fun env => rfl)
  · obtain ⟨a, u, rfl, _⟩ := h
    rfl
  · obtain ⟨a, u, rfl, _, hH, q⟩ := h
    refine ⟨_, _, pa_cons pe_str pa_nil, pss_one (ps_ost (pe_var (i := 0) rfl (.inl (S.par _ List.mem_cons_self))) (pe_var (i := 1) rfl (.inl (S.par _ (List.mem_cons_of_mem _ List.mem_cons_self))) hd hcd) (hs _)), a, rfl, hH, ?_⟩
    refine ⟨by show 1 ≤ 1000; decide, hH, ?_⟩
    exact ⟨u, rfl, .ref a, rfl, a, C, rfl, T, hno, .inl ⟨hH, fun d h1 h2 => q d h1 h2⟩⟩
end
end L2

namespace Ab
open PySem L2
def tRaiseO (W : WX) (C : Addr) (sp : Sp) (ta : TA) : TS := fun _ σ H => tMkO C sp [] ta σ H fun cls d H' => W cls d σ H'
theorem del_laid {H : Hp} {a d : Addr} {x y z o : HO} (ha : H a = none) (hn : d ≠ a) : upd (del (upd (upd (upd H a x) d y) a z) a) d o = upd H d o := by
  funext b
  by_cases hd : b = d
  · rw [hd, upd_same, upd_same]
  · rw [upd_ne hd, upd_ne hd]
    by_cases hb : b = a
    · rw [hb, del_same, ha]
    · rw [del_ne hb, upd_ne hb, upd_ne hd, upd_ne hb]
section
variable {K : PySem.W.Frag} {pin : List Nat} {Γ : List Sl} {P : Ps} {C : Addr} {ta : TA}
theorem ws_raise1 {W : WX} {f : Str} {R : V → Prop} (hW : P.ex.W = W) (h : WD K ta Γ fun ds Γ1 => ∃ d, ds = [d] ∧ (∀ v B, Is K B v d → R v) ∧ P.ex.q (.ref C) [(f, d)] Γ1) : WS K pin (tRaiseO W C (spE1 C f R) ta) Γ P := fun σ B H D E n r b c xx => by
  subst hW
  refine h σ B H E _ fun vs B1 H1 ds Γ1 g k p => ?_
  obtain ⟨d, rfl, hR, p⟩ := p
  obtain ⟨u, rfl⟩ : ∃ u, vs = [u] := by
    match vs, k.len with
    | [u], _ => exact ⟨u, rfl⟩
  have hu : Is K B1 u d := k.at_ 0 u d rfl rfl
  refine ⟨by show 1 ≤ 1000; decide, fun a hn => ⟨a, u, rfl, hR u B1 hu, upd_same, fun dd hd hne => ⟨rfl, dd, [(f, u)], upd_same, by rw [upd_ne hne, upd_same], by rw [upd_ne hne] at hd; exact hd, ?_⟩⟩⟩
  rw [upd_ne hne] at hd
  rw [del_laid hn hne]
  have g2 := Go.laid (o := .xd [(f, u)]) g.env hd
  refine xx (.ref C) (some dd) [(f, d)] σ _ _ Γ1 (g.trans g2).s (.some upd_same (fun x => ?_) (fun x v e h1 h2 => ?_) (by simp)) p
  · by_cases hx : x = f
    · subst hx; simp [List.lookup]
    · have : (x == f) = false := by simpa using hx
      simp [List.lookup, this]
  · by_cases hx : x = f
    · subst hx
      simp [List.lookup] at h1 h2
      subst h1 h2
      exact hu.mono g2.mv.bb
    · have : (x == f) = false := by simpa using hx
      simp [List.lookup, this] at h1
end
end Ab

namespace Ab
open PySem L2
def subTab (K : PySem.W.Frag) (cs : List Addr) : Bool := cs.zipIdx.all fun c => cs.zipIdx.all fun d => decide (PySem.W.subIn K (.ref c.1) (.ref d.1) = some (decide (c.2 = d.2)))
theorem subTab_at {K : PySem.W.Frag} {cs : List Addr} {i j : Nat} {c d : Addr} (h : subTab K cs = true) (hi : cs[i]? = some c) (hj : cs[j]? = some d) : PySem.W.subIn K (.ref c) (.ref d) = some (decide (i = j)) := by
  have m1 : (c, i) ∈ cs.zipIdx := List.mem_zipIdx_iff_getElem?.mpr hi
  have m2 : (d, j) ∈ cs.zipIdx := List.mem_zipIdx_iff_getElem?.mpr hj
  have := List.all_eq_true.mp (List.all_eq_true.mp h _ m1) _ m2
  exact of_decide_eq_true this
end Ab

namespace Ab
open PySem L2
def XD (d : Option Addr) (H : Hp) : Prop := d = none ∨ ∃ (dd : Addr) (fs : List (Str × V)), d = some dd ∧ H dd = some (.xd fs)
theorem ExB.is {K : PySem.W.Frag} {B : Hp} {a : Addr} {d : Option Addr} {gs : List (Str × Dt)} (h : ExB K B d gs) : Is K B (.ref a) (.exn a d gs) := by
  cases h with
  | none => exact .exn0
  | some h hk hi _ => exact .exnD h hk hi
theorem XD.mono {d : Option Addr} {B H : Hp} (e : Same B H) (h : XD d B) : XD d H := by
  rcases h with h | ⟨dd, fs, h1, h2⟩
  · exact .inl h
  · exact .inr ⟨dd, fs, h1, e _ _ h2⟩
section
variable {K : PySem.W.Frag} {pin : List Nat} {Γ : List Sl} {P : Ps}
end
end Ab

namespace L2
open PySem PySem.Spec PyProof.Rows
section
variable {X : Cx} {a b c d : Expr} {ta tb tc td : TE} {pos : Pos}
def tChain3 (r r' r'' : R2) (ta tb tc td : TE) : TE := fun σ H Q => ta σ H fun x H1 => tb σ H1 fun y H2 => r x y H2 fun z H3 => ∃ k, z = .bl k ∧
  (if k = true then tc σ H3 fun u H4 => r' y u H4 fun z' H5 => ∃ k', z' = .bl k' ∧ (if k' = true then td σ H5 fun w' H6 => r'' u w' H6 Q else Q (.bl false) H5) else Q (.bl false) H3)
theorem pt_chain3 {op op' op'' : CmpOp} {r r' r'' : R2} (ho : OpR X (compareOp op) r) (ho' : OpR X (compareOp op') r') (ho'' : OpR X (compareOp op'') r'') (ha : PE X a ta) (hb : PE X b tb) (hc : PE X c tc) (hd : PE X d td)
    (hm : lastMarks [op, op', op''] [b, c, d] = false := by with_unfolding_all rfl) : PT X (.Compare a [op, op', op''] [b, c, d] pos) (tTest (tChain3 r r' r'' ta tb tc td)) := by
  refine ⟨fun pins s σ H Q I h => ?_⟩
  refine isTrue_chain (thn (ha.run pins s σ H _ I h) fun v s1 ⟨x, H1, I1, r1, q1⟩ => test_link (thn (hb.run pins s1 σ H1 _ I1 q1) fun u s2 ⟨y, H2, I2, r2, q2⟩ =>
    thn (ho pins s2 σ H2 x y v u _ I2 r1 r2 q2) fun d s3 ⟨z, H3, I3, r3, k, e, q3⟩ => ?_)) hm
  subst e
  cases r3
  refine wpAny_truthy_bool ?_
  cases k with
  | false =>
    obtain ⟨k', e', q'⟩ := q3
    cases e'
    exact ite_ff ⟨H3, I3, q'⟩
  | true =>
    refine ite_tt (test_link (thn (hc.run pins s3 σ H3 _ I3 q3) fun w' s4 ⟨z', H4, I4, r4, q4⟩ => thn (ho' pins s4 σ H4 y z' u w' _ I4 r2 r4 q4) fun d' s5 ⟨z2, H5, I5, r5, k2, e2, q5⟩ => ?_))
    subst e2
    cases r5
    refine wpAny_truthy_bool ?_
    cases k2 with
    | false =>
      obtain ⟨k', e', q'⟩ := q5
      cases e'
      exact ite_ff ⟨H5, I5, q'⟩
    | true =>
      refine ite_tt (test_last (thn (hd.run pins s5 σ H5 _ I5 q5) fun w2 s6 ⟨z3, H6, I6, r6, q6⟩ => thn (ho'' pins s6 σ H6 z' z3 w' w2 _ I6 r4 r6 q6) fun d2 s7 ⟨z4, H7, I7, r7, k3, e3, q7⟩ => ?_))
      subst e3
      cases r7
      exact wpAny_truthy_bool ⟨H7, I7, q7⟩
end
end L2
namespace Ab
open PySem L2
section
variable {K : PySem.W.Frag} {Γ : List Sl} {ta tb tc td : TE} {Post : Re → List Sl → Prop}
theorem we_chainI3 {g g' g'' : Int → Int → Bool} (h : WE K ta Γ fun ra Γ1 => ∃ i, ra = .val (.int i) ∧ WE K tb Γ1 fun rb Γ2 => ∃ j, rb = .val (.int j) ∧
      (g i j = true → WE K tc Γ2 fun rc Γ3 => ∃ k, rc = .val (.int k) ∧ (g' j k = true → WE K td Γ3 fun rd Γ4 => ∃ l, rd = .val (.int l) ∧ Post (.val (.bl (g'' k l))) Γ4) ∧ (g' j k = false → Post (.val (.bl false)) Γ3)) ∧ (g i j = false → Post (.val (.bl false)) Γ2)) :
    WE K (tChain3 (rI0 fun i j => .bl (g i j)) (rI0 fun i j => .bl (g' i j)) (rI0 fun i j => .bl (g'' i j)) ta tb tc td) Γ Post := fun σ B H E Q q => by
  refine h σ B H E _ fun x B1 H1 ra Γ1 g1 k1 p1 => ?_
  obtain ⟨i, rfl, p1⟩ := p1
  refine p1 σ B1 H1 g1.env _ fun y B2 H2 rb Γ2 g2 k2 p2 => ?_
  obtain ⟨j, rfl, p2, p3⟩ := p2
  cases Is.rawI k1; cases Is.rawI k2
  refine ⟨i, j, rfl, rfl, g i j, rfl, ?_⟩
  cases hg : g i j with
  | true =>
    show tc σ H2 fun u H4 => rI0 (fun i j => .bl (g' i j)) (.int j) u H4 _
    refine p2 hg σ B2 H2 g2.env _ fun z B3 H3 rc Γ3 g3 k3 p3 => ?_
    obtain ⟨k, rfl, p, p4⟩ := p3
    cases Is.rawI k3
    refine ⟨j, k, rfl, rfl, g' j k, rfl, ?_⟩
    cases hg' : g' j k with
    | true =>
      show td σ H3 fun w' H6 => rI0 (fun i j => .bl (g'' i j)) (.int k) w' H6 Q
      refine p hg' σ B3 H3 g3.env _ fun z4 B4 H4 rd Γ4 g4 k4 p5 => ?_
      obtain ⟨l, rfl, p⟩ := p5
      cases Is.rawI k4
      exact ⟨k, l, rfl, rfl, q _ B4 H4 _ Γ4 (((g1.trans g2).trans g3).trans g4) (.raw _) p⟩
    | false =>
      show Q (.bl false) H3
      exact q _ B3 H3 _ Γ3 ((g1.trans g2).trans g3) (.raw _) (p4 hg')
  | false =>
    show Q (.bl false) H2
    exact q _ B2 H2 _ Γ2 (g1.trans g2) (.raw _) (p3 hg)
end
end Ab

namespace Pg
open PySem L2 Ab
section
open PySem L2 Ab
def tq_GalleySums___init__ (K : PySem.W.Frag) : TS :=
    (tSeq (sFld K (tVar 0) (tCB (rLenV K) (tCons (tVar 1) tNil)) "lines")
    (tSeq (sFld K (tVar 0) (tLc (iTup K (tVar 1)) (gName 7) tYes (tOp (rIx K) (tVar 7) (tC (.int 1))) [7]) "spaces")
    (tSeq (sFld K (tVar 0) (tLc (iTup K (tVar 1)) (gName 7) tYes (tOp (rIx K) (tVar 7) (tC (.int 2))) [7]) "cuts")
    (tSeq (sFld K (tVar 0) (tLst tNil) "floats")
    (tSeq (sFld K (tVar 0) (tLst (tCons (tC (.int 0)) tNil)) "tops")
    (tSeq (sFld K (tVar 0) (tLst (tCons (tC (.int 0)) tNil)) "noted")
    (tSeq (sFld K (tVar 0) (tLst (tCons (tC (.int 0)) tNil)) "marked")
    (tFor (iTup K (tVar 1)) (gTup K 5 (gCons (gName 2) (gCons (gName 3) (gCons (gName 4) (gCons (gName 5) (gCons (gName 6) gNil)))))) (tSeq (tDrop (tBM K "list" rExtend (tFld K (tVar 0) "floats") (tCons (tCB (rListOf K) (tCons (tVar 6) tNil)) tNil)))
    (tSeq (tDrop (tBM K "list" rAppend (tFld K (tVar 0) "tops") (tCons (tOp (rAddG K) (tOp (rAddG K) (tOp (rIx K) (tFld K (tVar 0) "tops") (tUn rNegI (tC (.int 1)))) (tVar 2)) (tVar 3)) tNil)))
    (tSeq (tDrop (tBM K "list" rAppend (tFld K (tVar 0) "noted") (tCons (tOp (rAddG K) (tOp (rIx K) (tFld K (tVar 0) "noted") (tUn rNegI (tC (.int 1)))) (tCB (rSumG K) (tCons (tCB (rListOf K) (tCons (tVar 5) tNil)) tNil))) tNil)))
    (tDrop (tBM K "list" rAppend (tFld K (tVar 0) "marked") (tCons (tOp (rAddG K) (tOp (rIx K) (tFld K (tVar 0) "marked") (tUn rNegI (tC (.int 1)))) (tCB (rLenV K) (tCons (tVar 6) tNil))) tNil))))))))))))))
def tq_GalleySums_column_height (K : PySem.W.Frag) : TS :=
    (tSeq (tIfS (tTest (tOp (rEqG K) (tVar 1) (tVar 2))) (tRet (tC (.int 0))) tNext)
    (tRet (tOp rSubI (tOp rSubI (tOp (rIx K) (tFld K (tVar 0) "tops") (tVar 2)) (tOp (rIx K) (tFld K (tVar 0) "tops") (tVar 1))) (tOp (rIx K) (tFld K (tVar 0) "spaces") (tVar 1)))))
def tq_GalleySums_page_room (K : PySem.W.Frag) : TS :=
    (tSeq (tAsg (tVar 2) (gTup K 3 (gCons (gName 5) (gCons (gName 6) (gCons (gName 7) gNil)))))
    (tSeq (tAsg (tOp rSubI (tOp (rIx K) (tFld K (tVar 0) "noted") (tVar 3)) (tOp (rIx K) (tFld K (tVar 0) "noted") (tVar 5))) (gName 8))
    (tSeq (tAsg (tOp rSubI (tOp rSubI (tFld K (tVar 1) "height") (tVar 8)) (tCB (rSumG K) (tCons (tSl (rSlG K) (tFld K (tVar 0) "floats") (tPart (tVar 6)) (tPart (tVar 4))) tNil))) (gName 9))
    (tSeq (tIfS (tTest (tOp rGtI (tVar 8) (tC (.int 0)))) (tAsg (tOp rSubI (tVar 9) (tFld K (tVar 1) "rule")) (gName 9)) tNext)
    (tSeq (tIfS (tTest (tOp rGtI (tVar 4) (tVar 6))) (tAsg (tOp rSubI (tVar 9) (tFld K (tVar 1) "under")) (gName 9)) tNext)
    (tRet (tVar 9)))))))
def tq_GalleySums_next_ages (K : PySem.W.Frag) : TS :=
    (tSeq (tAsg (tVar 1) (gTup K 3 (gCons (gName 4) (gCons (gName 5) (gCons (gName 6) gNil)))))
    (tSeq (tAsg (tLst tNil) (gName 7))
    (tSeq (tFor (iRng2 (tCons (tVar 3) (tCons (tOp (rIx K) (tFld K (tVar 0) "marked") (tVar 2)) tNil))) (gName 8) (tIfS (tTest (tOp (rLtG K) (tOp rSubI (tVar 8) (tVar 5)) (tCB (rLenV K) (tCons (tVar 6) tNil)))) (tDrop (tBM K "list" rAppend (tVar 7) (tCons (tOp (rAddG K) (tOp (rIx K) (tVar 6) (tOp rSubI (tVar 8) (tVar 5))) (tC (.int 1))) tNil))) (tDrop (tBM K "list" rAppend (tVar 7) (tCons (tC (.int 1)) tNil)))))
    (tRet (tCB (rTupleOf K) (tCons (tVar 7) tNil))))))
def tq_column_splits (K : PySem.W.Frag) (c_GalleySums : Addr) (ap_GalleySums_column_height : AP) : TS :=
    (tSeq (tAsg (tLst (tCons (tVar 3) tNil)) (gName 4))
    (tSeq (tIfS (tAnd (tTest (tOp (rEqG K) (tFld K (tVar 1) "columns") (tC (.int 2)))) (tTest (tOp (rLtG K) (tVar 2) (tVar 3)))) (tAsg (tOp (rAddG K) (tLc (iRng2 (tCons (tOp (rAddG K) (tVar 2) (tC (.int 1))) (tCons (tVar 3) tNil))) (gName 5) (tB (tOp (rIx K) (tFld K (tVar 0) "cuts") (tVar 5))) (tVar 5) [5]) (tLst (tCons (tVar 3) tNil))) (gName 4)) tNext)
    (tSeq (tAsg (tLst tNil) (gName 6))
    (tSeq (tFor (iList K (tVar 4)) (gName 5) (tSeq (tAsg (tMeth c_GalleySums "column_height" (toSp K ap_GalleySums_column_height) [] E0 (tVar 0) (tCons (tVar 2) (tCons (tVar 5) tNil))) (gName 7))
    (tSeq (tAsg (tMeth c_GalleySums "column_height" (toSp K ap_GalleySums_column_height) [] E0 (tVar 0) (tCons (tVar 5) (tCons (tVar 3) tNil))) (gName 8))
    (tIfS (tTest (tOp rLeI (tCB rMx2 (tCons (tVar 7) (tCons (tVar 8) tNil))) (tFld K (tVar 1) "height"))) (tDrop (tBM K "list" rAppend (tVar 6) (tCons (tTup (tCons (tVar 5) (tCons (tCB rMx2 (tCons (tVar 7) (tCons (tVar 8) tNil))) (tCons (tCB rAbs (tCons (tOp rSubI (tVar 7) (tVar 8)) tNil)) tNil)))) tNil))) tNext))))
    (tRet (tVar 6))))))
def tq_page_price (K : PySem.W.Frag) : TS :=
    (tSeq (tAsg (tOp (rAddG K) (tOp (rMulG K) (tVar 1) (tVar 1)) (tOp (rMulG K) (tFld K (tVar 0) "late") (tVar 3))) (gName 4))
    (tSeq (tIfS (tTest (tOp (rEqG K) (tFld K (tVar 0) "columns") (tC (.int 2)))) (tRet (tOp (rAddG K) (tVar 4) (tOp (rMulG K) (tFld K (tVar 0) "uneven") (tVar 2)))) tNext)
    (tRet (tVar 4))))
def tq_options_to (K : PySem.W.Frag) (c_GalleySums : Addr) (ap_GalleySums_next_ages : AP) (ap_GalleySums_page_room : AP) (ap_page_price : AP) : TS :=
    (tSeq (tAsg (tTup (tCons (tFld K (tVar 0) "lines") (tCons (tCB (rLenV K) (tCons (tFld K (tVar 0) "floats") tNil)) (tCons (tTup tNil) tNil)))) (gName 5))
    (tSeq (tAsg (tLst tNil) (gName 6))
    (tSeq (tFor (iRng2 (tCons (tOp (rIx K) (tVar 2) (tC (.int 1))) (tCons (tOp (rAddG K) (tOp (rIx K) (tFld K (tVar 0) "marked") (tVar 3)) (tC (.int 1))) tNil))) (gName 7) (tSeq (tAsg (tMeth c_GalleySums "next_ages" (toSp K ap_GalleySums_next_ages) [] E0 (tVar 0) (tCons (tVar 2) (tCons (tVar 3) (tCons (tVar 7) tNil)))) (gName 8))
    (tSeq (tAsg (tTup (tCons (tVar 3) (tCons (tVar 7) (tCons (tVar 8) tNil)))) (gName 9))
    (tSeq (tIfS (tOr (tTest (tOp (rEqG K) (tSl (rSlG K) (tVar 9) tNoPart (tPart (tC (.int 2)))) (tSl (rSlG K) (tVar 2) tNoPart (tPart (tC (.int 2)))))) (tB (tCB (rAny K) (tCons (tLc (iTup K (tVar 8)) (gName 16) tYes (tOp rGtI (tVar 16) (tFld K (tVar 1) "wait")) [16]) tNil)))) tCont tNext)
    (tSeq (tAsg (tMeth c_GalleySums "page_room" (toSp K ap_GalleySums_page_room) [] E0 (tVar 0) (tCons (tVar 1) (tCons (tVar 2) (tCons (tVar 3) (tCons (tVar 7) tNil))))) (gName 10))
    (tFor (iList K (tVar 4)) (gTup K 3 (gCons (gName 11) (gCons (gName 12) (gCons (gName 13) gNil)))) (tIfS (tTest (tOp rLeI (tVar 12) (tVar 10))) (tSeq (tAsg (tIf (tTest (tOp (rEqG K) (tVar 9) (tVar 5))) (tC (.int 0)) (tOp rSubI (tVar 10) (tVar 12))) (gName 14))
    (tSeq (tAsg (tCall (toSp K ap_page_price) [] E0 (tCons (tVar 1) (tCons (tVar 14) (tCons (tVar 13) (tCons (tCB (rLenV K) (tCons (tVar 8) tNil)) tNil))))) (gName 15))
    (tDrop (tBM K "list" rAppend (tVar 6) (tCons (tTup (tCons (tVar 3) (tCons (tVar 7) (tCons (tVar 11) (tCons (tVar 15) (tCons (tVar 9) tNil)))))) tNil))))) tNext)))))))
    (tRet (tVar 6)))))
def tq_options_from (K : PySem.W.Frag) (ap_column_splits : AP) (ap_options_to : AP) : TS :=
    (tSeq (tAsg (tOp (rIx K) (tVar 2) (tC (.int 0))) (gName 3))
    (tSeq (tAsg (tLst tNil) (gName 4))
    (tSeq (tFor (iRng2 (tCons (tVar 3) (tCons (tOp (rAddG K) (tFld K (tVar 0) "lines") (tC (.int 1))) tNil))) (gName 5) (tSeq (tAsg (tCall (toSp K ap_column_splits) [] E0 (tCons (tVar 0) (tCons (tVar 1) (tCons (tVar 3) (tCons (tVar 5) tNil))))) (gName 6))
    (tSeq (tIfS (tTest (tOp (rEqG K) (tCB (rLenV K) (tCons (tVar 6) tNil)) (tC (.int 0)))) tBreak tNext)
    (tIfS (tOr (tTest (tOp (rEqG K) (tVar 5) (tVar 3))) (tOr (tTest (tOp (rEqG K) (tVar 5) (tFld K (tVar 0) "lines"))) (tB (tOp (rIx K) (tFld K (tVar 0) "cuts") (tVar 5))))) (tDrop (tBM K "list" rExtend (tVar 4) (tCons (tCall (toSp K ap_options_to) [] E0 (tCons (tVar 0) (tCons (tVar 1) (tCons (tVar 2) (tCons (tVar 5) (tCons (tVar 6) tNil)))))) tNil))) tNext))))
    (tRet (tVar 4)))))
abbrev fs_GalleySums (d0 d1 d2 d3 d4 d5 d6 : Dt) : List (Str × Dt) := [("lines", d0), ("spaces", d1), ("cuts", d2), ("floats", d3), ("tops", d4), ("noted", d5), ("marked", d6)]
theorem lk_GalleySums_lines {d0 d1 d2 d3 d4 d5 d6 : Dt} : List.lookup ("lines" : Str) (fs_GalleySums d0 d1 d2 d3 d4 d5 d6) = some d0 := lk_hit
theorem ne_GalleySums_1_0 : ¬ (("spaces" : Str) = "lines") := by decide +kernel
theorem lk_GalleySums_spaces {d0 d1 d2 d3 d4 d5 d6 : Dt} : List.lookup ("spaces" : Str) (fs_GalleySums d0 d1 d2 d3 d4 d5 d6) = some d1 := (lk_miss ne_GalleySums_1_0).trans (lk_hit)
theorem ne_GalleySums_2_0 : ¬ (("cuts" : Str) = "lines") := by decide +kernel
theorem ne_GalleySums_2_1 : ¬ (("cuts" : Str) = "spaces") := by decide +kernel
theorem lk_GalleySums_cuts {d0 d1 d2 d3 d4 d5 d6 : Dt} : List.lookup ("cuts" : Str) (fs_GalleySums d0 d1 d2 d3 d4 d5 d6) = some d2 := (lk_miss ne_GalleySums_2_0).trans ((lk_miss ne_GalleySums_2_1).trans (lk_hit))
theorem ne_GalleySums_3_0 : ¬ (("floats" : Str) = "lines") := by decide +kernel
theorem ne_GalleySums_3_1 : ¬ (("floats" : Str) = "spaces") := by decide +kernel
theorem ne_GalleySums_3_2 : ¬ (("floats" : Str) = "cuts") := by decide +kernel
theorem lk_GalleySums_floats {d0 d1 d2 d3 d4 d5 d6 : Dt} : List.lookup ("floats" : Str) (fs_GalleySums d0 d1 d2 d3 d4 d5 d6) = some d3 := (lk_miss ne_GalleySums_3_0).trans ((lk_miss ne_GalleySums_3_1).trans ((lk_miss ne_GalleySums_3_2).trans (lk_hit)))
theorem ne_GalleySums_4_0 : ¬ (("tops" : Str) = "lines") := by decide +kernel
theorem ne_GalleySums_4_1 : ¬ (("tops" : Str) = "spaces") := by decide +kernel
theorem ne_GalleySums_4_2 : ¬ (("tops" : Str) = "cuts") := by decide +kernel
theorem ne_GalleySums_4_3 : ¬ (("tops" : Str) = "floats") := by decide +kernel
theorem lk_GalleySums_tops {d0 d1 d2 d3 d4 d5 d6 : Dt} : List.lookup ("tops" : Str) (fs_GalleySums d0 d1 d2 d3 d4 d5 d6) = some d4 := (lk_miss ne_GalleySums_4_0).trans ((lk_miss ne_GalleySums_4_1).trans ((lk_miss ne_GalleySums_4_2).trans ((lk_miss ne_GalleySums_4_3).trans (lk_hit))))
theorem ne_GalleySums_5_0 : ¬ (("noted" : Str) = "lines") := by decide +kernel
theorem ne_GalleySums_5_1 : ¬ (("noted" : Str) = "spaces") := by decide +kernel
theorem ne_GalleySums_5_2 : ¬ (("noted" : Str) = "cuts") := by decide +kernel
theorem ne_GalleySums_5_3 : ¬ (("noted" : Str) = "floats") := by decide +kernel
theorem ne_GalleySums_5_4 : ¬ (("noted" : Str) = "tops") := by decide +kernel
theorem lk_GalleySums_noted {d0 d1 d2 d3 d4 d5 d6 : Dt} : List.lookup ("noted" : Str) (fs_GalleySums d0 d1 d2 d3 d4 d5 d6) = some d5 := (lk_miss ne_GalleySums_5_0).trans ((lk_miss ne_GalleySums_5_1).trans ((lk_miss ne_GalleySums_5_2).trans ((lk_miss ne_GalleySums_5_3).trans ((lk_miss ne_GalleySums_5_4).trans (lk_hit)))))
theorem ne_GalleySums_6_0 : ¬ (("marked" : Str) = "lines") := by decide +kernel
theorem ne_GalleySums_6_1 : ¬ (("marked" : Str) = "spaces") := by decide +kernel
theorem ne_GalleySums_6_2 : ¬ (("marked" : Str) = "cuts") := by decide +kernel
theorem ne_GalleySums_6_3 : ¬ (("marked" : Str) = "floats") := by decide +kernel
theorem ne_GalleySums_6_4 : ¬ (("marked" : Str) = "tops") := by decide +kernel
theorem ne_GalleySums_6_5 : ¬ (("marked" : Str) = "noted") := by decide +kernel
theorem lk_GalleySums_marked {d0 d1 d2 d3 d4 d5 d6 : Dt} : List.lookup ("marked" : Str) (fs_GalleySums d0 d1 d2 d3 d4 d5 d6) = some d6 := (lk_miss ne_GalleySums_6_0).trans ((lk_miss ne_GalleySums_6_1).trans ((lk_miss ne_GalleySums_6_2).trans ((lk_miss ne_GalleySums_6_3).trans ((lk_miss ne_GalleySums_6_4).trans ((lk_miss ne_GalleySums_6_5).trans (lk_hit))))))
theorem lk_GalleySums_no_column_height {d0 d1 d2 d3 d4 d5 d6 : Dt} : List.lookup ("column_height" : Str) (fs_GalleySums d0 d1 d2 d3 d4 d5 d6) = none := (lk_miss (by decide +kernel)).trans ((lk_miss (by decide +kernel)).trans ((lk_miss (by decide +kernel)).trans ((lk_miss (by decide +kernel)).trans ((lk_miss (by decide +kernel)).trans ((lk_miss (by decide +kernel)).trans ((lk_miss (by decide +kernel)).trans (rfl)))))))
theorem lk_GalleySums_no_page_room {d0 d1 d2 d3 d4 d5 d6 : Dt} : List.lookup ("page_room" : Str) (fs_GalleySums d0 d1 d2 d3 d4 d5 d6) = none := (lk_miss (by decide +kernel)).trans ((lk_miss (by decide +kernel)).trans ((lk_miss (by decide +kernel)).trans ((lk_miss (by decide +kernel)).trans ((lk_miss (by decide +kernel)).trans ((lk_miss (by decide +kernel)).trans ((lk_miss (by decide +kernel)).trans (rfl)))))))
theorem lk_GalleySums_no_next_ages {d0 d1 d2 d3 d4 d5 d6 : Dt} : List.lookup ("next_ages" : Str) (fs_GalleySums d0 d1 d2 d3 d4 d5 d6) = none := (lk_miss (by decide +kernel)).trans ((lk_miss (by decide +kernel)).trans ((lk_miss (by decide +kernel)).trans ((lk_miss (by decide +kernel)).trans ((lk_miss (by decide +kernel)).trans ((lk_miss (by decide +kernel)).trans ((lk_miss (by decide +kernel)).trans (rfl)))))))
abbrev o_Frame (c : Addr) (d0 d1 d2 d3 d4 d5 d6 : Dt) : Dt := .obj c [("height", d0), ("columns", d1), ("rule", d2), ("under", d3), ("wait", d4), ("late", d5), ("uneven", d6)]
abbrev fs_Frame (d0 d1 d2 d3 d4 d5 d6 : Dt) : List (Str × Dt) := [("height", d0), ("columns", d1), ("rule", d2), ("under", d3), ("wait", d4), ("late", d5), ("uneven", d6)]
theorem lk_Frame_height {d0 d1 d2 d3 d4 d5 d6 : Dt} : List.lookup ("height" : Str) (fs_Frame d0 d1 d2 d3 d4 d5 d6) = some d0 := lk_hit
theorem ne_Frame_1_0 : ¬ (("columns" : Str) = "height") := by decide +kernel
theorem lk_Frame_columns {d0 d1 d2 d3 d4 d5 d6 : Dt} : List.lookup ("columns" : Str) (fs_Frame d0 d1 d2 d3 d4 d5 d6) = some d1 := (lk_miss ne_Frame_1_0).trans (lk_hit)
theorem ne_Frame_2_0 : ¬ (("rule" : Str) = "height") := by decide +kernel
theorem ne_Frame_2_1 : ¬ (("rule" : Str) = "columns") := by decide +kernel
theorem lk_Frame_rule {d0 d1 d2 d3 d4 d5 d6 : Dt} : List.lookup ("rule" : Str) (fs_Frame d0 d1 d2 d3 d4 d5 d6) = some d2 := (lk_miss ne_Frame_2_0).trans ((lk_miss ne_Frame_2_1).trans (lk_hit))
theorem ne_Frame_3_0 : ¬ (("under" : Str) = "height") := by decide +kernel
theorem ne_Frame_3_1 : ¬ (("under" : Str) = "columns") := by decide +kernel
theorem ne_Frame_3_2 : ¬ (("under" : Str) = "rule") := by decide +kernel
theorem lk_Frame_under {d0 d1 d2 d3 d4 d5 d6 : Dt} : List.lookup ("under" : Str) (fs_Frame d0 d1 d2 d3 d4 d5 d6) = some d3 := (lk_miss ne_Frame_3_0).trans ((lk_miss ne_Frame_3_1).trans ((lk_miss ne_Frame_3_2).trans (lk_hit)))
theorem ne_Frame_4_0 : ¬ (("wait" : Str) = "height") := by decide +kernel
theorem ne_Frame_4_1 : ¬ (("wait" : Str) = "columns") := by decide +kernel
theorem ne_Frame_4_2 : ¬ (("wait" : Str) = "rule") := by decide +kernel
theorem ne_Frame_4_3 : ¬ (("wait" : Str) = "under") := by decide +kernel
theorem lk_Frame_wait {d0 d1 d2 d3 d4 d5 d6 : Dt} : List.lookup ("wait" : Str) (fs_Frame d0 d1 d2 d3 d4 d5 d6) = some d4 := (lk_miss ne_Frame_4_0).trans ((lk_miss ne_Frame_4_1).trans ((lk_miss ne_Frame_4_2).trans ((lk_miss ne_Frame_4_3).trans (lk_hit))))
theorem ne_Frame_5_0 : ¬ (("late" : Str) = "height") := by decide +kernel
theorem ne_Frame_5_1 : ¬ (("late" : Str) = "columns") := by decide +kernel
theorem ne_Frame_5_2 : ¬ (("late" : Str) = "rule") := by decide +kernel
theorem ne_Frame_5_3 : ¬ (("late" : Str) = "under") := by decide +kernel
theorem ne_Frame_5_4 : ¬ (("late" : Str) = "wait") := by decide +kernel
theorem lk_Frame_late {d0 d1 d2 d3 d4 d5 d6 : Dt} : List.lookup ("late" : Str) (fs_Frame d0 d1 d2 d3 d4 d5 d6) = some d5 := (lk_miss ne_Frame_5_0).trans ((lk_miss ne_Frame_5_1).trans ((lk_miss ne_Frame_5_2).trans ((lk_miss ne_Frame_5_3).trans ((lk_miss ne_Frame_5_4).trans (lk_hit)))))
theorem ne_Frame_6_0 : ¬ (("uneven" : Str) = "height") := by decide +kernel
theorem ne_Frame_6_1 : ¬ (("uneven" : Str) = "columns") := by decide +kernel
theorem ne_Frame_6_2 : ¬ (("uneven" : Str) = "rule") := by decide +kernel
theorem ne_Frame_6_3 : ¬ (("uneven" : Str) = "under") := by decide +kernel
theorem ne_Frame_6_4 : ¬ (("uneven" : Str) = "wait") := by decide +kernel
theorem ne_Frame_6_5 : ¬ (("uneven" : Str) = "late") := by decide +kernel
theorem lk_Frame_uneven {d0 d1 d2 d3 d4 d5 d6 : Dt} : List.lookup ("uneven" : Str) (fs_Frame d0 d1 d2 d3 d4 d5 d6) = some d6 := (lk_miss ne_Frame_6_0).trans ((lk_miss ne_Frame_6_1).trans ((lk_miss ne_Frame_6_2).trans ((lk_miss ne_Frame_6_3).trans ((lk_miss ne_Frame_6_4).trans ((lk_miss ne_Frame_6_5).trans (lk_hit))))))
theorem lk_Frame_no_of {d0 d1 d2 d3 d4 d5 d6 : Dt} : List.lookup ("of" : Str) (fs_Frame d0 d1 d2 d3 d4 d5 d6) = none := (lk_miss (by decide +kernel)).trans ((lk_miss (by decide +kernel)).trans ((lk_miss (by decide +kernel)).trans ((lk_miss (by decide +kernel)).trans ((lk_miss (by decide +kernel)).trans ((lk_miss (by decide +kernel)).trans ((lk_miss (by decide +kernel)).trans (rfl)))))))
end
local macro_rules | `(tactic| walk_at "no") => `(tactic| first
  | with_reducible exact fun h => Bool.noConfusion (show true = false from h)
  | with_reducible exact fun h => Bool.noConfusion (show false = true from h)
  | exact fun h => absurd h (by decide)
  | exact fun h => absurd (of_decide_eq_true h) (by omega)
  | exact fun h => absurd (by omega) (of_decide_eq_false h)
  | exact fun h => absurd (by omega) (nd_t h)
  | exact fun h => absurd (nd_f h) (by omega)
  | fail "no")
section
open PySem L2 Ab
end
local macro_rules | `(tactic| walk_at "kb") => `(tactic| first | exact kb_tt | exact kb_ll | exact kb_ii | exact kb_ib | exact kb_ss | exact kb_sb | exact kb_si | exact kb_tb | exact kb_ti | exact kb_ts | exact kb_tl | exact kb_lb | exact kb_li | exact kb_ls | exact kb_lt | exact kb_is | exact kb_it | exact kb_il | exact kb_st | exact kb_sl | exact kb_bb | exact kb_bi | exact kb_nb | exact kb_ni | exact kb_ns | exact kb_nt | exact kb_nl | exact kb_bs | exact kb_bt | exact kb_bl | fail "kb")
section
open PySem L2 Ab
end
local macro_rules | `(tactic| walk_at "norm") => `(tactic| first
  | ((refine' norm_cons (rfl : _ = _ :: _) ?ea ?et); (case ea => first | with_reducible exact (rfl : Sl.val _ = _) | with_reducible exact (rfl : Sl.cel _ = _) | with_reducible exact (rfl : Sl.un = _) | with_reducible exact norm_v | with_reducible exact norm_n | with_reducible exact norm_o | exact norm_v | exact norm_n | exact norm_o | exact rfl | fail "norm"); (case et => walk_at "norm"))
  | exact (rfl : _ = ([] : List Sl))
  | fail "norm")
section
open PySem L2 Ab
end
local macro_rules | `(tactic| walk_at "x") => `(tactic| first
  | ((with_reducible refine' norm_intro ?hn ?_); (case hn => walk_at "norm"))
  | ((with_reducible refine' we_var ?hh ?_); (case hh => exact rfl))
  | ((with_reducible refine' we_own ?hh ?_); (case hh => exact rfl))
  | with_reducible refine we_c ?_
  | with_reducible refine we_addG ?_
  | with_reducible refine addp_i ?_
  | with_reducible refine we_opI0 ?_
  | with_reducible refine we_opI ?_
  | with_reducible refine we_mulG ?_
  | ((with_reducible refine' mulp_r ?h1 ?_); (case h1 => first | decide | omega | fail "m"))
  | ((with_reducible refine' mulp_l ?h1 ?_); (case h1 => first | decide | omega | fail "m"))
  | with_reducible refine we_neg ?_
  | with_reducible refine we_ltG ?_
  | with_reducible refine ltp_i ?_
  | with_reducible refine we_eqG ?_
  | with_reducible refine we_neG ?_
  | with_reducible refine eqp_i ?_
  | with_reducible refine nep_i ?_
  | with_reducible refine we_ixG ?_
  | ((with_reducible refine' ixp ?h1 ?h2 ?_); (case h1 => exact rfl); (case h2 => exact rfl))
  | with_reducible refine we_lenG ?_
  | ((with_reducible refine' lenp ?hh ?_); (case hh => exact rfl))
  | with_reducible refine we_intG ?_
  | with_reducible refine intp_i ?_
  | with_reducible refine intp_b ?_
  | with_reducible refine we_abs ?_
  | with_reducible refine we_tup ?_
  | with_reducible refine we_lst ?_
  | with_reducible refine we_tuple ?_
  | with_reducible refine we_list ?_
  | with_reducible refine we_sum ?_
  | with_reducible refine we_max2 ?_
  | with_reducible refine we_min2 ?_
  | with_reducible refine wd_cons ?_
  | with_reducible refine wd_nil ?_
  | with_reducible refine wa_cons ?_
  | with_reducible refine wa_nil ?_
  | with_reducible refine we_callH ?_
  | with_reducible refine we_isiG ?_
  | ((with_reducible refine' isi_own ?h1 ?h2 ?_); (case h1 => exact rfl); (case h2 => walk_at "kb"))
  | ((with_reducible refine' isi_val ?h1 ?h2 ?_); (case h1 => exact rfl); (case h2 => walk_at "kb"))
  | ((with_reducible refine' isi_new ?h2 ?_); (case h2 => walk_at "kb"))
  | with_reducible refine we_chainI ?_
  | with_reducible refine we_andV ?_
  | with_reducible refine we_orV ?_
  | with_reducible refine we_notV ?_
  | with_reducible refine wt_test ?_
  | with_reducible refine wt_B ?_
  | with_reducible refine wt_yes ?_
  | with_reducible refine wt_and ?_
  | with_reducible refine wt_or ?_
  | with_reducible refine wt_not ?_
  | ((with_reducible refine' ws_retA ?hh ?_); (case hh => exact rfl))
  | with_reducible refine ws_ret ?_
  | with_reducible refine ws_if ?_
  | with_reducible refine ws_nil ?_
  | with_reducible refine ws_expr ?_
  | with_reducible refine ws_asgN rfl rfl ?_
  | with_reducible refine ws_setN ?_
  | with_reducible refine ws_asgG ?_
  | ((with_reducible refine' wg_tup ?hh ?_); (case hh => exact rfl))
  | with_reducible refine wgs_cons ?_
  | with_reducible refine wgs_nil ?_
  | with_reducible refine wg_nameN rfl rfl ?_
  | ((with_reducible refine' we_appendN ?hh ?_); (case hh => exact rfl))
  | ((with_reducible refine' we_reverseN ?hh ?_); (case hh => exact rfl))
  | ((with_reducible refine' ws_augN ?h1 ?h2 ?_); (case h1 => exact rfl); (case h2 => exact rfl))
  | (refine ⟨_, rfl, ⟨_, rfl⟩, ?_⟩)
  | (refine ⟨_, rfl, ?_⟩)
  | (refine ⟨_, _, _, rfl, rfl, rfl, ?_⟩)
  | (refine ⟨_, _, rfl, rfl, (Nat.le_of_ble_eq_true rfl : _ ≤ _), ?_⟩)
  | (refine ⟨_, _, rfl, rfl, ?_⟩)
  | (refine ⟨(Nat.le_of_ble_eq_true rfl : _ ≤ _), ?_⟩)
  | (refine ⟨(rfl : _ = true), ?_⟩)
  | ((refine' ⟨fun _ => ?_, fun hY => absurd hY ?k2⟩); (case k2 => walk_at "no"))
  | ((refine' ⟨fun hY => absurd hY ?k2, fun _ => ?_⟩); (case k2 => walk_at "no"))
  | (refine ⟨⟨(by omega), (by omega)⟩, ?_⟩)
  | (refine ⟨⟨(by decide), (by decide), (by decide)⟩, ?_⟩)
  | (refine ⟨(show (_ : Prop) from by first | decide | omega | fail "c"), ?_⟩)
  | fail "stop")
section
open PySem L2 Ab
end
local macro_rules | `(tactic| walk_at "e") => `(tactic| first | with_reducible refine ws_seq ?_ | walk_at "x" | fail "stop")
section
open PySem L2 Ab
end
local macro_rules | `(tactic| walk_at "xs") => `(tactic| repeat' walk_at "x")
section
open PySem L2 Ab
end
local macro_rules | `(tactic| walk_at "es") => `(tactic| repeat' walk_at "e")
section
open PySem L2 Ab
end
local macro_rules | `(tactic| walk_at "len") => `(tactic| ((intro as Post h); (repeat (first | (obtain ⟨e, _⟩ := h; exact (congrArg List.length e).trans rfl) | (obtain ⟨_, h⟩ := h)))))
section
open PySem L2 Ab
end
local macro_rules | `(tactic| walk_at "x") => `(tactic| first
  | with_reducible refine we_isN ?_
  | with_reducible refine we_notN ?_
  | with_reducible refine we_slG ?_
  | with_reducible refine wo_none ?_
  | with_reducible refine wo_some ?_
  | ((with_reducible refine' ixp ?h1 ?h2 ?_); (case h1 => exact rfl); (case h2 => assumption))
  | ((with_reducible refine' ixp_s ?h1 ?h2 ?_); (case h1 => assumption); (case h2 => assumption))
  | ((with_reducible refine' lenp_s ?h1 ?_); (case h1 => assumption))
  | ((with_reducible refine' slp_s ?h1 ?_); (case h1 => assumption))
  | with_reducible refine we_join ?_
  | with_reducible refine we_gtS ?_
  | ((with_reducible refine' we_ktup ?h1 ?_); (case h1 => assumption))
  | fail "x3")
section
open PySem L2 Ab
end
local macro_rules | `(tactic| walk_at "x") => `(tactic| first
  | with_reducible refine we_fldG ?_
  | ((with_reducible refine' fldp ?h1 ?h2 ?h3 ?_); (case h1 => assumption); (case h2 => assumption); (case h3 => walk_at "lk"))
  | with_reducible refine we_methG ?_
  | ((with_reducible refine' metp ?h3 ?_); (case h3 => walk_at "lk"))
  | with_reducible refine we_make ?_
  | with_reducible refine we_own2 ?_
  | with_reducible refine we_isoG ?_
  | ((with_reducible refine' isop ?h1 ?_); (case h1 => assumption))
  | fail "x4")
section
open PySem L2 Ab
end
local macro_rules | `(tactic| walk_at "nd") => `(tactic| first
  | exact (rfl : _ = ([] : List Dt))
  | ((refine' normD_cons (rfl : _ = _ :: _) ?et); (case et => walk_at "nd"))
  | fail "nd")
section
open PySem L2 Ab
end
local macro_rules | `(tactic| walk_at "x") => `(tactic| first
  | with_reducible refine we_sumG ?_
  | with_reducible refine eqp_st ?_
  | with_reducible refine nep_st ?_
  | ((with_reducible refine' eqp_sf ?h1 ?_); (case h1 => first | assumption | decide +kernel))
  | ((with_reducible refine' nep_sf ?h1 ?_); (case h1 => first | assumption | decide +kernel))
  | with_reducible refine we_inG ?_
  | with_reducible refine we_if ?_
  | ((with_reducible refine' we_clearN ?hh ?_); (case hh => exact rfl))
  | with_reducible refine we_notInG ?_
  | with_reducible refine we_smeth ?_
  | with_reducible refine we_makeD ?_
  | with_reducible refine we_makeK ?_
  | ((with_reducible refine' slp_tE ?h ?_); (case h => walk_at "nd"))
  | ((with_reducible refine' addp_tE ?hz ?h ?_); (case h => walk_at "nd"); (case hz => exact Nat.le_of_ble_eq_true rfl))
  | fail "x5")
section
open PySem L2 Ab
end
local macro_rules | `(tactic| walk_at "tk") => `(tactic| refine .a (tk (by assumption) (by omega) (by omega) (by omega) fun _ _ _ _ _ => ?_))
section
open PySem L2 Ab
end
local macro_rules | `(tactic| walk_at "ln") => `(tactic| first
  | omega
  | (simp only [List.length_append, List.length_cons, List.length_nil, List.length_map, List.length_take, List.length_drop, List.length_set, List.length_replicate, List.length_reverse, PySem.Str.length_append]; omega)
  | decide
  | with_reducible exact Nat.le_refl _
  | (simp only [List.length_append, List.length_cons, List.length_nil, List.length_map, List.length_take, List.length_drop, List.length_set, List.length_replicate, List.length_reverse, PySem.Str.length_append] at *; omega)
  | exact (Nat.le_of_ble_eq_true rfl)
  | fail "ln")
section
open PySem L2 Ab
end
local macro_rules | `(tactic| walk_at "az") => `(tactic| first
  | assumption
  | exact Az.nil
  | exact az_abc
  | exact Az.one (az_abc _ (by assumption))
  | ((refine' Az.app ?h1 ?h2); (case h1 => walk_at "az"); (case h2 => walk_at "az"))
  | ((refine' Az.cut ?h1 _ _); (case h1 => walk_at "az"))
  | fail "az")
section
open PySem L2 Ab
end
local macro_rules | `(tactic| walk_at "ty") => `(tactic| first
  | assumption
  | exact EnvT.nil
  | ((refine' EnvT.cons ?ha ?ht); (case ha => walk_at "ty"); (case ht => walk_at "ty"))
  | exact SAny.mk
  | exact SIs.mk
  | exact SPool.mk (by assumption)
  | exact SPool.mk (PoolUp.mono (by assumption) (by omega))
  | ((refine' SVal.mk ?ha); (case ha => walk_at "ty"))
  | ((refine' RVal.mk ?ha); (case ha => walk_at "ty"))
  | ((refine' SAcc.mk ?h0 ?h1 ?h); (case h0 => walk_at "ln"); (case h1 => walk_at "ln"); (case h => walk_at "ty"))
  | ((refine' RNew.mk ?h0 ?h1 ?h); (case h0 => walk_at "ln"); (case h1 => walk_at "ln"); (case h => walk_at "ty"))
  | ((refine' TTs.mk ?h0 ?h1 ?h); (case h0 => walk_at "ln"); (case h1 => walk_at "ln"); (case h => walk_at "ty"))
  | ((refine' TLs.mk ?h0 ?h1 ?h); (case h0 => walk_at "ln"); (case h1 => walk_at "ln"); (case h => walk_at "ty"))
  | exact TIs.mk
  | exact TBl.mk
  | ((refine' TInt.mk ?h0 ?h1); (case h0 => walk_at "ln"); (case h1 => walk_at "ln"))
  | ((refine' TStr.mk ?h0 ?h1); (case h0 => walk_at "ln"); (case h1 => walk_at "ln"))
  | ((refine' TNm.mk ?h0 ?h1 ?h2); (case h0 => walk_at "ln"); (case h1 => walk_at "ln"); (case h2 => walk_at "az"))
  | ((refine' T2.mk ?ha ?hb); (case ha => walk_at "ty"); (case hb => walk_at "ty"))
  | ((refine' T3.mk ?ha ?hb ?hc); (case ha => walk_at "ty"); (case hb => walk_at "ty"); (case hc => walk_at "ty"))
  | ((refine' T4.mk ?ha ?hb ?hc ?hd); (case ha => walk_at "ty"); (case hb => walk_at "ty"); (case hc => walk_at "ty"); (case hd => walk_at "ty"))
  | ((refine' T1.mk ?ha); (case ha => walk_at "ty"))
  | exact all_nil
  | ((refine' all_cons ?ha ?ht); (case ha => walk_at "ty"); (case ht => walk_at "ty"))
  | ((refine' all_app ?ha ?ht); (case ha => walk_at "ty"); (case ht => walk_at "ty"))
  | exact all_take (by assumption)
  | exact all_drop (by assumption)
  | exact all_cut (by assumption)
  | exact all_erase (by assumption)
  | ((refine' all_set (by assumption) ?ha); (case ha => walk_at "ty"))
  | fail "ty")
section
open PySem L2 Ab
end
local macro_rules | `(tactic| walk_at "cs") => `(tactic| repeat (first
  | cases ‹EnvT (_ :: _) _›
  | cases ‹EnvT [] _›
  | cases ‹SAny _›
  | cases ‹SIs _ _›
  | cases ‹SVal _ _›
  | cases ‹SAcc _ _ _ _›
  | cases ‹SPool _ _›
  | cases ‹RVal _ _›
  | cases ‹RNew _ _ _ _›
  | cases ‹TIs _ _›
  | cases ‹TInt _ _ _›
  | cases ‹TBl _›
  | cases ‹TStr _ _ _›
  | cases ‹TNm _ _ _›
  | cases ‹T1 _ _›
  | cases ‹T2 _ _ _›
  | cases ‹T3 _ _ _ _›
  | cases ‹T4 _ _ _ _ _›
  | cases ‹TTs _ _ _ _›
  | cases ‹TLs _ _ _ _›))
section
open PySem L2 Ab
end
local macro_rules | `(tactic| walk_at "if") => `(tactic| ((refine ⟨fun hY => ?_, fun hY => ?_⟩) <;> (try simp only [decide_eq_true_eq, decide_eq_false_iff_not, Bool.not_eq_true', Bool.not_eq_false', Bool.not_eq_true, Bool.not_eq_false] at hY)))
section
open PySem L2 Ab
end
local macro_rules | `(tactic| walk_at "c1") => `(tactic| ((refine' Hold.a ⟨_, ?ce, ?co, fun _ _ _ _ => ?_⟩); (case ce => (show EnvT _ _; walk_at "ty")); (case co => first | omega | fail "co"); walk_at "cs"))
section
open PySem L2 Ab
end
local macro_rules | `(tactic| walk_at "c2") => `(tactic| ((refine' Hold.a ⟨_, _, ?ce, ?co, fun _ _ _ _ => ?_⟩); (case ce => (show EnvT _ _; walk_at "ty")); (case co => first | omega | fail "co"); walk_at "cs"))
section
open PySem L2 Ab
end
local macro_rules | `(tactic| walk_at "c3") => `(tactic| ((refine' Hold.a ⟨_, _, _, ?ce, ?co, fun _ _ _ _ => ?_⟩); (case ce => (show EnvT _ _; walk_at "ty")); (case co => first | omega | fail "co"); walk_at "cs"))
section
open PySem L2 Ab
end
local macro_rules | `(tactic| walk_at "ix") => `(tactic| first
  | ((refine' ixp_c0 ?h1 ?_); (case h1 => exact rfl))
  | ((refine' ixp_kT ?h1 ?h2 ?h3 ?h4 fun _ _ => ?_); (case h1 => exact rfl); (case h2 => walk_at "ln"); (case h3 => walk_at "ln"); (case h4 => assumption); walk_at "cs")
  | ((refine' ixp_sk ?h1 ?h2 ?h3 fun _ _ => ?_); (case h1 => walk_at "ln"); (case h2 => walk_at "ln"); (case h3 => walk_at "ln"))
  | fail "ix")
section
open PySem L2 Ab
end
local macro_rules | `(tactic| walk_at "tx") => `(tactic| first
  | ((with_reducible refine' lenp_s ?h1 ?_); (case h1 => walk_at "ln"))
  | ((with_reducible refine' slp_s ?h1 ?_); (case h1 => walk_at "ln"))
  | ((with_reducible refine' addp_s ?h1 ?_); (case h1 => walk_at "ln"))
  | ((with_reducible refine' addp_l ?h1 ?h2 ?h3 ?h4 ?h5 ?_); (case h1 => exact rfl); (case h2 => exact rfl); (case h3 => exact rfl); (case h4 => exact rfl); (case h5 => walk_at "ln"))
  | with_reducible refine we_repS ?_
  | with_reducible refine we_repA ?_
  | with_reducible refine we_strG ?_
  | with_reducible refine strp_s ?_
  | with_reducible refine we_sortedS ?_
  | with_reducible refine we_sorted ?_
  | with_reducible refine we_all ?_
  | with_reducible refine we_any ?_
  | with_reducible refine eqp_str ?_
  | with_reducible refine nep_str ?_
  | (refine ⟨_, _, rfl, rfl, (by omega), (by omega), (by walk_at "ln"), ?_⟩)
  | (refine ⟨_, _, rfl, rfl, (by walk_at "ln"), ?_⟩)
  | (refine ⟨(show (_ : Prop) from by walk_at "ln"), ?_⟩)
  | fail "tx")
section
open PySem L2 Ab
end
local macro_rules | `(tactic| walk_at "go1") => `(tactic| first
  | walk_at "e"
  | walk_at "tk"
  | walk_at "c1"
  | walk_at "c2"
  | walk_at "ix"
  | walk_at "tx"
  | fail "go")
section
open PySem L2 Ab
end
local macro_rules | `(tactic| walk_at "go") => `(tactic| repeat' walk_at "go1")
section
open PySem L2 Ab
end
local macro_rules | `(tactic| walk_at "gi") => `(tactic| repeat' (first | walk_at "go1" | walk_at "if" | fail "gi"))
section
open PySem L2 Ab
end
local macro_rules | `(tactic| walk_at "gx") => `(tactic| repeat' (first
  | walk_at "x"
  | walk_at "tk"
  | walk_at "c1"
  | walk_at "c2"
  | walk_at "ix"
  | walk_at "tx"
  | fail "gx"))
section
open PySem L2 Ab
end
local macro_rules | `(tactic| walk_at "len") => `(tactic| ((intro as Post h); (repeat (first | (obtain ⟨e, _⟩ := h; exact (congrArg List.length e).trans rfl) | (obtain ⟨e, _⟩ := h; exact (EnvT.len e).trans rfl) | (obtain ⟨_, h⟩ := h)))))
section
open PySem L2 Ab
end
local macro_rules | `(tactic| walk_at "lk") => `(tactic| first | exact lk_GalleySums_lines | exact lk_GalleySums_spaces | exact lk_GalleySums_cuts | exact lk_GalleySums_floats | exact lk_GalleySums_tops | exact lk_GalleySums_noted | exact lk_GalleySums_marked | exact lk_GalleySums_no_column_height | exact lk_GalleySums_no_page_room | exact lk_GalleySums_no_next_ages | exact lk_Frame_height | exact lk_Frame_columns | exact lk_Frame_rule | exact lk_Frame_under | exact lk_Frame_wait | exact lk_Frame_late | exact lk_Frame_uneven | exact lk_Frame_no_of | fail "lk")
section
open PySem L2 Ab
structure Ln where
  h : Int
  sp : Int
  cut : Bool
  notes : List Int
  fl : List Int
def Ln.dt (l : Ln) : Dt := .tup [.int l.h, .int l.sp, .bl l.cut, .tup (l.notes.map Dt.int), .tup (l.fl.map Dt.int)]
abbrev galD (g : List Ln) : Dt := .tup (g.map Ln.dt)
def flo (g : List Ln) : List Int := g.flatMap Ln.fl
def pre (f : Ln → Int) (g : List Ln) : List Int := (List.range (g.length + 1)).map fun k => ((g.take k).map f).sum
def fh (l : Ln) : Int := l.h + l.sp
def fn (l : Ln) : Int := l.notes.sum
def fc (l : Ln) : Int := (l.fl.length : Int)
theorem pre_len (f : Ln → Int) (g : List Ln) : (pre f g).length = g.length + 1 := by unfold pre; rw [List.length_map, List.length_range]
theorem pre_get {f : Ln → Int} {g : List Ln} {k : Nat} (h : k ≤ g.length) : (pre f g)[k]? = some (((g.take k).map f).sum) := by
  unfold pre
  rw [List.getElem?_map, List.getElem?_range (by omega)]; rfl
theorem pre_step {f : Ln → Int} {g : List Ln} {i : Nat} {l : Ln} (h : g[i]? = some l) : pre f (g.take (i + 1)) = pre f (g.take i) ++ [((g.take i).map f).sum + f l] := by
  have hi : i < g.length := (List.getElem?_eq_some_iff.mp h).1
  have l1 : (g.take (i + 1)).length = i + 1 := by rw [List.length_take]; omega
  have l0 : (g.take i).length = i := by rw [List.length_take]; omega
  have ht : g.take (i + 1) = g.take i ++ [l] := by rw [List.take_succ, h]; rfl
  unfold pre
  rw [l1, l0, List.range_succ, List.map_append]
  congr 1
  · refine List.map_congr_left fun k hk => ?_
    have := List.mem_range.mp hk
    rw [List.take_take, List.take_take, Nat.min_eq_left (by omega), Nat.min_eq_left (by omega)]
  · show [(((g.take (i + 1)).take (i + 1)).map f).sum] = _
    rw [List.take_take, Nat.min_self, ht, List.map_append, List.sum_append]
    simp
theorem pre_last {f : Ln → Int} {g : List Ln} {i : Nat} (h : i ≤ g.length) : atI ((pre f (g.take i)).map Dt.int) (-1) = some (.int (((g.take i).map f).sum)) := by
  have l0 : (g.take i).length = i := by rw [List.length_take]; omega
  unfold atI ixN
  rw [List.length_map, pre_len, l0, if_neg (by omega), if_pos (by omega)]
  show ((pre f (g.take i)).map Dt.int)[((-1 : Int) + ((i + 1 : Nat) : Int)).toNat]? = _
  rw [show ((-1 : Int) + ((i + 1 : Nat) : Int)).toNat = i by omega, List.getElem?_map, pre_get (by omega), List.take_take, Nat.min_self]
  rfl
abbrev smFs (g : List Ln) : List (Str × Dt) := fs_GalleySums (.int g.length) (.lst (g.map fun l => .int l.sp)) (.lst (g.map fun l => .bl l.cut)) (.lst ((flo g).map Dt.int)) (.lst ((pre fh g).map Dt.int)) (.lst ((pre fn g).map Dt.int)) (.lst ((pre fc g).map Dt.int))
abbrev smD (c : Addr) (g : List Ln) : Dt := .obj c (smFs g)
def ai_GS : AI := fun ds Post => ∃ g : List Ln, ds = [galD g] ∧ g.length ≤ 1000 ∧ (flo g).length ≤ 1000 ∧ Post (smFs g)
structure GSok (K : PySem.W.Frag) (c : Addr) : Prop where
  cl : ClsOk K c
  lines : NoAttr K c "lines"
  spaces : NoAttr K c "spaces"
  cuts : NoAttr K c "cuts"
  floats : NoAttr K c "floats"
  tops : NoAttr K c "tops"
  noted : NoAttr K c "noted"
  marked : NoAttr K c "marked"
abbrev nms : List Str := ["lines", "spaces", "cuts", "floats", "tops", "noted", "marked"]
theorem flo_take {g : List Ln} {i : Nat} {l : Ln} (h : g[i]? = some l) : flo (g.take (i + 1)) = flo (g.take i) ++ l.fl := by
  have ht : g.take (i + 1) = g.take i ++ [l] := by rw [List.take_succ, h]; rfl
  unfold flo
  rw [ht, List.flatMap_append]; simp
theorem flo_le (g : List Ln) (i : Nat) : (flo (g.take i)).length ≤ (flo g).length := by
  have : flo g = flo (g.take i) ++ flo (g.drop i) := by unfold flo; rw [← List.flatMap_append, List.take_append_drop]
  rw [this, List.length_append]; omega
section
variable {K : PySem.W.Frag} {c : Addr}
theorem fresh_of {ns : List Str} {f : Str} (h : ns.all (fun g => !decide (g = f)) = true) : ∀ g ∈ ns, ¬ g = f := fun g hg => by
  have := List.all_eq_true.mp h g hg
  simpa using this
theorem fst_of {ns : List Str} {f : Str} {j : Nat} (h : (ns.take j).all (fun g => !decide (f = g)) = true) : ∀ i, i < j → ∀ g, ns[i]? = some g → ¬ f = g := fun i hi g hg => by
  have hm : g ∈ ns.take j := List.mem_of_getElem? (i := i) (by rw [List.getElem?_take, if_pos hi]; exact hg)
  have := List.all_eq_true.mp h g hm
  simpa using this
def gsD (g : List Ln) (i : Nat) : List Sl := [.val (.int g.length), .val (.lst (g.map fun l => .int l.sp)), .val (.lst (g.map fun l => .bl l.cut)), .acc ((flo (g.take i)).map Dt.int), .acc ((pre fh (g.take i)).map Dt.int), .acc ((pre fn (g.take i)).map Dt.int), .acc ((pre fc (g.take i)).map Dt.int)]
theorem run_init (T : GSok K c) (ds : List Dt) (Post : List (Str × Dt) → Prop) (h : ai_GS ds Post) : WJ K c (tq_GalleySums___init__ K) ((.un :: ds.map Sl.val) ++ List.replicate (8 - (ds.length + 1)) .un) [] [] (fun _ D ns => (∀ s ∈ D, s ≠ .un) ∧ Post (ns.zip (D.map fdt))) := by
  obtain ⟨g, rfl, hg, hfl, p⟩ := h
  unfold tq_GalleySums___init__
  show WJ K c _ [.un, .val (.tup (g.map Ln.dt)), .un, .un, .un, .un, .un, .un] [] [] _
  have hgl : (g.map Ln.dt).length = g.length := List.length_map _
  refine wj_seq (wj_set T.cl.cl T.lines (fresh_of (by decide +kernel)) (by decide) ?_)
  walk_at "gx"
  refine ⟨rfl, .inl ⟨_, rfl, ?_⟩⟩
  refine wj_seq (wj_set T.cl.cl T.spaces (fresh_of (by decide +kernel)) (by decide) ?_)
  refine we_freezeV (lc_tupV g Ln.dt (fun l => .int l.sp) (fun _ => true) ?_ ?_ ?_)
  · walk_at "gx"
    exact .a ⟨rfl, by omega, rfl, rfl, rfl⟩
  · rintro ⟨h, sp, cut, notes, fl⟩ _
    walk_at "gx"
    exact .a ⟨rfl, rfl, rfl⟩
  refine ⟨_, rfl, rfl, .inl ⟨_, rfl, ?_⟩⟩
  rw [filter_tt, hgl]
  refine wj_seq (wj_set T.cl.cl T.cuts (fresh_of (by decide +kernel)) (by decide) ?_)
  refine we_freezeV (lc_tupV g Ln.dt (fun l => .bl l.cut) (fun _ => true) ?_ ?_ ?_)
  · walk_at "gx"
    exact .a ⟨rfl, by omega, rfl, rfl, rfl⟩
  · rintro ⟨h, sp, cut, notes, fl⟩ _
    walk_at "gx"
    exact .a ⟨rfl, rfl, rfl⟩
  refine ⟨_, rfl, rfl, .inl ⟨_, rfl, ?_⟩⟩
  rw [filter_tt]
  refine wj_seq (wj_set T.cl.cl T.floats (fresh_of (by decide +kernel)) (by decide) ?_)
  walk_at "gx"
  refine ⟨rfl, .inr ⟨_, rfl, ?_⟩⟩
  refine wj_seq (wj_set T.cl.cl T.tops (fresh_of (by decide +kernel)) (by decide) ?_)
  walk_at "gx"
  refine ⟨rfl, .inr ⟨_, rfl, ?_⟩⟩
  refine wj_seq (wj_set T.cl.cl T.noted (fresh_of (by decide +kernel)) (by decide) ?_)
  walk_at "gx"
  refine ⟨rfl, .inr ⟨_, rfl, ?_⟩⟩
  refine wj_seq (wj_set T.cl.cl T.marked (fresh_of (by decide +kernel)) (by decide) ?_)
  walk_at "gx"
  refine ⟨rfl, .inr ⟨_, rfl, ?_⟩⟩
  show WJ K c _ _ (gsD g 0) nms _
  refine wj_forT (g.map Ln.dt) (fun i G D n => (∃ s2 s3 s4 s5 s6 s7, G = [.un, .val (.tup (g.map Ln.dt)), s2, s3, s4, s5, s6, s7]) ∧ D = gsD g i ∧ n = nms) ?_ ?_ ?_
  · walk_at "gx"
    exact .a ⟨rfl, rfl, ⟨_, _, _, _, _, _, rfl⟩, rfl, rfl⟩
  · rintro i d G D n hd ⟨⟨s2, s3, s4, s5, s6, s7, rfl⟩, rfl, rfl⟩
    rw [List.getElem?_map] at hd
    obtain ⟨l, hl, rfl⟩ := Option.map_eq_some_iff.mp hd
    have hi := (List.getElem?_eq_some_iff.mp hl).1
    have hf1 := flo_le g (i + 1)
    rw [flo_take hl, List.length_append] at hf1
    have st1 := pre_step (f := fh) hl
    have st2 := pre_step (f := fn) hl
    have st3 := pre_step (f := fc) hl
    have sf := flo_take hl
    obtain ⟨h, sp, cut, notes, fl⟩ := l
    have hf2 : (flo (g.take i)).length + fl.length ≤ (flo g).length := hf1
    show WG K [0] _ (.tup [.int h, .int sp, .bl cut, .tup (notes.map Dt.int), .tup (fl.map Dt.int)]) _ _
    walk_at "gx"
    refine ⟨rfl, ?_⟩
    refine wj_seq (wj_ext T.cl.cl T.floats (j := 3) rfl (fst_of (by decide +kernel)) rfl ?_)
    walk_at "gx"
    refine ⟨rfl, rfl, by rw [List.length_map, List.length_map]; omega, ?_⟩
    refine wj_seq (wj_app (ds0 := (pre fh (g.take i)).map Dt.int) T.cl.cl T.tops (j := 4) rfl (fst_of (by decide +kernel)) rfl (by rw [List.length_map, pre_len, List.length_take]; omega) ?_)
    refine wej_add ?_
    refine wej_add ?_
    refine wej_last (ds := (pre fh (g.take i)).map Dt.int) T.cl.cl T.tops (j := 4) rfl (fst_of (by decide +kernel)) rfl (pre_last (by omega)) ?_
    refine ⟨_, rfl, wej_we ?_⟩
    walk_at "gx"
    refine ⟨rfl, _, rfl, _, rfl, wej_we ?_⟩
    walk_at "gx"
    refine ⟨rfl, _, rfl, ?_⟩
    refine wj_seq (wj_app (ds0 := (pre fn (g.take i)).map Dt.int) T.cl.cl T.noted (j := 5) rfl (fst_of (by decide +kernel)) rfl (by rw [List.length_map, pre_len, List.length_take]; omega) ?_)
    refine wej_add ?_
    refine wej_last (ds := (pre fn (g.take i)).map Dt.int) T.cl.cl T.noted (j := 5) rfl (fst_of (by decide +kernel)) rfl (pre_last (by omega)) ?_
    refine ⟨_, rfl, wej_we ?_⟩
    walk_at "gx"
    refine .a ⟨notes, rfl, ?_⟩
    refine ⟨_, rfl, rfl, _, rfl, ?_⟩
    refine wj_app (ds0 := (pre fc (g.take i)).map Dt.int) T.cl.cl T.marked (j := 6) rfl (fst_of (by decide +kernel)) rfl (by rw [List.length_map, pre_len, List.length_take]; omega) ?_
    refine wej_add ?_
    refine wej_last (ds := (pre fc (g.take i)).map Dt.int) T.cl.cl T.marked (j := 6) rfl (fst_of (by decide +kernel)) rfl (pre_last (by omega)) ?_
    refine ⟨_, rfl, wej_we ?_⟩
    walk_at "gx"
    refine ⟨rfl, _, rfl, ?_⟩
    refine .a ⟨⟨_, _, _, _, _, _, rfl⟩, ?_, rfl⟩
    unfold gsD
    rw [st1, st2, st3, sf]
    simp [fh, fn, fc, Int.add_assoc]
  · rintro G D n ⟨_, rfl, rfl⟩
    rw [hgl]
    unfold gsD
    rw [List.take_length]
    refine ⟨?_, p⟩
    intro s hs
    simp only [List.mem_cons, List.not_mem_nil, or_false] at hs
    rcases hs with rfl | rfl | rfl | rfl | rfl | rfl | rfl <;> exact fun z => nomatch z
end
end
section
open PySem L2 Ab
structure Fr where
  (height cols rule under wait late uneven : Int)
abbrev frD (F : Addr) (r : Fr) : Dt := o_Frame F (.int r.height) (.int r.cols) (.int r.rule) (.int r.under) (.int r.wait) (.int r.late) (.int r.uneven)
structure FRok (K : PySem.W.Frag) (c : Addr) : Prop where
  cl : ClsOk K c
  height : NoAttr K c "height"
  columns : NoAttr K c "columns"
  rule : NoAttr K c "rule"
  under : NoAttr K c "under"
  wait : NoAttr K c "wait"
  late : NoAttr K c "late"
  uneven : NoAttr K c "uneven"
structure Sta where
  line : Nat
  fl : Nat
  ages : List Int
deriving DecidableEq
abbrev Sta.dt (s : Sta) : Dt := .tup [.int s.line, .int s.fl, .tup (s.ages.map Dt.int)]
def sumTo (f : Ln → Int) (g : List Ln) (k : Nat) : Int := ((g.take k).map f).sum
def mk (g : List Ln) (e : Nat) : Nat := (flo (g.take e)).length
theorem mk_fc (g : List Ln) (e : Nat) : sumTo fc g e = mk g e := by
  unfold sumTo mk
  generalize g.take e = l
  induction l with
  | nil => rfl
  | cons x r ih =>
    rw [List.map_cons, List.sum_cons, ih]
    show (x.fl.length : Int) + _ = _
    have : flo (x :: r) = x.fl ++ flo r := by unfold flo; simp
    rw [this, List.length_append]; omega
def spAt (g : List Ln) (a : Nat) : Int := (g[a]?.map Ln.sp).getD 0
def colH (g : List Ln) (a b : Nat) : Int := if a = b then 0 else sumTo fh g b - sumTo fh g a - spAt g a
section
variable {K : PySem.W.Frag} {c F : Addr}
def ap_ch (c : Addr) : AP := fun as Post => ∃ (g : List Ln) (a b : Nat), as = [.val (smD c g), .val (.int a), .val (.int b)] ∧ a ≤ b ∧ b ≤ g.length ∧ Post (.val (.int (colH g a b))) as
theorem run_ch (T : GSok K c) : RunOk K [] (tq_GalleySums_column_height K) 3 (ap_ch c) := by
  rintro as Post ⟨g, a, b, rfl, h1, h2, k⟩
  have t0 := T.cl.cl
  have t1 := T.tops
  have t2 := T.spaces
  unfold tq_GalleySums_column_height
  show WS K [] _ [.val (smD c g), .val (.int a), .val (.int b)] _
  walk_at "gi"
  · have e : colH g a b = 0 := by unfold colH; rw [if_pos (by omega)]
    rw [e] at k; exact k
  · have hne : a ≠ b := by omega
    obtain ⟨l, hl⟩ : ∃ l, g[a]? = some l := ⟨g[a], List.getElem?_eq_getElem (by omega)⟩
    refine ixp rfl (at_mapI rfl (pre_get h2)) ?_
    walk_at "go"
    refine ixp rfl (at_mapI rfl (pre_get (by omega))) ?_
    walk_at "go"
    refine ixp rfl (at_mapI (c := fun l : Ln => Dt.int l.sp) rfl hl) ?_
    walk_at "go"
    have e : colH g a b = sumTo fh g b - sumTo fh g a - l.sp := by unfold colH spAt; rw [if_neg hne, hl]; rfl
    rw [e] at k; exact k
def roomOf (g : List Ln) (r : Fr) (s : Sta) (e fe : Nat) : Int :=
  r.height - (sumTo fn g e - sumTo fn g s.line) - (((flo g).drop s.fl).take (fe - s.fl)).sum - (if 0 < sumTo fn g e - sumTo fn g s.line then r.rule else 0) - (if s.fl < fe then r.under else 0)
def ap_pr (c F : Addr) : AP := fun as Post => ∃ (g : List Ln) (r : Fr) (s : Sta) (e fe : Nat), as = [.val (smD c g), .val (frD F r), .val s.dt, .val (.int e), .val (.int fe)] ∧ s.line ≤ g.length ∧ e ≤ g.length ∧ s.fl ≤ fe ∧ fe ≤ (flo g).length ∧ Post (.val (.int (roomOf g r s e fe))) as
theorem run_pr (T : GSok K c) (U : FRok K F) : RunOk K [] (tq_GalleySums_page_room K) 10 (ap_pr c F) := by
  rintro as Post ⟨g, r, ⟨line, fl, ages⟩, e, fe, rfl, h1, h2, h3, h4, k⟩
  have t0 := T.cl.cl
  have t1 := T.noted
  have t2 := T.floats
  have u0 := U.cl.cl
  have u1 := U.height
  have u2 := U.rule
  have u3 := U.under
  unfold tq_GalleySums_page_room
  show WS K [] _ [.val (smD c g), .val (frD F r), .val (.tup [.int line, .int fl, .tup (ages.map Dt.int)]), .val (.int e), .val (.int fe), .un, .un, .un, .un, .un] _
  walk_at "go"
  refine ixp rfl (at_mapI rfl (pre_get h2)) ?_
  walk_at "go"
  refine ixp rfl (at_mapI rfl (pre_get h1)) ?_
  walk_at "go"
  refine slp_l rfl ?_
  rw [cut_mid h3 h4]
  refine .a ⟨_, rfl, ?_⟩
  walk_at "gx"
  refine ws_cut (fun G => ∃ m : Int, G = [.val (smD c g), .val (frD F r), .val (.tup [.int line, .int fl, .tup (ages.map Dt.int)]), .val (.int e), .val (.int fe), .val (.int line), .val (.int fl), .val (.tup (ages.map Dt.int)), .val (.int (sumTo fn g e - sumTo fn g line)), .val (.int m)] ∧ m = r.height - (sumTo fn g e - sumTo fn g line) - (((flo g).drop fl).take (fe - fl)).sum - (if 0 < sumTo fn g e - sumTo fn g line then r.rule else 0)) ?_ ?_
  · walk_at "gi"
    · rename_i hY
      exact .a ⟨_, rfl, by rw [if_pos (show 0 < sumTo fn g e - sumTo fn g line from hY)]; rfl⟩
    · rename_i hY
      refine .a ⟨_, rfl, ?_⟩
      rw [if_neg (show ¬ 0 < sumTo fn g e - sumTo fn g line from hY), Int.sub_zero]; rfl
  rintro G ⟨m, rfl, hm⟩
  walk_at "gi"
  · rename_i hY
    have e' : roomOf g r ⟨line, fl, ages⟩ e fe = m - r.under := by unfold roomOf; rw [hm, if_pos (show fl < fe by omega)]
    rw [e'] at k; exact k
  · rename_i hY
    have e' : roomOf g r ⟨line, fl, ages⟩ e fe = m := by unfold roomOf; rw [hm, if_neg (show ¬ fl < fe by omega), Int.sub_zero]
    rw [e'] at k; exact k
def agesOf (g : List Ln) (s : Sta) (e fe : Nat) : List Int := (List.range (mk g e - fe)).map fun i => if fe + i - s.fl < s.ages.length then (s.ages[fe + i - s.fl]?).getD 0 + 1 else 1
def ap_na (c : Addr) : AP := fun as Post => ∃ (g : List Ln) (s : Sta) (e fe : Nat), as = [.val (smD c g), .val s.dt, .val (.int e), .val (.int fe)] ∧ e ≤ g.length ∧ s.fl ≤ fe ∧ fe ≤ 1000 ∧ (flo g).length ≤ 1000 ∧ Post (.val (.tup ((agesOf g s e fe).map Dt.int))) as
theorem mk_le (g : List Ln) (e : Nat) : mk g e ≤ (flo g).length := flo_le g e
theorem run_na (T : GSok K c) : RunOk K [] (tq_GalleySums_next_ages K) 9 (ap_na c) := by
  rintro as Post ⟨g, ⟨line, fl, ages⟩, e, fe, rfl, h1, h2, h3, h4, k⟩
  have t0 := T.cl.cl
  have t1 := T.marked
  have hm := mk_le g e
  have hmf := mk_fc g e
  have h2 : fl ≤ fe := h2
  have hal : (ages.map Dt.int).length = ages.length := List.length_map _
  unfold tq_GalleySums_next_ages
  show WS K [] _ [.val (smD c g), .val (.tup [.int line, .int fl, .tup (ages.map Dt.int)]), .val (.int e), .val (.int fe), .un, .un, .un, .un, .un] _
  refine ws_seq ?_
  walk_at "gx"
  refine ws_seq ?_
  walk_at "gx"
  refine ws_seq ?_
  refine for_range2 fe (mk g e) (fun i G => ∃ z, G = [.val (smD c g), .val (.tup [.int line, .int fl, .tup (ages.map Dt.int)]), .val (.int e), .val (.int fe), .val (.int line), .val (.int fl), .val (.tup (ages.map Dt.int)), .acc (((agesOf g ⟨line, fl, ages⟩ e fe).take i).map Dt.int), z]) ?_ ?_ ?_
  · walk_at "gx"
    refine ixp rfl (at_mapI rfl (pre_get h1)) ?_
    walk_at "gx"
    refine .a ⟨?_, by omega, .un, rfl⟩
    show [Dt.int fe, .int (sumTo fc g e)] = _
    rw [hmf]
  · rintro i G hi ⟨z, rfl⟩
    have hi' : i < mk g e - fe := by omega
    have ha : ∀ v, (if fe + i - fl < ages.length then (ages[fe + i - fl]?).getD 0 + 1 else 1) = v → ((agesOf g ⟨line, fl, ages⟩ e fe).take (i + 1)).map Dt.int = ((agesOf g ⟨line, fl, ages⟩ e fe).take i).map Dt.int ++ [.int v] := fun v hv => by
      have : (agesOf g ⟨line, fl, ages⟩ e fe)[i]? = some v := by
        unfold agesOf
        rw [List.getElem?_map, List.getElem?_range hi', ← hv]; rfl
      rw [List.take_succ, this, List.map_append]; rfl
    have hl : (((agesOf g ⟨line, fl, ages⟩ e fe).take i).map Dt.int).length < 1000000 := by
      rw [List.length_map, List.length_take]; omega
    walk_at "gi"
    · rename_i hY
      have hlt : fe + i - fl < ages.length := by omega
      obtain ⟨v, hv⟩ : ∃ v, ages[fe + i - fl]? = some v := ⟨ages[fe + i - fl], List.getElem?_eq_getElem hlt⟩
      refine ixp rfl (at_mapI (i := fe + i - fl) (by omega) hv) ?_
      walk_at "gx"
      refine .a ⟨.val (.int ((fe : Int) + (i : Int))), ?_⟩
      rw [ha (v + 1) (by rw [if_pos hlt, hv]; rfl)]
    · rename_i hY
      refine .a ⟨.val (.int ((fe : Int) + (i : Int))), ?_⟩
      rw [ha 1 (by rw [if_neg (by omega)])]
  · rintro G ⟨z, rfl⟩
    have e2 : (agesOf g ⟨line, fl, ages⟩ e fe).take ((mk g e : Int) - (fe : Int)).toNat = agesOf g ⟨line, fl, ages⟩ e fe := by
      refine List.take_of_length_le ?_
      unfold agesOf; rw [List.length_map, List.length_range]; omega
    rw [e2]
    walk_at "go"
    exact k
def priceOf (r : Fr) (slack diff pend : Int) : Int := if r.cols = 2 then slack * slack + r.late * pend + r.uneven * diff else slack * slack + r.late * pend
def ap_pp (F : Addr) : AP := fun as Post => ∃ (r : Fr) (slack diff pend : Int), as = [.val (frD F r), .val (.int slack), .val (.int diff), .val (.int pend)] ∧ (0 ≤ slack ∧ slack < 1000000) ∧ (0 ≤ pend ∧ pend < 1000000) ∧ (0 ≤ diff ∧ diff < 1000000000) ∧ Post (.val (.int (priceOf r slack diff pend))) as
theorem run_pp (U : FRok K F) : RunOk K [] (tq_page_price K) 5 (ap_pp F) := by
  rintro as Post ⟨r, slack, diff, pend, rfl, h1, h2, h3, k⟩
  have u0 := U.cl.cl
  have u1 := U.late
  have u2 := U.columns
  have u3 := U.uneven
  unfold tq_page_price
  show WS K [] _ [.val (frD F r), .val (.int slack), .val (.int diff), .val (.int pend), .un] _
  walk_at "gi"
  · rename_i hY
    have e' : priceOf r slack diff pend = slack * slack + r.late * pend + r.uneven * diff := by unfold priceOf; rw [if_pos hY]
    rw [e'] at k; exact k
  · rename_i hY
    have e' : priceOf r slack diff pend = slack * slack + r.late * pend := by unfold priceOf; rw [if_neg hY]
    rw [e'] at k; exact k
end
end
section
open PySem L2 Ab
section
variable {K : PySem.W.Frag} {Γ : List Sl} {tt : TT} {te : TE} {j : Nat} {Post : Re → List Sl → Prop}
theorem lc_rng2V {t1 : TA} (lo n : Nat) (f : Nat → Dt) (p : Nat → Bool) (h : WD K t1 Γ fun ds Γ1 => Hold (ds = [.int lo, .int (lo + n : Nat)] ∧ lo + n ≤ 1000000 ∧ decide (j < Γ.length) = true ∧ notAcc Γ[j]? = true ∧ Γ1 = Γ))
    (turn : ∀ x : Nat, lo ≤ x → x < lo + n → WT K tt (Γ.set j (.val (.int x))) fun b G2 => (b = true → WE K te G2 fun r G3 => ∃ d, r.dt? = some d ∧ Hold (p x = true ∧ d = f x ∧ G3.set j (keepV Γ[j]?) = Γ)) ∧ (b = false → Hold (p x = false ∧ G2.set j (keepV Γ[j]?) = Γ)))
    (done : Post (.new (((List.range' lo n).filter p).map f)) Γ) : WE K (tLc (iRng2 t1) (gName j) tt te [j]) Γ Post := by
  have hlen : (((lo + n : Nat) : Int) - (lo : Int)).toNat = n := by omega
  refine lc_range2 lo (lo + n : Nat) (fun i es G => G = Γ ∧ es = (((List.range' lo n).take i).filter p).map f) ?_ ?_ ?_
  · refine fun σ B H E Q q => h σ B H E Q fun vs B' H' ds Γ1 g k hp => q vs B' H' ds Γ1 g k ?_
    obtain ⟨h1, h2, h3, h4, rfl⟩ := hp.get
    exact .a ⟨h1, by omega, by omega, h3, h4, rfl, rfl, by rw [List.take_zero]; rfl⟩
  · rintro i es G hi ⟨rfl, rfl⟩
    have hi' : i < n := by omega
    have hx : (List.range' lo n)[i]? = some (lo + i) := by rw [List.getElem?_range' (by omega)]; congr 1; omega
    have ec : (lo : Int) + (i : Int) = ((lo + i : Nat) : Int) := by omega
    rw [ec]
    refine wt_mono (turn (lo + i) (by omega) (by omega)) fun b G2 hb => ⟨fun e => ?_, fun e => ?_⟩
    · refine we_mono (hb.1 e) fun r G3 hr => ?_
      obtain ⟨d, h1, h2⟩ := hr
      obtain ⟨h3, rfl, h5⟩ := h2.get
      exact ⟨_, h1, .a ⟨h5, by rw [take_step p f hx, if_pos h3]⟩⟩
    · obtain ⟨h3, h5⟩ := (hb.2 e).get
      exact .a ⟨h5, by rw [take_step p f hx, if_neg (by rw [h3]; exact Bool.false_ne_true), List.append_nil]⟩
  · rintro es G ⟨rfl, rfl⟩
    rw [hlen]
    have : (List.range' lo n).take n = List.range' lo n := List.take_of_length_le (by rw [List.length_range']; exact Nat.le_refl _)
    rw [this]
    exact done
end
def cutAt (g : List Ln) (k : Nat) : Bool := (g[k]?.map Ln.cut).getD false
def plOf (g : List Ln) (r : Fr) (line e : Nat) : List Nat := if r.cols = 2 ∧ line < e then (List.range' (line + 1) (e - (line + 1))).filter (cutAt g) ++ [e] else [e]
def mx (i j : Int) : Int := if j > i then j else i
def ab (i : Int) : Int := if i < 0 then -i else i
structure Sp where
  p : Nat
  hi : Int
  df : Int
def Sp.dt (s : Sp) : Dt := .tup [.int s.p, .int s.hi, .int s.df]
def spOf (g : List Ln) (line e p : Nat) : Sp := ⟨p, mx (colH g line p) (colH g p e), ab (colH g line p - colH g p e)⟩
def spl (g : List Ln) (r : Fr) (line e : Nat) : List Sp := ((plOf g r line e).map (spOf g line e)).filter fun s => decide (s.hi ≤ r.height)
theorem pl_mem {g : List Ln} {r : Fr} {line e p : Nat} (hle : line ≤ e) (h : p ∈ plOf g r line e) : line ≤ p ∧ p ≤ e := by
  unfold plOf at h
  split at h
  · rename_i hc
    rcases List.mem_append.mp h with h | h
    · have := List.mem_range'_1.mp (List.mem_filter.mp h).1
      omega
    · rw [List.mem_singleton.mp h]; exact ⟨hle, Nat.le_refl _⟩
  · rw [List.mem_singleton.mp h]; exact ⟨hle, Nat.le_refl _⟩
theorem pl_len {g : List Ln} {r : Fr} {line e : Nat} : (plOf g r line e).length ≤ e + 1 := by
  unfold plOf
  split
  · rw [List.length_append]
    have := List.length_filter_le (cutAt g) (List.range' (line + 1) (e - (line + 1)))
    rw [List.length_range'] at this
    show _ + 1 ≤ _; omega
  · show 1 ≤ _; omega
section
variable {K : PySem.W.Frag} {c F : Addr}
def ap_cs (c F : Addr) : AP := fun as Post => ∃ (g : List Ln) (r : Fr) (line e : Nat), as = [.val (smD c g), .val (frD F r), .val (.int line), .val (.int e)] ∧ line ≤ e ∧ e ≤ g.length ∧ g.length ≤ 1000 ∧ Post (.new ((spl g r line e).map Sp.dt)) as
theorem run_cs (T : GSok K c) (U : FRok K F) : RunOk K [] (tq_column_splits K c (ap_ch c)) 9 (ap_cs c F) := by
  rintro as Post ⟨g, r, line, e, rfl, h1, h2, h3, k⟩
  have t0 := T.cl.cl
  have t1 := T.cuts
  have u0 := U.cl.cl
  have u1 := U.height
  have u2 := U.columns
  unfold tq_column_splits
  show WS K [] _ [.val (smD c g), .val (frD F r), .val (.int line), .val (.int e), .un, .un, .un, .un, .un] _
  refine ws_seq ?_
  walk_at "gx"
  refine ws_cut (fun G => G = [.val (smD c g), .val (frD F r), .val (.int line), .val (.int e), .acc ((plOf g r line e).map fun p : Nat => Dt.int p), .un, .un, .un, .un]) ?_ ?_
  · walk_at "gi"
    · rename_i hY hZ
      have hlt : line < e := by omega
      refine lc_rng2V (line + 1) (e - (line + 1)) (fun p => .int p) (cutAt g) ?_ ?_ ?_
      · walk_at "gx"
        exact .a ⟨by rw [show line + 1 + (e - (line + 1)) = e by omega]; rfl, by omega, rfl, rfl, rfl⟩
      · intro x hx1 hx2
        obtain ⟨l, hl⟩ : ∃ l, g[x]? = some l := ⟨g[x], List.getElem?_eq_getElem (by omega)⟩
        have hc : cutAt g x = l.cut := by unfold cutAt; rw [hl]; rfl
        walk_at "gx"
        refine ixp rfl (at_mapI (c := fun l : Ln => Dt.bl l.cut) rfl hl) ?_
        walk_at "gi"
        · rename_i hC
          exact .a ⟨by rw [hc]; exact hC, rfl, rfl⟩
        · rename_i hC
          exact .a ⟨by rw [hc]; exact hC, rfl⟩
      · walk_at "gx"
        refine addp_l rfl rfl rfl rfl (by
          rw [List.length_map]
          have := List.length_filter_le (cutAt g) (List.range' (line + 1) (e - (line + 1)))
          rw [List.length_range'] at this
          show _ + 1 ≤ _; omega) ?_
        walk_at "gx"
        refine .a ?_
        unfold plOf
        rw [if_pos ⟨hY, hlt⟩, List.map_append]; rfl
    · rename_i hY hZ
      refine .a ?_
      unfold plOf
      rw [if_neg (fun h => hZ (by omega))]; rfl
    · rename_i hY _
      refine .a ?_
      unfold plOf
      rw [if_neg (fun h => hY h.1)]; rfl
  rintro G rfl
  refine ws_seq ?_
  walk_at "gx"
  refine ws_seq ?_
  have hpl := pl_len (g := g) (r := r) (line := line) (e := e)
  refine for_accT (k := 4) (plOf g r line e) (fun p : Nat => Dt.int p) (fun i G => ∃ s5 s7 s8, G = [.val (smD c g), .val (frD F r), .val (.int line), .val (.int e), .acc ((plOf g r line e).map fun p : Nat => Dt.int p), s5, .acc (((((plOf g r line e).take i).map (spOf g line e)).filter fun s => decide (s.hi ≤ r.height)).map Sp.dt), s7, s8]) rfl ⟨_, _, _, rfl⟩ (by rintro i G ⟨s5, s7, s8, rfl⟩; rfl) ?_ ?_
  · rintro i p G hp ⟨s5, s7, s8, rfl⟩
    have hm := pl_mem h1 (List.mem_of_getElem? hp)
    have hpi := (List.getElem?_eq_some_iff.mp hp).1
    have tk : ((plOf g r line e).take (i + 1)).map (spOf g line e) = ((plOf g r line e).take i).map (spOf g line e) ++ [spOf g line e p] := by
      rw [List.take_succ, hp, List.map_append]; rfl
    have hll : (((((plOf g r line e).take i).map (spOf g line e)).filter fun s => decide (s.hi ≤ r.height)).map Sp.dt).length < 1000000 := by
      rw [List.length_map]
      have := List.length_filter_le (fun s : Sp => decide (s.hi ≤ r.height)) (((plOf g r line e).take i).map (spOf g line e))
      rw [List.length_map, List.length_take] at this
      omega
    walk_at "go"
    refine .a ⟨g, line, p, rfl, hm.1, by omega, ?_⟩
    walk_at "go"
    refine .a ⟨g, p, e, rfl, hm.2, h2, ?_⟩
    walk_at "gi"
    · rename_i hY
      refine .a ⟨.val (.int p), .val (.int (colH g line p)), .val (.int (colH g p e)), ?_⟩
      rw [tk, List.filter_append, List.map_append]
      have : [spOf g line e p].filter (fun s => decide (s.hi ≤ r.height)) = [spOf g line e p] := by
        rw [List.filter_cons_of_pos (by exact decide_eq_true hY)]; rfl
      rw [this]; rfl
    · rename_i hY
      refine .a ⟨.val (.int p), .val (.int (colH g line p)), .val (.int (colH g p e)), ?_⟩
      rw [tk, List.filter_append, List.map_append]
      have : [spOf g line e p].filter (fun s => decide (s.hi ≤ r.height)) = [] := by
        have hn : decide ((spOf g line e p).hi ≤ r.height) = false := decide_eq_false hY
        rw [List.filter_cons_of_neg (by rw [hn]; exact Bool.false_ne_true)]; rfl
      rw [this]; simp
  · rintro G ⟨s5, s7, s8, rfl⟩
    rw [List.take_length]
    walk_at "go"
    exact k
end
end
section
open PySem L2 Ab
theorem pyAll_ints : ∀ (a : List Int), pyAll (a.map Dt.int) = some (a.map PyData.int)
  | [] => by rw [List.map_nil, pyAll]; rfl
  | x :: r => by rw [List.map_cons, pyAll, pyAll_ints r, Dt.py]; rfl
theorem eqvAll_ints : ∀ (a b : List Int), PyData.eqvAll (a.map PyData.int) (b.map PyData.int) = decide (a = b)
  | [], [] => by simp [PyData.eqvAll]
  | [], y :: s => by simp [PyData.eqvAll]
  | x :: r, [] => by simp [PyData.eqvAll]
  | x :: r, y :: s => by
    rw [List.map_cons, List.map_cons, PyData.eqvAll, eqvAll_ints r s, PyData.eqv, Bool.eq_iff_iff]
    simp
theorem lay_ints : ∀ (a : List Int), PyData.canLayAll0 (a.map PyData.int) = true ∧ PyData.depthAll (a.map PyData.int) = 0
  | [] => by simp [PyData.canLayAll0, PyData.depthAll]
  | x :: r => by
    have := lay_ints r
    rw [List.map_cons, PyData.canLayAll0, PyData.depthAll, this.1, this.2, PyData.canLay0, PyData.depth]
    exact ⟨rfl, rfl⟩
theorem eqp_sta {Γ : List Sl} {Post : Re → List Sl → Prop} {neg : Bool} {s t : Sta} (k : Post (.val (.bl (neg ^^ decide (s = t)))) Γ) : EqP neg (.val s.dt) (.val t.dt) Γ Post := by
  have sh : ∀ s : Sta, SeqAt.shaped (.tuple [.int s.line, .int s.fl, .tuple (s.ages.map PyData.int)]) = true := fun s => by
    have := lay_ints s.ages
    simp [SeqAt.shaped, PyData.canLay0, PyData.canLayAll0, PyData.depth, PyData.depthAll, this.1, this.2]
  have py : ∀ s : Sta, Re.py Γ (.val s.dt) = some (.tuple [.int s.line, .int s.fl, .tuple (s.ages.map PyData.int)]) := fun s => by
    show Dt.py _ = _
    simp [Dt.py, pyAll, pyAll_ints]
  refine eqp_d (py s) (py t) (sh s) (sh t) ?_
  have e : PyData.eqv (.tuple [.int s.line, .int s.fl, .tuple (s.ages.map PyData.int)]) (.tuple [.int t.line, .int t.fl, .tuple (t.ages.map PyData.int)]) = decide (s = t) := by
    obtain ⟨a, b, c⟩ := s
    obtain ⟨a', b', c'⟩ := t
    by_cases h : (⟨a, b, c⟩ : Sta) = ⟨a', b', c'⟩
    · cases h
      simp [PyData.eqv, PyData.eqvAll, eqvAll_ints]
    · rw [decide_eq_false h]
      simp only [PyData.eqv, PyData.eqvAll, eqvAll_ints, Bool.and_true]
      rw [Bool.eq_false_iff]
      intro hc
      simp only [Bool.and_eq_true, decide_eq_true_eq, beq_iff_eq] at hc
      obtain ⟨h1, h2, h3⟩ := hc
      have e1 : a = a' := by omega
      have e2 : b = b' := by omega
      subst e1 e2 h3
      exact h rfl
  rw [e]
  exact k
structure Opt where
  e : Nat
  fe : Nat
  sp : Nat
  price : Int
  nx : Sta
def Opt.dt (o : Opt) : Dt := .tup [.int o.e, .int o.fe, .int o.sp, .int o.price, o.nx.dt]
def goalOf (g : List Ln) : Sta := ⟨g.length, (flo g).length, []⟩
def optOf (g : List Ln) (r : Fr) (s : Sta) (e fe : Nat) (x : Sp) : Opt :=
  ⟨e, fe, x.p, priceOf r (if (⟨e, fe, agesOf g s e fe⟩ : Sta) = goalOf g then 0 else roomOf g r s e fe - x.hi) x.df (agesOf g s e fe).length, ⟨e, fe, agesOf g s e fe⟩⟩
def optIn (g : List Ln) (r : Fr) (s : Sta) (e fe : Nat) (sp : List Sp) : List Opt :=
  if (e = s.line ∧ fe = s.fl) ∨ ((agesOf g s e fe).any fun a => decide (r.wait < a)) = true then [] else (sp.filter fun x => decide (x.hi ≤ roomOf g r s e fe)).map (optOf g r s e fe)
def optsTo (g : List Ln) (r : Fr) (s : Sta) (e : Nat) (sp : List Sp) : List Opt := (List.range' s.fl (mk g e + 1 - s.fl)).flatMap fun fe => optIn g r s e fe sp
theorem optIn_len (g : List Ln) (r : Fr) (s : Sta) (e fe : Nat) (sp : List Sp) : (optIn g r s e fe sp).length ≤ sp.length := by
  unfold optIn
  split
  · exact Nat.zero_le _
  · rw [List.length_map]; exact List.length_filter_le _ _
theorem flat_len {α β : Type} (f : α → List β) (n : Nat) (h : ∀ x, (f x).length ≤ n) : ∀ xs : List α, (xs.flatMap f).length ≤ xs.length * n
  | [] => by simp
  | x :: r => by
    rw [List.flatMap_cons, List.length_append, List.length_cons, Nat.succ_mul]
    have := flat_len f n h r
    have := h x
    omega
section
variable {K : PySem.W.Frag} {c F : Addr}
structure Gok (g : List Ln) : Prop where
  n : g.length ≤ 70
  f : (flo g).length ≤ 12
def ap_to (c F : Addr) : AP := fun as Post => ∃ (g : List Ln) (r : Fr) (s : Sta) (e : Nat) (sp : List Sp), as = [.val (smD c g), .val (frD F r), .val s.dt, .val (.int e), .acc (sp.map Sp.dt)] ∧ Gok g ∧ s.line ≤ g.length ∧ e ≤ g.length ∧ sp.length ≤ 71 ∧ s.fl ≤ (flo g).length ∧
  (∀ x ∈ sp, 0 ≤ x.df ∧ x.df < 1000000000) ∧ (∀ fe, s.fl ≤ fe → fe ≤ (flo g).length → ∀ x ∈ sp, roomOf g r s e fe - x.hi < 1000000) ∧ Post (.new ((optsTo g r s e sp).map Opt.dt)) as
theorem any_map_id {α : Type} (f : α → Bool) : ∀ xs : List α, (xs.map f).any id = xs.any f
  | [] => rfl
  | x :: r => by simp [any_map_id f r]
theorem run_to (T : GSok K c) (U : FRok K F) : RunOk K [4] (tq_options_to K c (ap_na c) (ap_pr c F) (ap_pp F)) 17 (ap_to c F) := by
  rintro as Post ⟨g, r, s, e, sp, rfl, hg, h1, h2, h3, h6, h4, h5, k⟩
  have t0 := T.cl.cl
  have t1 := T.lines
  have t2 := T.floats
  have t3 := T.marked
  have u0 := U.cl.cl
  have u1 := U.wait
  have hgn := hg.n
  have hgf := hg.f
  have hmk := mk_le g e
  have hmf := mk_fc g e
  have hfl : ((flo g).map Dt.int).length = (flo g).length := List.length_map _
  unfold tq_options_to
  show WS K [4] _ [.val (smD c g), .val (frD F r), .val (.tup [.int s.line, .int s.fl, .tup (s.ages.map Dt.int)]), .val (.int e), .acc (sp.map Sp.dt), .un, .un, .un, .un, .un, .un, .un, .un, .un, .un, .un, .un] _
  refine ws_seq ?_
  walk_at "gx"
  refine ws_seq ?_
  walk_at "gx"
  refine ws_seq ?_
  rw [hfl]
  let opts (i : Nat) : List Opt := (List.range' s.fl i).flatMap fun fe => optIn g r s e fe sp
  have ol : ∀ i, (opts i).length ≤ i * 71 := fun i => by
    have := flat_len (fun fe => optIn g r s e fe sp) 71 (fun x => Nat.le_trans (optIn_len g r s e x sp) h3) (List.range' s.fl i)
    rw [List.length_range'] at this; exact this
  have os : ∀ i, opts (i + 1) = opts i ++ optIn g r s e (s.fl + i) sp := fun i => by
    show (List.range' s.fl (i + 1)).flatMap _ = _
    rw [List.range'_concat, List.flatMap_append]; simp [opts]
  refine for_range2 s.fl (mk g e + 1 : Nat) (fun i G => ∃ s7 s8 s9 s10 s11 s12 s13 s14 s15, G = [.val (smD c g), .val (frD F r), .val (.tup [.int s.line, .int s.fl, .tup (s.ages.map Dt.int)]), .val (.int e), .acc (sp.map Sp.dt), .val (.tup [.int g.length, .int (flo g).length, .tup []]), .acc ((opts i).map Opt.dt), s7, s8, s9, s10, s11, s12, s13, s14, s15, .un]) ?_ ?_ ?_
  · walk_at "gx"
    refine ixp rfl (at_mapI rfl (pre_get h2)) ?_
    walk_at "gx"
    refine .a ⟨?_, ?_, _, _, _, _, _, _, _, _, _, rfl⟩
    · show [Dt.int s.fl, .int (sumTo fc g e + 1)] = _
      rw [hmf]; rfl
    · omega
  · rintro i G hi ⟨s7, s8, s9, s10, s11, s12, s13, s14, s15, rfl⟩
    have hi' : s.fl + i ≤ mk g e := by omega
    have ec : (s.fl : Int) + (i : Int) = ((s.fl + i : Nat) : Int) := by omega
    rw [ec]
    have oi := os i
    have oll := ol i
    have oil : i ≤ 12 := by omega
    have oin := optIn_len g r s e (s.fl + i) sp
    generalize hO : opts i = O at oi oll
    generalize hfe : s.fl + i = fe at hi' oi oin
    walk_at "gx"
    refine ws_seq ?_
    walk_at "gx"
    refine .a ⟨g, s, e, fe, rfl, h2, by omega, by omega, by omega, ?_⟩
    walk_at "gx"
    refine ws_seq ?_
    walk_at "gx"
    have hal : (agesOf g s e fe).length ≤ 12 := by unfold agesOf; rw [List.length_map, List.length_range]; omega
    refine ws_cut (fun G => G = [.val (smD c g), .val (frD F r), .val (.tup [.int s.line, .int s.fl, .tup (s.ages.map Dt.int)]), .val (.int e), .acc (sp.map Sp.dt), .val (.tup [.int g.length, .int (flo g).length, .tup []]), .acc (O.map Opt.dt), .val (.int fe), .val (.tup ((agesOf g s e fe).map Dt.int)), .val (.tup [.int e, .int fe, .tup ((agesOf g s e fe).map Dt.int)]), s10, s11, s12, s13, s14, s15, .un] ∧ ¬ ((e = s.line ∧ fe = s.fl) ∨ ((agesOf g s e fe).any fun a => decide (r.wait < a)) = true)) ?_ ?_
    · walk_at "gx"
      refine eqp_pair ?_
      walk_at "gi"
      · rename_i hY
        rw [Bool.false_xor] at hY
        have hne : ¬ (e = s.line ∧ fe = s.fl) := fun h => by
          have := of_decide_eq_false hY
          exact this (by omega)
        refine lc_tupV (agesOf g s e fe) Dt.int (fun a => .bl (decide (r.wait < a))) (fun _ => true) ?_ ?_ ?_
        · walk_at "gx"
          exact .a ⟨rfl, by omega, rfl, rfl, rfl⟩
        · intro a _
          walk_at "gx"
          exact .a ⟨rfl, rfl, rfl⟩
        rw [filter_tt]
        refine .a ⟨(agesOf g s e fe).map fun a => decide (r.wait < a), by rw [List.map_map]; rfl, ?_⟩
        rw [any_map_id]
        walk_at "gi"
        · rename_i hA
          have e0 : optIn g r s e fe sp = [] := by unfold optIn; rw [if_pos (.inr hA)]
          exact ws_cont (.a (by rw [oi, e0, List.append_nil]; exact ⟨_, _, _, _, _, _, _, _, _, rfl⟩))
        · rename_i hA
          exact .a ⟨rfl, fun h => h.elim hne fun z => by rw [hA] at z; cases z⟩
      · rename_i hY _
        rw [Bool.false_xor] at hY
        have he := of_decide_eq_true hY
        have e0 : optIn g r s e fe sp = [] := by unfold optIn; rw [if_pos (.inl (by omega))]
        exact ws_cont (.a (by rw [oi, e0, List.append_nil]; exact ⟨_, _, _, _, _, _, _, _, _, rfl⟩))
    rintro G ⟨rfl, hskip⟩
    refine ws_seq ?_
    walk_at "gx"
    refine .a ⟨g, r, s, e, fe, rfl, h1, h2, by omega, by omega, ?_⟩
    walk_at "gx"
    let part (m : Nat) : List Opt := O ++ ((sp.take m).filter fun x => decide (x.hi ≤ roomOf g r s e fe)).map (optOf g r s e fe)
    have p0 : part 0 = O := by simp [part]
    refine for_accT (k := 4) sp Sp.dt (fun m G => ∃ s11 s12 s13 s14 s15, G = [.val (smD c g), .val (frD F r), .val (.tup [.int s.line, .int s.fl, .tup (s.ages.map Dt.int)]), .val (.int e), .acc (sp.map Sp.dt), .val (.tup [.int g.length, .int (flo g).length, .tup []]), .acc ((part m).map Opt.dt), .val (.int fe), .val (.tup ((agesOf g s e fe).map Dt.int)), .val (.tup [.int e, .int fe, .tup ((agesOf g s e fe).map Dt.int)]), .val (.int (roomOf g r s e fe)), s11, s12, s13, s14, s15, .un]) rfl ⟨_, _, _, _, _, by rw [p0]⟩ (by rintro m G ⟨s11, s12, s13, s14, s15, rfl⟩; rfl) ?_ ?_
    · rintro m x G hx ⟨s11, s12, s13, s14, s15, rfl⟩
      have hxs := List.mem_of_getElem? hx
      have b1 := h4 _ hxs
      have b2 := h5 fe (by omega) (by omega) _ hxs
      obtain ⟨p, hi, df⟩ := x
      show WG K [4, 4] _ (.tup [.int p, .int hi, .int df]) _ _
      have b11 : 0 ≤ df := b1.1
      have b12 : df < 1000000000 := b1.2
      have b22 : roomOf g r s e fe - hi < 1000000 := b2
      have hlm : ((agesOf g s e fe).map Dt.int).length = (agesOf g s e fe).length := List.length_map _
      have tk : sp.take (m + 1) = sp.take m ++ [⟨p, hi, df⟩] := by rw [List.take_succ, hx]; rfl
      have hpl : ((part m).map Opt.dt).length < 1000000 := by
        rw [List.length_map]
        show (O ++ ((sp.take m).filter _).map _).length < 1000000
        rw [List.length_append, List.length_map]
        have := List.length_filter_le (fun x : Sp => decide (x.hi ≤ roomOf g r s e fe)) (sp.take m)
        rw [List.length_take] at this
        omega
      walk_at "gi"
      · rename_i hY
        have ps : part (m + 1) = part m ++ [optOf g r s e fe ⟨p, hi, df⟩] := by
          show O ++ ((sp.take (m + 1)).filter _).map _ = O ++ ((sp.take m).filter _).map _ ++ _
          rw [tk, List.filter_append, List.map_append, List.filter_cons_of_pos (by exact decide_eq_true hY), List.append_assoc]; rfl
        refine eqp_sta (s := ⟨e, fe, agesOf g s e fe⟩) (t := goalOf g) ?_
        rw [Bool.false_xor]
        have fin : ∀ sl : Int, (if (⟨e, fe, agesOf g s e fe⟩ : Sta) = goalOf g then 0 else roomOf g r s e fe - hi) = sl → (part m).map Opt.dt ++ [Dt.tup [.int e, .int fe, .int p, .int (priceOf r sl df ((agesOf g s e fe).map Dt.int).length), .tup [.int e, .int fe, .tup ((agesOf g s e fe).map Dt.int)]]] = (part (m + 1)).map Opt.dt := fun sl hsl => by
          have hma : (part m ++ [optOf g r s e fe ⟨p, hi, df⟩]).map Opt.dt = (part m).map Opt.dt ++ [(optOf g r s e fe ⟨p, hi, df⟩).dt] := List.map_append
          rw [ps, hma, hlm, ← hsl]; rfl
        walk_at "gi"
        · rename_i hG
          refine .a ⟨r, 0, df, _, rfl, by omega, ⟨by omega, by omega⟩, ⟨b11, b12⟩, ?_⟩
          walk_at "gx"
          exact .a (by rw [← fin 0 (by rw [if_pos hG])]; exact ⟨_, _, _, _, _, rfl⟩)
        · rename_i hG
          refine .a ⟨r, _, df, _, rfl, ⟨by omega, b22⟩, ⟨by omega, by omega⟩, ⟨b11, b12⟩, ?_⟩
          walk_at "gx"
          exact .a (by rw [← fin (roomOf g r s e fe - hi) (by rw [if_neg hG])]; exact ⟨_, _, _, _, _, rfl⟩)
      · rename_i hY
        have ps : part (m + 1) = part m := by
          show O ++ ((sp.take (m + 1)).filter _).map _ = O ++ ((sp.take m).filter _).map _
          have hn : decide (hi ≤ roomOf g r s e fe) = false := decide_eq_false hY
          rw [tk, List.filter_append, List.map_append, List.filter_cons_of_neg (by show ¬ decide (hi ≤ roomOf g r s e fe) = true; rw [hn]; exact Bool.false_ne_true)]
          simp
        exact .a (by rw [ps]; exact ⟨_, _, _, _, _, rfl⟩)
    · rintro G ⟨s11, s12, s13, s14, s15, rfl⟩
      have e0 : part sp.length = O ++ optIn g r s e fe sp := by
        unfold optIn
        rw [if_neg hskip]
        show O ++ ((sp.take sp.length).filter _).map _ = _
        rw [List.take_length]
      exact .a (by rw [oi, ← e0]; exact ⟨_, _, _, _, _, _, _, _, _, rfl⟩)
  · rintro G ⟨s7, s8, s9, s10, s11, s12, s13, s14, s15, rfl⟩
    have e2 : (((mk g e + 1 : Nat) : Int) - (s.fl : Int)).toNat = mk g e + 1 - s.fl := by omega
    rw [e2]
    walk_at "go"
    exact k
end
end
section
open PySem L2 Ab
structure GB (g : List Ln) : Prop where
  ok : Gok g
  nn : ∀ l ∈ g, 0 ≤ l.h ∧ 0 ≤ l.sp ∧ (∀ n ∈ l.notes, 0 ≤ n) ∧ ∀ x ∈ l.fl, 0 ≤ x
structure FB (r : Fr) : Prop where
  h0 : 0 ≤ r.height
  h1 : r.height ≤ 100000
  rule : 0 ≤ r.rule
  under : 0 ≤ r.under
theorem sum_nn : ∀ {xs : List Int}, (∀ x ∈ xs, 0 ≤ x) → 0 ≤ xs.sum
  | [], _ => by simp
  | x :: r, h => by
    rw [List.sum_cons]
    have := h x List.mem_cons_self
    have := sum_nn (xs := r) fun y hy => h y (List.mem_cons_of_mem _ hy)
    omega
theorem sumTo_step {f : Ln → Int} {g : List Ln} {k : Nat} {l : Ln} (h : g[k]? = some l) : sumTo f g (k + 1) = sumTo f g k + f l := by
  unfold sumTo
  have ht : g.take (k + 1) = g.take k ++ [l] := by rw [List.take_succ, h]; rfl
  rw [ht, List.map_append, List.sum_append]; simp
theorem sumTo_mono {f : Ln → Int} {g : List Ln} (hf : ∀ l ∈ g, 0 ≤ f l) {a b : Nat} (h : a ≤ b) : sumTo f g a ≤ sumTo f g b := by
  unfold sumTo
  have e : g.take b = g.take a ++ (g.take b).drop a := by
    have := (List.take_append_drop a (g.take b)).symm
    rwa [List.take_take, Nat.min_eq_left h] at this
  rw [e, List.map_append, List.sum_append]
  have := sum_nn (xs := ((g.take b).drop a).map f) fun x hx => by
    obtain ⟨l, hl, rfl⟩ := List.mem_map.mp hx
    exact hf l (List.mem_of_mem_take (List.mem_of_mem_drop hl))
  omega
theorem colH_nn {g : List Ln} (h : GB g) {a b : Nat} (hab : a ≤ b) (hb : b ≤ g.length) : 0 ≤ colH g a b := by
  unfold colH
  split
  · exact Int.le_refl _
  · rename_i hne
    obtain ⟨l, hl⟩ : ∃ l, g[a]? = some l := ⟨g[a]'(by omega), List.getElem?_eq_getElem (by omega)⟩
    have h1 := sumTo_step (f := fh) hl
    have hf : ∀ l ∈ g, 0 ≤ fh l := fun l hl => by have := h.nn l hl; unfold fh; omega
    have h2 := sumTo_mono hf (show a + 1 ≤ b by omega)
    have h3 := h.nn l (List.mem_of_getElem? hl)
    have h4 : spAt g a = l.sp := by unfold spAt; rw [hl]; rfl
    rw [h4]
    unfold fh at h1 h2
    show 0 ≤ sumTo fh g b - sumTo fh g a - l.sp
    unfold fh
    omega
theorem room_le {g : List Ln} (h : GB g) {r : Fr} (hr : FB r) {s : Sta} {e fe : Nat} (hs : s.line ≤ e) : roomOf g r s e fe ≤ r.height := by
  unfold roomOf
  have hf : ∀ l ∈ g, 0 ≤ fn l := fun l hl => sum_nn (h.nn l hl).2.2.1
  have h1 := sumTo_mono hf hs
  have h2 : 0 ≤ (((flo g).drop s.fl).take (fe - s.fl)).sum := sum_nn fun x hx => by
    have := List.mem_of_mem_drop (List.mem_of_mem_take hx)
    unfold flo at this
    obtain ⟨l, hl, hx⟩ := List.mem_flatMap.mp this
    exact (h.nn l hl).2.2.2 x hx
  have h3 := hr.rule
  have h4 := hr.under
  split <;> split <;> omega
theorem spl_mem {g : List Ln} (h : GB g) {r : Fr} (hr : FB r) {line e : Nat} (hle : line ≤ e) (he : e ≤ g.length) {x : Sp} (hx : x ∈ spl g r line e) : 0 ≤ x.df ∧ x.df < 1000000000 ∧ 0 ≤ x.hi := by
  unfold spl at hx
  obtain ⟨hm, hc⟩ := List.mem_filter.mp hx
  obtain ⟨p, hp, rfl⟩ := List.mem_map.mp hm
  have hpl := pl_mem hle hp
  have h1 := colH_nn h hpl.1 (by omega)
  have h2 := colH_nn h hpl.2 he
  have hc : (spOf g line e p).hi ≤ r.height := of_decide_eq_true hc
  have h3 := hr.h1
  unfold spOf mx ab at *
  simp only at *
  split at hc <;> split <;> (first | omega | (split <;> omega))
theorem spl_len (g : List Ln) (r : Fr) (line e : Nat) : (spl g r line e).length ≤ e + 1 := by
  unfold spl
  refine Nat.le_trans (List.length_filter_le _ _) ?_
  rw [List.length_map]; exact pl_len
theorem take_rng {a n i : Nat} (h : i ≤ n) : (List.range' a n).take i = List.range' a i := by
  have : List.range' a n = List.range' a i ++ List.range' (a + i) (n - i) := by rw [List.range'_append_1]; congr 1; omega
  rw [this, List.take_left' (by rw [List.length_range'])]
def endOf (g : List Ln) (r : Fr) (s : Sta) (e : Nat) : List Opt := if e = s.line ∨ e = g.length ∨ cutAt g e = true then optsTo g r s e (spl g r s.line e) else []
def goes (g : List Ln) (r : Fr) (s : Sta) (e : Nat) : Bool := decide (0 < (spl g r s.line e).length)
def optsFrom (g : List Ln) (r : Fr) (s : Sta) : List Opt := ((List.range' s.line (g.length + 1 - s.line)).takeWhile (goes g r s)).flatMap (endOf g r s)
theorem takeWhile_to {α : Type} (p : α → Bool) : ∀ (xs : List α) (i : Nat), (∀ k x, k < i → xs[k]? = some x → p x = true) → (∀ x, xs[i]? = some x → p x = false) → xs.takeWhile p = xs.take i
  | [], i, _, _ => by simp
  | x :: r, 0, _, h => by rw [List.takeWhile_cons, h x rfl]; rfl
  | x :: r, i + 1, h1, h2 => by
    rw [List.takeWhile_cons, h1 0 x (by omega) rfl, List.take_succ_cons, takeWhile_to p r i (fun k y hk hy => h1 (k + 1) y (by omega) (by simpa using hy)) (fun y hy => h2 y (by simpa using hy))]
    rfl
section
variable {K : PySem.W.Frag} {c F : Addr}
theorem optsTo_len (g : List Ln) (hg : Gok g) (r : Fr) (s : Sta) (e : Nat) (sp : List Sp) (h : sp.length ≤ 71) : (optsTo g r s e sp).length ≤ 13 * 71 := by
  unfold optsTo
  have := flat_len (fun fe => optIn g r s e fe sp) 71 (fun x => Nat.le_trans (optIn_len g r s e x sp) h) (List.range' s.fl (mk g e + 1 - s.fl))
  rw [List.length_range'] at this
  have h2 := mk_le g e
  have h3 := hg.f
  refine Nat.le_trans this (Nat.mul_le_mul_right _ (by omega))
def ap_of (c F : Addr) : AP := fun as Post => ∃ (g : List Ln) (r : Fr) (s : Sta), as = [.val (smD c g), .val (frD F r), .val s.dt] ∧ GB g ∧ FB r ∧ s.line ≤ g.length ∧ s.fl ≤ (flo g).length ∧ Post (.new ((optsFrom g r s).map Opt.dt)) as
theorem run_of (T : GSok K c) (U : FRok K F) : RunOk K [] (tq_options_from K (ap_cs c F) (ap_to c F)) 7 (ap_of c F) := by
  rintro as Post ⟨g, r, s, rfl, hg, hr, h1, h2, k⟩
  have t0 := T.cl.cl
  have t1 := T.lines
  have t2 := T.cuts
  have hgn := hg.ok.n
  have hgf := hg.ok.f
  unfold tq_options_from
  show WS K [] _ [.val (smD c g), .val (frD F r), .val (.tup [.int s.line, .int s.fl, .tup (s.ages.map Dt.int)]), .un, .un, .un, .un] _
  refine ws_seq ?_
  walk_at "gx"
  refine ws_seq ?_
  walk_at "gx"
  refine ws_seq ?_
  let opts (i : Nat) : List Opt := (List.range' s.line i).flatMap (endOf g r s)
  have os : ∀ i, opts (i + 1) = opts i ++ endOf g r s (s.line + i) := fun i => by
    show (List.range' s.line (i + 1)).flatMap _ = _
    rw [List.range'_concat, List.flatMap_append]; simp [opts]
  have elen : ∀ e, e ≤ g.length → (endOf g r s e).length ≤ 13 * 71 := fun e he => by
    unfold endOf
    split
    · exact optsTo_len g hg.ok r s e _ (Nat.le_trans (spl_len g r s.line e) (by omega))
    · exact Nat.zero_le _
  have ol : ∀ i, s.line + i ≤ g.length + 1 → (opts i).length ≤ i * (13 * 71) := fun i => by
    induction i with
    | zero => intro _; simp [opts]
    | succ i ih =>
      intro hi
      rw [os, List.length_append, Nat.succ_mul]
      have := ih (by omega)
      have := elen (s.line + i) (by omega)
      omega
  -- where it stops
  have fin : ∀ i, s.line + i ≤ g.length + 1 → (∀ m, m < i → goes g r s (s.line + m) = true) → (s.line + i = g.length + 1 ∨ goes g r s (s.line + i) = false) → opts i = optsFrom g r s := fun i hi ha hb => by
    unfold optsFrom
    have : (List.range' s.line (g.length + 1 - s.line)).takeWhile (goes g r s) = (List.range' s.line (g.length + 1 - s.line)).take i := by
      refine takeWhile_to _ _ i (fun m x hm hx => ?_) (fun x hx => ?_)
      · rw [List.getElem?_range' (by omega)] at hx
        cases hx
        have := ha m hm
        simpa using this
      · rcases hb with hb | hb
        · rw [List.getElem?_eq_none (by rw [List.length_range']; omega)] at hx; cases hx
        · have hlt := (List.getElem?_eq_some_iff.mp hx).1
          rw [List.length_range'] at hlt
          rw [List.getElem?_range' (by omega)] at hx
          cases hx
          simpa using hb
    rw [this, take_rng (by omega)]
  refine for_range2 s.line (g.length + 1 : Nat) (fun i G => (∃ s5 s6, G = [.val (smD c g), .val (frD F r), .val (.tup [.int s.line, .int s.fl, .tup (s.ages.map Dt.int)]), .val (.int s.line), .acc ((opts i).map Opt.dt), s5, s6]) ∧ ∀ m, m < i → goes g r s (s.line + m) = true) ?_ ?_ ?_
  · walk_at "gx"
    exact .a ⟨rfl, by omega, ⟨_, _, rfl⟩, fun m hm => absurd hm (by omega)⟩
  · rintro i G hi ⟨⟨s5, s6, rfl⟩, hall⟩
    have hi' : s.line + i ≤ g.length := by omega
    have oi := os i
    have oll := ol i (by omega)
    have fi := fin i (by omega) hall
    have ec : (s.line : Int) + (i : Int) = ((s.line + i : Nat) : Int) := by omega
    rw [ec]
    walk_at "gx"
    refine ws_seq ?_
    walk_at "gx"
    refine .a ⟨g, r, s.line, s.line + i, rfl, by omega, hi', by omega, ?_⟩
    walk_at "gx"
    have hsl := spl_len g r s.line (s.line + i)
    have hsm : ((spl g r s.line (s.line + i)).map Sp.dt).length = (spl g r s.line (s.line + i)).length := List.length_map _
    refine ws_cut (fun G => G = [.val (smD c g), .val (frD F r), .val (.tup [.int s.line, .int s.fl, .tup (s.ages.map Dt.int)]), .val (.int s.line), .acc ((opts i).map Opt.dt), .val (.int (s.line + i : Nat)), .acc ((spl g r s.line (s.line + i)).map Sp.dt)] ∧ goes g r s (s.line + i) = true) ?_ ?_
    · walk_at "gi"
      · rename_i hY
        have hz : goes g r s (s.line + i) = false := by unfold goes; exact decide_eq_false (by omega)
        refine ws_brk ?_
        rw [fi (.inr hz)]
        walk_at "go"
        exact k
      · rename_i hY
        exact .a ⟨rfl, by unfold goes; exact decide_eq_true (by omega)⟩
    rintro G ⟨rfl, hgo⟩
    have hall' : ∀ m, m < i + 1 → goes g r s (s.line + m) = true := fun m hm => by
      by_cases e : m = i
      · rw [e]; exact hgo
      · exact hall m (by omega)
    have ext : (s.line + i = s.line ∨ s.line + i = g.length ∨ cutAt g (s.line + i) = true) → WE K (tBM K "list" rExtend (tVar 4) (tCons (tCall (toSp K (ap_to c F)) [] E0 (tCons (tVar 0) (tCons (tVar 1) (tCons (tVar 2) (tCons (tVar 5) (tCons (tVar 6) tNil)))))) tNil)) [.val (smD c g), .val (frD F r), .val (.tup [.int s.line, .int s.fl, .tup (s.ages.map Dt.int)]), .val (.int s.line), .acc ((opts i).map Opt.dt), .val (.int (s.line + i : Nat)), .acc ((spl g r s.line (s.line + i)).map Sp.dt)]
        (fun _ G => Hold ((∃ s5 s6, G = [.val (smD c g), .val (frD F r), .val (.tup [.int s.line, .int s.fl, .tup (s.ages.map Dt.int)]), .val (.int s.line), .acc ((opts (i + 1)).map Opt.dt), s5, s6]) ∧ ∀ m, m < i + 1 → goes g r s (s.line + m) = true)) := fun hc => by
      refine we_extend rfl ?_
      walk_at "gx"
      refine .a ⟨g, r, s, s.line + i, _, rfl, hg.ok, h1, hi', by omega, h2, fun x hx => ?_, fun fe _ _ x hx => ?_, ?_⟩
      · have := spl_mem hg hr (by omega) hi' hx
        exact ⟨this.1, this.2.1⟩
      · have h3 := spl_mem hg hr (by omega) hi' hx
        have h4 := room_le (fe := fe) hg hr (s := s) (e := s.line + i) (by omega)
        have h5 := hr.h1
        omega
      walk_at "gx"
      have ee : endOf g r s (s.line + i) = optsTo g r s (s.line + i) (spl g r s.line (s.line + i)) := by unfold endOf; rw [if_pos hc]
      have ool := optsTo_len g hg.ok r s (s.line + i) (spl g r s.line (s.line + i)) (by omega)
      refine ⟨_, _, rfl, rfl, rfl, ?_, ?_⟩
      · rw [List.length_map, List.length_map]; omega
      · refine .a ⟨⟨.val (.int (s.line + i : Nat)), .acc ((spl g r s.line (s.line + i)).map Sp.dt), ?_⟩, hall'⟩
        rw [oi, ee, List.map_append]; rfl
    have non : ¬ (s.line + i = s.line ∨ s.line + i = g.length ∨ cutAt g (s.line + i) = true) → opts (i + 1) = opts i := fun hc => by
      rw [oi]; unfold endOf; rw [if_neg hc, List.append_nil]
    walk_at "gi"
    all_goals first
      | (rename_i hA hB; exact ext (.inr (.inl (by omega))))
      | (rename_i hA; exact ext (.inl (by omega)))
      | skip
    rename_i hA hB
    have hlt : s.line + i < g.length := by omega
    obtain ⟨l, hl⟩ : ∃ l, g[s.line + i]? = some l := ⟨g[s.line + i], List.getElem?_eq_getElem hlt⟩
    have hcut : cutAt g (s.line + i) = l.cut := by unfold cutAt; rw [hl]; rfl
    refine ixp rfl (at_mapI (c := fun l : Ln => Dt.bl l.cut) rfl hl) ?_
    walk_at "gi"
    · rename_i hC
      exact ext (.inr (.inr (by rw [hcut]; exact hC)))
    · rename_i hC
      refine .a ⟨⟨.val (.int (s.line + i : Nat)), .acc ((spl g r s.line (s.line + i)).map Sp.dt), ?_⟩, hall'⟩
      rw [non (fun h => by
        rcases h with h | h | h
        · omega
        · omega
        · rw [hcut, hC] at h; cases h)]
  · rintro G ⟨⟨s5, s6, rfl⟩, hall⟩
    have e2 : (((g.length + 1 : Nat) : Int) - (s.line : Int)).toNat = g.length + 1 - s.line := by omega
    rw [e2] at hall
    rw [e2, fin (g.length + 1 - s.line) (by omega) hall (.inl (by omega))]
    walk_at "go"
    exact k
end
end
section
open PySem L2 Ab
def Pool4Up (b : Int) (ds : List Dt) : Prop := ∃ c, Pool4 c ds ∧ 0 ≤ c ∧ c ≤ b
theorem Pool4.up {ds : List Dt} {c b : Int} (h : Pool4 c ds) (h0 : 0 ≤ c) (hb : c ≤ b) : Pool4Up b ds := ⟨c, h, h0, hb⟩
theorem Pool4Up.mono {ds : List Dt} {a b : Int} (h : Pool4Up a ds) (hb : a ≤ b) : Pool4Up b ds := by obtain ⟨c, h1, h2, h3⟩ := h; exact ⟨c, h1, h2, by omega⟩
theorem tk4 {ds : List Dt} {b n : Int} {Post : Re → List Sl → Prop} (h : Pool4Up b ds) (hb : b < 900000000) (hn : 0 < n) (hn2 : n < 18446744073709551616) (k : ∀ ds' g, Pool4Up (b + 1) ds' → 0 ≤ g → g < n → Post (.val (.int g)) [.acc ds', .val (.int n)]) : ap_take4 [.acc ds, .val (.int n)] Post := by
  obtain ⟨c, h1, h2, h3⟩ := h
  exact ⟨ds, c, n, rfl, h1, h2, by omega, hn, hn2, fun ds' g h' g0 g1 => k ds' g ⟨c + 1, h', by omega, by omega⟩ g0 g1⟩
inductive SPool4 (b : Int) : STy where
  | mk {ds : List Dt} (h : Pool4Up b ds) : SPool4 b (.cel (.lst ds))
def tq_ranges (K : PySem.W.Frag) (ap__law_take : AP) : TS :=
    (tSeq (tAsg (tLst (tCons (tC (.int 15)) (tCons (tC (.int 10)) (tCons (tC (.int 20)) (tCons (tC (.int 30)) (tCons (tC (.int 10)) (tCons (tC (.int 70)) (tCons (tC (.int 6)) (tCons (tC (.int 61)) (tCons (tC (.int 4)) tNil)))))))))) (gName 1))
    (tSeq (tAsg (tLst (tCons (tC (.int 2)) (tCons (tC (.int 2)) (tCons (tC (.int 2)) (tCons (tC (.int 3)) (tCons (tC (.int 1)) (tCons (tC (.int 9)) (tCons (tC (.int 2)) (tCons (tC (.int 3)) (tCons (tC (.int 3)) tNil)))))))))) (gName 2))
    (tSeq (tAsg (tLst (tCons (tC (.int 99)) (tCons (tC (.int 100)) (tCons (tC (.int 2000)) (tCons (tC (.int 2000)) (tCons (tC (.int 1)) (tCons (tC (.int 5000)) (tCons (tC (.int 201)) (tCons (tC (.int 10000)) (tCons (tC (.int 100)) tNil)))))))))) (gName 3))
    (tRet (tOp (rIx K) (tLst (tCons (tVar 1) (tCons (tVar 1) (tCons (tVar 3) (tCons (tVar 1) (tCons (tVar 2) (tCons (tVar 2) (tCons (tVar 1) (tCons (tVar 2) tNil))))))))) (tCall (toSp K ap__law_take) [] E0 (tCons (tVar 0) (tCons (tC (.int 8)) tNil))))))))
def tq_frame_key (K : PySem.W.Frag) (ap__law_take : AP) : TS :=
    (tSeq (tAsg (tOp (rAddG K) (tOp (rIx K) (tVar 1) (tC (.int 4))) (tCall (toSp K ap__law_take) [] E0 (tCons (tVar 0) (tCons (tOp (rIx K) (tVar 1) (tC (.int 5))) tNil)))) (gName 2))
    (tSeq (tAsg (tOp (rAddG K) (tC (.int 1)) (tCall (toSp K ap__law_take) [] E0 (tCons (tVar 0) (tCons (tC (.int 2)) tNil)))) (gName 3))
    (tSeq (tAsg (tCall (toSp K ap__law_take) [] E0 (tCons (tVar 0) (tCons (tOp (rIx K) (tVar 1) (tC (.int 6))) tNil))) (gName 4))
    (tSeq (tAsg (tCall (toSp K ap__law_take) [] E0 (tCons (tVar 0) (tCons (tOp (rIx K) (tVar 1) (tC (.int 6))) tNil))) (gName 5))
    (tSeq (tAsg (tCall (toSp K ap__law_take) [] E0 (tCons (tVar 0) (tCons (tC (.int 4)) tNil))) (gName 6))
    (tSeq (tAsg (tCall (toSp K ap__law_take) [] E0 (tCons (tVar 0) (tCons (tOp (rIx K) (tVar 1) (tC (.int 7))) tNil))) (gName 7))
    (tRet (tTup (tCons (tVar 2) (tCons (tVar 3) (tCons (tVar 4) (tCons (tVar 5) (tCons (tVar 6) (tCons (tVar 7) (tCons (tCall (toSp K ap__law_take) [] E0 (tCons (tVar 0) (tCons (tOp (rIx K) (tVar 1) (tC (.int 8))) tNil))) tNil)))))))))))))))
def tq_frame (K : PySem.W.Frag) (c_Frame : Addr) (ap_Frame_of : AP) (ai_Frame : AI) : TS :=
    (tSeq (tIfS (tTest (tOp (rEqG K) (tVar 1) (tC (.int 1)))) (tRet (tSMeth c_Frame (toSp K ap_Frame_of) E0 (tC (.ref c_Frame)) (tCons (tVar 0) tNil))) tNext)
    (tRet (tMakeK c_Frame 1 6 (toSpI K c_Frame ai_Frame) (fun (vs zs : List V) => pick (0 :: upO ([0, 1, 2, 3, 4, 5, 6] : List Nat)) (vs ++ ([] : List V) ++ zs)) E0 (tCons (tOp (rIx K) (tVar 0) (tC (.int 0))) tNil) (tCons (tOp (rIx K) (tVar 0) (tC (.int 1))) (tCons (tOp (rIx K) (tVar 0) (tC (.int 2))) (tCons (tOp (rIx K) (tVar 0) (tC (.int 3))) (tCons (tOp (rIx K) (tVar 0) (tC (.int 4))) (tCons (tOp (rIx K) (tVar 0) (tC (.int 5))) (tCons (tOp (rIx K) (tVar 0) (tC (.int 6))) tNil)))))))))
def tq_heights (K : PySem.W.Frag) (ap__law_take : AP) : TS :=
    (tRet (tCB (rTupleOf K) (tCons (tLc (iRng1 (tCons (tVar 1) tNil)) (gName 3) tYes (tOp (rAddG K) (tC (.int 1)) (tCall (toSp K ap__law_take) [] E0 (tCons (tVar 0) (tCons (tVar 2) tNil)))) [3]) tNil)))
end
local macro_rules | `(tactic| walk_at "cs") => `(tactic| repeat (first
  | cases ‹EnvT (_ :: _) _›
  | cases ‹EnvT [] _›
  | cases ‹SAny _›
  | cases ‹SIs _ _›
  | cases ‹SVal _ _›
  | cases ‹SAcc _ _ _ _›
  | cases ‹SPool4 _ _›
  | cases ‹SPool _ _›
  | cases ‹RVal _ _›
  | cases ‹RNew _ _ _ _›
  | cases ‹TIs _ _›
  | cases ‹TInt _ _ _›
  | cases ‹TBl _›
  | cases ‹TStr _ _ _›
  | cases ‹TNm _ _ _›
  | cases ‹T1 _ _›
  | cases ‹T2 _ _ _›
  | cases ‹T3 _ _ _ _›
  | cases ‹T4 _ _ _ _ _›
  | cases ‹TTs _ _ _ _›
  | cases ‹TLs _ _ _ _›))
section
open PySem L2 Ab
end
local macro_rules | `(tactic| walk_at "ty") => `(tactic| first
  | exact SPool4.mk (by assumption)
  | exact SPool4.mk (Pool4Up.mono (by assumption) (by omega))
  | fail "ty8")
section
open PySem L2 Ab
end
local macro_rules | `(tactic| walk_at "tk") => `(tactic| refine .a (tk4 (by assumption) (by omega) (by omega) (by omega) fun _ _ _ _ _ => ?_))
section
open PySem L2 Ab
structure Sc where
  xs : List Int
  ok : xs = [15, 10, 20, 30, 10, 70, 6, 61, 4] ∨ xs = [2, 2, 2, 3, 1, 9, 2, 3, 3] ∨ xs = [99, 100, 2000, 2000, 1, 5000, 201, 10000, 100]
abbrev Sc.dt (s : Sc) : Dt := .lst (s.xs.map Dt.int)
inductive TSc : Ty where
  | mk {s : Sc} : TSc s.dt
theorem Sc.at_ (s : Sc) : ∃ a0 a1 a2 a3 a4 a5 a6 a7 a8 : Int, s.xs = [a0, a1, a2, a3, a4, a5, a6, a7, a8] ∧ (2 ≤ a0 ∧ a0 ≤ 99) ∧ (2 ≤ a1 ∧ a1 ≤ 100) ∧ (2 ≤ a2 ∧ a2 ≤ 2000) ∧ (3 ≤ a3 ∧ a3 ≤ 2000) ∧ (1 ≤ a4 ∧ a4 ≤ 10) ∧ (9 ≤ a5 ∧ a5 ≤ 5000) ∧ (2 ≤ a6 ∧ a6 ≤ 201) ∧ (3 ≤ a7 ∧ a7 ≤ 10000) ∧ (3 ≤ a8 ∧ a8 ≤ 100 ∧ a4 + a5 ≤ 5001) := by
  rcases s.ok with h | h | h <;> exact ⟨_, _, _, _, _, _, _, _, _, h, by decide, by decide, by decide, by decide, by decide, by decide, by decide, by decide, by decide⟩
section
variable {K : PySem.W.Frag} {c F : Addr}
def ap_rg : AP := fun as Post => ∃ (b : Int), EnvT [SPool4 b] as ∧ (b ≤ 100000) ∧ ∀ r as', RVal TSc r → EnvT [SPool4 (b + 1)] as' → Post r as'
theorem run_rg : RunOk K [0] (tq_ranges K ap_take4) 4 ap_rg := by
  rintro as Post ⟨b, he, ho, k⟩
  walk_at "cs"
  unfold tq_ranges
  refine ws_norm (by walk_at "norm") ?_
  refine ws_seq ?_
  walk_at "gx"
  refine ws_frz 1 rfl ?_
  refine ws_norm (by walk_at "norm") ?_
  refine ws_seq ?_
  walk_at "gx"
  refine ws_frz 2 rfl ?_
  refine ws_norm (by walk_at "norm") ?_
  let p : Sc := ⟨[15, 10, 20, 30, 10, 70, 6, 61, 4], .inl rfl⟩
  let u : Sc := ⟨[2, 2, 2, 3, 1, 9, 2, 3, 3], .inr (.inl rfl)⟩
  let w : Sc := ⟨[99, 100, 2000, 2000, 1, 5000, 201, 10000, 100], .inr (.inr rfl)⟩
  refine ws_cut (fun G => EnvT [SPool4 b, SIs (.val p.dt), SIs (.val u.dt), SIs (.acc (w.xs.map Dt.int))] G) ?_ ?_
  · walk_at "gx"
    exact .a (by walk_at "ty")
  intro G he
  walk_at "cs"
  refine ws_frz 3 rfl ?_
  refine ws_norm (by walk_at "norm") ?_
  walk_at "gx"
  rename_i ds g hp g0 g1
  refine ixp_kT (ds := [p.dt, p.dt, w.dt, p.dt, u.dt, u.dt, p.dt, u.dt]) (A := TSc) rfl (by omega) (by show g < 8; omega) (all_cons .mk (all_cons .mk (all_cons .mk (all_cons .mk (all_cons .mk (all_cons .mk (all_cons .mk (all_cons .mk all_nil)))))))) fun d hd => ?_
  walk_at "gx"
  exact k _ _ (.mk hd) (by walk_at "ty")
structure KO (r : Fr) : Prop where
  h : 1 ≤ r.height ∧ r.height ≤ 5000
  c : r.cols = 1 ∨ r.cols = 2
  rule : 0 ≤ r.rule ∧ r.rule ≤ 201
  under : 0 ≤ r.under ∧ r.under ≤ 201
  wait : 0 ≤ r.wait ∧ r.wait ≤ 3
  late : 0 ≤ r.late ∧ r.late ≤ 10000
  uneven : 0 ≤ r.uneven ∧ r.uneven ≤ 100
abbrev keyD (r : Fr) : Dt := .tup [.int r.height, .int r.cols, .int r.rule, .int r.under, .int r.wait, .int r.late, .int r.uneven]
inductive TKey : Ty where
  | mk {r : Fr} (h : KO r) : TKey (keyD r)
def ap_fk : AP := fun as Post => ∃ (b : Int) (s : Sc), EnvT [SPool4 b, SIs (.val s.dt)] as ∧ (b ≤ 100000) ∧ ∀ r as', RVal TKey r → EnvT [SPool4 (b + 7), SAny] as' → Post r as'
theorem run_fk : RunOk K [0] (tq_frame_key K ap_take4) 8 ap_fk := by
  rintro as Post ⟨b, s, he, ho, k⟩
  obtain ⟨a0, a1, a2, a3, a4, a5, a6, a7, a8, hs, h0, h1, h2, h3, h4, h5, h6, h7, h8⟩ := s.at_
  unfold Sc.dt at he
  rw [hs] at he
  walk_at "cs"
  unfold tq_frame_key
  refine ws_norm (by walk_at "norm") ?_
  walk_at "go"
  rename_i d1 t1 p1 t10 t11 d2 t2 p2 t20 t21 d3 t3 p3 t30 t31 d4 t4 p4 t40 t41 d5 t5 p5 t50 t51 d6 t6 p6 t60 t61 d7 t7 p7 t70 t71
  refine k _ _ (.mk (.mk (r := ⟨a4 + t1, 1 + t2, t3, t4, t5, t6, t7⟩) ⟨?_, ?_, ?_, ?_, ?_, ?_, ?_⟩)) (by walk_at "ty")
  all_goals simp only
  all_goals omega
def ap_hs : AP := fun as Post => ∃ (b n m : Int), EnvT [SPool4 b, SVal (TIs (.int n)), SVal (TIs (.int m))] as ∧ (b ≤ 200000 ∧ 0 ≤ n ∧ n ≤ 1000 ∧ 1 ≤ m ∧ m ≤ 2000) ∧ ∀ r as', RVal (TTs (TInt 1 2000) n.toNat n.toNat) r → EnvT [SPool4 (b + n), SAny, SAny] as' → Post r as'
theorem run_hs : RunOk K [0] (tq_heights K ap_take4) 4 ap_hs := by
  rintro as Post ⟨b, n, m, he, ho, k⟩
  walk_at "cs"
  unfold tq_heights
  refine ws_norm (by walk_at "norm") ?_
  walk_at "go"
  refine lc_range1H ?_
  walk_at "go"
  refine .a ⟨n.toNat, by rw [Int.toNat_of_nonneg (by omega)], by omega, rfl, rfl, fun i es G => EnvT [SPool4 (b + i), SIs (.val (.int n)), SIs (.val (.int m)), SIs .un] G ∧ es.length = i ∧ ∀ d ∈ es, TInt 1 2000 d, ?_, ?_, ?_⟩
  · exact ⟨by walk_at "ty", rfl, all_nil⟩
  · rintro i es G hi ⟨he, hl, ha⟩
    walk_at "cs"
    walk_at "go"
    exact .a ⟨by walk_at "ty", by walk_at "ln", by walk_at "ty"⟩
  · rintro es G ⟨he, hl, ha⟩
    walk_at "cs"
    walk_at "go"
    exact k _ _ (.mk (.mk (by omega) (by omega) ha)) (by walk_at "ty")
theorem ints_of {lo hi : Int} : ∀ {ds : List Dt}, (∀ d ∈ ds, TInt lo hi d) → ∃ xs : List Int, ds = xs.map Dt.int ∧ ∀ z ∈ xs, lo ≤ z ∧ z ≤ hi
  | [], _ => ⟨[], rfl, (fun _ h => nomatch h)⟩
  | d :: r, h => by
    obtain ⟨xs, e, hx⟩ := ints_of (ds := r) fun y hy => h y (List.mem_cons_of_mem _ hy)
    cases h d List.mem_cons_self with
    | mk h0 h1 =>
      rename_i z
      refine ⟨z :: xs, by rw [e]; rfl, fun y hy => ?_⟩
      rcases List.mem_cons.mp hy with rfl | hy
      · exact ⟨h0, h1⟩
      · exact hx y hy
structure LO (l : Ln) : Prop where
  h : 1 ≤ l.h ∧ l.h ≤ 99
  sp : 0 ≤ l.sp ∧ l.sp ≤ 100
  nl : l.notes.length ≤ 4
  nn : ∀ n ∈ l.notes, 1 ≤ n ∧ n ≤ 2000
  fl : ∀ x ∈ l.fl, 1 ≤ x ∧ x ≤ 2000
end
end
section
open PySem L2 Ab
structure Row where
  k : Nat
  x : Int
def Row.dt (r : Row) : Dt := .tup [.int r.k, .int r.x]
section
variable {K : PySem.W.Frag} {c F : Addr}
end
end
section
open PySem L2 Ab
structure SV (g : List Ln) (s : Sta) : Prop where
  l : s.line ≤ g.length
  f : s.fl ≤ mk g s.line
  a : s.ages.length = mk g s.line - s.fl
theorem mk_mono (g : List Ln) {a b : Nat} (h : a ≤ b) : mk g a ≤ mk g b := by
  unfold mk
  have := flo_le (g.take b) a
  rwa [List.take_take, Nat.min_eq_left h] at this
theorem mem_tw {α : Type} {p : α → Bool} {x : α} : ∀ {xs : List α}, x ∈ xs.takeWhile p → x ∈ xs
  | [], h => by cases h
  | y :: r, h => by
    rw [List.takeWhile_cons] at h
    split at h
    · rcases List.mem_cons.mp h with h | h
      · rw [h]; exact List.mem_cons_self ..
      · exact List.mem_cons_of_mem _ (mem_tw h)
    · cases h
theorem next_ok {g : List Ln} {r : Fr} {s : Sta} (hs : SV g s) {o : Opt} (h : o ∈ optsFrom g r s) : SV g o.nx := by
  unfold optsFrom at h
  obtain ⟨e, he, h⟩ := List.mem_flatMap.mp h
  have he := List.mem_range'_1.mp (mem_tw he)
  have hsl := hs.l
  unfold endOf at h
  split at h
  · obtain ⟨fe, hfe, h⟩ := List.mem_flatMap.mp h
    have hfe := List.mem_range'_1.mp hfe
    have := mk_mono g (show s.line ≤ e by omega)
    have hsf := hs.f
    unfold optIn at h
    split at h
    · cases h
    · obtain ⟨x, _, rfl⟩ := List.mem_map.mp h
      refine ⟨?_, ?_, ?_⟩
      · show e ≤ g.length; omega
      · show fe ≤ mk g e; omega
      · show (agesOf g s e fe).length = mk g e - fe
        unfold agesOf; rw [List.length_map, List.length_range]
  · cases h
theorem start_ok (g : List Ln) : SV g ⟨0, 0, []⟩ := ⟨Nat.zero_le _, Nat.zero_le _, by show 0 = mk g 0 - 0; unfold mk flo; simp⟩
end
section
open PySem L2 Ab
def tq_Frame_of (K : PySem.W.Frag) (c_Frame : Addr) (ai_Frame : AI) : TS :=
    (tSeq (tAsg (tVar 0) (gTup K 7 (gCons (gName 1) (gCons (gName 2) (gCons (gName 3) (gCons (gName 4) (gCons (gName 5) (gCons (gName 6) (gCons (gName 7) gNil)))))))))
    (tRet (tMakeK c_Frame 1 6 (toSpI K c_Frame ai_Frame) (fun (vs zs : List V) => pick (0 :: upO ([0, 1, 2, 3, 4, 5, 6] : List Nat)) (vs ++ ([] : List V) ++ zs)) E0 (tCons (tVar 1) tNil) (tCons (tVar 2) (tCons (tVar 3) (tCons (tVar 4) (tCons (tVar 5) (tCons (tVar 6) (tCons (tVar 7) tNil)))))))))
def ai_Fr : AI := fun ds Post => ∃ e0 e1 e2 e3 e4 e5 e6, ds = [e0, e1, e2, e3, e4, e5, e6] ∧ Post [("height", e0), ("columns", e1), ("rule", e2), ("under", e3), ("wait", e4), ("late", e5), ("uneven", e6)]
section
variable {K : PySem.W.Frag} {c F : Addr}
def ap_fof (F : Addr) : AP := fun as Post => ∃ r : Fr, as = [.val (keyD r)] ∧ Post (.val (frD F r)) as
theorem run_fof : RunOk K [] (tq_Frame_of K F ai_Fr) 8 (ap_fof F) := by
  rintro as Post ⟨r, rfl, p⟩
  unfold tq_Frame_of
  show WS K [] _ [.val (keyD r), .un, .un, .un, .un, .un, .un, .un] _
  walk_at "es"
  refine .a ⟨_, _, _, _, _, _, _, rfl, ?_⟩
  walk_at "es"
  exact p
def ap_frm (F : Addr) : AP := fun as Post => ∃ (r : Fr) (w : Int), as = [.val (keyD r), .val (.int w)] ∧ Post (.val (frD F r)) as
theorem run_frm : RunOk K [] (tq_frame K F (ap_fof F) ai_Fr) 2 (ap_frm F) := by
  rintro as Post ⟨r, w, rfl, p⟩
  unfold tq_frame
  show WS K [] _ [.val (keyD r), .val (.int w)] _
  walk_at "gi"
  · refine .a ⟨r, rfl, ?_⟩
    walk_at "gi"
    exact p
  · refine .a ⟨_, _, _, _, _, _, _, rfl, ?_⟩
    walk_at "gi"
    exact p
end
theorem takeW_len {α : Type} (p : α → Bool) : ∀ xs : List α, (xs.takeWhile p).length ≤ xs.length
  | [] => Nat.le_refl _
  | x :: r => by
    rw [List.takeWhile_cons]
    split
    · rw [List.length_cons, List.length_cons]; have := takeW_len p r; omega
    · exact Nat.zero_le _
end
section
open PySem L2 Ab PySem.W
def stN (s : Sta) : NestedKey := .tup [.num s.line, .num s.fl, .tup (s.ages.map .num)]
theorem dtNs_nums : ∀ xs : List Int, dtNs (xs.map NestedKey.num) = xs.map Dt.int
  | [] => by simp [dtNs]
  | x :: r => by rw [List.map_cons, List.map_cons, dtNs, dtNs_nums r, dtN]
theorem dt_stN (s : Sta) : s.dt = dtN (stN s) := by
  unfold stN
  rw [dtN, dtNs, dtNs, dtNs, dtNs, dtN, dtN, dtN, dtNs_nums]
theorem depthAll_nums : ∀ xs : List Int, NestedKey.depthAll (xs.map NestedKey.num) = 0
  | [] => by simp [NestedKey.depthAll]
  | x :: r => by rw [List.map_cons, NestedKey.depthAll, depthAll_nums r, NestedKey.depth]; rfl
theorem stN_depth (s : Sta) : (stN s).depth ≤ 8 := by
  unfold stN
  rw [NestedKey.depth, NestedKey.depthAll, NestedKey.depthAll, NestedKey.depthAll, NestedKey.depthAll, NestedKey.depth, NestedKey.depth, NestedKey.depth, depthAll_nums]
  decide
theorem nums_inj : ∀ {a b : List Int}, a.map NestedKey.num = b.map NestedKey.num → a = b
  | [], [], _ => rfl
  | [], _ :: _, h => by simp at h
  | _ :: _, [], h => by simp at h
  | x :: r, y :: t, h => by
    simp only [List.map_cons, List.cons.injEq, NestedKey.num.injEq] at h
    rw [h.1, nums_inj h.2]
theorem stN_inj {s t : Sta} (h : stN s = stN t) : s = t := by
  obtain ⟨a, b, c⟩ := s
  obtain ⟨a', b', c'⟩ := t
  unfold stN at h
  simp only [NestedKey.tup.injEq, List.cons.injEq, NestedKey.num.injEq, and_true] at h
  obtain ⟨h1, h2, h3⟩ := h
  have e1 : a = a' := by omega
  have e2 : b = b' := by omega
  rw [e1, e2, nums_inj h3]
def encS (s : Sta) : PyData := .tuple [.int s.line, .int s.fl, .tuple (s.ages.map .int)]
theorem py_S (s : Sta) : s.dt.py = some (encS s) := by
  show Dt.py (.tup [.int s.line, .int s.fl, .tup (s.ages.map Dt.int)]) = _
  simp [Dt.py, pyAll, pyAll_ints, encS]
theorem depth_S (s : Sta) : (encS s).depth ≤ 2 := by
  unfold encS
  simp [PyData.depth, PyData.depthAll, depth_ints]
theorem alike_S (s t : Sta) : alike (encS s) (encS t) = true := by
  unfold encS
  simp [alike, alikeAll, alike_ints]
theorem lt_int (a b : Int) : dataLt (.int a) (.int b) = decide (a < b) := by
  unfold dataLt keyToks
  simp [PyProof.Rows.lexLt, PyProof.Rows.itemLt]
theorem lt_cons {x y : PyData} (h : alike x y = true) (xs ys : List PyData) : dataLt (.tuple (x :: xs)) (.tuple (y :: ys)) = if PyData.eqv x y = true then dataLt (.tuple xs) (.tuple ys) else dataLt x y := by
  rw [dataLt_tuple, dataLt_cons h, dataLt_tuple]
theorem lt_nil : dataLt (.tuple []) (.tuple []) = false := dataLt_irr _
theorem eqv_i (a b : Int) : PyData.eqv (.int a) (.int b) = decide (a = b) := by
  rw [PyData.eqv]
  by_cases h : a = b
  · rw [decide_eq_true h]; exact beq_iff_eq.mpr h
  · rw [decide_eq_false h]; exact beq_eq_false_iff_ne.mpr h
theorem alike_i (a b : Int) : alike (.int a) (.int b) = true := by rw [alike]
theorem lt_consI (a b : Int) (xs ys : List PyData) : dataLt (.tuple (.int a :: xs)) (.tuple (.int b :: ys)) = if a = b then dataLt (.tuple xs) (.tuple ys) else decide (a < b) := by
  rw [lt_cons (alike_i a b), eqv_i, lt_int]
  by_cases h : a = b
  · simp [h]
  · simp [h]
theorem S_lt {s t : Sta} (h : s.line < t.line ∨ (s.line = t.line ∧ s.fl < t.fl)) : dataLt (encS s) (encS t) = true := by
  unfold encS
  rw [lt_consI, lt_consI]
  rcases h with h | ⟨h1, h2⟩
  · rw [if_neg (by omega)]; exact decide_eq_true (by omega)
  · rw [if_pos (by omega), if_neg (by omega)]; exact decide_eq_true (by omega)
def start : Sta := ⟨0, 0, []⟩
def pot (s : Sta) : Nat := s.line + s.fl
inductive Reach (g : List Ln) (r : Fr) : Sta → Prop
  | start : Reach g r start
  | step {s : Sta} {o : Opt} : Reach g r s → o ∈ optsFrom g r s → Reach g r o.nx
theorem Reach.sv {g : List Ln} {r : Fr} {s : Sta} (h : Reach g r s) : SV g s := by
  induction h with
  | start => exact start_ok g
  | step _ ho ih => exact next_ok ih ho
theorem opt_mem {g : List Ln} {r : Fr} {s : Sta} {o : Opt} (h : o ∈ optsFrom g r s) : ∃ e fe x, s.line ≤ e ∧ e ≤ g.length ∧ s.fl ≤ fe ∧ fe ≤ mk g e ∧ (e = s.line ∨ e = g.length ∨ cutAt g e = true) ∧ x ∈ spl g r s.line e ∧ x.hi ≤ roomOf g r s e fe ∧ ¬ (e = s.line ∧ fe = s.fl) ∧ (∀ a ∈ agesOf g s e fe, a ≤ r.wait) ∧ o = optOf g r s e fe x := by
  unfold optsFrom at h
  obtain ⟨e, he, h⟩ := List.mem_flatMap.mp h
  have he := List.mem_range'_1.mp (mem_tw he)
  unfold endOf at h
  split at h
  · rename_i hc
    unfold optsTo at h
    obtain ⟨fe, hfe, h⟩ := List.mem_flatMap.mp h
    have hfe := List.mem_range'_1.mp hfe
    unfold optIn at h
    split at h
    · simp at h
    · rename_i hn
      obtain ⟨x, hx, rfl⟩ := List.mem_map.mp h
      obtain ⟨hx1, hx2⟩ := List.mem_filter.mp hx
      refine ⟨e, fe, x, he.1, by omega, hfe.1, by omega, hc, hx1, of_decide_eq_true hx2, fun z => hn (.inl z), fun a ha => ?_, rfl⟩
      by_cases hw : r.wait < a
      · exact absurd (List.any_eq_true.mpr ⟨a, ha, decide_eq_true hw⟩) (fun z => hn (.inr z))
      · omega
  · simp at h
theorem opt_up {g : List Ln} {r : Fr} {s : Sta} {o : Opt} (h : o ∈ optsFrom g r s) : (s.line < o.nx.line ∨ (s.line = o.nx.line ∧ s.fl < o.nx.fl)) ∧ pot s < pot o.nx ∧ o.nx.line = o.e ∧ o.nx.fl = o.fe ∧ s.line ≤ o.e ∧ s.fl ≤ o.fe := by
  obtain ⟨e, fe, x, h1, h2, h3, h4, _, _, _, h5, _, rfl⟩ := opt_mem h
  have e1 : (optOf g r s e fe x).nx.line = e := rfl
  have e2 : (optOf g r s e fe x).nx.fl = fe := rfl
  have e3 : (optOf g r s e fe x).e = e := rfl
  have e4 : (optOf g r s e fe x).fe = fe := rfl
  unfold pot
  rw [e1, e2, e3, e4]
  refine ⟨by omega, by omega, rfl, rfl, h1, h3⟩
theorem Reach.ages {g : List Ln} {r : Fr} {s : Sta} (h : Reach g r s) : ∀ a ∈ s.ages, 1 ≤ a ∧ a ≤ r.wait := by
  induction h with
  | start => intro a ha; have ha' : a ∈ ([] : List Int) := ha; simp at ha'
  | @step s o _ ho ih =>
    obtain ⟨e, fe, x, h1, h2, h3, h4, _, _, _, h5, h6, rfl⟩ := opt_mem ho
    intro a ha
    have ha' : a ∈ agesOf g s e fe := ha
    refine ⟨?_, h6 a ha'⟩
    unfold agesOf at ha'
    obtain ⟨i, _, hi⟩ := List.mem_map.mp ha'
    split at hi
    · rename_i hlt
      have := ih (s.ages[fe + i - s.fl]'hlt) (List.getElem_mem hlt)
      rw [List.getElem?_eq_getElem hlt, Option.getD_some] at hi
      omega
    · omega
theorem Reach.pot_le {g : List Ln} {r : Fr} {s : Sta} (h : Reach g r s) : pot s ≤ g.length + (flo g).length := by
  have hs := h.sv
  have h1 := hs.l
  have h2 := hs.f
  have h3 : mk g s.line ≤ (flo g).length := by
    have := mk_mono g (a := s.line) (b := g.length) h1
    have e : mk g g.length = (flo g).length := by unfold mk; rw [List.take_length]
    omega
  unfold pot
  omega
def agesAll : Nat → List (List Int)
  | 0 => [[]]
  | n + 1 => [1, 2, 3].flatMap fun a => (agesAll n).map (a :: ·)
theorem agesAll_len : ∀ n, (agesAll n).length = 3 ^ n
  | 0 => rfl
  | n + 1 => by
    rw [agesAll]
    simp only [List.flatMap_cons, List.flatMap_nil, List.append_nil, List.length_append, List.length_map, agesAll_len n]
    rw [Nat.pow_succ]; omega
theorem agesAll_mem : ∀ {n : Nat} {xs : List Int}, xs.length = n → (∀ a ∈ xs, 1 ≤ a ∧ a ≤ 3) → xs ∈ agesAll n
  | 0, xs, h, _ => by
    have : xs = [] := List.eq_nil_of_length_eq_zero h
    subst this; simp [agesAll]
  | n + 1, [], h, _ => by simp at h
  | n + 1, x :: xs, h, ha => by
    rw [agesAll]
    refine List.mem_flatMap.mpr ⟨x, ?_, List.mem_map.mpr ⟨xs, agesAll_mem (by simpa using h) (fun a h => ha a (List.mem_cons_of_mem _ h)), rfl⟩⟩
    have := ha x (List.mem_cons_self)
    have : x = 1 ∨ x = 2 ∨ x = 3 := by omega
    rcases this with h | h | h <;> simp [h]
def staAll (n f : Nat) : List Sta := (List.range (n + 1)).flatMap fun l => (List.range (f + 1)).flatMap fun k => (List.range (f + 1)).flatMap fun m => (agesAll m).map fun a => ⟨l, k, a⟩
theorem staAll_len {n f : Nat} (hf : f ≤ 6) : (staAll n f).length ≤ (n + 1) * (7 * (7 * 729)) := by
  have h3 : ∀ m, m ≤ 6 → 3 ^ m ≤ 729 := fun m h => by
    have : m = 0 ∨ m = 1 ∨ m = 2 ∨ m = 3 ∨ m = 4 ∨ m = 5 ∨ m = 6 := by omega
    rcases this with h | h | h | h | h | h | h <;> subst h <;> decide
  have fl : ∀ {α β : Type} (xs : List α) (F : α → List β) (n : Nat), (∀ x ∈ xs, (F x).length ≤ n) → (xs.flatMap F).length ≤ xs.length * n := by
    intro α β xs F n
    induction xs with
    | nil => intro _; simp
    | cons x r ih =>
      intro h
      rw [List.flatMap_cons, List.length_append, List.length_cons]
      have h1 := h x (List.mem_cons_self)
      have h2 := ih fun y hy => h y (List.mem_cons_of_mem _ hy)
      rw [Nat.succ_mul]; omega
  unfold staAll
  refine Nat.le_trans (fl (List.range (n + 1)) _ (7 * (7 * 729)) fun l _ => ?_) (by rw [List.length_range]; exact Nat.le_refl _)
  refine Nat.le_trans (fl (List.range (f + 1)) _ (7 * 729) fun k _ => ?_) (by rw [List.length_range]; exact Nat.mul_le_mul_right _ (by omega))
  refine Nat.le_trans (fl (List.range (f + 1)) _ 729 fun m hm => ?_) (by rw [List.length_range]; exact Nat.mul_le_mul_right _ (by omega))
  rw [List.length_map, agesAll_len]
  have := List.mem_range.mp hm
  exact h3 m (by omega)
theorem nodup_le {α : Type} [DecidableEq α] : ∀ {R S : List α}, R.Nodup → (∀ x ∈ R, x ∈ S) → R.length ≤ S.length
  | [], S, _, _ => Nat.zero_le _
  | x :: R, S, hn, h => by
    obtain ⟨h1, h2⟩ := List.nodup_cons.mp hn
    have hx := h x (List.mem_cons_self)
    have := nodup_le (R := R) (S := S.erase x) h2 fun y hy => (List.mem_erase_of_ne (fun e => h1 (by rw [← e]; exact hy))).mpr (h y (List.mem_cons_of_mem _ hy))
    rw [List.length_erase_of_mem hx] at this
    have hp : 0 < S.length := List.length_pos_of_mem hx
    rw [List.length_cons]; omega
structure PB (g : List Ln) (r : Fr) : Prop where
  gb : GB g
  fb : FB r
  n : g.length ≤ 60
  f : (flo g).length ≤ 6
  w : r.wait ≤ 3
  o : ∃ M : Nat, 1 ≤ M ∧ (∀ s, SV g s → (optsFrom g r s).length ≤ M) ∧ M * (g.length + (flo g).length + 2) ≤ 1000000
theorem Reach.all {g : List Ln} {r : Fr} (hb : PB g r) {s : Sta} (h : Reach g r s) : s ∈ staAll 60 6 := by
  have h1 := h.pot_le
  have h2 := hb.n
  have h3 := hb.f
  have h4 := hb.w
  have hs := h.sv
  have h5 := hs.l
  have h6 := hs.f
  have h7 := hs.a
  have h8 : mk g s.line ≤ (flo g).length := by
    have := mk_mono g (a := s.line) (b := g.length) h5
    have e : mk g g.length = (flo g).length := by unfold mk; rw [List.take_length]
    omega
  obtain ⟨l, k, a⟩ := s
  have h5' : l ≤ g.length := h5
  have h6' : k ≤ mk g l := h6
  have h7' : a.length = mk g l - k := h7
  have h8' : mk g l ≤ (flo g).length := h8
  refine List.mem_flatMap.mpr ⟨l, List.mem_range.mpr (by omega), List.mem_flatMap.mpr ⟨k, List.mem_range.mpr (by omega), List.mem_flatMap.mpr ⟨a.length, List.mem_range.mpr (by omega), List.mem_map.mpr ⟨a, agesAll_mem rfl fun x hx => ?_, rfl⟩⟩⟩⟩
  have := h.ages x hx
  omega
theorem reach_few {g : List Ln} {r : Fr} (hb : PB g r) {R : List Sta} (hn : R.Nodup) (h : ∀ s ∈ R, Reach g r s) : R.length < 5000000 := by
  have h1 := nodup_le hn fun s hs => (h s hs).all hb
  have h2 := staAll_len (n := 60) (f := 6) (by omega)
  omega
end
section
open PySem L2 Ab PySem.W
def tq_end_state (K : PySem.W.Frag) : TS :=
    (tRet (tTup (tCons (tCB (rLenV K) (tCons (tVar 0) tNil)) (tCons (tCB (rSumG K) (tCons (tLc (iTup K (tVar 0)) (gName 1) tYes (tCB (rLenV K) (tCons (tOp (rIx K) (tVar 1) (tC (.int 4))) tNil)) [1]) tNil)) (tCons (tTup tNil) tNil)))))
def tq_reached_states (K : PySem.W.Frag) (w : World) (c_GalleySums : Addr) (c_START : Addr) (ai_GalleySums : AI) (ap_options_from : AP) : TS :=
    (tSeq (tAsg (tMake c_GalleySums (toSpI K c_GalleySums ai_GalleySums) [] E0 (tCons (tVar 0) tNil)) (gName 2))
    (tSeq (tAsg (tNNew w) (gName 3))
    (tSeq (tAsg (tLst (tCons (tC (.ref c_START)) tNil)) (gName 4))
    (tSeq (tWhile (tTest (tOp rGtI (tCB (rLenV K) (tCons (tVar 4) tNil)) (tC (.int 0)))) (tSeq (tAsg (tBM0 K "list" rPop (tVar 4)) (gName 5))
    (tIfS (tB (tNNotIn K w (tVar 5) (tVar 3))) (tSeq (tAsg (tCall (toSp K ap_options_from) [] E0 (tCons (tVar 2) (tCons (tVar 1) (tCons (tVar 5) tNil)))) (gName 6))
    (tSeq (sNPut K w (tVar 3) (tVar 5) (tVar 6))
    (tDrop (tBM K "list" rExtend (tVar 4) (tCons (tLc (iList K (tVar 6)) (gName 7) (tB (tNNotIn K w (tOp (rIx K) (tVar 7) (tC (.int 4))) (tVar 3))) (tOp (rIx K) (tVar 7) (tC (.int 4))) [7]) tNil))))) tNext)))
    (tRet (tVar 3))))))
def tq_greatest_line (K : PySem.W.Frag) (w : World) : TS :=
    (tLock (tRet (tCB (rMax K) (tCons (tLc (iKeysN w (tVar 0)) (gName 1) tYes (tOp (rIx K) (tVar 1) (tC (.int 0))) [1]) tNil))))
def tq_cheapest_to_end (K : PySem.W.Frag) (w : World) : TS :=
    (tSeq (tAsg (tNDisp1 K w (tVar 1) (tTup (tCons (tC (.int 0)) (tCons (tC (.int 0)) (tCons (tC .non) (tCons (tC .non) tNil)))))) (gName 2))
    (tSeq (tFor (iList K (tCKw (rSortD K true) (tCons (tCB (rListN w) (tCons (tVar 0) tNil)) tNil) (tCons (tC (.bl true)) tNil))) (gName 3) (tSeq (tAsg (tLst tNil) (gName 4))
    (tSeq (tFor (iList K (tNGet K w (tVar 0) (tVar 3))) (gTup K 5 (gCons (gName 5) (gCons (gName 6) (gCons (gName 7) (gCons (gName 8) (gCons (gName 9) gNil)))))) (tIfS (tB (tNIn K w (tVar 9) (tVar 2))) (tSeq (tAsg (tSl (rSlG K) (tNGet K w (tVar 2) (tVar 9)) tNoPart (tPart (tC (.int 2)))) (gTup K 2 (gCons (gName 10) (gCons (gName 11) gNil))))
    (tDrop (tBM K "list" rAppend (tVar 4) (tCons (tTup (tCons (tOp (rAddG K) (tVar 8) (tVar 10)) (tCons (tOp (rAddG K) (tVar 11) (tC (.int 1))) (tCons (tTup (tCons (tVar 5) (tCons (tVar 6) (tCons (tVar 7) tNil)))) (tCons (tVar 9) tNil))))) tNil)))) tNext))
    (tIfS (tTest (tOp rGtI (tCB (rLenV K) (tCons (tVar 4) tNil)) (tC (.int 0)))) (sNPut K w (tVar 2) (tVar 3) (tCB (rMinD K) (tCons (tVar 4) tNil))) tNext))))
    (tRet (tVar 2))))
def tq_break_pages (K : PySem.W.Frag) (w : World) (c_START : Addr) (c_NoPages : Addr) (ap_reached_states : AP) (ap_end_state : AP) (ap_cheapest_to_end : AP) (ap_greatest_line : AP) (W : WX) : TS :=
    (tSeq (tAsg (tCall (toSp K ap_reached_states) [] E0 (tCons (tVar 0) (tCons (tVar 1) tNil))) (gName 2))
    (tSeq (tAsg (tCall (toSp K ap_end_state) [] E0 (tCons (tVar 0) tNil)) (gName 3))
    (tSeq (tAsg (tCall (toSp K ap_cheapest_to_end) [] E0 (tCons (tVar 2) (tCons (tVar 3) tNil))) (gName 4))
    (tSeq (tIfS (tB (tNNotIn K w (tC (.ref c_START)) (tVar 4))) (tRaiseO W c_NoPages (spE1 c_NoPages "lines" fun _ => True) (tCons (tCall (toSp K ap_greatest_line) [] E0 (tCons (tVar 2) tNil)) tNil)) tNext)
    (tSeq (tAsg (tC (.ref c_START)) (gName 5))
    (tSeq (tAsg (tLst tNil) (gName 6))
    (tSeq (tWhile (tTest (tOp (rNeG K) (tVar 5) (tVar 3))) (tSeq (tAsg (tVar 5) (gTup K 3 (gCons (gName 7) (gCons (gName 8) (gCons (gName 9) gNil)))))
    (tSeq (tAsg (tSl (rSlG K) (tNGet K w (tVar 4) (tVar 5)) (tPart (tC (.int 2))) tNoPart) (gTup K 2 (gCons (gName 10) (gCons (gName 11) gNil))))
    (tSeq (tAsg (tVar 10) (gTup K 3 (gCons (gName 12) (gCons (gName 13) (gCons (gName 14) gNil)))))
    (tSeq (tDrop (tBM K "list" rAppend (tVar 6) (tCons (tTup (tCons (tVar 7) (tCons (tVar 12) (tCons (tVar 8) (tCons (tVar 13) (tCons (tVar 14) tNil)))))) tNil)))
    (tAsg (tVar 11) (gName 5)))))))
    (tRet (tTup (tCons (tOp (rIx K) (tNGet K w (tVar 4) (tC (.ref c_START))) (tC (.int 0))) (tCons (tCB (rTupleOf K) (tCons (tVar 6) tNil)) tNil)))))))))))
def KSt (K : PySem.W.Frag) (c : Addr) : Prop := ∃ e, KTup K c [.int 0, .int 0, .ref e] ∧ KTup K e []
theorem we_kst {K : PySem.W.Frag} {Γ : List Sl} {Post : Re → List Sl → Prop} {c : Addr} (h : KSt K c) (p : Post (.val (.tup [.int (0 : Nat), .int (0 : Nat), .tup []])) Γ) : WE K (tC (.ref c)) Γ Post := fun σ B H E Q q => by
  obtain ⟨e, h1, h2⟩ := h
  have he : Is K B (.ref e) (.tup []) := Is.tup (.inr h2) rfl (fun i v d a => by simp at a)
  have ha : IsA K B [.int 0, .int 0, .ref e] [.int (0 : Nat), .int (0 : Nat), .tup []] := .cons (.raw _) (.cons (.raw _) (.cons he .nil))
  exact q _ B H (.val _) Γ (.refl E) (Is.tup (.inr h1) ha.len ha.at_) p
end
local macro_rules | `(tactic| walk_at "x") => `(tactic| first
  | ((with_reducible refine' we_kst ?h1 ?_); (case h1 => assumption))
  | ((with_reducible refine' ws_retDN ?hh ?_); (case hh => exact rfl))
  | with_reducible refine we_nget ?_
  | with_reducible refine we_nin ?_
  | with_reducible refine we_nnotin ?_
  | with_reducible refine we_nnew ?_
  | with_reducible refine we_ndisp1 ?_
  | with_reducible refine ws_nput ?_
  | with_reducible refine we_nlist ?_
  | fail "x9")
section
open PySem L2 Ab PySem.W
theorem val_map {α : Type} (f : α → Sta) (c : α → Dt) (s : Sta) : ∀ xs : List α, valD (xs.map fun x => (stN (f x), c x)) (stN s) = (xs.find? fun x => decide (f x = s)).map c
  | [] => rfl
  | x :: r => by
    have ih := val_map f c s r
    by_cases e : f x = s
    · simp [valD, e]
    · have e' : ¬ stN (f x) = stN s := fun h => e (stN_inj h)
      unfold valD at ih ⊢
      simp only [List.map_cons, List.find?_cons, e, e', decide_false]
      exact ih
def kvR (g : List Ln) (r : Fr) (R : List Sta) : List (NestedKey × Dt) := R.map fun s => (stN s, .lst ((optsFrom g r s).map Opt.dt))
theorem val_kvR {g : List Ln} {r : Fr} {R : List Sta} {s : Sta} : valD (kvR g r R) (stN s) = if s ∈ R then some (.lst ((optsFrom g r s).map Opt.dt)) else none := by
  unfold kvR
  refine (val_map (fun s : Sta => s) (fun s => Dt.lst ((optsFrom g r s).map Opt.dt)) s R).trans ?_
  by_cases h : s ∈ R
  · rw [if_pos h]
    have : (R.find? fun x => decide (x = s)) = some s := by
      cases e : R.find? fun x => decide (x = s) with
      | none => exact absurd (List.find?_eq_none.mp e s h) (by simp)
      | some y =>
        have := List.find?_some e
        simp at this; rw [this]
    rw [this]; rfl
  · rw [if_neg h]
    have : (R.find? fun x => decide (x = s)) = none := List.find?_eq_none.mpr fun y hy => by
      have : y ≠ s := fun e => h (e ▸ hy)
      simpa using this
    rw [this]; rfl
theorem put_kvR {g : List Ln} {r : Fr} {R : List Sta} {s : Sta} (h : s ∉ R) : putE (kvR g r R) (stN s) (.lst ((optsFrom g r s).map Opt.dt)) = kvR g r (R ++ [s]) := by
  rw [putE_new (by rw [val_kvR, if_neg h])]
  unfold kvR
  rw [List.map_append]; rfl
theorem flat_last : ∀ (n : Nat) (gs : List (List Sta)) (W : List Sta) (x : Sta), gs.length = n → gs.flatten = W ++ [x] → ∃ gs0 grp0 es, gs = gs0 ++ (grp0 ++ [x]) :: es ∧ W = gs0.flatten ++ grp0
  | 0, gs, W, x, hl, h => by
    have : gs = [] := List.eq_nil_of_length_eq_zero hl
    subst this; simp at h
  | n + 1, gs, W, x, hl, h => by
    rcases List.eq_nil_or_concat gs with e | ⟨gs1, l, e⟩
    · subst e; simp at hl
    · subst e
      rw [List.concat_eq_append] at hl h ⊢
      rw [List.flatten_append, List.flatten_singleton] at h
      rcases List.eq_nil_or_concat l with e | ⟨l0, y, e⟩
      · subst e
        rw [List.append_nil] at h
        obtain ⟨gs0, grp0, es, h1, h2⟩ := flat_last n gs1 W x (by simpa using hl) h
        exact ⟨gs0, grp0, es ++ [[]], by rw [h1]; simp, h2⟩
      · subst e
        rw [List.concat_eq_append, ← List.append_assoc] at h
        rw [List.concat_eq_append]
        have h3 := List.append_inj' h rfl
        refine ⟨gs1, l0, [], ?_, h3.1.symm⟩
        have : y = x := by simpa using h3.2
        rw [this]
def Lay (M T : Nat) (W : List Sta) : Prop := ∃ gs : List (List Sta), W = gs.flatten ∧ gs.length ≤ T + 2 ∧ ∀ (i : Nat) grp, gs[i]? = some grp → grp.length ≤ M ∧ ∀ s ∈ grp, i ≤ pot s
theorem Lay.len {M T : Nat} {W : List Sta} (h : Lay M T W) : W.length ≤ M * (T + 2) := by
  obtain ⟨gs, rfl, h1, h2⟩ := h
  have : ∀ (gs : List (List Sta)), (∀ grp ∈ gs, grp.length ≤ M) → gs.flatten.length ≤ M * gs.length := by
    intro gs
    induction gs with
    | nil => intro _; simp
    | cons a r ih =>
      intro h
      rw [List.flatten_cons, List.length_append, List.length_cons, Nat.mul_succ]
      have := h a (List.mem_cons_self)
      have := ih fun y hy => h y (List.mem_cons_of_mem _ hy)
      omega
  refine Nat.le_trans (this gs fun grp hg => ?_) (Nat.mul_le_mul_left _ h1)
  obtain ⟨i, hi⟩ := List.mem_iff_getElem?.mp hg
  exact (h2 i grp hi).1
theorem Lay.pop {M T : Nat} {W : List Sta} {x : Sta} (h : Lay M T (W ++ [x])) (hx : pot x ≤ T) : Lay M T W ∧ ∀ C : List Sta, C.length ≤ M → (∀ c ∈ C, pot x < pot c) → Lay M T (W ++ C) := by
  obtain ⟨gs, e, h1, h2⟩ := h
  obtain ⟨gs0, grp0, es, rfl, e2⟩ := flat_last _ gs W x rfl e.symm
  have hg := h2 gs0.length (grp0 ++ [x]) (by simp)
  have hlen : gs0.length ≤ pot x := hg.2 x (by simp)
  have h3 : ∀ (i : Nat) grp, gs0[i]? = some grp → grp.length ≤ M ∧ ∀ s ∈ grp, i ≤ pot s := fun i grp hi => h2 i grp (by rw [List.getElem?_append_left (List.getElem?_eq_some_iff.mp hi).1]; exact hi)
  have hg0 : grp0.length ≤ M ∧ ∀ s ∈ grp0, gs0.length ≤ pot s := ⟨by have := hg.1; simp at this; omega, fun s hs => hg.2 s (by simp [hs])⟩
  refine ⟨⟨gs0 ++ [grp0], by rw [e2]; simp, by simp; omega, fun i grp hi => ?_⟩, fun C hC hc => ⟨gs0 ++ [grp0, C], by rw [e2]; simp, by simp; omega, fun i grp hi => ?_⟩⟩
  · by_cases hlt : i < gs0.length
    · rw [List.getElem?_append_left hlt] at hi; exact h3 i grp hi
    · rw [List.getElem?_append_right (by omega)] at hi
      generalize hk : i - gs0.length = k at hi
      match k, hi with
      | 0, hi => simp at hi; subst hi; have : i = gs0.length := by omega
                 rw [this]; exact hg0
      | k + 1, hi => simp at hi
  · by_cases hlt : i < gs0.length
    · rw [List.getElem?_append_left hlt] at hi; exact h3 i grp hi
    · rw [List.getElem?_append_right (by omega)] at hi
      generalize hk : i - gs0.length = k at hi
      match k, hi with
      | 0, hi => simp at hi; subst hi; have : i = gs0.length := by omega
                 rw [this]; exact hg0
      | 1, hi => simp at hi; subst hi; have : i = gs0.length + 1 := by omega
                 rw [this]; exact ⟨hC, fun s hs => by have := hc s hs; omega⟩
      | k + 2, hi => simp at hi
structure Goes (g : List Ln) (r : Fr) (M : Nat) (R W : List Sta) : Prop where
  nd : R.Nodup
  rR : ∀ s ∈ R, Reach g r s
  rW : ∀ s ∈ W, Reach g r s
  cl : ∀ s ∈ R, ∀ o ∈ optsFrom g r s, o.nx ∈ R ∨ o.nx ∈ W
  st : start ∈ R ∨ start ∈ W
  la : Lay M (g.length + (flo g).length) W
structure ReachOk (g : List Ln) (r : Fr) (R : List Sta) : Prop where
  nd : R.Nodup
  iff : ∀ s, s ∈ R ↔ Reach g r s
theorem Goes.done {g : List Ln} {r : Fr} {M : Nat} {R : List Sta} (h : Goes g r M R []) : ReachOk g r R := by
  refine ⟨h.nd, fun s => ⟨h.rR s, fun hs => ?_⟩⟩
  induction hs with
  | start => exact h.st.resolve_right (by simp)
  | step _ ho ih => exact (h.cl _ ih _ ho).resolve_right (by simp)
def newOnes (R : List Sta) (os : List Opt) : List Sta := (os.filter fun o => decide (o.nx ∉ R)).map Opt.nx
theorem Goes.start {g : List Ln} {r : Fr} {M : Nat} (hM : 1 ≤ M) : Goes g r M [] [start] :=
  ⟨List.nodup_nil, fun s h => by simp at h, fun s h => by simp at h; subst h; exact .start, fun s h => by simp at h, .inr (by simp), ⟨[[Pg.start]], by simp, by simp, fun i grp hi => by
    match i, hi with
    | 0, hi => simp at hi; subst hi; exact ⟨hM, fun s _ => Nat.zero_le _⟩
    | i + 1, hi => simp at hi⟩⟩
theorem Goes.skip {g : List Ln} {r : Fr} {M : Nat} {R W : List Sta} {x : Sta} (h : Goes g r M R (W ++ [x])) (hx : x ∈ R) : Goes g r M R W :=
  ⟨h.nd, h.rR, fun s hs => h.rW s (by simp [hs]), fun s hs o ho => (h.cl s hs o ho).elim .inl fun z => by
    rcases List.mem_append.mp z with z | z
    · exact .inr z
    · simp at z; rw [z]; exact .inl hx, h.st.elim .inl fun z => by
    rcases List.mem_append.mp z with z | z
    · exact .inr z
    · simp at z; rw [z]; exact .inl hx, (h.la.pop (h.rW x (by simp)).pot_le).1⟩
theorem Goes.turn {g : List Ln} {r : Fr} {M : Nat} {R W : List Sta} {x : Sta} (hM : ∀ s, SV g s → (optsFrom g r s).length ≤ M) (h : Goes g r M R (W ++ [x])) (hx : x ∉ R) : Goes g r M (R ++ [x]) (W ++ newOnes (R ++ [x]) (optsFrom g r x)) := by
  have rx := h.rW x (by simp)
  refine ⟨List.nodup_append.mpr ⟨h.nd, by simp, fun a ha b hb => by simp at hb; subst hb; exact fun e => hx (e ▸ ha)⟩, fun s hs => ?_, fun s hs => ?_, fun s hs o ho => ?_, ?_, ?_⟩
  · rcases List.mem_append.mp hs with hs | hs
    · exact h.rR s hs
    · simp at hs; subst hs; exact rx
  · rcases List.mem_append.mp hs with hs | hs
    · exact h.rW s (by simp [hs])
    · obtain ⟨o, ho, rfl⟩ := List.mem_map.mp hs
      exact .step rx (List.mem_filter.mp ho).1
  · rcases List.mem_append.mp hs with hs | hs
    · rcases h.cl s hs o ho with z | z
      · exact .inl (by simp [z])
      · rcases List.mem_append.mp z with z | z
        · exact .inr (by simp [z])
        · exact .inl (by simp at z; simp [z])
    · simp at hs; subst hs
      by_cases z : o.nx ∈ R ++ [s]
      · exact .inl z
      · exact .inr (List.mem_append_right _ (List.mem_map.mpr ⟨o, List.mem_filter.mpr ⟨ho, decide_eq_true z⟩, rfl⟩))
  · rcases h.st with z | z
    · exact .inl (by simp [z])
    · rcases List.mem_append.mp z with z | z
      · exact .inr (by simp [z])
      · exact .inl (by simp at z; simp [z])
  · refine (h.la.pop rx.pot_le).2 _ ?_ fun c hc => ?_
    · unfold newOnes
      rw [List.length_map]
      exact Nat.le_trans (List.length_filter_le _ _) (hM x rx.sv)
    · obtain ⟨o, ho, rfl⟩ := List.mem_map.mp hc
      exact (opt_up (List.mem_filter.mp ho).1).2.1
theorem we_popL {K : PySem.W.Frag} {Γ : List Sl} {i : Nat} {ds : List Dt} {d : Dt} {Post : Re → List Sl → Prop} (h0 : Γ[i]? = some (.acc (ds ++ [d]))) (p : NormP (Γ.set i (.acc ds)) (Post (.val d))) : WE K (tBM0 K "list" rPop (tVar i)) Γ Post := fun σ B H E Q q => by
  obtain ⟨l, vs, e0, e1, e2, k0⟩ := E.acc i _ h0
  have hl : vs.length = ds.length + 1 := by rw [k0.len, List.length_append]; rfl
  obtain ⟨w, hw, kw⟩ := k0.get (show (ds ++ [d])[vs.length - 1]? = some d by rw [hl, Nat.add_sub_cancel, List.getElem?_append_right (Nat.le_refl _), Nat.sub_self]; rfl)
  have hdl : IsA K B vs.dropLast ds := by
    refine ⟨by rw [List.length_dropLast, hl, Nat.add_sub_cancel], fun j v e a b => ?_⟩
    have hj := (List.getElem?_eq_some_iff.mp b).1
    refine k0.at_ j v e ?_ (by rw [List.getElem?_append_left hj]; exact b)
    rw [List.getElem?_dropLast, if_pos (by omega)] at a
    exact a
  exact ⟨.ref l, e0, .inl ⟨rfl, vs, .inl (.inl e1)⟩, l, vs, w, rfl, rfl, e1, hw, q w B _ (.val d) _ (Go.put E h0 e0 hdl) kw p⟩
section
variable {K : PySem.W.Frag} {w : World} {c F cS : Addr}
def ap_rs (w : World) (F : Addr) : AP := fun as Post => ∃ (g : List Ln) (r : Fr), as = [.val (galD g), .val (frD F r)] ∧ PB g r ∧ ∀ R, ReachOk g r R → Post (.nw (.dN w (kvR g r R))) as
theorem run_rs (hS : KSt K cS) : RunOk K [] (tq_reached_states K w c cS ai_GS (ap_of c F)) 8 (ap_rs w F) := by
  rintro as Post ⟨g, r, rfl, hb, k⟩
  unfold tq_reached_states
  show WS K [] _ [.val (.tup (g.map Ln.dt)), .val (frD F r), .un, .un, .un, .un, .un, .un] _
  walk_at "gi"
  refine .a ⟨g, rfl, by have := hb.n; omega, by have := hb.f; omega, ?_⟩
  walk_at "gi"
  obtain ⟨M, hM1, hM, hM2⟩ := hb.o
  refine while_ab (fun m G => ∃ (R W : List Sta) (s5 s6 : Sl), Goes g r M R W ∧ m = (10000000 - R.length) * 1000001 + W.length ∧ G = [.val (.tup (g.map Ln.dt)), .val (frD F r), .val (smD c g), .cel (.dN w (kvR g r R)), .acc (W.map Sta.dt), s5, s6, .un]) (10000000 * 1000001 + 1) ?_ ?_
  · exact ⟨[], [start], _, _, Goes.start hM1, rfl, rfl⟩
  · rintro m G ⟨R, W, s5, s6, hg, rfl, rfl⟩
    have hW := hg.la.len
    have hMM : M ≤ 1000000 := Nat.le_trans (Nat.le_mul_of_pos_right M (by omega)) hM2
    have hWl : (W.map Sta.dt).length = W.length := List.length_map _
    walk_at "gi"
    · rename_i hpos
      obtain ⟨W0, x, rfl⟩ : ∃ W0 x, W = W0 ++ [x] := by
        rcases List.eq_nil_or_concat W with h | ⟨W0, x, h⟩
        · subst h; simp at hpos
        · exact ⟨W0, x, by rw [h, List.concat_eq_append]⟩
      have rx := hg.rW x (by simp)
      rw [List.map_append]
      refine we_popL (ds := W0.map Sta.dt) (d := x.dt) rfl ?_
      walk_at "gi"
      refine .a ⟨kvR g r R, stN x, rfl, congrArg Re.val (dt_stN x), ⟨_, rfl⟩, stN_depth x, ?_⟩
      rw [val_kvR]
      by_cases hx : x ∈ R
      · rw [if_pos hx]
        walk_at "gi"
        · rename_i hY; exact absurd hY (by simp)
        · exact .a ⟨_, by rw [List.length_append]; simp, R, W0, .val x.dt, s6, hg.skip hx, rfl, rfl⟩
      · rw [if_neg hx]
        walk_at "gi"
        refine .a ⟨g, r, x, rfl, hb.gb, hb.fb, rx.sv.l, ?_, ?_⟩
        · have := rx.pot_le
          have h1 := rx.sv.f
          have := mk_mono g (a := x.line) (b := g.length) rx.sv.l
          have e : mk g g.length = (flo g).length := by unfold mk; rw [List.take_length]
          omega
        have hfew := reach_few hb (R := R) hg.nd hg.rR
        have hos := hM x rx.sv
        have hosl : ((optsFrom g r x).map Opt.dt).length = (optsFrom g r x).length := List.length_map _
        walk_at "gx"
        refine ws_frz 6 rfl ?_
        refine ws_seq ?_
        walk_at "gi"
        refine .a ⟨kvR g r R, stN x, congrArg Re.val (dt_stN x), ⟨_, rfl⟩, stN_depth x, rfl, by unfold kvR; rw [List.length_map]; omega, ?_⟩
        rw [show putE (kvR g r R) (stN x) (Cn.lst ((optsFrom g r x).map Opt.dt)).dt = kvR g r (R ++ [x]) from put_kvR hx]
        refine ws_norm (by walk_at "norm") ?_
        refine ws_expr (we_extend rfl ?_)
        refine lc_lstV (optsFrom g r x) Opt.dt (fun o => o.nx.dt) (fun o => decide (o.nx ∉ R ++ [x])) ?_ ?_ ?_
        · walk_at "gi"
          exact .a ⟨rfl, by omega, rfl, rfl, rfl⟩
        · intro o ho
          obtain ⟨e, fe, sp, price, nx⟩ := o
          walk_at "gi"
          refine .a ⟨kvR g r (R ++ [x]), stN nx, rfl, congrArg Re.val (dt_stN nx), ⟨_, rfl⟩, stN_depth nx, ?_⟩
          rw [val_kvR]
          by_cases hn : nx ∈ R ++ [x]
          · rw [if_pos hn]
            walk_at "gi"
            · rename_i hY; exact absurd hY (by simp)
            · exact .a ⟨decide_eq_false fun h => h hn, rfl⟩
          · rw [if_neg hn]
            walk_at "gi"
            · exact .a ⟨decide_eq_true hn, rfl, rfl⟩
        · have hgo := hg.turn hM hx
          have hlen := hgo.la.len
          refine ⟨_, _, rfl, rfl, rfl, ?_, ?_⟩
          · rw [List.length_append] at hlen
            unfold newOnes at hlen
            simp only [List.length_map] at hlen ⊢
            omega
          · walk_at "gi"
            refine .a ⟨_, ?_, R ++ [x], W0 ++ newOnes (R ++ [x]) (optsFrom g r x), .val x.dt, .val (.lst ((optsFrom g r x).map Opt.dt)), hgo, rfl, ?_⟩
            · have := reach_few hb hgo.nd hgo.rR
              rw [List.length_append] at this
              rw [List.length_append (as := R)]
              simp only [List.length_append, List.length_cons, List.length_nil] at this hlen ⊢
              omega
            · unfold newOnes
              rw [List.map_append, List.map_map]; rfl
    · obtain rfl : W = [] := List.eq_nil_of_length_eq_zero (by rename_i h0; omega)
      walk_at "gi"
      exact k R hg.done
end
theorem ite_tt {p q : Prop} (h : p) : if true = true then p else q := by rw [if_pos rfl]; exact h
def ap_gr (w : World) : AP := fun as Post => ∃ (g : List Ln) (r : Fr) (R : List Sta), as = [.cel (.dN w (kvR g r R))] ∧ R ≠ [] ∧ R.length < 10000000 ∧ ∀ m : Nat, (∃ s ∈ R, s.line = m) → (∀ s ∈ R, s.line ≤ m) → Post (.val (.int m)) as
theorem run_gr {K : PySem.W.Frag} {w : World} : RunOk K [0] (tq_greatest_line K w) 2 (ap_gr w) := by
  rintro as Post ⟨g, r, R, rfl, hne, hfew, k⟩
  unfold tq_greatest_line
  show WS K [0] _ [.cel (.dN w (kvR g r R)), .un] _
  intro σ B H D E n r' b c xx
  obtain ⟨d, o, q1, q2, q3, us, rfl, q4⟩ := E.cel 0 _ rfl
  have hlen : σ.length = 2 := E.len
  have hln : us.length = R.length := by have := q4.len; unfold kvR at this; simpa using this
  let LN : List Int := R.map fun s => (s.line : Int)
  refine ⟨d, dNO w d us, q2, trivial, fun od => ?_⟩
  unfold tRet tCB tCons tNil
  refine ⟨.ref d, q1, d, od, us, rfl, upd_same, fun L hL => ?_⟩
  have hLd : L ≠ d := fun z => by subst z; rw [upd_same] at hL; cases hL
  have hL0 : H L = none := by rw [upd_ne hLd] at hL; exact hL
  have hsame : ∀ ls, Same B (upd (upd H d (.frz od (dNO w d us))) L (.lst ls)) := fun ls a u e => by
    have hu := E.bh a u e
    rw [upd_ne (fun z => by subst z; rw [hL0] at hu; cases hu), upd_ne (fun z => by subst z; rw [q3] at e; cases e)]
    exact hu
  refine ⟨fun t mm H' => mm = us.length - t ∧ t ≤ us.length ∧ H' = upd (upd H d (.frz od (dNO w d us))) L (.lst ((LN.take t).map V.int)), ⟨us.length, by simp, Nat.zero_le _, by rw [List.take_zero]; rfl⟩, ?_⟩
  rintro t mm H' ⟨rfl, ht, rfl⟩
  by_cases hlt : t < us.length
  · refine .inr ⟨⟨by rw [upd_ne (Ne.symm hLd)]; exact upd_same, hlt⟩, fun H2 => H2 = upd (upd H d (.frz od (dNO w d us))) L (.lst ((LN.take (t + 1)).map V.int)), fun H2 e => ⟨us.length - (t + 1), by omega, rfl, hlt, e⟩, fun x H2 hy => ?_⟩
    obtain ⟨rfl, e0, he0, rfl⟩ := hy
    obtain ⟨s, hs⟩ : ∃ s, R[t]? = some s := ⟨R[t], List.getElem?_eq_getElem (by omega)⟩
    have e1 : e0.1 = stN s := by
      have e1 : (us.map (·.1))[t]? = some e0.1 := by rw [List.getElem?_map, he0]; rfl
      rw [q4.ks, kvR, List.map_map, List.getElem?_map, hs] at e1
      exact (Option.some.inj e1).symm
    have hi : Is K B (.ref e0.2.1) s.dt := by rw [dt_stN, ← e1]; exact q4.qs t e0 he0
    obtain ⟨a, xs, ea, hsq, hx⟩ := hi.tupR
    cases ea
    obtain ⟨v0, hv0, iv⟩ := hx.get (i := 0) (d := .int s.line) rfl
    cases iv.rawI
    have hLN : LN[t]? = some (s.line : Int) := by show (R.map _)[t]? = _; rw [List.getElem?_map, hs]; rfl
    show wipe ((wipe σ [1]).set 1 (some (.ref e0.2.1))) [1] = wipe σ [1] ∧ _
    refine ⟨by show ((σ.set 1 none).set 1 _).set 1 none = σ.set 1 none; rw [List.set_set, List.set_set], ?_⟩
    have h1 : ((wipe σ [1]).set 1 (some (V.ref e0.2.1)))[1]? = some (some (.ref e0.2.1)) := by
      show ((σ.set 1 none).set 1 _)[1]? = _
      rw [List.set_set, List.getElem?_set_self (by omega)]
    unfold tYes
    refine ite_tt ?_
    refine ⟨.ref e0.2.1, h1, .inr (.inl ⟨e0.2.1, xs, 0, .int s.line, rfl, rfl, sqT_mono (hsame _) hsq, ?_, ?_⟩)⟩
    · unfold L2.atI
      cases xs with
      | nil => simp at hv0
      | cons y ys => simp at hv0; subst hv0; simp [ixN]
    · refine ⟨_, upd_same, ?_, ?_⟩
      · rw [List.length_map]
        refine Nat.lt_of_le_of_lt (by rw [List.length_take]; exact Nat.min_le_left _ _) (Nat.lt_trans hlt (by rw [hln]; exact Nat.lt_trans hfew (by rw [sizeLine_eq]; decide)))
      · rw [L2.upd_upd, List.take_add_one, hLN, List.map_append]; rfl
  · have e : t = us.length := by omega
    subst e
    refine .inl ⟨⟨by rw [upd_ne (Ne.symm hLd)]; exact upd_same, Nat.le_refl _⟩, ?_⟩
    have hLl : LN.length = us.length := by rw [hln]; exact List.length_map _
    have hH : upd (upd (upd H d (.frz od (dNO w d us))) L (.lst ((LN.take us.length).map V.int))) d (dNO w d us) = upd H L (.lst (LN.map V.int)) := by
      rw [← hLl, List.take_length]
      refine funext fun a => ?_
      by_cases h1 : a = d
      · subst h1; rw [upd_same, upd_ne (Ne.symm hLd), q2]
      · rw [upd_ne h1]
        by_cases h2 : a = L
        · subst h2; rw [upd_same, upd_same]
        · rw [upd_ne h2, upd_ne h2, upd_ne h1]
    show rMax K [.ref L] _ _
    refine ⟨L, LN, rfl, ?_, ?_, fun m hm hmx => ?_⟩
    · rw [← hLl, List.take_length]
      exact .inl (.inl upd_same)
    · have : 0 < R.length := List.length_pos_iff.mpr hne
      rw [hLl, hln]; exact this
    · show upd _ _ _ d = _ ∧ D.rt (.int m) _
      rw [hH]
      refine ⟨by rw [upd_ne (Ne.symm hLd)]; exact upd_same, ?_⟩
      obtain ⟨s, hs, rfl⟩ := List.mem_map.mp hm
      exact r' _ σ B _ (.val (.int s.line)) _ (Go.beside E hL0).s (Is.raw _) (k s.line ⟨s, hs, rfl⟩ fun t ht => by
        have := hmx (t.line : Int) (List.mem_map.mpr ⟨t, ht, rfl⟩)
        omega)
end
section
open PySem L2 Ab PySem.W
structure Ent where
  s : Sta
  rest : Int
  cnt : Int
  e : Nat
  fe : Nat
  sp : Nat
  nx : Sta
def Ent.dt (x : Ent) : Dt := .tup [.int x.rest, .int x.cnt, .tup [.int x.e, .int x.fe, .int x.sp], x.nx.dt]
def encE (x : Ent) : PyData := .tuple [.int x.rest, .int x.cnt, .tuple [.int x.e, .int x.fe, .int x.sp], encS x.nx]
theorem py_E (x : Ent) : x.dt.py = some (encE x) := by
  have := py_S x.nx
  unfold Ent.dt encE
  simp [Dt.py, pyAll, pyAll_ints, encS]
theorem depth_E (x : Ent) : (encE x).depth ≤ 4 := by
  unfold encE encS
  simp [PyData.depth, PyData.depthAll, depth_ints]
theorem alike_E (x y : Ent) : alike (encE x) (encE y) = true := by
  have := alike_S x.nx y.nx
  unfold encE
  simp [alike, alikeAll, this]
theorem depthAll_E : ∀ xs : List Ent, PyData.depthAll (xs.map encE) ≤ 8
  | [] => by simp [PyData.depthAll]
  | x :: r => by
    rw [List.map_cons, PyData.depthAll]
    have := depth_E x
    have := depthAll_E r
    omega
abbrev goalD : Dt := .tup [.int 0, .int 0, .non, .non]
def kvE (g : List Ln) (E : List Ent) : List (NestedKey × Dt) := (stN (goalOf g), goalD) :: E.map fun x => (stN x.s, x.dt)
def look (E : List Ent) (s : Sta) : Option Ent := E.find? fun x => decide (x.s = s)
def valE (g : List Ln) (E : List Ent) (s : Sta) : Option (Int × Int) := if s = goalOf g then some (0, 0) else (look E s).map fun x => (x.rest, x.cnt)
theorem val_kvE {g : List Ln} {E : List Ent} {s : Sta} : valD (kvE g E) (stN s) = if s = goalOf g then some goalD else (look E s).map Ent.dt := by
  unfold kvE
  by_cases h : s = goalOf g
  · rw [if_pos h]; subst h; simp [valD]
  · rw [if_neg h]
    have h' : ¬ stN (goalOf g) = stN s := fun e => h (stN_inj e).symm
    have := val_map Ent.s Ent.dt s E
    unfold valD at this ⊢
    simp only [List.find?_cons, h', decide_false]
    exact this
theorem put_kvE {g : List Ln} {E : List Ent} {x : Ent} (hs : x.s ≠ goalOf g) (h : look E x.s = none) : putE (kvE g E) (stN x.s) x.dt = kvE g (E ++ [x]) := by
  rw [putE_new (by rw [val_kvE, if_neg hs, h]; rfl)]
  unfold kvE
  rw [List.map_append]; rfl
def mkE (s : Sta) (o : Opt) (v : Int × Int) : Ent := ⟨s, o.price + v.1, v.2 + 1, o.e, o.fe, o.sp, o.nx⟩
def foundOf (g : List Ln) (E : List Ent) (s : Sta) (os : List Opt) : List Ent := os.filterMap fun o => (valE g E o.nx).map fun v => mkE s o v
structure CheapOk (g : List Ln) (r : Fr) (P : List Sta) (E : List Ent) : Prop where
  c1 : ∀ x ∈ E, x.s ≠ goalOf g ∧ x.s ∈ P ∧ ∃ o ∈ optsFrom g r x.s, ∃ v, valE g E o.nx = some v ∧ x = mkE x.s o v ∧ ∀ o' ∈ optsFrom g r x.s, ∀ v', valE g E o'.nx = some v' → dataLt (encE (mkE x.s o' v')) (encE x) = false
  c2 : ∀ s ∈ P, s ≠ goalOf g → (∃ o ∈ optsFrom g r s, (valE g E o.nx).isSome = true) → ∃ x ∈ E, x.s = s
  c3 : (E.map Ent.s).Nodup
theorem look_none {E : List Ent} {s : Sta} (h : ∀ x ∈ E, x.s ≠ s) : look E s = none := List.find?_eq_none.mpr fun x hx => by simpa using h x hx
theorem look_some {E : List Ent} {s : Sta} {x : Ent} (h : look E s = some x) : x ∈ E ∧ x.s = s := ⟨List.mem_of_find?_eq_some h, by have := List.find?_some h; simpa using this⟩
theorem goal_opts {g : List Ln} {r : Fr} {s : Sta} (hs : s = goalOf g) : optsFrom g r s = [] := by
  cases h : optsFrom g r s with
  | nil => rfl
  | cons o os =>
    exfalso
    have ho : o ∈ optsFrom g r s := by rw [h]; simp
    obtain ⟨e, fe, x, h1, h2, h3, h4, _, _, _, h5, _, _⟩ := opt_mem ho
    subst hs
    have e1 : (goalOf g).line = g.length := rfl
    have e2 : (goalOf g).fl = (flo g).length := rfl
    have h6 : mk g e ≤ (flo g).length := by
      have := mk_mono g (a := e) (b := g.length) h2
      have e : mk g g.length = (flo g).length := by unfold mk; rw [List.take_length]
      omega
    exact h5 ⟨by omega, by omega⟩
theorem CheapOk.nil {g : List Ln} {r : Fr} : CheapOk g r [] [] := ⟨fun x h => by simp at h, fun s h => by simp at h, List.nodup_nil⟩
theorem CheapOk.skip {g : List Ln} {r : Fr} {P : List Sta} {E : List Ent} {s : Sta} (h : CheapOk g r P E) (hf : foundOf g E s (optsFrom g r s) = []) : CheapOk g r (P ++ [s]) E := by
  refine ⟨fun x hx => ?_, fun t ht hg hv => ?_, h.c3⟩
  · obtain ⟨a, b, c⟩ := h.c1 x hx
    exact ⟨a, by simp [b], c⟩
  · rcases List.mem_append.mp ht with ht | ht
    · exact h.c2 t ht hg hv
    · simp at ht; subst ht
      obtain ⟨o, ho, hv⟩ := hv
      obtain ⟨v, hv⟩ := Option.isSome_iff_exists.mp hv
      have : mkE t o v ∈ foundOf g E t (optsFrom g r t) := List.mem_filterMap.mpr ⟨o, ho, by rw [hv]; rfl⟩
      rw [hf] at this; simp at this
theorem valE_app {g : List Ln} {E : List Ent} {x : Ent} {t : Sta} (h : x.s ≠ t) : valE g (E ++ [x]) t = valE g E t := by
  unfold valE look
  rw [List.find?_append]
  have : [x].find? (fun x => decide (x.s = t)) = none := by simp [h]
  rw [this, Option.or_none]
theorem CheapOk.add {g : List Ln} {r : Fr} {P : List Sta} {E : List Ent} {s : Sta} {x : Ent} (h : CheapOk g r P E) (hs : s ∉ P) (hcl : ∀ p ∈ P ++ [s], ∀ o ∈ optsFrom g r p, o.nx ∈ P) (hx : x ∈ foundOf g E s (optsFrom g r s)) (hm : ∀ y ∈ foundOf g E s (optsFrom g r s), dataLt (encE y) (encE x) = false) : CheapOk g r (P ++ [s]) (E ++ [x]) := by
  obtain ⟨o, ho, hv0⟩ := List.mem_filterMap.mp hx
  obtain ⟨v, hv, rfl⟩ := Option.map_eq_some_iff.mp hv0
  have hsg : s ≠ goalOf g := fun e => by rw [goal_opts e] at ho; simp at ho
  have stab : ∀ t ∈ P, valE g (E ++ [mkE s o v]) t = valE g E t := fun t ht => valE_app fun e => hs (by rw [show s = t from e]; exact ht)
  refine ⟨fun y hy => ?_, fun t ht hg hv => ?_, ?_⟩
  · rcases List.mem_append.mp hy with hy | hy
    · obtain ⟨a, b, o1, ho1, v1, hv1, e1, m1⟩ := h.c1 y hy
      have cl := hcl y.s (by simp [b])
      exact ⟨a, by simp [b], o1, ho1, v1, by rw [stab _ (cl o1 ho1)]; exact hv1, e1, fun o' ho' v' hv' => m1 o' ho' v' (by rw [← stab _ (cl o' ho')]; exact hv')⟩
    · simp at hy; subst hy
      have cl := hcl s (by simp)
      refine ⟨hsg, by show s ∈ P ++ [s]; simp, o, ho, v, by rw [stab _ (cl o ho)]; exact hv, rfl, fun o' ho' v' hv' => hm _ (List.mem_filterMap.mpr ⟨o', ho', ?_⟩)⟩
      rw [stab _ (cl o' ho')] at hv'
      rw [hv']; rfl
  · rcases List.mem_append.mp ht with ht | ht
    · obtain ⟨o1, ho1, hv1⟩ := hv
      rw [stab _ (hcl t (by simp [ht]) o1 ho1)] at hv1
      obtain ⟨y, hy, e⟩ := h.c2 t ht hg ⟨o1, ho1, hv1⟩
      exact ⟨y, by simp [hy], e⟩
    · simp at ht; subst ht
      exact ⟨mkE t o v, by simp, rfl⟩
  · rw [List.map_append]
    refine List.nodup_append.mpr ⟨h.c3, by simp, fun a ha b hb => ?_⟩
    simp at hb
    obtain ⟨y, hy, rfl⟩ := List.mem_map.mp ha
    intro e
    exact hs (by have := (h.c1 y hy).2.1; rw [e, hb] at this; exact this)
theorem desc_before {g : List Ln} {r : Fr} {R : List Sta} (hR : ReachOk g r R) {j : Nat} {s : Sta} (hs : (R.mergeSort (dataLe true encS))[j]? = some s) : s ∉ (R.mergeSort (dataLe true encS)).take j ∧ ∀ p ∈ (R.mergeSort (dataLe true encS)).take j ++ [s], ∀ o ∈ optsFrom g r p, o.nx ∈ (R.mergeSort (dataLe true encS)).take j := by
  have hperm := List.mergeSort_perm R (dataLe true encS)
  have hnd : (R.mergeSort (dataLe true encS)).Nodup := hperm.nodup_iff.mpr hR.nd
  have hpw := sort_pairwise (sortLe_total (PyProof.Rows.listOrd PyProof.Rows.itemOrd) true fun b => keyToks (encS b)) R
  generalize hL : R.mergeSort (dataLe true encS) = L at *
  have hpw' : L.Pairwise (fun a b => dataLt (encS a) (encS b) = false) := by
    rw [← hL]
    refine hpw.imp fun {a b} h => ?_
    have : (!(dataLt (encS a) (encS b))) = true := h
    simpa using this
  have before : ∀ (i : Nat) p, L[i]? = some p → ∀ o ∈ optsFrom g r p, o.nx ∈ L.take i := fun i p hp o ho => by
    have hpR : p ∈ R := hperm.mem_iff.mp (List.mem_of_getElem? hp)
    have hnR : o.nx ∈ R := (hR.iff _).mpr (.step ((hR.iff _).mp hpR) ho)
    obtain ⟨k, hk⟩ := List.mem_iff_getElem?.mp (hperm.mem_iff.mpr hnR)
    have hlt := S_lt (opt_up ho).1
    have hik : k < i := by
      rcases Nat.lt_trichotomy k i with h | h | h
      · exact h
      · subst h
        rw [hp] at hk; cases hk
        rw [dataLt_irr] at hlt; cases hlt
      · exfalso
        obtain ⟨hi1, hi2⟩ := List.getElem?_eq_some_iff.mp hp
        obtain ⟨hk1, hk2⟩ := List.getElem?_eq_some_iff.mp hk
        have := List.pairwise_iff_getElem.mp hpw' i k hi1 hk1 h
        rw [hi2, hk2, hlt] at this
        cases this
    have : (L.take i)[k]? = some o.nx := by rw [List.getElem?_take, if_pos hik]; exact hk
    exact List.mem_of_getElem? this
  refine ⟨fun hin => ?_, fun p hp o ho => ?_⟩
  · obtain ⟨k, hk⟩ := List.mem_iff_getElem?.mp hin
    rw [List.getElem?_take] at hk
    split at hk
    · rename_i hkj
      obtain ⟨h1, h2⟩ := List.getElem?_eq_some_iff.mp hk
      obtain ⟨h3, h4⟩ := List.getElem?_eq_some_iff.mp hs
      have := (List.getElem_inj (h₀ := h1) (h₁ := h3) hnd).mp (by rw [h2, h4])
      omega
    · cases hk
  · rcases List.mem_append.mp hp with hp | hp
    · obtain ⟨k, hk⟩ := List.mem_iff_getElem?.mp hp
      rw [List.getElem?_take] at hk
      split at hk
      · rename_i hkj
        have := before k p hk o ho
        obtain ⟨m, hm⟩ := List.mem_iff_getElem?.mp this
        rw [List.getElem?_take] at hm
        split at hm
        · rename_i hmk
          have : (L.take j)[m]? = some o.nx := by rw [List.getElem?_take, if_pos (by omega)]; exact hm
          exact List.mem_of_getElem? this
        · cases hm
      · cases hk
    · simp at hp; subst hp
      exact before j p hs o ho
section
variable {K : PySem.W.Frag} {w : World}
def ap_ce (w : World) : AP := fun as Post => ∃ (g : List Ln) (r : Fr) (R : List Sta), as = [.cel (.dN w (kvR g r R)), .val (goalOf g).dt] ∧ PB g r ∧ ReachOk g r R ∧ ∀ E, CheapOk g r R E → Post (.nw (.dN w (kvE g E))) as
theorem kv_keys (g : List Ln) (r : Fr) (R : List Sta) : ((kvR g r R).map fun kv => dtN kv.1) = R.map Sta.dt := by
  unfold kvR
  rw [List.map_map]
  exact List.map_congr_left fun s _ => (dt_stN s).symm
theorem CheapOk.len {g : List Ln} {r : Fr} (hb : PB g r) {P : List Sta} (hP : ∀ s ∈ P, Reach g r s) {E : List Ent} (h : CheapOk g r P E) : E.length < 5000000 := by
  have := reach_few hb h.c3 fun s hs => by
    obtain ⟨x, hx, rfl⟩ := List.mem_map.mp hs
    exact hP _ (h.c1 x hx).2.1
  rwa [List.length_map] at this
theorem run_ce : RunOk K [0] (tq_cheapest_to_end K w) 12 (ap_ce w) := by
  rintro as Post ⟨g, r, R, rfl, hb, hR, k⟩
  unfold tq_cheapest_to_end
  have hgd : (goalOf g).dt = .tup [.int g.length, .int (flo g).length, .tup []] := rfl
  have hrr : ∀ s ∈ R, Reach g r s := fun s hs => (hR.iff s).mp hs
  have hRl := reach_few hb hR.nd hrr
  show WS K [0] _ [.cel (.dN w (kvR g r R)), .val (goalOf g).dt, .un, .un, .un, .un, .un, .un, .un, .un, .un, .un] _
  walk_at "gi"
  refine .a ⟨stN (goalOf g), congrArg Re.val (dt_stN (goalOf g)), ⟨_, rfl⟩, stN_depth _, ?_⟩
  walk_at "gi"
  obtain ⟨M, hM1, hM, hM2⟩ := hb.o
  refine for_lstT (R.mergeSort (dataLe true encS)) Sta.dt (fun i G => ∃ (E : List Ent) (s3 s4 s5 s6 s7 s8 s9 s10 s11 : Sl), CheapOk g r ((R.mergeSort (dataLe true encS)).take i) E ∧ G = [.cel (.dN w (kvR g r R)), .val (goalOf g).dt, .cel (.dN w (kvE g E)), s3, s4, s5, s6, s7, s8, s9, s10, s11]) ?_ ?_ ?_
  · refine we_sortD Sta.dt encS (rev := true) ?_
    walk_at "gi"
    refine .a ⟨kvR g r R, rfl, ?_⟩
    rw [kv_keys]
    refine .a ⟨R, rfl, fun s _ => ⟨py_S s, by have := depth_S s; omega⟩, AllAlike.of alike_S, Sortable.tuples fun s => ⟨_, _, rfl⟩, ?_⟩
    exact .a ⟨rfl, [], _, _, _, _, _, _, _, _, _, .nil, rfl⟩
  · rintro i s G hs ⟨E, s3, s4, s5, s6, s7, s8, s9, s10, s11, hE, rfl⟩
    have hsR : s ∈ R := (List.mergeSort_perm R (dataLe true encS)).mem_iff.mp (List.mem_of_getElem? hs)
    obtain ⟨hni, hcl⟩ := desc_before hR hs
    have hos := hM s (hrr s hsR).sv
    have hMM : M ≤ 1000000 := Nat.le_trans (Nat.le_mul_of_pos_right M (by omega)) hM2
    have hfo : ∀ j, (foundOf g E s ((optsFrom g r s).take j)).length ≤ 1000000 := fun j => by
      unfold foundOf
      refine Nat.le_trans (List.length_filterMap_le _ _) ?_
      rw [List.length_take]
      omega
    have hfl : ∀ j, ((foundOf g E s ((optsFrom g r s).take j)).map Ent.dt).length = (foundOf g E s ((optsFrom g r s).take j)).length := fun j => List.length_map _
    have hEl := hE.len hb fun p hp => hrr p ((List.mergeSort_perm R (dataLe true encS)).mem_iff.mp (List.mem_of_mem_take hp))
    walk_at "gi"
    refine for_lstT (optsFrom g r s) Opt.dt (fun j G => ∃ (s5 s6 s7 s8 s9 s10 s11 : Sl), G = [.cel (.dN w (kvR g r R)), .val (goalOf g).dt, .cel (.dN w (kvE g E)), .val s.dt, .acc ((foundOf g E s ((optsFrom g r s).take j)).map Ent.dt), s5, s6, s7, s8, s9, s10, s11]) ?_ ?_ ?_
    · walk_at "gi"
      refine .a ⟨kvR g r R, stN s, _, rfl, congrArg Re.val (dt_stN s), ⟨_, rfl⟩, stN_depth s, by rw [val_kvR, if_pos hsR], ?_⟩
      exact .a ⟨rfl, _, _, _, _, _, _, _, rfl⟩
    · rintro j o G ho ⟨s5, s6, s7, s8, s9, s10, s11, rfl⟩
      have hst : foundOf g E s ((optsFrom g r s).take (j + 1)) = foundOf g E s ((optsFrom g r s).take j) ++ foundOf g E s [o] := by
        rw [List.take_add_one, ho]; unfold foundOf; rw [List.filterMap_append]; rfl
      obtain ⟨e, fe, sp, price, nx⟩ := o
      have hfj := hfo j
      have hflj := hfl j
      have hf1 := hfo (j + 1)
      rw [hst, List.length_append] at hf1
      rw [hst]
      show WG K [0] _ (.tup [.int e, .int fe, .int sp, .int price, nx.dt]) _ _
      walk_at "gi"
      refine .a ⟨kvE g E, stN nx, rfl, congrArg Re.val (dt_stN nx), ⟨_, rfl⟩, stN_depth nx, ?_⟩
      have hvk := val_kvE (g := g) (E := E) (s := nx)
      rw [hvk]
      have one : ∀ v, valE g E nx = some v → foundOf g E s [⟨e, fe, sp, price, nx⟩] = [⟨s, price + v.1, v.2 + 1, e, fe, sp, nx⟩] := fun v hv => by
        unfold foundOf
        simp [hv, mkE]
      have none : valE g E nx = none → foundOf g E s [⟨e, fe, sp, price, nx⟩] = [] := fun hv => by
        unfold foundOf
        simp [hv]
      unfold valE at one none
      by_cases hg0 : nx = goalOf g
      · rw [if_pos hg0] at hvk one none ⊢
        rw [one _ rfl] at hf1 ⊢
        walk_at "gi"
        refine .a ⟨kvE g E, stN nx, _, rfl, congrArg Re.val (dt_stN nx), ⟨_, rfl⟩, stN_depth nx, hvk, ?_⟩
        walk_at "gi"
        exact .a ⟨_, _, _, _, _, _, _, by rw [List.map_append]; rfl⟩
      · rw [if_neg hg0] at hvk one none ⊢
        cases hl : look E nx with
        | none =>
          rw [hl] at hvk one none
          rw [none rfl, List.append_nil]
          walk_at "gi"
          exact .a ⟨_, _, _, _, _, _, _, rfl⟩
        | some y =>
          rw [hl] at hvk one none
          rw [one _ rfl] at hf1 ⊢
          obtain ⟨ys, yr, yc, ye, yf, yp, yn⟩ := y
          walk_at "gi"
          · refine .a ⟨kvE g E, stN nx, .tup [.int yr, .int yc, .tup [.int ye, .int yf, .int yp], yn.dt], rfl, congrArg Re.val (dt_stN nx), ⟨_, rfl⟩, stN_depth nx, hvk, ?_⟩
            walk_at "gi"
            exact .a ⟨_, _, _, _, _, _, _, by rw [List.map_append]; rfl⟩
          · rename_i hY; exact absurd hY (by simp)
    · rintro G ⟨s5, s6, s7, s8, s9, s10, s11, rfl⟩
      rw [List.take_length]
      have hf0 := hfo (optsFrom g r s).length
      have hfl0 := hfl (optsFrom g r s).length
      rw [List.take_length] at hf0 hfl0
      have htk : (R.mergeSort (dataLe true encS)).take (i + 1) = (R.mergeSort (dataLe true encS)).take i ++ [s] := by rw [List.take_add_one, hs]; rfl
      walk_at "gi"
      · rename_i hpos
        refine we_minD Ent.dt encE ?_
        walk_at "gi"
        refine .a ⟨foundOf g E s (optsFrom g r s), rfl, fun x _ => py_E x, ⟨fun a ha b hb => ?_, fun a ha => ?_⟩, by omega, depthAll_E _, fun x hx hm => ?_⟩
        · obtain ⟨x, _, rfl⟩ := List.mem_map.mp ha
          obtain ⟨y, _, rfl⟩ := List.mem_map.mp hb
          exact alike_E x y
        · obtain ⟨x, _, rfl⟩ := List.mem_map.mp ha
          exact fun z => nomatch z
        · have hxs : x.s = s := by
            obtain ⟨o, _, ho⟩ := List.mem_filterMap.mp hx
            obtain ⟨v, _, rfl⟩ := Option.map_eq_some_iff.mp ho
            rfl
          have hsg : s ≠ goalOf g := fun e => by unfold foundOf at hx; rw [goal_opts e] at hx; simp at hx
          have hln : look E x.s = none := look_none fun y hy e => hni (by rw [← hxs, ← e]; exact (hE.c1 y hy).2.1)
          have hput := put_kvE (g := g) (E := E) (x := x) (by rw [hxs]; exact hsg) hln
          rw [hxs] at hput
          walk_at "gi"
          refine .a ⟨kvE g E, stN s, congrArg Re.val (dt_stN s), ⟨_, rfl⟩, stN_depth s, rfl, by unfold kvE; rw [List.length_cons, List.length_map]; omega, ?_⟩
          rw [hput]
          exact .a ⟨E ++ [x], _, _, _, _, _, _, _, _, _, by rw [htk]; exact hE.add hni hcl hx hm, rfl⟩
      · rename_i h0
        have hnil : foundOf g E s (optsFrom g r s) = [] := List.eq_nil_of_length_eq_zero (by omega)
        exact .a ⟨E, _, _, _, _, _, _, _, _, _, by rw [htk]; exact hE.skip hnil, rfl⟩
  · rintro G ⟨E, s3, s4, s5, s6, s7, s8, s9, s10, s11, hE, rfl⟩
    walk_at "gi"
    rw [List.take_length] at hE
    have hpm := List.mergeSort_perm R (dataLe true encS)
    refine k E ⟨fun x hx => ?_, fun s hs => hE.c2 s (hpm.mem_iff.mpr hs), hE.c3⟩
    obtain ⟨a, b, c⟩ := hE.c1 x hx
    exact ⟨a, hpm.mem_iff.mp b, c⟩
end
end
section
open PySem L2 Ab PySem.W
abbrev Stp := Sta × Opt
inductive Path (g : List Ln) (r : Fr) : Sta → List Stp → Sta → Prop
  | nil (s : Sta) : Path g r s [] s
  | cons {s : Sta} {o : Opt} {ps : List Stp} {t : Sta} : o ∈ optsFrom g r s → Path g r o.nx ps t → Path g r s ((s, o) :: ps) t
def triD (o : Opt) : PyData := .tuple [.int o.e, .int o.fe, .int o.sp]
def tot (ps : List Stp) : Int := (ps.map fun p => p.2.price).sum
def trisD (ps : List Stp) : PyData := .tuple (ps.map fun p => triD p.2)
def rk (ps : List Stp) : PyData := .tuple [.int (tot ps), .int ps.length, trisD ps]
structure Opti (g : List Ln) (r : Fr) (s : Sta) (ps : List Stp) : Prop where
  path : Path g r s ps (goalOf g)
  best : ∀ qs, Path g r s qs (goalOf g) → dataLt (rk qs) (rk ps) = false
theorem tot_cons (s : Sta) (o : Opt) (ps : List Stp) : tot ((s, o) :: ps) = o.price + tot ps := by unfold tot; simp
theorem alike_tri (a b : Opt) : alike (triD a) (triD b) = true := by unfold triD; simp [alike, alikeAll]
theorem alike_tris : ∀ (xs ys : List Stp), alikeAll (xs.map fun p => triD p.2) (ys.map fun p => triD p.2) = true
  | [], _ => by simp [alikeAll]
  | _ :: _, [] => by simp [alikeAll]
  | x :: xs, y :: ys => by rw [List.map_cons, List.map_cons, alikeAll, alike_tri, alike_tris xs ys]; rfl
theorem alike_trisD (xs ys : List Stp) : alike (trisD xs) (trisD ys) = true := by unfold trisD; rw [alike]; exact alike_tris xs ys
theorem lt_eqv {x y : PyData} (h : alike x y = true) (e : PyData.eqv x y = true) : dataLt x y = false := by
  have := (toks_eqv x y h).1 e
  unfold dataLt
  rw [this]
  exact dataLt_irr y
theorem lt3 {a b c d : Int} {x y : PyData} (h : alike x y = true) : dataLt (.tuple [.int a, .int b, x]) (.tuple [.int c, .int d, y]) = true ↔ a < c ∨ (a = c ∧ (b < d ∨ (b = d ∧ dataLt x y = true))) := by
  rw [lt_consI, lt_consI, lt_cons h]
  by_cases h1 : a = c
  · rw [if_pos h1]
    by_cases h2 : b = d
    · rw [if_pos h2]
      by_cases h3 : PyData.eqv x y = true
      · rw [if_pos h3, lt_nil, lt_eqv h h3]
        simp [h1, h2]
      · rw [if_neg h3]
        simp [h1, h2]
    · rw [if_neg h2, decide_eq_true_eq]
      constructor
      · intro h; exact .inr ⟨h1, .inl h⟩
      · rintro (h | ⟨_, h | ⟨h, _⟩⟩)
        · omega
        · exact h
        · exact absurd h h2
  · rw [if_neg h1, decide_eq_true_eq]
    constructor
    · intro h; exact .inl h
    · rintro (h | ⟨h, _⟩)
      · exact h
      · exact absurd h h1
theorem rk_lt {ps qs : List Stp} : dataLt (rk qs) (rk ps) = true ↔ tot qs < tot ps ∨ (tot qs = tot ps ∧ ((qs.length : Int) < ps.length ∨ ((qs.length : Int) = ps.length ∧ dataLt (trisD qs) (trisD ps) = true))) := lt3 (alike_trisD qs ps)
theorem spl_at {g : List Ln} {r : Fr} {line e : Nat} {x : Sp} (h : x ∈ spl g r line e) : x = spOf g line e x.p := by
  unfold spl at h
  obtain ⟨p, _, rfl⟩ := List.mem_map.mp (List.mem_filter.mp h).1
  rfl
theorem opt_same {g : List Ln} {r : Fr} {s : Sta} {o q : Opt} (ho : o ∈ optsFrom g r s) (hq : q ∈ optsFrom g r s) (h1 : o.e = q.e) (h2 : o.fe = q.fe) (h3 : o.sp = q.sp) : o = q := by
  obtain ⟨e, fe, x, _, _, _, _, _, hx, _, _, _, rfl⟩ := opt_mem ho
  obtain ⟨e', fe', y, _, _, _, _, _, hy, _, _, _, rfl⟩ := opt_mem hq
  have a1 : e = e' := h1
  have a2 : fe = fe' := h2
  have a3 : x.p = y.p := h3
  subst a1 a2
  rw [spl_at hx, spl_at hy, a3]
theorem eqv_tri {o q : Opt} (h : PyData.eqv (triD o) (triD q) = true) : o.e = q.e ∧ o.fe = q.fe ∧ o.sp = q.sp := by
  unfold triD at h
  rw [PyData.eqv, PyData.eqvAll, PyData.eqvAll, PyData.eqvAll, PyData.eqvAll, eqv_i, eqv_i, eqv_i] at h
  simp at h
  omega
theorem Path.up {g : List Ln} {r : Fr} {s t : Sta} {ps : List Stp} (h : Path g r s ps t) : pot s + ps.length ≤ pot t := by
  induction h with
  | nil => simp
  | cons ho _ ih =>
    have := (opt_up ho).2.1
    simp only [List.length_cons]; omega
theorem goal_path {g : List Ln} {r : Fr} {s t : Sta} {ps : List Stp} (hs : s = goalOf g) (h : Path g r s ps t) : ps = [] := by
  cases h with
  | nil => rfl
  | cons ho _ => rw [goal_opts hs] at ho; simp at ho
inductive FolP (g : List Ln) (E : List Ent) : Sta → List Stp → Prop
  | nil : FolP g E (goalOf g) []
  | cons {s : Sta} {o : Opt} {x : Ent} {ps : List Stp} : s ≠ goalOf g → look E s = some x → x.e = o.e → x.fe = o.fe → x.sp = o.sp → x.nx = o.nx → FolP g E o.nx ps → FolP g E s ((s, o) :: ps)
theorem cheap_best {g : List Ln} {r : Fr} {R : List Sta} {E : List Ent} (hR : ReachOk g r R) (hE : CheapOk g r R E) : ∀ (n : Nat) (s : Sta), Reach g r s → g.length + (flo g).length - pot s < n →
    (∀ qs, Path g r s qs (goalOf g) → (valE g E s).isSome = true) ∧ ∀ v, valE g E s = some v → ∃ ps, Opti g r s ps ∧ tot ps = v.1 ∧ (ps.length : Int) = v.2 ∧ FolP g E s ps
  | 0, s, _, h => by omega
  | n + 1, s, hs, hn => by
    by_cases hg : s = goalOf g
    · have hv : valE g E s = some (0, 0) := by unfold valE; rw [if_pos hg]
      refine ⟨fun qs _ => by rw [hv]; rfl, fun v e => ?_⟩
      rw [hv] at e; cases e
      refine ⟨[], ⟨by rw [hg]; exact .nil _, fun qs hq => ?_⟩, rfl, rfl, by rw [hg]; exact .nil⟩
      rw [goal_path hg hq]
      exact dataLt_irr _
    have step : ∀ o ∈ optsFrom g r s, Reach g r o.nx ∧ g.length + (flo g).length - pot o.nx < n := fun o ho => by
      have h1 := (opt_up ho).2.1
      have h2 : Reach g r o.nx := .step hs ho
      have h3 := h2.pot_le
      exact ⟨h2, by omega⟩
    have hvl : valE g E s = (look E s).map fun x => (x.rest, x.cnt) := by unfold valE; rw [if_neg hg]
    have hsR := (hR.iff s).mpr hs
    have hloo : ∀ x ∈ E, x.s = s → ∃ y, look E s = some y := fun x hx e => by
      cases hl : look E s with
      | some y => exact ⟨y, rfl⟩
      | none => exact absurd (List.find?_eq_none.mp hl x hx) (by simp [e])
    refine ⟨fun qs hq => ?_, fun v hv => ?_⟩
    · cases hq with
      | nil => exact absurd rfl hg
      | @cons _ o ps _ ho hp =>
        obtain ⟨h1, h2⟩ := step o ho
        have := (cheap_best hR hE n o.nx h1 h2).1 ps hp
        obtain ⟨x, hx, e⟩ := hE.c2 s hsR hg ⟨o, ho, this⟩
        obtain ⟨y, hy⟩ := hloo x hx e
        rw [hvl, hy]; rfl
    · rw [hvl] at hv
      obtain ⟨x, hx, rfl⟩ := Option.map_eq_some_iff.mp hv
      obtain ⟨hxE, hxs⟩ := look_some hx
      obtain ⟨_, _, o, ho, v', hv', ex, hmin⟩ := hE.c1 x hxE
      rw [hxs] at ho ex hmin
      obtain ⟨h1, h2⟩ := step o ho
      obtain ⟨ps, hop, ht, hl, hf⟩ := (cheap_best hR hE n o.nx h1 h2).2 v' hv'
      have x1 : x.rest = o.price + v'.1 := by rw [ex]; rfl
      have x2 : x.cnt = v'.2 + 1 := by rw [ex]; rfl
      refine ⟨(s, o) :: ps, ⟨.cons ho hop.path, fun qs hq => ?_⟩, by rw [tot_cons, ht, x1], by rw [List.length_cons, x2]; omega, .cons hg hx (by rw [ex]; rfl) (by rw [ex]; rfl) (by rw [ex]; rfl) (by rw [ex]; rfl) hf⟩
      cases hq with
      | nil => exact absurd rfl hg
      | @cons _ o2 qs _ ho2 hq2 =>
        obtain ⟨k1, k2⟩ := step o2 ho2
        obtain ⟨v2, hv2⟩ := Option.isSome_iff_exists.mp ((cheap_best hR hE n o2.nx k1 k2).1 qs hq2)
        obtain ⟨p2, hop2, ht2, hl2, _⟩ := (cheap_best hR hE n o2.nx k1 k2).2 v2 hv2
        have hm := hmin o2 ho2 v2 hv2
        have hb := hop2.best qs hq2
        cases hc : dataLt (rk ((s, o2) :: qs)) (rk ((s, o) :: ps)) with
        | false => rfl
        | true =>
          exfalso
          have hc' := rk_lt.mp hc
          rw [tot_cons, tot_cons, List.length_cons, List.length_cons] at hc'
          have hb' : ¬ (tot qs < tot p2 ∨ (tot qs = tot p2 ∧ ((qs.length : Int) < p2.length ∨ ((qs.length : Int) = p2.length ∧ dataLt (trisD qs) (trisD p2) = true)))) := fun z => by rw [rk_lt.mpr z] at hb; cases hb
          have al4 : alike (.tuple [.int o2.e, .int o2.fe, .int o2.sp]) (.tuple [.int o.e, .int o.fe, .int o.sp]) = true := alike_tri o2 o
          have hm' : dataLt (.tuple [.int (o2.price + v2.1), .int (v2.2 + 1), triD o2, encS o2.nx]) (.tuple [.int (o.price + v'.1), .int (v'.2 + 1), triD o, encS o.nx]) = false := by rw [ex] at hm; exact hm
          rw [lt_consI, lt_consI, lt_cons (alike_tri o2 o)] at hm'
          by_cases c1 : o2.price + v2.1 = o.price + v'.1
          · rw [if_pos c1] at hm'
            by_cases c2 : v2.2 + 1 = v'.2 + 1
            · rw [if_pos c2] at hm'
              -- equal throughout
              have e1 : tot qs = tot p2 := by omega
              have e2 : (qs.length : Int) = p2.length := by omega
              have htr : dataLt (trisD ((s, o2) :: qs)) (trisD ((s, o) :: ps)) = true := by
                rcases hc' with z | ⟨_, z | ⟨_, z⟩⟩
                · omega
                · omega
                · exact z
              have htr' : (if PyData.eqv (triD o2) (triD o) = true then dataLt (trisD qs) (trisD ps) else dataLt (triD o2) (triD o)) = true := by
                have := lt_cons (alike_tri o2 o) (qs.map fun p => triD p.2) (ps.map fun p => triD p.2)
                exact this.symm.trans htr
              by_cases c3 : PyData.eqv (triD o2) (triD o) = true
              · rw [if_pos c3] at htr'
                obtain ⟨q1, q2, q3⟩ := eqv_tri c3
                have hoo := opt_same ho2 ho q1 q2 q3
                subst hoo
                have hb2 := hop.best qs hq2
                have : dataLt (rk qs) (rk ps) = true := rk_lt.mpr (.inr ⟨by omega, .inr ⟨by omega, htr'⟩⟩)
                rw [hb2] at this; cases this
              · rw [if_neg c3] at hm' htr'
                rw [hm'] at htr'; cases htr'
            · rw [if_neg c2] at hm'
              have c2' : ¬ (v2.2 + 1 < v'.2 + 1) := of_decide_eq_false hm'
              omega
          · rw [if_neg c1] at hm'
            have c1' : ¬ (o2.price + v2.1 < o.price + v'.1) := of_decide_eq_false hm'
            omega
theorem Path.reach {g : List Ln} {r : Fr} {s t : Sta} {ps : List Stp} (h : Path g r s ps t) (hs : Reach g r s) : Reach g r t := by
  induction h with
  | nil => exact hs
  | cons ho _ ih => exact ih (.step hs ho)
section
variable {K : PySem.W.Frag} {w : World} {F cS cN : Addr}
theorem fl_sum (g : List Ln) : (g.map fun l => (l.fl.length : Int)).sum = (flo g).length := by
  induction g with
  | nil => rfl
  | cons a r ih =>
    have e : flo (a :: r) = a.fl ++ flo r := rfl
    rw [e, List.map_cons, List.sum_cons, ih, List.length_append]; omega
def ap_es : AP := fun as Post => ∃ (g : List Ln), as = [.val (galD g)] ∧ g.length ≤ 1000 ∧ Post (.val (goalOf g).dt) as
theorem run_es : RunOk K [] (tq_end_state K) 2 ap_es := by
  rintro as Post ⟨g, rfl, hl, k⟩
  unfold tq_end_state
  show WS K [] _ [.val (.tup (g.map Ln.dt)), .un] _
  walk_at "gi"
  refine lc_tupV g Ln.dt (fun l => .int l.fl.length) (fun _ => true) ?_ ?_ ?_
  · walk_at "gi"
    exact .a ⟨rfl, by omega, rfl, rfl, rfl⟩
  · intro l _
    obtain ⟨h, sp, cut, notes, fl⟩ := l
    walk_at "gi"
    exact .a ⟨rfl, by rw [List.length_map], rfl⟩
  · refine .a ⟨g.map fun l => (l.fl.length : Int), by rw [Ab.filter_tt, List.map_map]; rfl, ?_⟩
    rw [fl_sum]
    walk_at "gi"
    rw [List.length_map]
    exact k
def stpD (p : Stp) : Dt := .tup [.int p.1.line, .int p.2.e, .int p.1.fl, .int p.2.fe, .int p.2.sp]
def ansD (ps : List Stp) : Dt := .tup [.int (tot ps), .tup (ps.map stpD)]
def ap_bp (F cN : Addr) : APX := fun as Post XP => ∃ (g : List Ln) (r : Fr), as = [.val (galD g), .val (frD F r)] ∧ PB g r ∧
  ((∀ qs, ¬ Path g r start qs (goalOf g)) → ∀ m : Nat, (∃ s, Reach g r s ∧ s.line = m) → (∀ s, Reach g r s → s.line ≤ m) → XP (.ref cN) [("lines", .int m)] as) ∧
  ∀ ps, Opti g r start ps → Post (.val (ansD ps)) as
theorem val_some {g : List Ln} {E : List Ent} {s : Sta} {v : Int × Int} (h : valE g E s = some v) : ∃ ds, valD (kvE g E) (stN s) = some (.tup (.int v.1 :: ds)) := by
  rw [val_kvE]
  unfold valE at h
  by_cases hg : s = goalOf g
  · rw [if_pos hg] at h ⊢
    cases h
    exact ⟨_, rfl⟩
  · rw [if_neg hg] at h ⊢
    obtain ⟨x, hx, rfl⟩ := Option.map_eq_some_iff.mp h
    rw [hx]
    exact ⟨_, rfl⟩
theorem run_bp (hS : KSt K cS) : RunOkX K [] (tq_break_pages K w cS cN (ap_rs w F) ap_es (ap_ce w) (ap_gr w)) 15 (ap_bp F cN) := by
  rintro W as Post XP ⟨g, r, rfl, hb, kx, k⟩
  unfold tq_break_pages
  show WS K [] _ [.val (.tup (g.map Ln.dt)), .val (frD F r), .un, .un, .un, .un, .un, .un, .un, .un, .un, .un, .un, .un, .un] _
  walk_at "gi"
  refine .a ⟨g, r, rfl, hb, fun R hR => ?_⟩
  walk_at "gi"
  refine .a ⟨g, rfl, by have := hb.n; omega, ?_⟩
  walk_at "gi"
  refine .a ⟨g, r, R, rfl, hb, hR, fun E hE => ?_⟩
  have hRl := reach_few hb hR.nd fun s hs => (hR.iff s).mp hs
  have hst : start ∈ R := (hR.iff _).mpr .start
  obtain ⟨hA, hB⟩ := cheap_best hR hE _ start .start (Nat.lt_succ_self _)
  walk_at "gi"
  refine .a ⟨kvE g E, stN start, rfl, congrArg Re.val (dt_stN start), ⟨_, rfl⟩, stN_depth _, ?_⟩
  have hvk := val_kvE (g := g) (E := E) (s := start)
  cases hv : valE g E start with
  | none =>
    have hn : valD (kvE g E) (stN start) = none := by
      rw [hvk]
      unfold valE at hv
      split at hv
      · cases hv
      · rename_i hg
        rw [if_neg hg]
        cases hl : look E start with
        | none => rfl
        | some y => rw [hl] at hv; cases hv
    rw [hn]
    walk_at "gi"
    refine ws_raise1 rfl ?_
    walk_at "gi"
    refine .a ⟨g, r, R, rfl, fun e => by rw [e] at hst; simp at hst, by omega, fun m h1 h2 => ?_⟩
    walk_at "gi"
    obtain ⟨s, hs, e⟩ := h1
    have hx := kx (fun qs hq => by have := hA qs hq; rw [hv] at this; cases this) m ⟨s, (hR.iff s).mp hs, e⟩ fun t ht => h2 t ((hR.iff t).mpr ht)
    exact ⟨fun _ _ _ => trivial, hx⟩
  | some v =>
    obtain ⟨ps, ho, ht, hl, hf⟩ := hB v hv
    obtain ⟨ds, hd⟩ := val_some hv
    rw [hd]
    have hsl := ho.path.up
    have hpl : ps.length ≤ 66 := by
      have h1 := (ho.path.reach .start).pot_le
      have := hb.n
      have := hb.f
      omega
    walk_at "gi"
    · rename_i hY; exact absurd hY (by simp)
    refine while_ab (fun m G => ∃ (s : Sta) (dn rest : List Stp) (s7 s8 s9 s10 s11 s12 s13 s14 : Sl), FolP g E s rest ∧ ps = dn ++ rest ∧ m = rest.length ∧ G = [.val (.tup (g.map Ln.dt)), .val (frD F r), .cel (.dN w (kvR g r R)), .val (goalOf g).dt, .cel (.dN w (kvE g E)), .val s.dt, .acc (dn.map stpD), s7, s8, s9, s10, s11, s12, s13, s14]) ps.length ?_ ?_
    · exact ⟨start, [], ps, _, _, _, _, _, _, _, _, hf, rfl, rfl, rfl⟩
    · rintro m G ⟨s, dn, rest, s7, s8, s9, s10, s11, s12, s13, s14, hf, hps, rfl, rfl⟩
      have hdl : dn.length + rest.length ≤ 66 := by rw [hps, List.length_append] at hpl; exact hpl
      have hdm : (dn.map stpD).length = dn.length := List.length_map _
      walk_at "gi"
      refine eqp_sta (s := s) (t := goalOf g) ?_
      cases hf with
      | nil =>
        have e : (true ^^ decide (goalOf g = goalOf g)) = false := by simp
        rw [e]
        walk_at "gi"
        refine .a ⟨kvE g E, stN start, _, rfl, congrArg Re.val (dt_stN start), ⟨_, rfl⟩, stN_depth _, hd, ?_⟩
        walk_at "gi"
        have hk := k ps ho
        rw [List.append_nil] at hps
        unfold ansD at hk
        rw [ht, hps] at hk
        exact hk
      | @cons _ o x ps' hsg hlk h1 h2 h3 h4 hf' =>
        have e : (true ^^ decide (s = goalOf g)) = true := by simp [hsg]
        rw [e]
        obtain ⟨line, fl, ages⟩ := s
        walk_at "gi"
        obtain ⟨xs, xr, xc, xe, xf, xp, xn⟩ := x
        refine .a ⟨kvE g E, stN ⟨line, fl, ages⟩, .tup [.int xr, .int xc, .tup [.int xe, .int xf, .int xp], xn.dt], rfl, congrArg Re.val (dt_stN _), ⟨_, rfl⟩, stN_depth _, by rw [val_kvE, if_neg hsg, hlk]; rfl, ?_⟩
        walk_at "gi"
        have d1 : xe = o.e := h1
        have d2 : xf = o.fe := h2
        have d3 : xp = o.sp := h3
        have d4 : xn = o.nx := h4
        subst d1 d2 d3 d4
        exact .a ⟨_, Nat.lt_succ_self _, o.nx, dn ++ [(⟨line, fl, ages⟩, o)], ps', _, _, _, _, _, _, _, _, hf', by rw [hps]; simp, rfl, by rw [List.map_append]; rfl⟩
end
end
section
open PySem L2 Ab PySem.W
def tq_number (K : PySem.W.Frag) : TS :=
    (tRet (tAndV (tCB (rIsi K) (tCons (tVar 0) (tCons (tC (.ty "int")) tNil))) (tNotV (tCB (rIsi K) (tCons (tVar 0) (tCons (tC (.ty "bool")) tNil))))))
def tq_numbers (K : PySem.W.Frag) (ap__law_number : AP) : TS :=
    (tSeq (tIfS (tOr (tNot (tB (tCB (rIsi K) (tCons (tVar 0) (tCons (tC (.ty "tuple")) tNil))))) (tTest (tOp (rNeG K) (tCB (rLenV K) (tCons (tVar 0) tNil)) (tVar 1)))) (tRet (tC (.bl false))) tNext)
    (tRet (tOp (rEqG K) (tCB (rLenV K) (tCons (tLc (iTup K (tVar 0)) (gName 2) (tNot (tB (tCall (toSp K ap__law_number) [] E0 (tCons (tVar 2) tNil)))) (tVar 2) [2]) tNil)) (tC (.int 0)))))
def tq_paged (K : PySem.W.Frag) (ap__law_number : AP) (ap__law_numbers : AP) : TS :=
    (tSeq (tIfS (tOr (tNot (tB (tCB (rIsi K) (tCons (tVar 0) (tCons (tC (.ty "tuple")) tNil))))) (tTest (tOp (rNeG K) (tCB (rLenV K) (tCons (tVar 0) tNil)) (tC (.int 2))))) (tRet (tC (.bl false))) tNext)
    (tSeq (tIfS (tOr (tNot (tB (tCall (toSp K ap__law_number) [] E0 (tCons (tOp (rIx K) (tVar 0) (tC (.int 0))) tNil)))) (tNot (tB (tCB (rIsi K) (tCons (tOp (rIx K) (tVar 0) (tC (.int 1))) (tCons (tC (.ty "tuple")) tNil)))))) (tRet (tC (.bl false))) tNext)
    (tRet (tOp (rEqG K) (tCB (rLenV K) (tCons (tLc (iTup K (tOp (rIx K) (tVar 0) (tC (.int 1)))) (gName 1) (tNot (tB (tCall (toSp K ap__law_numbers) [] E0 (tCons (tVar 1) (tCons (tC (.int 5)) tNil))))) (tVar 1) [1]) tNil)) (tC (.int 0))))))
theorem flat_le {α β : Type} (F : α → List β) (n : Nat) : ∀ xs : List α, (∀ x ∈ xs, (F x).length ≤ n) → (xs.flatMap F).length ≤ xs.length * n
  | [], _ => by simp
  | x :: r, h => by
    rw [List.flatMap_cons, List.length_append, List.length_cons, Nat.succ_mul]
    have h1 := h x (List.mem_cons_self)
    have h2 := flat_le F n r fun y hy => h y (List.mem_cons_of_mem _ hy)
    omega
theorem opts_few {g : List Ln} {r : Fr} {s : Sta} {L F : Nat} (hF : (flo g).length ≤ F) (hL : ∀ e, e ≤ g.length → (spl g r s.line e).length ≤ L) : (optsFrom g r s).length ≤ (g.length + 1) * ((F + 1) * L) := by
  unfold optsFrom
  refine Nat.le_trans (flat_le _ ((F + 1) * L) _ fun e he => ?_) (Nat.mul_le_mul_right _ ?_)
  · have he := List.mem_range'_1.mp (mem_tw he)
    unfold endOf
    split
    · unfold optsTo
      refine Nat.le_trans (flat_le _ L _ fun fe _ => Nat.le_trans (optIn_len g r s e fe _) (hL e (by omega))) (Nat.mul_le_mul_right _ ?_)
      rw [List.length_range']
      have : mk g e ≤ (flo g).length := by
        have := mk_mono g (a := e) (b := g.length) (by omega)
        have e : mk g g.length = (flo g).length := by unfold mk; rw [List.take_length]
        omega
      omega
    · exact Nat.zero_le _
  · refine Nat.le_trans (takeW_len _ _) ?_
    rw [List.length_range']; omega
theorem PB.of {g : List Ln} {r : Fr} (gb : GB g) (fb : FB r) (n : g.length ≤ 60) (f : (flo g).length ≤ 6) (w : r.wait ≤ 3) (h : r.cols = 2 → g.length ≤ 40) : PB g r := by
  refine ⟨gb, fb, n, f, w, ?_⟩
  by_cases hc : r.cols = 2
  · have h40 := h hc
    refine ⟨(40 + 1) * ((6 + 1) * 41), by omega, fun s _ => ?_, ?_⟩
    · refine Nat.le_trans (opts_few (F := 6) (L := 41) f fun e he => Nat.le_trans (spl_len g r s.line e) (by omega)) (Nat.mul_le_mul_right _ (by omega))
    · exact Nat.le_trans (Nat.mul_le_mul_left _ (show g.length + (flo g).length + 2 ≤ 48 by omega)) (by decide)
  · refine ⟨(60 + 1) * ((6 + 1) * 1), by omega, fun s _ => ?_, ?_⟩
    · refine Nat.le_trans (opts_few (F := 6) (L := 1) f fun e he => ?_) (Nat.mul_le_mul_right _ (by omega))
      unfold spl
      refine Nat.le_trans (List.length_filter_le _ _) ?_
      rw [List.length_map]
      unfold plOf
      rw [if_neg (fun z => hc z.1)]
      exact Nat.le_refl _
    · exact Nat.le_trans (Nat.mul_le_mul_left _ (show g.length + (flo g).length + 2 ≤ 68 by omega)) (by decide)
section
variable {K : PySem.W.Frag}
def ap_num : AP := fun as Post => ∃ i : Int, as = [.val (.int i)] ∧ Post (.val (.bl true)) as
theorem run_num : RunOk K [] (tq_number K) 1 ap_num := by
  rintro as Post ⟨i, rfl, k⟩
  unfold tq_number
  show WS K [] _ [.val (.int i)] _
  walk_at "gi"
  exact k
def ap_nums : AP := fun as Post => ∃ xs : List Int, as = [.val (.tup (xs.map Dt.int)), .val (.int xs.length)] ∧ xs.length ≤ 1000 ∧ Post (.val (.bl true)) as
theorem run_nums : RunOk K [] (tq_numbers K ap_num) 3 ap_nums := by
  rintro as Post ⟨xs, rfl, hl, k⟩
  unfold tq_numbers
  have hm : (xs.map Dt.int).length = xs.length := List.length_map _
  show WS K [] _ [.val (.tup (xs.map Dt.int)), .val (.int xs.length), .un] _
  walk_at "gi"
  refine lc_tupV xs Dt.int Dt.int (fun _ => false) ?_ ?_ ?_
  · walk_at "gi"
    exact .a ⟨rfl, by omega, rfl, rfl, rfl⟩
  · intro x _
    walk_at "gi"
    refine .a ⟨x, rfl, ?_⟩
    walk_at "gi"
    exact .a ⟨rfl, rfl⟩
  · have : xs.filter (fun _ => false) = [] := List.filter_eq_nil_iff.mpr fun _ _ => by simp
    rw [this]
    walk_at "gi"
    exact k
def ap_paged : AP := fun as Post => ∃ ps : List Stp, as = [.val (ansD ps)] ∧ ps.length ≤ 1000 ∧ Post (.val (.bl true)) as
theorem run_paged : RunOk K [] (tq_paged K ap_num ap_nums) 2 ap_paged := by
  rintro as Post ⟨ps, rfl, hl, k⟩
  unfold tq_paged
  unfold ansD at k
  show WS K [] _ [.val (.tup [.int (tot ps), .tup (ps.map stpD)]), .un] _
  walk_at "gi"
  · rename_i hY
    exact absurd hY (by simp)
  refine .a ⟨tot ps, rfl, ?_⟩
  walk_at "gi"
  refine lc_tupV ps stpD stpD (fun _ => false) ?_ ?_ ?_
  · walk_at "gi"
    exact .a ⟨rfl, by omega, rfl, rfl, rfl⟩
  · intro x _
    walk_at "gi"
    refine .a ⟨[x.1.line, x.2.e, x.1.fl, x.2.fe, x.2.sp], rfl, by show 5 ≤ 1000; omega, ?_⟩
    walk_at "gi"
    exact .a ⟨rfl, rfl⟩
  · have : ps.filter (fun _ => false) = [] := List.filter_eq_nil_iff.mpr fun _ _ => by simp
    rw [this]
    walk_at "gi"
    exact k
end

section
variable {K : PySem.W.Frag}
end
end
section
open PySem L2 Ab PySem.W
theorem PB.of3 {g : List Ln} {r : Fr} (gb : GB g) (fb : FB r) (n : g.length ≤ 60) (f : (flo g).length ≤ 6) (w : r.wait ≤ 3) (h : r.cols = 2 → (flo g).length ≤ 3) : PB g r := by
  refine ⟨gb, fb, n, f, w, ?_⟩
  by_cases hc : r.cols = 2
  · have h3 := h hc
    refine ⟨(60 + 1) * ((3 + 1) * 61), by omega, fun s _ => ?_, ?_⟩
    · refine Nat.le_trans (opts_few (F := 3) (L := 61) h3 fun e he => Nat.le_trans (spl_len g r s.line e) (by omega)) (Nat.mul_le_mul_right _ (by omega))
    · exact Nat.le_trans (Nat.mul_le_mul_left _ (show g.length + (flo g).length + 2 ≤ 65 by omega)) (by decide)
  · refine ⟨(60 + 1) * ((6 + 1) * 1), by omega, fun s _ => ?_, ?_⟩
    · refine Nat.le_trans (opts_few (F := 6) (L := 1) f fun e he => ?_) (Nat.mul_le_mul_right _ (by omega))
      unfold spl
      refine Nat.le_trans (List.length_filter_le _ _) ?_
      rw [List.length_map]
      unfold plOf
      rw [if_neg (fun z => hc z.1)]
      exact Nat.le_refl _
    · exact Nat.le_trans (Nat.mul_le_mul_left _ (show g.length + (flo g).length + 2 ≤ 68 by omega)) (by decide)
theorem Opti.tail {g : List Ln} {r : Fr} {s : Sta} {ps : List Stp} {o : Opt} (h : Opti g r s ((s, o) :: ps)) : Opti g r o.nx ps := by
  cases h.path with
  | cons ho hp =>
    refine ⟨hp, fun qs hq => ?_⟩
    have hb := h.best ((s, o) :: qs) (.cons ho hq)
    cases hc : dataLt (rk qs) (rk ps) with
    | false => rfl
    | true =>
      exfalso
      have hc' := rk_lt.mp hc
      have : dataLt (rk ((s, o) :: qs)) (rk ((s, o) :: ps)) = true := by
        refine rk_lt.mpr ?_
        rw [tot_cons, tot_cons, List.length_cons, List.length_cons]
        have ht : dataLt (trisD ((s, o) :: qs)) (trisD ((s, o) :: ps)) = if PyData.eqv (triD o) (triD o) = true then dataLt (trisD qs) (trisD ps) else dataLt (triD o) (triD o) := lt_cons (alike_tri o o) (qs.map fun p : Stp => triD p.2) (ps.map fun p : Stp => triD p.2)
        have er : PyData.eqv (triD o) (triD o) = true := by
          unfold triD; rw [PyData.eqv, PyData.eqvAll, PyData.eqvAll, PyData.eqvAll, PyData.eqvAll, eqv_i, eqv_i, eqv_i]; simp
        rw [if_pos er] at ht
        rw [ht]
        rcases hc' with z | ⟨z, z2 | ⟨z2, z3⟩⟩
        · exact .inl (by omega)
        · exact .inr ⟨by omega, .inl (by omega)⟩
        · exact .inr ⟨by omega, .inr ⟨by omega, z3⟩⟩
      rw [hb] at this; cases this
end
namespace Lk69
open PySem L2 Ab
def topS (i : Nat) : Stmt := PySem.Challenge.pw_stylepages_k69_whole_widows_and_orphans.main.body.getD i (.Pass ⟨0, 0, 0, 0⟩)
abbrev s_space_and_cut : Stmt := topS 1
theorem sc_space_and_cut : FnScope ["paragraph", "previous", "above", "keep", "below"] ["paragraph", "previous"] (defScope s_space_and_cut) := ⟨rfl, rfl, rfl, by decide +kernel, rfl, by decide +kernel, by decide +kernel⟩
abbrev s_paragraph_lines : Stmt := topS 2
theorem sc_paragraph_lines : FnScope ["paragraph", "previous", "lines", "lead", "least", "space", "cut", "found", "number", "notes", "floats"] ["paragraph", "previous"] (defScope s_paragraph_lines) := ⟨rfl, rfl, rfl, by decide +kernel, rfl, by decide +kernel, by decide +kernel⟩
abbrev s_make_galley : Stmt := topS 3
theorem sc_make_galley : FnScope ["paragraphs", "galley", "previous", "paragraph"] ["paragraphs"] (defScope s_make_galley) := ⟨rfl, rfl, rfl, by decide +kernel, rfl, by decide +kernel, by decide +kernel⟩
abbrev s_end_state : Stmt := topS 9
theorem sc_end_state : FnScope ["galley", "line"] ["galley"] (defScope s_end_state) := ⟨rfl, rfl, rfl, by decide +kernel, rfl, by decide +kernel, by decide +kernel⟩
abbrev s_GalleySums___init__ : Stmt := inClass (topS 10) 0
theorem sc_GalleySums___init__ : FnScope ["self", "galley", "height", "space", "cut", "notes", "floats", "line"] ["self", "galley"] (defScope s_GalleySums___init__) := ⟨rfl, rfl, rfl, by decide +kernel, rfl, by decide +kernel, by decide +kernel⟩
abbrev s_GalleySums_column_height : Stmt := inClass (topS 10) 1
theorem sc_GalleySums_column_height : FnScope ["self", "start", "end"] ["self", "start", "end"] (defScope s_GalleySums_column_height) := ⟨rfl, rfl, rfl, by decide +kernel, rfl, by decide +kernel, by decide +kernel⟩
abbrev s_GalleySums_page_room : Stmt := inClass (topS 10) 2
theorem sc_GalleySums_page_room : FnScope ["self", "frame", "state", "end", "floats_end", "line", "floats", "ages", "notes", "room"] ["self", "frame", "state", "end", "floats_end"] (defScope s_GalleySums_page_room) := ⟨rfl, rfl, rfl, by decide +kernel, rfl, by decide +kernel, by decide +kernel⟩
abbrev s_GalleySums_next_ages : Stmt := inClass (topS 10) 3
theorem sc_GalleySums_next_ages : FnScope ["self", "state", "end", "floats_end", "line", "floats", "ages", "following", "number"] ["self", "state", "end", "floats_end"] (defScope s_GalleySums_next_ages) := ⟨rfl, rfl, rfl, by decide +kernel, rfl, by decide +kernel, by decide +kernel⟩
abbrev s_column_splits : Stmt := topS 11
theorem sc_column_splits : FnScope ["sums", "frame", "line", "end", "places", "split", "splits", "first", "second"] ["sums", "frame", "line", "end"] (defScope s_column_splits) := ⟨rfl, rfl, rfl, by decide +kernel, rfl, by decide +kernel, by decide +kernel⟩
abbrev s_page_price : Stmt := topS 12
theorem sc_page_price : FnScope ["frame", "slack", "difference", "pending", "price"] ["frame", "slack", "difference", "pending"] (defScope s_page_price) := ⟨rfl, rfl, rfl, by decide +kernel, rfl, by decide +kernel, by decide +kernel⟩
abbrev s_options_to : Stmt := topS 13
theorem sc_options_to : FnScope ["sums", "frame", "state", "end", "splits", "goal", "options", "floats_end", "ages", "following", "room", "split", "higher", "difference", "slack", "price", "age"] ["sums", "frame", "state", "end", "splits"] (defScope s_options_to) := ⟨rfl, rfl, rfl, by decide +kernel, rfl, by decide +kernel, by decide +kernel⟩
abbrev s_options_from : Stmt := topS 14
theorem sc_options_from : FnScope ["sums", "frame", "state", "line", "options", "end", "splits"] ["sums", "frame", "state"] (defScope s_options_from) := ⟨rfl, rfl, rfl, by decide +kernel, rfl, by decide +kernel, by decide +kernel⟩
abbrev s_reached_states : Stmt := topS 15
theorem sc_reached_states : FnScope ["galley", "frame", "sums", "reached", "waiting", "state", "options", "option"] ["galley", "frame"] (defScope s_reached_states) := ⟨rfl, rfl, rfl, by decide +kernel, rfl, by decide +kernel, by decide +kernel⟩
abbrev s_greatest_line : Stmt := topS 16
theorem sc_greatest_line : FnScope ["reached", "state"] ["reached"] (defScope s_greatest_line) := ⟨rfl, rfl, rfl, by decide +kernel, rfl, by decide +kernel, by decide +kernel⟩
abbrev s_cheapest_to_end : Stmt := topS 18
theorem sc_cheapest_to_end : FnScope ["reached", "goal", "best", "state", "found", "end", "floats_end", "split", "price", "following", "rest", "count"] ["reached", "goal"] (defScope s_cheapest_to_end) := ⟨rfl, rfl, rfl, by decide +kernel, rfl, by decide +kernel, by decide +kernel⟩
abbrev s_break_pages : Stmt := topS 19
theorem sc_break_pages : FnScope ["galley", "frame", "reached", "goal", "best", "state", "pages", "line", "floats", "ages", "page", "following", "end", "floats_end", "split"] ["galley", "frame"] (defScope s_break_pages) := ⟨rfl, rfl, rfl, by decide +kernel, rfl, by decide +kernel, by decide +kernel⟩
abbrev s_Frame___init__ : Stmt := inClass (topS 21) 0
theorem sc_Frame___init__ : FnScope ["self", "height", "columns", "rule", "under", "wait", "late", "uneven"] ["self", "height", "columns", "rule", "under", "wait", "late", "uneven"] (defScope s_Frame___init__) := ⟨rfl, rfl, rfl, by decide +kernel, rfl, by decide +kernel, by decide +kernel⟩
abbrev s_Frame_of : Stmt := inClass (topS 21) 2
theorem sc_Frame_of : FnScope ["key", "height", "columns", "rule", "under", "wait", "late", "uneven"] ["key"] (defScope s_Frame_of) := ⟨rfl, rfl, rfl, by decide +kernel, rfl, by decide +kernel, by decide +kernel⟩
abbrev s__law_pool : Stmt := topS 23
theorem sc__law_pool : FnScope ["_law_script", "_law_at", "_law_cell"] ["_law_script", "_law_at"] (defScope s__law_pool) := ⟨rfl, rfl, rfl, by decide +kernel, rfl, by decide +kernel, by decide +kernel⟩
abbrev s__law_take : Stmt := topS 24
theorem sc__law_take : FnScope ["_law_pool_here", "_law_many", "_law_got", "_law_one", "_law_two"] ["_law_pool_here", "_law_many"] (defScope s__law_take) := ⟨rfl, rfl, rfl, by decide +kernel, rfl, by decide +kernel, by decide +kernel⟩
abbrev s__law_number : Stmt := topS 25
theorem sc__law_number : FnScope ["_law_thing"] ["_law_thing"] (defScope s__law_number) := ⟨rfl, rfl, rfl, by decide +kernel, rfl, by decide +kernel, by decide +kernel⟩
abbrev s__law_numbers : Stmt := topS 26
theorem sc__law_numbers : FnScope ["_law_thing", "_law_many", "_law_one"] ["_law_thing", "_law_many"] (defScope s__law_numbers) := ⟨rfl, rfl, rfl, by decide +kernel, rfl, by decide +kernel, by decide +kernel⟩
abbrev s__law_paged : Stmt := topS 27
theorem sc__law_paged : FnScope ["_law_answer", "_law_page"] ["_law_answer"] (defScope s__law_paged) := ⟨rfl, rfl, rfl, by decide +kernel, rfl, by decide +kernel, by decide +kernel⟩
abbrev s__law_ranges : Stmt := topS 28
theorem sc__law_ranges : FnScope ["_law_pool_here", "_law_plain", "_law_unit", "_law_wide"] ["_law_pool_here"] (defScope s__law_ranges) := ⟨rfl, rfl, rfl, by decide +kernel, rfl, by decide +kernel, by decide +kernel⟩
abbrev s__law_frame_key : Stmt := topS 29
theorem sc__law_frame_key : FnScope ["_law_pool_here", "_law_scale", "_law_high", "_law_cols", "_law_foot", "_law_head", "_law_patience", "_law_dear"] ["_law_pool_here", "_law_scale"] (defScope s__law_frame_key) := ⟨rfl, rfl, rfl, by decide +kernel, rfl, by decide +kernel, by decide +kernel⟩
abbrev s__law_frame : Stmt := topS 30
theorem sc__law_frame : FnScope ["_law_key", "_law_way"] ["_law_key", "_law_way"] (defScope s__law_frame) := ⟨rfl, rfl, rfl, by decide +kernel, rfl, by decide +kernel, by decide +kernel⟩
abbrev s__law_heights : Stmt := topS 31
theorem sc__law_heights : FnScope ["_law_pool_here", "_law_many", "_law_tall", "_law_k"] ["_law_pool_here", "_law_many", "_law_tall"] (defScope s__law_heights) := ⟨rfl, rfl, rfl, by decide +kernel, rfl, by decide +kernel, by decide +kernel⟩
abbrev s__law_lines : Stmt := topS 32
theorem sc__law_lines : FnScope ["_law_pool_here", "_law_many", "_law_floats", "_law_scale", "_law_lines_here", "_law_k", "_law_sort", "_law_notes", "_law_own"] ["_law_pool_here", "_law_many", "_law_floats", "_law_scale"] (defScope s__law_lines) := ⟨rfl, rfl, rfl, by decide +kernel, rfl, by decide +kernel, by decide +kernel⟩
abbrev s__law_paragraphs : Stmt := topS 33
theorem sc__law_paragraphs : FnScope ["_law_pool_here", "_law_scale", "_law_rows", "_law_floats", "_law_k", "_law_many", "_law_lead", "_law_least", "_law_keep", "_law_above", "_law_below", "_law_lines_here", "_law_line"] ["_law_pool_here", "_law_scale"] (defScope s__law_paragraphs) := ⟨rfl, rfl, rfl, by decide +kernel, rfl, by decide +kernel, by decide +kernel⟩
abbrev s__law_places : Stmt := topS 34
theorem sc__law_places : FnScope ["_law_pages", "_law_many", "_law_places_here", "_law_line", "_law_page"] ["_law_pages", "_law_many"] (defScope s__law_places) := ⟨rfl, rfl, rfl, by decide +kernel, rfl, by decide +kernel, by decide +kernel⟩
abbrev s__law_lets : Stmt := topS 35
theorem sc__law_lets : FnScope ["_law_rows", "_law_place", "_law_before", "_law_k", "_law_many", "_law_row"] ["_law_rows", "_law_place"] (defScope s__law_lets) := ⟨rfl, rfl, rfl, by decide +kernel, rfl, by decide +kernel, by decide +kernel⟩
abbrev s_law : Stmt := topS 36
theorem sc_law : FnScope ["_law_script", "_law_pool_here", "_law_scale", "_law_key", "_law_frame_here", "_law_rows", "_law_galley", "_law_answer", "_law_fault", "_law_many", "_law_places_here", "_law_row", "_law_at"] ["_law_script"] (defScope s_law) := ⟨rfl, rfl, rfl, by decide +kernel, rfl, by decide +kernel, by decide +kernel⟩
abbrev s_NoPages___init__ : Stmt := inClass (topS 6) 0
abbrev nf_NoPages (cc cda : Addr) : NdefX.NF := ⟨"__init__", "NoPages.__init__", defArgs s_NoPages___init__, defBody s_NoPages___init__, defScope s_NoPages___init__, [("__class__", cc)], cda⟩
structure Txt (P : Program) (K : PySem.W.Frag) (mg : Str → Option Value) where
  m_abs : mg "abs" = none
  m_any : mg "any" = none
  m_bool : mg "bool" = none
  m_int : mg "int" = none
  m_isinstance : mg "isinstance" = none
  m_len : mg "len" = none
  m_list : mg "list" = none
  m_max : mg "max" = none
  m_min : mg "min" = none
  m_range : mg "range" = none
  m_sorted : mg "sorted" = none
  m_sum : mg "sum" = none
  m_super : mg "super" = none
  m_tuple : mg "tuple" = none
  c_START : Addr
  e_START : Addr
  g_START : mg "START" = some (.ref c_START)
  k_START : KTup K c_START [.int 0, .int 0, .ref e_START]
  ke_START : KTup K e_START []
  c_NoPages : Addr
  g_NoPages : mg "NoPages" = some (.ref c_NoPages)
  bs_NoPages : PySem.W.subIn K (.ref c_NoPages) (.type "BaseException") = some true
  tx_NoPages : PySem.W.typeIn K (.ref c_NoPages) = some (.type "type")
  hd_NoPages : PySem.W.hasDictIn K c_NoPages = true
  ks_ev : subTab K [c_NoPages] = true
  va_NoPages : PySem.W.subIn K (.ref c_NoPages) (.type "ValueError") = some true
  xc_NoPages : ExcC K c_NoPages
  xf_NoPages : XfC K c_NoPages
  kx_NoPages : PySem.W.keepIn K (.ref c_NoPages) = true
  ox_NoPages : OexC K c_NoPages
  fi_NoPages : Addr
  fe_NoPages : FuncData
  cc_NoPages : Addr
  cd_NoPages : Addr
  ic_NoPages : PySem.W.findIn K (.ref c_NoPages) "__init__" = some (some (.ref fi_NoPages))
  ti_NoPages : PySem.W.typeIn K (.ref fi_NoPages) = some (.type "function")
  be_NoPages : Binds K fe_NoPages ["self", "lines"] []
  su_NoPages : SupF P K c_NoPages fi_NoPages (nf_NoPages cc_NoPages cd_NoPages) fe_NoPages "self"
  na_NoPages_lines : PySem.W.findIn K (.ref c_NoPages) "lines" = some none
  c_GalleySums : Addr
  g_GalleySums : mg "GalleySums" = some (.ref c_GalleySums)
  co_GalleySums : ClsOk K c_GalleySums
  c_Frame : Addr
  g_Frame : mg "Frame" = some (.ref c_Frame)
  co_Frame : ClsOk K c_Frame
  na_GalleySums_lines : NoAttr K c_GalleySums "lines"
  na_GalleySums_spaces : NoAttr K c_GalleySums "spaces"
  na_GalleySums_cuts : NoAttr K c_GalleySums "cuts"
  na_GalleySums_floats : NoAttr K c_GalleySums "floats"
  na_GalleySums_tops : NoAttr K c_GalleySums "tops"
  na_GalleySums_noted : NoAttr K c_GalleySums "noted"
  na_GalleySums_marked : NoAttr K c_GalleySums "marked"
  na_Frame_height : NoAttr K c_Frame "height"
  na_Frame_columns : NoAttr K c_Frame "columns"
  na_Frame_rule : NoAttr K c_Frame "rule"
  na_Frame_under : NoAttr K c_Frame "under"
  na_Frame_wait : NoAttr K c_Frame "wait"
  na_Frame_late : NoAttr K c_Frame "late"
  na_Frame_uneven : NoAttr K c_Frame "uneven"
  f_space_and_cut : Addr
  fd_space_and_cut : FuncData
  F_space_and_cut : Fun K "space_and_cut" "space_and_cut" s_space_and_cut f_space_and_cut fd_space_and_cut
  g_space_and_cut : mg "space_and_cut" = some (.ref f_space_and_cut)
  b_space_and_cut : Binds K fd_space_and_cut ["paragraph", "previous"] []
  f_paragraph_lines : Addr
  fd_paragraph_lines : FuncData
  F_paragraph_lines : Fun K "paragraph_lines" "paragraph_lines" s_paragraph_lines f_paragraph_lines fd_paragraph_lines
  g_paragraph_lines : mg "paragraph_lines" = some (.ref f_paragraph_lines)
  b_paragraph_lines : Binds K fd_paragraph_lines ["paragraph", "previous"] []
  f_make_galley : Addr
  fd_make_galley : FuncData
  F_make_galley : Fun K "make_galley" "make_galley" s_make_galley f_make_galley fd_make_galley
  g_make_galley : mg "make_galley" = some (.ref f_make_galley)
  b_make_galley : Binds K fd_make_galley ["paragraphs"] []
  f_end_state : Addr
  fd_end_state : FuncData
  F_end_state : Fun K "end_state" "end_state" s_end_state f_end_state fd_end_state
  g_end_state : mg "end_state" = some (.ref f_end_state)
  b_end_state : Binds K fd_end_state ["galley"] []
  f_GalleySums___init__ : Addr
  fd_GalleySums___init__ : FuncData
  F_GalleySums___init__ : Fun K "__init__" "GalleySums.__init__" s_GalleySums___init__ f_GalleySums___init__ fd_GalleySums___init__
  b_GalleySums___init__ : Binds K fd_GalleySums___init__ ["self", "galley"] []
  mk_GalleySums : Mk K c_GalleySums f_GalleySums___init__
  f_GalleySums_column_height : Addr
  fd_GalleySums_column_height : FuncData
  F_GalleySums_column_height : Fun K "column_height" "GalleySums.column_height" s_GalleySums_column_height f_GalleySums_column_height fd_GalleySums_column_height
  b_GalleySums_column_height : Binds K fd_GalleySums_column_height ["self", "start", "end"] []
  mt_GalleySums_column_height : Meth K c_GalleySums "column_height" f_GalleySums_column_height
  f_GalleySums_page_room : Addr
  fd_GalleySums_page_room : FuncData
  F_GalleySums_page_room : Fun K "page_room" "GalleySums.page_room" s_GalleySums_page_room f_GalleySums_page_room fd_GalleySums_page_room
  b_GalleySums_page_room : Binds K fd_GalleySums_page_room ["self", "frame", "state", "end", "floats_end"] []
  mt_GalleySums_page_room : Meth K c_GalleySums "page_room" f_GalleySums_page_room
  f_GalleySums_next_ages : Addr
  fd_GalleySums_next_ages : FuncData
  F_GalleySums_next_ages : Fun K "next_ages" "GalleySums.next_ages" s_GalleySums_next_ages f_GalleySums_next_ages fd_GalleySums_next_ages
  b_GalleySums_next_ages : Binds K fd_GalleySums_next_ages ["self", "state", "end", "floats_end"] []
  mt_GalleySums_next_ages : Meth K c_GalleySums "next_ages" f_GalleySums_next_ages
  f_column_splits : Addr
  fd_column_splits : FuncData
  F_column_splits : Fun K "column_splits" "column_splits" s_column_splits f_column_splits fd_column_splits
  g_column_splits : mg "column_splits" = some (.ref f_column_splits)
  b_column_splits : Binds K fd_column_splits ["sums", "frame", "line", "end"] []
  f_page_price : Addr
  fd_page_price : FuncData
  F_page_price : Fun K "page_price" "page_price" s_page_price f_page_price fd_page_price
  g_page_price : mg "page_price" = some (.ref f_page_price)
  b_page_price : Binds K fd_page_price ["frame", "slack", "difference", "pending"] []
  f_options_to : Addr
  fd_options_to : FuncData
  F_options_to : Fun K "options_to" "options_to" s_options_to f_options_to fd_options_to
  g_options_to : mg "options_to" = some (.ref f_options_to)
  b_options_to : Binds K fd_options_to ["sums", "frame", "state", "end", "splits"] []
  f_options_from : Addr
  fd_options_from : FuncData
  F_options_from : Fun K "options_from" "options_from" s_options_from f_options_from fd_options_from
  g_options_from : mg "options_from" = some (.ref f_options_from)
  b_options_from : Binds K fd_options_from ["sums", "frame", "state"] []
  f_reached_states : Addr
  fd_reached_states : FuncData
  F_reached_states : Fun K "reached_states" "reached_states" s_reached_states f_reached_states fd_reached_states
  g_reached_states : mg "reached_states" = some (.ref f_reached_states)
  b_reached_states : Binds K fd_reached_states ["galley", "frame"] []
  f_greatest_line : Addr
  fd_greatest_line : FuncData
  F_greatest_line : Fun K "greatest_line" "greatest_line" s_greatest_line f_greatest_line fd_greatest_line
  g_greatest_line : mg "greatest_line" = some (.ref f_greatest_line)
  b_greatest_line : Binds K fd_greatest_line ["reached"] []
  f_cheapest_to_end : Addr
  fd_cheapest_to_end : FuncData
  F_cheapest_to_end : Fun K "cheapest_to_end" "cheapest_to_end" s_cheapest_to_end f_cheapest_to_end fd_cheapest_to_end
  g_cheapest_to_end : mg "cheapest_to_end" = some (.ref f_cheapest_to_end)
  b_cheapest_to_end : Binds K fd_cheapest_to_end ["reached", "goal"] []
  f_break_pages : Addr
  fd_break_pages : FuncData
  F_break_pages : Fun K "break_pages" "break_pages" s_break_pages f_break_pages fd_break_pages
  g_break_pages : mg "break_pages" = some (.ref f_break_pages)
  b_break_pages : Binds K fd_break_pages ["galley", "frame"] []
  f_Frame___init__ : Addr
  fd_Frame___init__ : FuncData
  F_Frame___init__ : Fun K "__init__" "Frame.__init__" s_Frame___init__ f_Frame___init__ fd_Frame___init__
  fk_Frame : FunD K "__init__" "Frame.__init__" (defArgs s_Frame___init__) (defBody s_Frame___init__) (defScope s_Frame___init__) [] [("columns", .int 1), ("rule", .int 4), ("under", .int 4), ("wait", .int 1), ("late", .int 50), ("uneven", .int 1)] f_Frame___init__ fd_Frame___init__
  mk_Frame : Mk K c_Frame f_Frame___init__
  f_Frame_of : Addr
  fd_Frame_of : FuncData
  F_Frame_of : Fun K "of" "Frame.of" s_Frame_of f_Frame_of fd_Frame_of
  b_Frame_of : Binds K fd_Frame_of ["key"] []
  p_Frame_of : Addr
  sm_Frame_of : SMet K c_Frame "of" p_Frame_of f_Frame_of
  f__law_pool : Addr
  fd__law_pool : FuncData
  F__law_pool : Fun K "_law_pool" "_law_pool" s__law_pool f__law_pool fd__law_pool
  g__law_pool : mg "_law_pool" = some (.ref f__law_pool)
  b__law_pool : Binds K fd__law_pool ["_law_script", "_law_at"] []
  f__law_take : Addr
  fd__law_take : FuncData
  F__law_take : Fun K "_law_take" "_law_take" s__law_take f__law_take fd__law_take
  g__law_take : mg "_law_take" = some (.ref f__law_take)
  b__law_take : Binds K fd__law_take ["_law_pool_here", "_law_many"] []
  f__law_number : Addr
  fd__law_number : FuncData
  F__law_number : Fun K "_law_number" "_law_number" s__law_number f__law_number fd__law_number
  g__law_number : mg "_law_number" = some (.ref f__law_number)
  b__law_number : Binds K fd__law_number ["_law_thing"] []
  f__law_numbers : Addr
  fd__law_numbers : FuncData
  F__law_numbers : Fun K "_law_numbers" "_law_numbers" s__law_numbers f__law_numbers fd__law_numbers
  g__law_numbers : mg "_law_numbers" = some (.ref f__law_numbers)
  b__law_numbers : Binds K fd__law_numbers ["_law_thing", "_law_many"] []
  f__law_paged : Addr
  fd__law_paged : FuncData
  F__law_paged : Fun K "_law_paged" "_law_paged" s__law_paged f__law_paged fd__law_paged
  g__law_paged : mg "_law_paged" = some (.ref f__law_paged)
  b__law_paged : Binds K fd__law_paged ["_law_answer"] []
  f__law_ranges : Addr
  fd__law_ranges : FuncData
  F__law_ranges : Fun K "_law_ranges" "_law_ranges" s__law_ranges f__law_ranges fd__law_ranges
  g__law_ranges : mg "_law_ranges" = some (.ref f__law_ranges)
  b__law_ranges : Binds K fd__law_ranges ["_law_pool_here"] []
  f__law_frame_key : Addr
  fd__law_frame_key : FuncData
  F__law_frame_key : Fun K "_law_frame_key" "_law_frame_key" s__law_frame_key f__law_frame_key fd__law_frame_key
  g__law_frame_key : mg "_law_frame_key" = some (.ref f__law_frame_key)
  b__law_frame_key : Binds K fd__law_frame_key ["_law_pool_here", "_law_scale"] []
  f__law_frame : Addr
  fd__law_frame : FuncData
  F__law_frame : Fun K "_law_frame" "_law_frame" s__law_frame f__law_frame fd__law_frame
  g__law_frame : mg "_law_frame" = some (.ref f__law_frame)
  b__law_frame : Binds K fd__law_frame ["_law_key", "_law_way"] []
  f__law_heights : Addr
  fd__law_heights : FuncData
  F__law_heights : Fun K "_law_heights" "_law_heights" s__law_heights f__law_heights fd__law_heights
  g__law_heights : mg "_law_heights" = some (.ref f__law_heights)
  b__law_heights : Binds K fd__law_heights ["_law_pool_here", "_law_many", "_law_tall"] []
  f__law_lines : Addr
  fd__law_lines : FuncData
  F__law_lines : Fun K "_law_lines" "_law_lines" s__law_lines f__law_lines fd__law_lines
  g__law_lines : mg "_law_lines" = some (.ref f__law_lines)
  b__law_lines : Binds K fd__law_lines ["_law_pool_here", "_law_many", "_law_floats", "_law_scale"] []
  f__law_paragraphs : Addr
  fd__law_paragraphs : FuncData
  F__law_paragraphs : Fun K "_law_paragraphs" "_law_paragraphs" s__law_paragraphs f__law_paragraphs fd__law_paragraphs
  g__law_paragraphs : mg "_law_paragraphs" = some (.ref f__law_paragraphs)
  b__law_paragraphs : Binds K fd__law_paragraphs ["_law_pool_here", "_law_scale"] []
  f__law_places : Addr
  fd__law_places : FuncData
  F__law_places : Fun K "_law_places" "_law_places" s__law_places f__law_places fd__law_places
  g__law_places : mg "_law_places" = some (.ref f__law_places)
  b__law_places : Binds K fd__law_places ["_law_pages", "_law_many"] []
  f__law_lets : Addr
  fd__law_lets : FuncData
  F__law_lets : Fun K "_law_lets" "_law_lets" s__law_lets f__law_lets fd__law_lets
  g__law_lets : mg "_law_lets" = some (.ref f__law_lets)
  b__law_lets : Binds K fd__law_lets ["_law_rows", "_law_place"] []
  f_law : Addr
  fd_law : FuncData
  F_law : Fun K "law" "law" s_law f_law fd_law
  g_law : mg "law" = some (.ref f_law)
  b_law : Binds K fd_law ["_law_script"] []
def t_space_and_cut (K : PySem.W.Frag) : TS :=
    (tSeq (tIfS (tB (tIsN (tVar 1))) (tRet (tTup (tCons (tC (.int 0)) (tCons (tC (.bl true)) tNil)))) tNext)
    (tSeq (tAsg (tOp (rIx K) (tVar 0) (tC (.int 4))) (gName 2))
    (tSeq (tAsg (tOp (rIx K) (tVar 1) (tC (.int 3))) (gName 3))
    (tSeq (tAsg (tOp (rIx K) (tVar 1) (tC (.int 5))) (gName 4))
    (tRet (tTup (tCons (tCB rMx2 (tCons (tVar 2) (tCons (tVar 4) tNil))) (tCons (tOp (rEqG K) (tVar 3) (tC (.str "no"))) tNil))))))))
def t_paragraph_lines (K : PySem.W.Frag) (ap_space_and_cut : AP) : TS :=
    (tSeq (tAsg (tSl (rSlG K) (tVar 0) tNoPart (tPart (tC (.int 3)))) (gTup K 3 (gCons (gName 2) (gCons (gName 3) (gCons (gName 4) gNil)))))
    (tSeq (tAsg (tCall (toSp K ap_space_and_cut) [] E0 (tCons (tVar 0) (tCons (tVar 1) tNil))) (gTup K 2 (gCons (gName 5) (gCons (gName 6) gNil))))
    (tSeq (tAsg (tLst tNil) (gName 7))
    (tSeq (tFor (iRng1 (tCons (tCB (rLenV K) (tCons (tVar 2) tNil)) tNil)) (gName 8) (tSeq (tIfS (tTest (tOp rGtI (tVar 8) (tC (.int 0)))) (tSeq (tAsg (tC (.int 0)) (gName 5))
    (tAsg (tAndV (tOp rGeI (tVar 8) (tVar 4)) (tOp rGeI (tOp rSubI (tCB (rLenV K) (tCons (tVar 2) tNil)) (tVar 8)) (tVar 4))) (gName 6))) tNext)
    (tSeq (tAsg (tOp (rIx K) (tVar 2) (tVar 8)) (gTup K 2 (gCons (gName 9) (gCons (gName 10) gNil))))
    (tDrop (tBM K "list" rAppend (tVar 7) (tCons (tTup (tCons (tVar 3) (tCons (tVar 5) (tCons (tVar 6) (tCons (tVar 9) (tCons (tVar 10) tNil)))))) tNil))))))
    (tRet (tVar 7))))))
def t_make_galley (K : PySem.W.Frag) (ap_paragraph_lines : AP) : TS :=
    (tSeq (tAsg (tLst tNil) (gName 1))
    (tSeq (tAsg (tC .non) (gName 2))
    (tSeq (tFor (iTup K (tVar 0)) (gName 3) (tSeq (tDrop (tBM K "list" rExtend (tVar 1) (tCons (tCall (toSp K ap_paragraph_lines) [] E0 (tCons (tVar 3) (tCons (tVar 2) tNil))) tNil)))
    (tAsg (tVar 3) (gName 2))))
    (tRet (tCB (rTupleOf K) (tCons (tVar 1) tNil))))))
def t_end_state (K : PySem.W.Frag) : TS :=
    (tRet (tTup (tCons (tCB (rLenV K) (tCons (tVar 0) tNil)) (tCons (tCB (rSumG K) (tCons (tLc (iTup K (tVar 0)) (gName 1) tYes (tCB (rLenV K) (tCons (tOp (rIx K) (tVar 1) (tC (.int 4))) tNil)) [1]) tNil)) (tCons (tTup tNil) tNil)))))
def t_GalleySums___init__ (K : PySem.W.Frag) : TS :=
    (tSeq (sFld K (tVar 0) (tCB (rLenV K) (tCons (tVar 1) tNil)) "lines")
    (tSeq (sFld K (tVar 0) (tLc (iTup K (tVar 1)) (gName 7) tYes (tOp (rIx K) (tVar 7) (tC (.int 1))) [7]) "spaces")
    (tSeq (sFld K (tVar 0) (tLc (iTup K (tVar 1)) (gName 7) tYes (tOp (rIx K) (tVar 7) (tC (.int 2))) [7]) "cuts")
    (tSeq (sFld K (tVar 0) (tLst tNil) "floats")
    (tSeq (sFld K (tVar 0) (tLst (tCons (tC (.int 0)) tNil)) "tops")
    (tSeq (sFld K (tVar 0) (tLst (tCons (tC (.int 0)) tNil)) "noted")
    (tSeq (sFld K (tVar 0) (tLst (tCons (tC (.int 0)) tNil)) "marked")
    (tFor (iTup K (tVar 1)) (gTup K 5 (gCons (gName 2) (gCons (gName 3) (gCons (gName 4) (gCons (gName 5) (gCons (gName 6) gNil)))))) (tSeq (tDrop (tBM K "list" rExtend (tFld K (tVar 0) "floats") (tCons (tCB (rListOf K) (tCons (tVar 6) tNil)) tNil)))
    (tSeq (tDrop (tBM K "list" rAppend (tFld K (tVar 0) "tops") (tCons (tOp (rAddG K) (tOp (rAddG K) (tOp (rIx K) (tFld K (tVar 0) "tops") (tUn rNegI (tC (.int 1)))) (tVar 2)) (tVar 3)) tNil)))
    (tSeq (tDrop (tBM K "list" rAppend (tFld K (tVar 0) "noted") (tCons (tOp (rAddG K) (tOp (rIx K) (tFld K (tVar 0) "noted") (tUn rNegI (tC (.int 1)))) (tCB (rSumG K) (tCons (tCB (rListOf K) (tCons (tVar 5) tNil)) tNil))) tNil)))
    (tDrop (tBM K "list" rAppend (tFld K (tVar 0) "marked") (tCons (tOp (rAddG K) (tOp (rIx K) (tFld K (tVar 0) "marked") (tUn rNegI (tC (.int 1)))) (tCB (rLenV K) (tCons (tVar 6) tNil))) tNil))))))))))))))
def t_GalleySums_column_height (K : PySem.W.Frag) : TS :=
    (tSeq (tIfS (tTest (tOp (rEqG K) (tVar 1) (tVar 2))) (tRet (tC (.int 0))) tNext)
    (tRet (tOp rSubI (tOp rSubI (tOp (rIx K) (tFld K (tVar 0) "tops") (tVar 2)) (tOp (rIx K) (tFld K (tVar 0) "tops") (tVar 1))) (tOp (rIx K) (tFld K (tVar 0) "spaces") (tVar 1)))))
def t_GalleySums_page_room (K : PySem.W.Frag) : TS :=
    (tSeq (tAsg (tVar 2) (gTup K 3 (gCons (gName 5) (gCons (gName 6) (gCons (gName 7) gNil)))))
    (tSeq (tAsg (tOp rSubI (tOp (rIx K) (tFld K (tVar 0) "noted") (tVar 3)) (tOp (rIx K) (tFld K (tVar 0) "noted") (tVar 5))) (gName 8))
    (tSeq (tAsg (tOp rSubI (tOp rSubI (tFld K (tVar 1) "height") (tVar 8)) (tCB (rSumG K) (tCons (tSl (rSlG K) (tFld K (tVar 0) "floats") (tPart (tVar 6)) (tPart (tVar 4))) tNil))) (gName 9))
    (tSeq (tIfS (tTest (tOp rGtI (tVar 8) (tC (.int 0)))) (tAsg (tOp rSubI (tVar 9) (tFld K (tVar 1) "rule")) (gName 9)) tNext)
    (tSeq (tIfS (tTest (tOp rGtI (tVar 4) (tVar 6))) (tAsg (tOp rSubI (tVar 9) (tFld K (tVar 1) "under")) (gName 9)) tNext)
    (tRet (tVar 9)))))))
def t_GalleySums_next_ages (K : PySem.W.Frag) : TS :=
    (tSeq (tAsg (tVar 1) (gTup K 3 (gCons (gName 4) (gCons (gName 5) (gCons (gName 6) gNil)))))
    (tSeq (tAsg (tLst tNil) (gName 7))
    (tSeq (tFor (iRng2 (tCons (tVar 3) (tCons (tOp (rIx K) (tFld K (tVar 0) "marked") (tVar 2)) tNil))) (gName 8) (tIfS (tTest (tOp (rLtG K) (tOp rSubI (tVar 8) (tVar 5)) (tCB (rLenV K) (tCons (tVar 6) tNil)))) (tDrop (tBM K "list" rAppend (tVar 7) (tCons (tOp (rAddG K) (tOp (rIx K) (tVar 6) (tOp rSubI (tVar 8) (tVar 5))) (tC (.int 1))) tNil))) (tDrop (tBM K "list" rAppend (tVar 7) (tCons (tC (.int 1)) tNil)))))
    (tRet (tCB (rTupleOf K) (tCons (tVar 7) tNil))))))
def t_column_splits (K : PySem.W.Frag) (c_GalleySums : Addr) (ap_GalleySums_column_height : AP) : TS :=
    (tSeq (tAsg (tLst (tCons (tVar 3) tNil)) (gName 4))
    (tSeq (tIfS (tAnd (tTest (tOp (rEqG K) (tFld K (tVar 1) "columns") (tC (.int 2)))) (tTest (tOp (rLtG K) (tVar 2) (tVar 3)))) (tAsg (tOp (rAddG K) (tLc (iRng2 (tCons (tOp (rAddG K) (tVar 2) (tC (.int 1))) (tCons (tVar 3) tNil))) (gName 5) (tB (tOp (rIx K) (tFld K (tVar 0) "cuts") (tVar 5))) (tVar 5) [5]) (tLst (tCons (tVar 3) tNil))) (gName 4)) tNext)
    (tSeq (tAsg (tLst tNil) (gName 6))
    (tSeq (tFor (iList K (tVar 4)) (gName 5) (tSeq (tAsg (tMeth c_GalleySums "column_height" (toSp K ap_GalleySums_column_height) [] E0 (tVar 0) (tCons (tVar 2) (tCons (tVar 5) tNil))) (gName 7))
    (tSeq (tAsg (tMeth c_GalleySums "column_height" (toSp K ap_GalleySums_column_height) [] E0 (tVar 0) (tCons (tVar 5) (tCons (tVar 3) tNil))) (gName 8))
    (tIfS (tTest (tOp rLeI (tCB rMx2 (tCons (tVar 7) (tCons (tVar 8) tNil))) (tFld K (tVar 1) "height"))) (tDrop (tBM K "list" rAppend (tVar 6) (tCons (tTup (tCons (tVar 5) (tCons (tCB rMx2 (tCons (tVar 7) (tCons (tVar 8) tNil))) (tCons (tCB rAbs (tCons (tOp rSubI (tVar 7) (tVar 8)) tNil)) tNil)))) tNil))) tNext))))
    (tRet (tVar 6))))))
def t_page_price (K : PySem.W.Frag) : TS :=
    (tSeq (tAsg (tOp (rAddG K) (tOp (rMulG K) (tVar 1) (tVar 1)) (tOp (rMulG K) (tFld K (tVar 0) "late") (tVar 3))) (gName 4))
    (tSeq (tIfS (tTest (tOp (rEqG K) (tFld K (tVar 0) "columns") (tC (.int 2)))) (tRet (tOp (rAddG K) (tVar 4) (tOp (rMulG K) (tFld K (tVar 0) "uneven") (tVar 2)))) tNext)
    (tRet (tVar 4))))
def t_options_to (K : PySem.W.Frag) (c_GalleySums : Addr) (ap_GalleySums_next_ages : AP) (ap_GalleySums_page_room : AP) (ap_page_price : AP) : TS :=
    (tSeq (tAsg (tTup (tCons (tFld K (tVar 0) "lines") (tCons (tCB (rLenV K) (tCons (tFld K (tVar 0) "floats") tNil)) (tCons (tTup tNil) tNil)))) (gName 5))
    (tSeq (tAsg (tLst tNil) (gName 6))
    (tSeq (tFor (iRng2 (tCons (tOp (rIx K) (tVar 2) (tC (.int 1))) (tCons (tOp (rAddG K) (tOp (rIx K) (tFld K (tVar 0) "marked") (tVar 3)) (tC (.int 1))) tNil))) (gName 7) (tSeq (tAsg (tMeth c_GalleySums "next_ages" (toSp K ap_GalleySums_next_ages) [] E0 (tVar 0) (tCons (tVar 2) (tCons (tVar 3) (tCons (tVar 7) tNil)))) (gName 8))
    (tSeq (tAsg (tTup (tCons (tVar 3) (tCons (tVar 7) (tCons (tVar 8) tNil)))) (gName 9))
    (tSeq (tIfS (tOr (tTest (tOp (rEqG K) (tSl (rSlG K) (tVar 9) tNoPart (tPart (tC (.int 2)))) (tSl (rSlG K) (tVar 2) tNoPart (tPart (tC (.int 2)))))) (tB (tCB (rAny K) (tCons (tLc (iTup K (tVar 8)) (gName 16) tYes (tOp rGtI (tVar 16) (tFld K (tVar 1) "wait")) [16]) tNil)))) tCont tNext)
    (tSeq (tAsg (tMeth c_GalleySums "page_room" (toSp K ap_GalleySums_page_room) [] E0 (tVar 0) (tCons (tVar 1) (tCons (tVar 2) (tCons (tVar 3) (tCons (tVar 7) tNil))))) (gName 10))
    (tFor (iList K (tVar 4)) (gTup K 3 (gCons (gName 11) (gCons (gName 12) (gCons (gName 13) gNil)))) (tIfS (tTest (tOp rLeI (tVar 12) (tVar 10))) (tSeq (tAsg (tIf (tTest (tOp (rEqG K) (tVar 9) (tVar 5))) (tC (.int 0)) (tOp rSubI (tVar 10) (tVar 12))) (gName 14))
    (tSeq (tAsg (tCall (toSp K ap_page_price) [] E0 (tCons (tVar 1) (tCons (tVar 14) (tCons (tVar 13) (tCons (tCB (rLenV K) (tCons (tVar 8) tNil)) tNil))))) (gName 15))
    (tDrop (tBM K "list" rAppend (tVar 6) (tCons (tTup (tCons (tVar 3) (tCons (tVar 7) (tCons (tVar 11) (tCons (tVar 15) (tCons (tVar 9) tNil)))))) tNil))))) tNext)))))))
    (tRet (tVar 6)))))
def t_options_from (K : PySem.W.Frag) (ap_column_splits : AP) (ap_options_to : AP) : TS :=
    (tSeq (tAsg (tOp (rIx K) (tVar 2) (tC (.int 0))) (gName 3))
    (tSeq (tAsg (tLst tNil) (gName 4))
    (tSeq (tFor (iRng2 (tCons (tVar 3) (tCons (tOp (rAddG K) (tFld K (tVar 0) "lines") (tC (.int 1))) tNil))) (gName 5) (tSeq (tAsg (tCall (toSp K ap_column_splits) [] E0 (tCons (tVar 0) (tCons (tVar 1) (tCons (tVar 3) (tCons (tVar 5) tNil))))) (gName 6))
    (tSeq (tIfS (tTest (tOp (rEqG K) (tCB (rLenV K) (tCons (tVar 6) tNil)) (tC (.int 0)))) tBreak tNext)
    (tIfS (tOr (tTest (tOp (rEqG K) (tVar 5) (tVar 3))) (tOr (tTest (tOp (rEqG K) (tVar 5) (tFld K (tVar 0) "lines"))) (tB (tOp (rIx K) (tFld K (tVar 0) "cuts") (tVar 5))))) (tDrop (tBM K "list" rExtend (tVar 4) (tCons (tCall (toSp K ap_options_to) [] E0 (tCons (tVar 0) (tCons (tVar 1) (tCons (tVar 2) (tCons (tVar 5) (tCons (tVar 6) tNil)))))) tNil))) tNext))))
    (tRet (tVar 4)))))
def t_reached_states (K : PySem.W.Frag) (w : World) (c_GalleySums : Addr) (c_START : Addr) (ai_GalleySums : AI) (ap_options_from : AP) : TS :=
    (tSeq (tAsg (tMake c_GalleySums (toSpI K c_GalleySums ai_GalleySums) [] E0 (tCons (tVar 0) tNil)) (gName 2))
    (tSeq (tAsg (tNNew w) (gName 3))
    (tSeq (tAsg (tLst (tCons (tC (.ref c_START)) tNil)) (gName 4))
    (tSeq (tWhile (tTest (tOp rGtI (tCB (rLenV K) (tCons (tVar 4) tNil)) (tC (.int 0)))) (tSeq (tAsg (tBM0 K "list" rPop (tVar 4)) (gName 5))
    (tIfS (tB (tNNotIn K w (tVar 5) (tVar 3))) (tSeq (tAsg (tCall (toSp K ap_options_from) [] E0 (tCons (tVar 2) (tCons (tVar 1) (tCons (tVar 5) tNil)))) (gName 6))
    (tSeq (sNPut K w (tVar 3) (tVar 5) (tVar 6))
    (tDrop (tBM K "list" rExtend (tVar 4) (tCons (tLc (iList K (tVar 6)) (gName 7) (tB (tNNotIn K w (tOp (rIx K) (tVar 7) (tC (.int 4))) (tVar 3))) (tOp (rIx K) (tVar 7) (tC (.int 4))) [7]) tNil))))) tNext)))
    (tRet (tVar 3))))))
def t_greatest_line (K : PySem.W.Frag) (w : World) : TS :=
    (tLock (tRet (tCB (rMax K) (tCons (tLc (iKeysN w (tVar 0)) (gName 1) tYes (tOp (rIx K) (tVar 1) (tC (.int 0))) [1]) tNil))))
def t_cheapest_to_end (K : PySem.W.Frag) (w : World) : TS :=
    (tSeq (tAsg (tNDisp1 K w (tVar 1) (tTup (tCons (tC (.int 0)) (tCons (tC (.int 0)) (tCons (tC .non) (tCons (tC .non) tNil)))))) (gName 2))
    (tSeq (tFor (iList K (tCKw (rSortD K true) (tCons (tCB (rListN w) (tCons (tVar 0) tNil)) tNil) (tCons (tC (.bl true)) tNil))) (gName 3) (tSeq (tAsg (tLst tNil) (gName 4))
    (tSeq (tFor (iList K (tNGet K w (tVar 0) (tVar 3))) (gTup K 5 (gCons (gName 5) (gCons (gName 6) (gCons (gName 7) (gCons (gName 8) (gCons (gName 9) gNil)))))) (tIfS (tB (tNIn K w (tVar 9) (tVar 2))) (tSeq (tAsg (tSl (rSlG K) (tNGet K w (tVar 2) (tVar 9)) tNoPart (tPart (tC (.int 2)))) (gTup K 2 (gCons (gName 10) (gCons (gName 11) gNil))))
    (tDrop (tBM K "list" rAppend (tVar 4) (tCons (tTup (tCons (tOp (rAddG K) (tVar 8) (tVar 10)) (tCons (tOp (rAddG K) (tVar 11) (tC (.int 1))) (tCons (tTup (tCons (tVar 5) (tCons (tVar 6) (tCons (tVar 7) tNil)))) (tCons (tVar 9) tNil))))) tNil)))) tNext))
    (tIfS (tTest (tOp rGtI (tCB (rLenV K) (tCons (tVar 4) tNil)) (tC (.int 0)))) (sNPut K w (tVar 2) (tVar 3) (tCB (rMinD K) (tCons (tVar 4) tNil))) tNext))))
    (tRet (tVar 2))))
def t_break_pages (K : PySem.W.Frag) (w : World) (c_START : Addr) (c_NoPages : Addr) (ap_reached_states : AP) (ap_end_state : AP) (ap_cheapest_to_end : AP) (ap_greatest_line : AP) (W : WX) : TS :=
    (tSeq (tAsg (tCall (toSp K ap_reached_states) [] E0 (tCons (tVar 0) (tCons (tVar 1) tNil))) (gName 2))
    (tSeq (tAsg (tCall (toSp K ap_end_state) [] E0 (tCons (tVar 0) tNil)) (gName 3))
    (tSeq (tAsg (tCall (toSp K ap_cheapest_to_end) [] E0 (tCons (tVar 2) (tCons (tVar 3) tNil))) (gName 4))
    (tSeq (tIfS (tB (tNNotIn K w (tC (.ref c_START)) (tVar 4))) (tRaiseO W c_NoPages (spE1 c_NoPages "lines" fun _ => True) (tCons (tCall (toSp K ap_greatest_line) [] E0 (tCons (tVar 2) tNil)) tNil)) tNext)
    (tSeq (tAsg (tC (.ref c_START)) (gName 5))
    (tSeq (tAsg (tLst tNil) (gName 6))
    (tSeq (tWhile (tTest (tOp (rNeG K) (tVar 5) (tVar 3))) (tSeq (tAsg (tVar 5) (gTup K 3 (gCons (gName 7) (gCons (gName 8) (gCons (gName 9) gNil)))))
    (tSeq (tAsg (tSl (rSlG K) (tNGet K w (tVar 4) (tVar 5)) (tPart (tC (.int 2))) tNoPart) (gTup K 2 (gCons (gName 10) (gCons (gName 11) gNil))))
    (tSeq (tAsg (tVar 10) (gTup K 3 (gCons (gName 12) (gCons (gName 13) (gCons (gName 14) gNil)))))
    (tSeq (tDrop (tBM K "list" rAppend (tVar 6) (tCons (tTup (tCons (tVar 7) (tCons (tVar 12) (tCons (tVar 8) (tCons (tVar 13) (tCons (tVar 14) tNil)))))) tNil)))
    (tAsg (tVar 11) (gName 5)))))))
    (tRet (tTup (tCons (tOp (rIx K) (tNGet K w (tVar 4) (tC (.ref c_START))) (tC (.int 0))) (tCons (tCB (rTupleOf K) (tCons (tVar 6) tNil)) tNil)))))))))))
def t_Frame___init__ (K : PySem.W.Frag) : TS :=
    (tSeq (sFld K (tVar 0) (tVar 1) "height")
    (tSeq (sFld K (tVar 0) (tVar 2) "columns")
    (tSeq (sFld K (tVar 0) (tVar 3) "rule")
    (tSeq (sFld K (tVar 0) (tVar 4) "under")
    (tSeq (sFld K (tVar 0) (tVar 5) "wait")
    (tSeq (sFld K (tVar 0) (tVar 6) "late")
    (sFld K (tVar 0) (tVar 7) "uneven")))))))
def t_Frame_of (K : PySem.W.Frag) (c_Frame : Addr) (ai_Frame : AI) : TS :=
    (tSeq (tAsg (tVar 0) (gTup K 7 (gCons (gName 1) (gCons (gName 2) (gCons (gName 3) (gCons (gName 4) (gCons (gName 5) (gCons (gName 6) (gCons (gName 7) gNil)))))))))
    (tRet (tMakeK c_Frame 1 6 (toSpI K c_Frame ai_Frame) (fun (vs zs : List V) => pick (0 :: upO ([0, 1, 2, 3, 4, 5, 6] : List Nat)) (vs ++ ([] : List V) ++ zs)) E0 (tCons (tVar 1) tNil) (tCons (tVar 2) (tCons (tVar 3) (tCons (tVar 4) (tCons (tVar 5) (tCons (tVar 6) (tCons (tVar 7) tNil)))))))))
def t__law_pool (K : PySem.W.Frag) : TS :=
    (tSeq (tAsg (tC (.int 0)) (gName 2))
    (tSeq (tIfS (tTest (tOp (rLtG K) (tVar 1) (tCB (rLenV K) (tCons (tVar 0) tNil)))) (tAsg (tCB rAbs (tCons (tCB rInt1 (tCons (tOp (rIx K) (tVar 0) (tVar 1)) tNil)) tNil)) (gName 2)) tNext)
    (tRet (tLst (tCons (tVar 2) (tCons (tC (.int 0)) (tCons (tCB rInt1 (tCons (tOp rGeI (tVar 2) (tOp rPowI (tC (.int 10)) (tC (.int 18)))) tNil)) (tCons (tOp rModI (tCB rInt1 (tCons (tOp (rAddG K) (tVar 2) (tOp (rMulG K) (tVar 1) (tC (.int 7919)))) tNil)) (tC (.int 2147483647))) tNil))))))))
def t__law_take (K : PySem.W.Frag) : TS :=
    (tSeq (tAsg (tOp (rAddG K) (tOp (rIx K) (tVar 0) (tC (.int 1))) (tC (.int 1))) (gSub (tVar 0) (tC (.int 1)) rSetL))
    (tSeq (tIfS (tAnd (tTest (tOp (rEqG K) (tOp (rIx K) (tVar 0) (tC (.int 2))) (tC (.int 1)))) (tTest (tOp rGtI (tOp (rIx K) (tVar 0) (tC (.int 0))) (tC (.int 0))))) (tSeq (tAsg (tOp rModI (tCB rInt1 (tCons (tOp (rIx K) (tVar 0) (tC (.int 0))) tNil)) (tVar 1)) (gName 2))
    (tSeq (tAsg (tOp rDivI (tOp (rIx K) (tVar 0) (tC (.int 0))) (tVar 1)) (gSub (tVar 0) (tC (.int 0)) rSetL))
    (tRet (tVar 2)))) tNext)
    (tSeq (tAsg (tOp rModI (tCB rInt1 (tCons (tOp (rAddG K) (tOp (rAddG K) (tOp (rMulG K) (tOp (rIx K) (tVar 0) (tC (.int 3))) (tC (.int 48271))) (tOp (rMulG K) (tOp (rIx K) (tVar 0) (tC (.int 1))) (tC (.int 69621)))) (tC (.int 11))) tNil)) (tC (.int 2147483647))) (gName 3))
    (tSeq (tAsg (tOp rModI (tCB rInt1 (tCons (tOp (rAddG K) (tOp (rAddG K) (tOp (rMulG K) (tVar 3) (tC (.int 16807))) (tOp rDivI (tVar 3) (tC (.int 65536)))) (tOp (rMulG K) (tOp (rMulG K) (tOp (rIx K) (tVar 0) (tC (.int 1))) (tOp (rIx K) (tVar 0) (tC (.int 1)))) (tC (.int 40692)))) tNil)) (tC (.int 2147483399))) (gName 4))
    (tRet (tOp rModI (tCB rInt1 (tCons (tVar 4) tNil)) (tVar 1)))))))
def t__law_number (K : PySem.W.Frag) : TS :=
    (tRet (tAndV (tCB (rIsi K) (tCons (tVar 0) (tCons (tC (.ty "int")) tNil))) (tNotV (tCB (rIsi K) (tCons (tVar 0) (tCons (tC (.ty "bool")) tNil))))))
def t__law_numbers (K : PySem.W.Frag) (ap__law_number : AP) : TS :=
    (tSeq (tIfS (tOr (tNot (tB (tCB (rIsi K) (tCons (tVar 0) (tCons (tC (.ty "tuple")) tNil))))) (tTest (tOp (rNeG K) (tCB (rLenV K) (tCons (tVar 0) tNil)) (tVar 1)))) (tRet (tC (.bl false))) tNext)
    (tRet (tOp (rEqG K) (tCB (rLenV K) (tCons (tLc (iTup K (tVar 0)) (gName 2) (tNot (tB (tCall (toSp K ap__law_number) [] E0 (tCons (tVar 2) tNil)))) (tVar 2) [2]) tNil)) (tC (.int 0)))))
def t__law_paged (K : PySem.W.Frag) (ap__law_number : AP) (ap__law_numbers : AP) : TS :=
    (tSeq (tIfS (tOr (tNot (tB (tCB (rIsi K) (tCons (tVar 0) (tCons (tC (.ty "tuple")) tNil))))) (tTest (tOp (rNeG K) (tCB (rLenV K) (tCons (tVar 0) tNil)) (tC (.int 2))))) (tRet (tC (.bl false))) tNext)
    (tSeq (tIfS (tOr (tNot (tB (tCall (toSp K ap__law_number) [] E0 (tCons (tOp (rIx K) (tVar 0) (tC (.int 0))) tNil)))) (tNot (tB (tCB (rIsi K) (tCons (tOp (rIx K) (tVar 0) (tC (.int 1))) (tCons (tC (.ty "tuple")) tNil)))))) (tRet (tC (.bl false))) tNext)
    (tRet (tOp (rEqG K) (tCB (rLenV K) (tCons (tLc (iTup K (tOp (rIx K) (tVar 0) (tC (.int 1)))) (gName 1) (tNot (tB (tCall (toSp K ap__law_numbers) [] E0 (tCons (tVar 1) (tCons (tC (.int 5)) tNil))))) (tVar 1) [1]) tNil)) (tC (.int 0))))))
def t__law_ranges (K : PySem.W.Frag) (ap__law_take : AP) : TS :=
    (tSeq (tAsg (tLst (tCons (tC (.int 15)) (tCons (tC (.int 10)) (tCons (tC (.int 20)) (tCons (tC (.int 30)) (tCons (tC (.int 10)) (tCons (tC (.int 70)) (tCons (tC (.int 6)) (tCons (tC (.int 61)) (tCons (tC (.int 4)) tNil)))))))))) (gName 1))
    (tSeq (tAsg (tLst (tCons (tC (.int 2)) (tCons (tC (.int 2)) (tCons (tC (.int 2)) (tCons (tC (.int 3)) (tCons (tC (.int 1)) (tCons (tC (.int 9)) (tCons (tC (.int 2)) (tCons (tC (.int 3)) (tCons (tC (.int 3)) tNil)))))))))) (gName 2))
    (tSeq (tAsg (tLst (tCons (tC (.int 99)) (tCons (tC (.int 100)) (tCons (tC (.int 2000)) (tCons (tC (.int 2000)) (tCons (tC (.int 1)) (tCons (tC (.int 5000)) (tCons (tC (.int 201)) (tCons (tC (.int 10000)) (tCons (tC (.int 100)) tNil)))))))))) (gName 3))
    (tRet (tOp (rIx K) (tLst (tCons (tVar 1) (tCons (tVar 1) (tCons (tVar 3) (tCons (tVar 1) (tCons (tVar 2) (tCons (tVar 2) (tCons (tVar 1) (tCons (tVar 2) tNil))))))))) (tCall (toSp K ap__law_take) [] E0 (tCons (tVar 0) (tCons (tC (.int 8)) tNil))))))))
def t__law_frame_key (K : PySem.W.Frag) (ap__law_take : AP) : TS :=
    (tSeq (tAsg (tOp (rAddG K) (tOp (rIx K) (tVar 1) (tC (.int 4))) (tCall (toSp K ap__law_take) [] E0 (tCons (tVar 0) (tCons (tOp (rIx K) (tVar 1) (tC (.int 5))) tNil)))) (gName 2))
    (tSeq (tAsg (tOp (rAddG K) (tC (.int 1)) (tCall (toSp K ap__law_take) [] E0 (tCons (tVar 0) (tCons (tC (.int 2)) tNil)))) (gName 3))
    (tSeq (tAsg (tCall (toSp K ap__law_take) [] E0 (tCons (tVar 0) (tCons (tOp (rIx K) (tVar 1) (tC (.int 6))) tNil))) (gName 4))
    (tSeq (tAsg (tCall (toSp K ap__law_take) [] E0 (tCons (tVar 0) (tCons (tOp (rIx K) (tVar 1) (tC (.int 6))) tNil))) (gName 5))
    (tSeq (tAsg (tCall (toSp K ap__law_take) [] E0 (tCons (tVar 0) (tCons (tC (.int 4)) tNil))) (gName 6))
    (tSeq (tAsg (tCall (toSp K ap__law_take) [] E0 (tCons (tVar 0) (tCons (tOp (rIx K) (tVar 1) (tC (.int 7))) tNil))) (gName 7))
    (tRet (tTup (tCons (tVar 2) (tCons (tVar 3) (tCons (tVar 4) (tCons (tVar 5) (tCons (tVar 6) (tCons (tVar 7) (tCons (tCall (toSp K ap__law_take) [] E0 (tCons (tVar 0) (tCons (tOp (rIx K) (tVar 1) (tC (.int 8))) tNil))) tNil)))))))))))))))
def t__law_frame (K : PySem.W.Frag) (c_Frame : Addr) (ap_Frame_of : AP) (ai_Frame : AI) : TS :=
    (tSeq (tIfS (tTest (tOp (rEqG K) (tVar 1) (tC (.int 1)))) (tRet (tSMeth c_Frame (toSp K ap_Frame_of) E0 (tC (.ref c_Frame)) (tCons (tVar 0) tNil))) tNext)
    (tRet (tMakeK c_Frame 1 6 (toSpI K c_Frame ai_Frame) (fun (vs zs : List V) => pick (0 :: upO ([0, 1, 2, 3, 4, 5, 6] : List Nat)) (vs ++ ([] : List V) ++ zs)) E0 (tCons (tOp (rIx K) (tVar 0) (tC (.int 0))) tNil) (tCons (tOp (rIx K) (tVar 0) (tC (.int 1))) (tCons (tOp (rIx K) (tVar 0) (tC (.int 2))) (tCons (tOp (rIx K) (tVar 0) (tC (.int 3))) (tCons (tOp (rIx K) (tVar 0) (tC (.int 4))) (tCons (tOp (rIx K) (tVar 0) (tC (.int 5))) (tCons (tOp (rIx K) (tVar 0) (tC (.int 6))) tNil)))))))))
def t__law_heights (K : PySem.W.Frag) (ap__law_take : AP) : TS :=
    (tRet (tCB (rTupleOf K) (tCons (tLc (iRng1 (tCons (tVar 1) tNil)) (gName 3) tYes (tOp (rAddG K) (tC (.int 1)) (tCall (toSp K ap__law_take) [] E0 (tCons (tVar 0) (tCons (tVar 2) tNil)))) [3]) tNil)))
def t__law_lines (K : PySem.W.Frag) (ap__law_take : AP) (ap__law_heights : AP) : TS :=
    (tSeq (tAsg (tLst tNil) (gName 4))
    (tSeq (tFor (iRng1 (tCons (tVar 1) tNil)) (gName 5) (tSeq (tAsg (tCall (toSp K ap__law_take) [] E0 (tCons (tVar 0) (tCons (tC (.int 8)) tNil))) (gName 6))
    (tSeq (tAsg (tCall (toSp K ap__law_heights) [] E0 (tCons (tVar 0) (tCons (tCB rInt1 (tCons (tOp (rEqG K) (tVar 6) (tC (.int 6))) tNil)) (tCons (tOp (rIx K) (tVar 3) (tC (.int 2))) tNil)))) (gName 7))
    (tSeq (tAsg (tCall (toSp K ap__law_heights) [] E0 (tCons (tVar 0) (tCons (tCB rInt1 (tCons (tAndV (tOp (rEqG K) (tVar 6) (tC (.int 7))) (tOp (rLtG K) (tVar 2) (tC (.int 2)))) tNil)) (tCons (tOp (rIx K) (tVar 3) (tC (.int 3))) tNil)))) (gName 8))
    (tSeq (tAsg (tOp (rAddG K) (tVar 2) (tCB (rLenV K) (tCons (tVar 8) tNil))) (gName 2))
    (tDrop (tBM K "list" rAppend (tVar 4) (tCons (tTup (tCons (tVar 7) (tCons (tVar 8) tNil))) tNil))))))))
    (tRet (tCB (rTupleOf K) (tCons (tVar 4) tNil)))))
def t__law_paragraphs (K : PySem.W.Frag) (ap__law_take : AP) (ap__law_lines : AP) : TS :=
    (tSeq (tAsg (tLst tNil) (gName 2))
    (tSeq (tAsg (tC (.int 0)) (gName 3))
    (tSeq (tFor (iRng1 (tCons (tOp (rAddG K) (tC (.int 1)) (tCall (toSp K ap__law_take) [] E0 (tCons (tVar 0) (tCons (tOp (rIx K) (tLst (tCons (tC (.int 1)) (tCons (tC (.int 2)) (tCons (tC (.int 2)) (tCons (tC (.int 4)) tNil))))) (tCall (toSp K ap__law_take) [] E0 (tCons (tVar 0) (tCons (tC (.int 4)) tNil)))) tNil)))) tNil)) (gName 4) (tSeq (tAsg (tOp (rAddG K) (tC (.int 1)) (tCall (toSp K ap__law_take) [] E0 (tCons (tVar 0) (tCons (tOp (rIx K) (tLst (tCons (tC (.int 1)) (tCons (tC (.int 2)) (tCons (tC (.int 3)) (tCons (tC (.int 6)) tNil))))) (tCall (toSp K ap__law_take) [] E0 (tCons (tVar 0) (tCons (tC (.int 4)) tNil)))) tNil)))) (gName 5))
    (tSeq (tAsg (tOp (rAddG K) (tC (.int 1)) (tCall (toSp K ap__law_take) [] E0 (tCons (tVar 0) (tCons (tOp (rIx K) (tVar 1) (tC (.int 0))) tNil)))) (gName 6))
    (tSeq (tAsg (tOp (rAddG K) (tC (.int 1)) (tCall (toSp K ap__law_take) [] E0 (tCons (tVar 0) (tCons (tC (.int 4)) tNil)))) (gName 7))
    (tSeq (tAsg (tOp (rIx K) (tLst (tCons (tC (.str "no")) (tCons (tC (.str "yes")) tNil))) (tCall (toSp K ap__law_take) [] E0 (tCons (tVar 0) (tCons (tC (.int 2)) tNil)))) (gName 8))
    (tSeq (tAsg (tOp (rMulG K) (tCall (toSp K ap__law_take) [] E0 (tCons (tVar 0) (tCons (tC (.int 2)) tNil))) (tCall (toSp K ap__law_take) [] E0 (tCons (tVar 0) (tCons (tOp (rIx K) (tVar 1) (tC (.int 1))) tNil)))) (gName 9))
    (tSeq (tAsg (tOp (rMulG K) (tCall (toSp K ap__law_take) [] E0 (tCons (tVar 0) (tCons (tC (.int 2)) tNil))) (tCall (toSp K ap__law_take) [] E0 (tCons (tVar 0) (tCons (tOp (rIx K) (tVar 1) (tC (.int 1))) tNil)))) (gName 10))
    (tSeq (tAsg (tCall (toSp K ap__law_lines) [] E0 (tCons (tVar 0) (tCons (tVar 5) (tCons (tVar 3) (tCons (tVar 1) tNil))))) (gName 11))
    (tSeq (tAsg (tOp (rAddG K) (tVar 3) (tCB (rSumG K) (tCons (tLc (iTup K (tVar 11)) (gName 12) tYes (tCB (rLenV K) (tCons (tOp (rIx K) (tVar 12) (tC (.int 1))) tNil)) [12]) tNil))) (gName 3))
    (tDrop (tBM K "list" rAppend (tVar 2) (tCons (tTup (tCons (tVar 11) (tCons (tVar 6) (tCons (tVar 7) (tCons (tVar 8) (tCons (tVar 9) (tCons (tVar 10) tNil))))))) tNil))))))))))))
    (tRet (tVar 2)))))
def t__law_places (K : PySem.W.Frag) : TS :=
    (tSeq (tAsg (tLst tNil) (gName 2))
    (tSeq (tAsg (tC (.int 0)) (gName 3))
    (tSeq (tFor (iTup K (tVar 0)) (gName 4) (tSeq (tIfS (tOr (tTest (tOp (rNeG K) (tOp (rIx K) (tVar 4) (tC (.int 0))) (tVar 3))) (tNot (tTest (tChain3 rLeI rLeI rLeI (tVar 3) (tOp (rIx K) (tVar 4) (tC (.int 4))) (tOp (rIx K) (tVar 4) (tC (.int 1))) (tVar 1))))) (tRet (tC .non)) tNext)
    (tSeq (tAsg (tOp (rIx K) (tVar 4) (tC (.int 1))) (gName 3))
    (tDrop (tBM K "list" rExtend (tVar 2) (tCons (tLst (tCons (tOp (rIx K) (tVar 4) (tC (.int 4))) (tCons (tVar 3) tNil))) tNil))))))
    (tSeq (tIfS (tTest (tOp (rNeG K) (tVar 3) (tVar 1))) (tRet (tC .non)) tNext)
    (tRet (tVar 2))))))
def t__law_lets (K : PySem.W.Frag) : TS :=
    (tSeq (tAsg (tC (.int 0)) (gName 2))
    (tSeq (tFor (iRng1 (tCons (tCB (rLenV K) (tCons (tVar 0) tNil)) tNil)) (gName 3) (tSeq (tAsg (tCB (rLenV K) (tCons (tOp (rIx K) (tOp (rIx K) (tVar 0) (tVar 3)) (tC (.int 0))) tNil)) (gName 4))
    (tSeq (tIfS (tTest (tOp (rLtG K) (tVar 1) (tOp (rAddG K) (tVar 2) (tVar 4)))) (tSeq (tAsg (tOp rSubI (tVar 1) (tVar 2)) (gName 5))
    (tSeq (tIfS (tTest (tOp (rEqG K) (tVar 5) (tC (.int 0)))) (tRet (tOp (rEqG K) (tOp (rIx K) (tOp (rIx K) (tVar 0) (tOp rSubI (tVar 3) (tC (.int 1)))) (tC (.int 3))) (tC (.str "no")))) tNext)
    (tRet (tAndV (tOp rGeI (tVar 5) (tOp (rIx K) (tOp (rIx K) (tVar 0) (tVar 3)) (tC (.int 2)))) (tOp rGeI (tOp rSubI (tVar 4) (tVar 5)) (tOp (rIx K) (tOp (rIx K) (tVar 0) (tVar 3)) (tC (.int 2)))))))) tNext)
    (tAsg (tOp (rAddG K) (tVar 2) (tVar 4)) (gName 2)))))
    (tRet (tC (.bl false)))))
def t_law (K : PySem.W.Frag) (c_NoPages : Addr) (ap__law_pool : AP) (ap__law_ranges : AP) (ap__law_frame_key : AP) (ap__law_frame : AP) (ap__law_take : AP) (ap__law_paragraphs : AP) (ap_make_galley : AP) (ap_break_pages : APX) (ap__law_paged : AP) (ap__law_places : AP) (ap__law_lets : AP) : TS :=
    (tSeq (tAsg (tCall (toSp K ap__law_pool) [] E0 (tCons (tVar 0) (tCons (tC (.int 1)) tNil))) (gName 1))
    (tSeq (tAsg (tCall (toSp K ap__law_ranges) [] E0 (tCons (tVar 1) tNil)) (gName 2))
    (tSeq (tAsg (tCall (toSp K ap__law_frame_key) [] E0 (tCons (tVar 1) (tCons (tVar 2) tNil))) (gName 3))
    (tSeq (tAsg (tCall (toSp K ap__law_frame) [] E0 (tCons (tVar 3) (tCons (tCall (toSp K ap__law_take) [] E0 (tCons (tVar 1) (tCons (tC (.int 2)) tNil))) tNil))) (gName 4))
    (tSeq (tAsg (tCall (toSp K ap__law_paragraphs) [] E0 (tCons (tCall (toSp K ap__law_pool) [] E0 (tCons (tVar 0) (tCons (tC (.int 0)) tNil))) (tCons (tVar 2) tNil))) (gName 5))
    (tSeq (tAsg (tCall (toSp K ap_make_galley) [] E0 (tCons (tCB (rTupleOf K) (tCons (tVar 5) tNil)) tNil)) (gName 6))
    (tSeq (tAsg (tC .non) (gName 7))
    (tSeq (tAsg (tC (.bl false)) (gName 8))
    (tSeq (tTryO K (.ref c_NoPages) (fun W1 => (tAsg (tCallX K ap_break_pages W1 (tCons (tVar 6) (tCons (tVar 4) tNil))) (gName 7))) (tAsg (tC (.bl true)) (gName 8)) (fun _ _ _ _ => False))
    (tSeq (tIfS (tB (tVar 8)) (tRet (tC (.bl true))) tNext)
    (tSeq (tIfS (tNot (tB (tCall (toSp K ap__law_paged) [] E0 (tCons (tVar 7) tNil)))) (tRet (tC (.bl false))) tNext)
    (tSeq (tAsg (tCB (rSumG K) (tCons (tLc (iList K (tVar 5)) (gName 11) tYes (tCB (rLenV K) (tCons (tOp (rIx K) (tVar 11) (tC (.int 0))) tNil)) [11]) tNil)) (gName 9))
    (tSeq (tAsg (tCall (toSp K ap__law_places) [] E0 (tCons (tOp (rIx K) (tVar 7) (tC (.int 1))) (tCons (tVar 9) tNil))) (gName 10))
    (tSeq (tIfS (tB (tIsN (tVar 10))) (tRet (tC (.bl false))) tNext)
    (tRet (tOp (rEqG K) (tCB (rLenV K) (tCons (tLc (iList K (tVar 10)) (gName 12) (tAnd (tTest (tChain rLtI rLtI (tC (.int 0)) (tVar 12) (tVar 9))) (tNot (tB (tCall (toSp K ap__law_lets) [] E0 (tCons (tVar 5) (tCons (tVar 12) tNil)))))) (tVar 12) [12]) tNil)) (tC (.int 0))))))))))))))))))
section
variable {P : Program} {w : World} {K : PySem.W.Frag} {mg : Str → Option Value} {base : Heap}
theorem kb_0 (T : Txt P K mg) : ∃ mv : List Value, KBn K T.fd_Frame___init__ ["self", "height", "columns", "rule", "under", "wait", "late", "uneven"] 2 ["columns", "rule", "under", "wait", "late", "uneven"] (fun us ws => pick (0 :: upO ([0, 1, 2, 3, 4, 5, 6] : List Nat)) (us ++ mv ++ ws)) (fun vs zs => pick (0 :: upO ([0, 1, 2, 3, 4, 5, 6] : List Nat)) (vs ++ ([] : List V) ++ zs)) :=
  FunD.kbinds0 (ps := ["self", "height", "columns", "rule", "under", "wait", "late", "uneven"]) T.fk_Frame 2 ["columns", "rule", "under", "wait", "late", "uneven"] [] (fun us mv ws => pick (0 :: upO ([0, 1, 2, 3, 4, 5, 6] : List Nat)) (us ++ mv ++ ws)) (fun z => nomatch z) sub_nil (fun r1 r2 r3 => pick_vals ((r1.append r2).append r3) _) (fun D doc pm an cdv ct us mv ws h1 h2 h3 => match us, mv, ws, h1, h2, h3 with | [_, _], [], [_, _, _, _, _, _], _, _, _ => rfl)
theorem tm_space_and_cut (T : Txt P K mg) (cdv : Value) (A : Around) (outer : List PySem.Env) (s : Shared) (H : Hp) (E : XK) (hr : Room 0 (A.deeper (PyProof.Rows.envOfC "space_and_cut" (defScope s_space_and_cut) s.heap.objs.size T.f_space_and_cut cdv))) :
    PSs (cxOf CX0 P w K mg base ["paragraph", "previous", "above", "keep", "below"] "space_and_cut" (defScope s_space_and_cut) T.f_space_and_cut cdv A outer s H E).nox (defBody s_space_and_cut) (t_space_and_cut K) := 
      (pss_cons (ps_if (pt_cmp (pc_isN (pv 1))) (pss_one (ps_ret (pe_tup (pa_cons pe_int (pa_cons pe_bl pa_nil))))) pss_nil)
      (pss_cons (ps_set (i := 2) sc_space_and_cut.nd rfl (Or.inl rfl) (pe_ix ix_seq (pv 0) pe_int (fun _ _ => rfl)))
      (pss_cons (ps_set (i := 3) sc_space_and_cut.nd rfl (Or.inl rfl) (pe_ix ix_seq (pv 1) pe_int (fun _ _ => rfl)))
      (pss_cons (ps_set (i := 4) sc_space_and_cut.nd rfl (Or.inl rfl) (pe_ix ix_seq (pv 1) pe_int (fun _ _ => rfl)))
      (pss_one (ps_ret (pe_tup (pa_cons (pe_callB (call_max2 rfl) (by rfl) T.m_max bi_max (pa_cons (pv 2) (pa_cons (pv 4) pa_nil))) (pa_cons (pe_cmpR (op_eqG hr.units) (pv 3) pe_str (nomark _)) pa_nil)))))))))
theorem tm_paragraph_lines {ap_space_and_cut : AP} (T : Txt P K mg) (G_space_and_cut : FnOk P w K mg base CX0 1 T.f_space_and_cut T.fd_space_and_cut ["paragraph", "previous"] (toSp K ap_space_and_cut)) (cdv : Value) (A : Around) (outer : List PySem.Env) (s : Shared) (H : Hp) (E : XK) (hr : Room 1 (A.deeper (PyProof.Rows.envOfC "paragraph_lines" (defScope s_paragraph_lines) s.heap.objs.size T.f_paragraph_lines cdv))) :
    PSs (cxOf CX0 P w K mg base ["paragraph", "previous", "lines", "lead", "least", "space", "cut", "found", "number", "notes", "floats"] "paragraph_lines" (defScope s_paragraph_lines) T.f_paragraph_lines cdv A outer s H E).nox (defBody s_paragraph_lines) (t_paragraph_lines K ap_space_and_cut) := 
      (pss_cons (ps_asg (pe_slice sl_G (pv 0) po_none (po_some pe_int)) (pg_tup (by rfl) (pgs_cons (pg_name (i := 2) sc_paragraph_lines.nd rfl (Or.inl rfl)) (pgs_cons (pg_name (i := 3) sc_paragraph_lines.nd rfl (Or.inl rfl)) (pgs_cons (pg_name (i := 4) sc_paragraph_lines.nd rfl (Or.inl rfl)) pgs_nil)))))
      (pss_cons (ps_asg (pe_call G_space_and_cut (hr.mono (by decide)) (by rfl) T.g_space_and_cut T.F_space_and_cut.kp T.b_space_and_cut .nil pass0 (pa_cons (pv 0) (pa_cons (pv 1) pa_nil))) (pg_tup (by rfl) (pgs_cons (pg_name (i := 5) sc_paragraph_lines.nd rfl (Or.inl rfl)) (pgs_cons (pg_name (i := 6) sc_paragraph_lines.nd rfl (Or.inl rfl)) pgs_nil))))
      (pss_cons (ps_set (i := 7) sc_paragraph_lines.nd rfl (Or.inl rfl) (pe_lst pa_nil))
      (pss_cons (ps_for PassesOwn.never rfl (pi_range1 (by rfl) T.m_range (pa_cons (pe_callB call_len (by rfl) T.m_len bi_len (pa_cons (pv 2) pa_nil)) pa_nil)) (pg_name (i := 8) sc_paragraph_lines.nd rfl (Or.inl rfl)) (pss_cons (ps_if (pt_cmpR op_gt (pv 8) pe_int (nomark _)) (pss_cons (ps_set (i := 5) sc_paragraph_lines.nd rfl (Or.inl rfl) pe_int)
      (pss_one (ps_set (i := 6) sc_paragraph_lines.nd rfl (Or.inl rfl) (pe_and (pe_cmpR op_ge (pv 8) (pv 4) (nomark _)) (pe_one (pe_cmpR op_ge (pe_op op_sub (pe_callB call_len (by rfl) T.m_len bi_len (pa_cons (pv 2) pa_nil)) (pv 8)) (pv 4) (nomark _))))))) pss_nil)
      (pss_cons (ps_asg (pe_ix ix_seq (pv 2) (pv 8) (fun _ _ => rfl)) (pg_tup (by rfl) (pgs_cons (pg_name (i := 9) sc_paragraph_lines.nd rfl (Or.inl rfl)) (pgs_cons (pg_name (i := 10) sc_paragraph_lines.nd rfl (Or.inl rfl)) pgs_nil))))
      (pss_one (ps_expr (pe_bm PySem.F.plainAttrs_list PySem.F.slot_list_append PySem.F.type_list_append mt_append (pv 7) (pa_cons (pe_tup (pa_cons (pv 3) (pa_cons (pv 5) (pa_cons (pv 6) (pa_cons (pv 9) (pa_cons (pv 10) pa_nil)))))) pa_nil)))))))
      (pss_one (ps_ret (pv 7)))))))
theorem tm_make_galley {ap_paragraph_lines : AP} (T : Txt P K mg) (G_paragraph_lines : FnOk P w K mg base CX0 2 T.f_paragraph_lines T.fd_paragraph_lines ["paragraph", "previous"] (toSp K ap_paragraph_lines)) (cdv : Value) (A : Around) (outer : List PySem.Env) (s : Shared) (H : Hp) (E : XK) (hr : Room 2 (A.deeper (PyProof.Rows.envOfC "make_galley" (defScope s_make_galley) s.heap.objs.size T.f_make_galley cdv))) :
    PSs (cxOf CX0 P w K mg base ["paragraphs", "galley", "previous", "paragraph"] "make_galley" (defScope s_make_galley) T.f_make_galley cdv A outer s H E).nox (defBody s_make_galley) (t_make_galley K ap_paragraph_lines) := 
      (pss_cons (ps_set (i := 1) sc_make_galley.nd rfl (Or.inl rfl) (pe_lst pa_nil))
      (pss_cons (ps_set (i := 2) sc_make_galley.nd rfl (Or.inl rfl) pe_non)
      (pss_cons (ps_for PassesOwn.never rfl (pi_tup (pv 0)) (pg_name (i := 3) sc_make_galley.nd rfl (Or.inl rfl)) (pss_cons (ps_expr (pe_bm PySem.F.plainAttrs_list PySem.F.slot_list_extend PySem.F.type_list_extend mt_extend (pv 1) (pa_cons (pe_call G_paragraph_lines (hr.mono (by decide)) (by rfl) T.g_paragraph_lines T.F_paragraph_lines.kp T.b_paragraph_lines .nil pass0 (pa_cons (pv 3) (pa_cons (pv 2) pa_nil))) pa_nil)))
      (pss_one (ps_set (i := 2) sc_make_galley.nd rfl (Or.inl rfl) (pv 3)))))
      (pss_one (ps_ret (pe_callTy call_tuple_of (by rfl) T.m_tuple bi_tuple (pa_cons (pv 1) pa_nil)))))))
theorem tm_end_state (T : Txt P K mg) (cdv : Value) (A : Around) (outer : List PySem.Env) (s : Shared) (H : Hp) (E : XK) (hr : Room 0 (A.deeper (PyProof.Rows.envOfC "end_state" (defScope s_end_state) s.heap.objs.size T.f_end_state cdv))) :
    PSs (cxOf CX0 P w K mg base ["galley", "line"] "end_state" (defScope s_end_state) T.f_end_state cdv A outer s H E).nox (defBody s_end_state) (t_end_state K) := 
      (pss_one (ps_ret (pe_tup (pa_cons (pe_callB call_len (by rfl) T.m_len bi_len (pa_cons (pv 0) pa_nil)) (pa_cons (pe_callB (cr_sumG rfl) (by rfl) T.m_sum bi_sum (pa_cons (pe_lc (own := [("line", 1)]) (g := (gName 1)) (tt := tYes) (by rfl) sc_end_state.nd (pi_tup (pv 0)) (blkOk_by (own := [("line", 1)]) (N := ["galley", "line"]) (sc := defScope s_end_state) (by decide +kernel)) (fun _ _ _ _ _ => (pg_name (i := 1) sc_end_state.nd rfl (Or.inl rfl))) (fun _ _ _ _ _ => pts_nil) (fun _ _ _ _ _ => (pe_callB call_len (by rfl) T.m_len bi_len (pa_cons (pe_ix ix_seq (pv 1) pe_int (fun _ _ => rfl)) pa_nil)))) pa_nil)) (pa_cons (pe_tup pa_nil) pa_nil))))))
theorem tm_GalleySums___init__ (T : Txt P K mg) (cdv : Value) (A : Around) (outer : List PySem.Env) (s : Shared) (H : Hp) (E : XK) (hr : Room 0 (A.deeper (PyProof.Rows.envOfC "GalleySums.__init__" (defScope s_GalleySums___init__) s.heap.objs.size T.f_GalleySums___init__ cdv))) :
    PSs (cxOf CX0 P w K mg base ["self", "galley", "height", "space", "cut", "notes", "floats", "line"] "GalleySums.__init__" (defScope s_GalleySums___init__) T.f_GalleySums___init__ cdv A outer s H E).nox (defBody s_GalleySums___init__) (t_GalleySums___init__ K) := 
      (pss_cons (ps_fld (pv 0) (pe_callB call_len (by rfl) T.m_len bi_len (pa_cons (pv 1) pa_nil)) rfl)
      (pss_cons (ps_fld (pv 0) (pe_lc (own := [("line", 7)]) (g := (gName 7)) (tt := tYes) (by rfl) sc_GalleySums___init__.nd (pi_tup (pv 1)) (blkOk_by (own := [("line", 7)]) (N := ["self", "galley", "height", "space", "cut", "notes", "floats", "line"]) (sc := defScope s_GalleySums___init__) (by decide +kernel)) (fun _ _ _ _ _ => (pg_name (i := 7) sc_GalleySums___init__.nd rfl (Or.inl rfl))) (fun _ _ _ _ _ => pts_nil) (fun _ _ _ _ _ => (pe_ix ix_seq (pv 7) pe_int (fun _ _ => rfl)))) rfl)
      (pss_cons (ps_fld (pv 0) (pe_lc (own := [("line", 7)]) (g := (gName 7)) (tt := tYes) (by rfl) sc_GalleySums___init__.nd (pi_tup (pv 1)) (blkOk_by (own := [("line", 7)]) (N := ["self", "galley", "height", "space", "cut", "notes", "floats", "line"]) (sc := defScope s_GalleySums___init__) (by decide +kernel)) (fun _ _ _ _ _ => (pg_name (i := 7) sc_GalleySums___init__.nd rfl (Or.inl rfl))) (fun _ _ _ _ _ => pts_nil) (fun _ _ _ _ _ => (pe_ix ix_seq (pv 7) pe_int (fun _ _ => rfl)))) rfl)
      (pss_cons (ps_fld (pv 0) (pe_lst pa_nil) rfl)
      (pss_cons (ps_fld (pv 0) (pe_lst (pa_cons pe_int pa_nil)) rfl)
      (pss_cons (ps_fld (pv 0) (pe_lst (pa_cons pe_int pa_nil)) rfl)
      (pss_cons (ps_fld (pv 0) (pe_lst (pa_cons pe_int pa_nil)) rfl)
      (pss_one (ps_for PassesOwn.never rfl (pi_tup (pv 1)) (pg_tup (by rfl) (pgs_cons (pg_name (i := 2) sc_GalleySums___init__.nd rfl (Or.inl rfl)) (pgs_cons (pg_name (i := 3) sc_GalleySums___init__.nd rfl (Or.inl rfl)) (pgs_cons (pg_name (i := 4) sc_GalleySums___init__.nd rfl (Or.inl rfl)) (pgs_cons (pg_name (i := 5) sc_GalleySums___init__.nd rfl (Or.inl rfl)) (pgs_cons (pg_name (i := 6) sc_GalleySums___init__.nd rfl (Or.inl rfl)) pgs_nil)))))) (pss_cons (ps_expr (pe_bm PySem.F.plainAttrs_list PySem.F.slot_list_extend PySem.F.type_list_extend mt_extend (pe_fld (pv 0) rfl) (pa_cons (pe_callTy call_list_of (by rfl) T.m_list bi_list (pa_cons (pv 6) pa_nil)) pa_nil)))
      (pss_cons (ps_expr (pe_bm PySem.F.plainAttrs_list PySem.F.slot_list_append PySem.F.type_list_append mt_append (pe_fld (pv 0) rfl) (pa_cons (pe_op op_addG (pe_op op_addG (pe_ix ix_seq (pe_fld (pv 0) rfl) (pe_un un_neg pe_int) (fun _ _ => rfl)) (pv 2)) (pv 3)) pa_nil)))
      (pss_cons (ps_expr (pe_bm PySem.F.plainAttrs_list PySem.F.slot_list_append PySem.F.type_list_append mt_append (pe_fld (pv 0) rfl) (pa_cons (pe_op op_addG (pe_ix ix_seq (pe_fld (pv 0) rfl) (pe_un un_neg pe_int) (fun _ _ => rfl)) (pe_callB (cr_sumG rfl) (by rfl) T.m_sum bi_sum (pa_cons (pe_callTy call_list_of (by rfl) T.m_list bi_list (pa_cons (pv 5) pa_nil)) pa_nil))) pa_nil)))
      (pss_one (ps_expr (pe_bm PySem.F.plainAttrs_list PySem.F.slot_list_append PySem.F.type_list_append mt_append (pe_fld (pv 0) rfl) (pa_cons (pe_op op_addG (pe_ix ix_seq (pe_fld (pv 0) rfl) (pe_un un_neg pe_int) (fun _ _ => rfl)) (pe_callB call_len (by rfl) T.m_len bi_len (pa_cons (pv 6) pa_nil))) pa_nil))))))))))))))))
theorem tm_GalleySums_column_height (T : Txt P K mg) (cdv : Value) (A : Around) (outer : List PySem.Env) (s : Shared) (H : Hp) (E : XK) (hr : Room 0 (A.deeper (PyProof.Rows.envOfC "GalleySums.column_height" (defScope s_GalleySums_column_height) s.heap.objs.size T.f_GalleySums_column_height cdv))) :
    PSs (cxOf CX0 P w K mg base ["self", "start", "end"] "GalleySums.column_height" (defScope s_GalleySums_column_height) T.f_GalleySums_column_height cdv A outer s H E).nox (defBody s_GalleySums_column_height) (t_GalleySums_column_height K) := 
      (pss_cons (ps_if (pt_cmpR (op_eqG hr.units) (pv 1) (pv 2) (nomark _)) (pss_one (ps_ret pe_int)) pss_nil)
      (pss_one (ps_ret (pe_op op_sub (pe_op op_sub (pe_ix ix_seq (pe_fld (pv 0) rfl) (pv 2) (fun _ _ => rfl)) (pe_ix ix_seq (pe_fld (pv 0) rfl) (pv 1) (fun _ _ => rfl))) (pe_ix ix_seq (pe_fld (pv 0) rfl) (pv 1) (fun _ _ => rfl))))))
theorem tm_GalleySums_page_room (T : Txt P K mg) (cdv : Value) (A : Around) (outer : List PySem.Env) (s : Shared) (H : Hp) (E : XK) (hr : Room 0 (A.deeper (PyProof.Rows.envOfC "GalleySums.page_room" (defScope s_GalleySums_page_room) s.heap.objs.size T.f_GalleySums_page_room cdv))) :
    PSs (cxOf CX0 P w K mg base ["self", "frame", "state", "end", "floats_end", "line", "floats", "ages", "notes", "room"] "GalleySums.page_room" (defScope s_GalleySums_page_room) T.f_GalleySums_page_room cdv A outer s H E).nox (defBody s_GalleySums_page_room) (t_GalleySums_page_room K) := 
      (pss_cons (ps_asg (pv 2) (pg_tup (by rfl) (pgs_cons (pg_name (i := 5) sc_GalleySums_page_room.nd rfl (Or.inl rfl)) (pgs_cons (pg_name (i := 6) sc_GalleySums_page_room.nd rfl (Or.inl rfl)) (pgs_cons (pg_name (i := 7) sc_GalleySums_page_room.nd rfl (Or.inl rfl)) pgs_nil)))))
      (pss_cons (ps_set (i := 8) sc_GalleySums_page_room.nd rfl (Or.inl rfl) (pe_op op_sub (pe_ix ix_seq (pe_fld (pv 0) rfl) (pv 3) (fun _ _ => rfl)) (pe_ix ix_seq (pe_fld (pv 0) rfl) (pv 5) (fun _ _ => rfl))))
      (pss_cons (ps_set (i := 9) sc_GalleySums_page_room.nd rfl (Or.inl rfl) (pe_op op_sub (pe_op op_sub (pe_fld (pv 1) rfl) (pv 8)) (pe_callB (cr_sumG rfl) (by rfl) T.m_sum bi_sum (pa_cons (pe_slice sl_G (pe_fld (pv 0) rfl) (po_some (pv 6)) (po_some (pv 4))) pa_nil))))
      (pss_cons (ps_if (pt_cmpR op_gt (pv 8) pe_int (nomark _)) (pss_one (ps_set (i := 9) sc_GalleySums_page_room.nd rfl (Or.inl rfl) (pe_op op_sub (pv 9) (pe_fld (pv 1) rfl)))) pss_nil)
      (pss_cons (ps_if (pt_cmpR op_gt (pv 4) (pv 6) (nomark _)) (pss_one (ps_set (i := 9) sc_GalleySums_page_room.nd rfl (Or.inl rfl) (pe_op op_sub (pv 9) (pe_fld (pv 1) rfl)))) pss_nil)
      (pss_one (ps_ret (pv 9))))))))
theorem tm_GalleySums_next_ages (T : Txt P K mg) (cdv : Value) (A : Around) (outer : List PySem.Env) (s : Shared) (H : Hp) (E : XK) (hr : Room 0 (A.deeper (PyProof.Rows.envOfC "GalleySums.next_ages" (defScope s_GalleySums_next_ages) s.heap.objs.size T.f_GalleySums_next_ages cdv))) :
    PSs (cxOf CX0 P w K mg base ["self", "state", "end", "floats_end", "line", "floats", "ages", "following", "number"] "GalleySums.next_ages" (defScope s_GalleySums_next_ages) T.f_GalleySums_next_ages cdv A outer s H E).nox (defBody s_GalleySums_next_ages) (t_GalleySums_next_ages K) := 
      (pss_cons (ps_asg (pv 1) (pg_tup (by rfl) (pgs_cons (pg_name (i := 4) sc_GalleySums_next_ages.nd rfl (Or.inl rfl)) (pgs_cons (pg_name (i := 5) sc_GalleySums_next_ages.nd rfl (Or.inl rfl)) (pgs_cons (pg_name (i := 6) sc_GalleySums_next_ages.nd rfl (Or.inl rfl)) pgs_nil)))))
      (pss_cons (ps_set (i := 7) sc_GalleySums_next_ages.nd rfl (Or.inl rfl) (pe_lst pa_nil))
      (pss_cons (ps_for PassesOwn.never rfl (pi_range2 (by rfl) T.m_range (pa_cons (pv 3) (pa_cons (pe_ix ix_seq (pe_fld (pv 0) rfl) (pv 2) (fun _ _ => rfl)) pa_nil))) (pg_name (i := 8) sc_GalleySums_next_ages.nd rfl (Or.inl rfl)) (pss_one (ps_if (pt_cmpR (op_ltG hr.units0) (pe_op op_sub (pv 8) (pv 5)) (pe_callB call_len (by rfl) T.m_len bi_len (pa_cons (pv 6) pa_nil)) (nomark _)) (pss_one (ps_expr (pe_bm PySem.F.plainAttrs_list PySem.F.slot_list_append PySem.F.type_list_append mt_append (pv 7) (pa_cons (pe_op op_addG (pe_ix ix_seq (pv 6) (pe_op op_sub (pv 8) (pv 5)) (fun _ _ => rfl)) pe_int) pa_nil)))) (pss_one (ps_expr (pe_bm PySem.F.plainAttrs_list PySem.F.slot_list_append PySem.F.type_list_append mt_append (pv 7) (pa_cons pe_int pa_nil)))))))
      (pss_one (ps_ret (pe_callTy call_tuple_of (by rfl) T.m_tuple bi_tuple (pa_cons (pv 7) pa_nil)))))))
theorem tm_column_splits {ap_GalleySums_column_height : AP} (T : Txt P K mg) (G_GalleySums_column_height : FnOk P w K mg base CX0 1 T.f_GalleySums_column_height T.fd_GalleySums_column_height ["self", "start", "end"] (toSp K ap_GalleySums_column_height)) (cdv : Value) (A : Around) (outer : List PySem.Env) (s : Shared) (H : Hp) (E : XK) (hr : Room 1 (A.deeper (PyProof.Rows.envOfC "column_splits" (defScope s_column_splits) s.heap.objs.size T.f_column_splits cdv))) :
    PSs (cxOf CX0 P w K mg base ["sums", "frame", "line", "end", "places", "split", "splits", "first", "second"] "column_splits" (defScope s_column_splits) T.f_column_splits cdv A outer s H E).nox (defBody s_column_splits) (t_column_splits K T.c_GalleySums ap_GalleySums_column_height) := 
      (pss_cons (ps_set (i := 4) sc_column_splits.nd rfl (Or.inl rfl) (pe_lst (pa_cons (pv 3) pa_nil)))
      (pss_cons (ps_if (PW.pt (pw_and (pt_cmpR (op_eqG hr.units) (pe_fld (pv 1) rfl) pe_int (nomark _)) (pw_and1 (pt_cmpR (op_ltG hr.units0) (pv 2) (pv 3) (nomark _))))) (pss_one (ps_set (i := 4) sc_column_splits.nd rfl (Or.inl rfl) (pe_op op_addG (pe_lc (own := [("split", 5)]) (g := (gName 5)) (tt := (tB (tOp (rIx K) (tFld K (tVar 0) "cuts") (tVar 5)))) (by rfl) sc_column_splits.nd (pi_range2 (by rfl) T.m_range (pa_cons (pe_op op_addG (pv 2) pe_int) (pa_cons (pv 3) pa_nil))) (blkOk_by (own := [("split", 5)]) (N := ["sums", "frame", "line", "end", "places", "split", "splits", "first", "second"]) (sc := defScope s_column_splits) (by decide +kernel)) (fun _ _ _ _ _ => (pg_name (i := 5) sc_column_splits.nd rfl (Or.inl rfl))) (fun _ _ _ _ _ => (pts_one (pt_val (pe_ix ix_seq (pe_fld (pv 0) rfl) (pv 5) (fun _ _ => rfl))))) (fun _ _ _ _ _ => (pv 5))) (pe_lst (pa_cons (pv 3) pa_nil))))) pss_nil)
      (pss_cons (ps_set (i := 6) sc_column_splits.nd rfl (Or.inl rfl) (pe_lst pa_nil))
      (pss_cons (ps_for PassesOwn.never rfl (pi_list (pv 4)) (pg_name (i := 5) sc_column_splits.nd rfl (Or.inl rfl)) (pss_cons (ps_set (i := 7) sc_column_splits.nd rfl (Or.inl rfl) (pe_meth (pv 0) T.co_GalleySums.cl T.mt_GalleySums_column_height G_GalleySums_column_height (hr.mono (by decide)) T.b_GalleySums_column_height .nil pass0 (pa_cons (pv 2) (pa_cons (pv 5) pa_nil))))
      (pss_cons (ps_set (i := 8) sc_column_splits.nd rfl (Or.inl rfl) (pe_meth (pv 0) T.co_GalleySums.cl T.mt_GalleySums_column_height G_GalleySums_column_height (hr.mono (by decide)) T.b_GalleySums_column_height .nil pass0 (pa_cons (pv 5) (pa_cons (pv 3) pa_nil))))
      (pss_one (ps_if (pt_cmpR op_le (pe_callB (call_max2 rfl) (by rfl) T.m_max bi_max (pa_cons (pv 7) (pa_cons (pv 8) pa_nil))) (pe_fld (pv 1) rfl) (nomark _)) (pss_one (ps_expr (pe_bm PySem.F.plainAttrs_list PySem.F.slot_list_append PySem.F.type_list_append mt_append (pv 6) (pa_cons (pe_tup (pa_cons (pv 5) (pa_cons (pe_callB (call_max2 rfl) (by rfl) T.m_max bi_max (pa_cons (pv 7) (pa_cons (pv 8) pa_nil))) (pa_cons (pe_callB call_abs (by rfl) T.m_abs bi_abs (pa_cons (pe_op op_sub (pv 7) (pv 8)) pa_nil)) pa_nil)))) pa_nil)))) pss_nil)))))
      (pss_one (ps_ret (pv 6)))))))
theorem tm_page_price (T : Txt P K mg) (cdv : Value) (A : Around) (outer : List PySem.Env) (s : Shared) (H : Hp) (E : XK) (hr : Room 0 (A.deeper (PyProof.Rows.envOfC "page_price" (defScope s_page_price) s.heap.objs.size T.f_page_price cdv))) :
    PSs (cxOf CX0 P w K mg base ["frame", "slack", "difference", "pending", "price"] "page_price" (defScope s_page_price) T.f_page_price cdv A outer s H E).nox (defBody s_page_price) (t_page_price K) := 
      (pss_cons (ps_set (i := 4) sc_page_price.nd rfl (Or.inl rfl) (pe_op op_addG (pe_op op_mulG (pv 1) (pv 1)) (pe_op op_mulG (pe_fld (pv 0) rfl) (pv 3))))
      (pss_cons (ps_if (pt_cmpR (op_eqG hr.units) (pe_fld (pv 0) rfl) pe_int (nomark _)) (pss_one (ps_ret (pe_op op_addG (pv 4) (pe_op op_mulG (pe_fld (pv 0) rfl) (pv 2))))) pss_nil)
      (pss_one (ps_ret (pv 4)))))
theorem tm_options_to {ap_GalleySums_next_ages : AP} {ap_GalleySums_page_room : AP} {ap_page_price : AP} (T : Txt P K mg) (G_GalleySums_next_ages : FnOk P w K mg base CX0 1 T.f_GalleySums_next_ages T.fd_GalleySums_next_ages ["self", "state", "end", "floats_end"] (toSp K ap_GalleySums_next_ages)) (G_GalleySums_page_room : FnOk P w K mg base CX0 1 T.f_GalleySums_page_room T.fd_GalleySums_page_room ["self", "frame", "state", "end", "floats_end"] (toSp K ap_GalleySums_page_room)) (G_page_price : FnOk P w K mg base CX0 1 T.f_page_price T.fd_page_price ["frame", "slack", "difference", "pending"] (toSp K ap_page_price)) (cdv : Value) (A : Around) (outer : List PySem.Env) (s : Shared) (H : Hp) (E : XK) (hr : Room 1 (A.deeper (PyProof.Rows.envOfC "options_to" (defScope s_options_to) s.heap.objs.size T.f_options_to cdv))) :
    PSs (cxOf CX0 P w K mg base ["sums", "frame", "state", "end", "splits", "goal", "options", "floats_end", "ages", "following", "room", "split", "higher", "difference", "slack", "price", "age"] "options_to" (defScope s_options_to) T.f_options_to cdv A outer s H E).nox (defBody s_options_to) (t_options_to K T.c_GalleySums ap_GalleySums_next_ages ap_GalleySums_page_room ap_page_price) := 
      (pss_cons (ps_set (i := 5) sc_options_to.nd rfl (Or.inl rfl) (pe_tup (pa_cons (pe_fld (pv 0) rfl) (pa_cons (pe_callB call_len (by rfl) T.m_len bi_len (pa_cons (pe_fld (pv 0) rfl) pa_nil)) (pa_cons (pe_tup pa_nil) pa_nil)))))
      (pss_cons (ps_set (i := 6) sc_options_to.nd rfl (Or.inl rfl) (pe_lst pa_nil))
      (pss_cons (ps_for PassesOwn.never rfl (pi_range2 (by rfl) T.m_range (pa_cons (pe_ix ix_seq (pv 2) pe_int (fun _ _ => rfl)) (pa_cons (pe_op op_addG (pe_ix ix_seq (pe_fld (pv 0) rfl) (pv 3) (fun _ _ => rfl)) pe_int) pa_nil))) (pg_name (i := 7) sc_options_to.nd rfl (Or.inl rfl)) (pss_cons (ps_set (i := 8) sc_options_to.nd rfl (Or.inl rfl) (pe_meth (pv 0) T.co_GalleySums.cl T.mt_GalleySums_next_ages G_GalleySums_next_ages (hr.mono (by decide)) T.b_GalleySums_next_ages .nil pass0 (pa_cons (pv 2) (pa_cons (pv 3) (pa_cons (pv 7) pa_nil)))))
      (pss_cons (ps_set (i := 9) sc_options_to.nd rfl (Or.inl rfl) (pe_tup (pa_cons (pv 3) (pa_cons (pv 7) (pa_cons (pv 8) pa_nil)))))
      (pss_cons (ps_if (PW.pt (pw_or (pt_cmpR (op_eqG hr.units) (pe_slice sl_G (pv 9) po_none (po_some pe_int)) (pe_slice sl_G (pv 2) po_none (po_some pe_int)) (nomark _)) (pw_or1 (pt_val (pe_callB (cr_any rfl) (by rfl) T.m_any bi_any (pa_cons (pe_lc (own := [("age", 16)]) (g := (gName 16)) (tt := tYes) (by rfl) sc_options_to.nd (pi_tup (pv 8)) (blkOk_by (own := [("age", 16)]) (N := ["sums", "frame", "state", "end", "splits", "goal", "options", "floats_end", "ages", "following", "room", "split", "higher", "difference", "slack", "price", "age"]) (sc := defScope s_options_to) (by decide +kernel)) (fun _ _ _ _ _ => (pg_name (i := 16) sc_options_to.nd rfl (Or.inl rfl))) (fun _ _ _ _ _ => pts_nil) (fun _ _ _ _ _ => (pe_cmpR op_gt (pv 16) (pe_fld (pv 1) rfl) (nomark _)))) pa_nil)))))) (pss_one ps_continue) pss_nil)
      (pss_cons (ps_set (i := 10) sc_options_to.nd rfl (Or.inl rfl) (pe_meth (pv 0) T.co_GalleySums.cl T.mt_GalleySums_page_room G_GalleySums_page_room (hr.mono (by decide)) T.b_GalleySums_page_room .nil pass0 (pa_cons (pv 1) (pa_cons (pv 2) (pa_cons (pv 3) (pa_cons (pv 7) pa_nil))))))
      (pss_one (ps_for PassesOwn.never rfl (pi_list (pv 4)) (pg_tup (by rfl) (pgs_cons (pg_name (i := 11) sc_options_to.nd rfl (Or.inl rfl)) (pgs_cons (pg_name (i := 12) sc_options_to.nd rfl (Or.inl rfl)) (pgs_cons (pg_name (i := 13) sc_options_to.nd rfl (Or.inl rfl)) pgs_nil)))) (pss_one (ps_if (pt_cmpR op_le (pv 12) (pv 10) (nomark _)) (pss_cons (ps_set (i := 14) sc_options_to.nd rfl (Or.inl rfl) (pe_ifExp (pt_cmpR (op_eqG hr.units) (pv 9) (pv 5) (nomark _)) pe_int (pe_op op_sub (pv 10) (pv 12))))
      (pss_cons (ps_set (i := 15) sc_options_to.nd rfl (Or.inl rfl) (pe_call G_page_price (hr.mono (by decide)) (by rfl) T.g_page_price T.F_page_price.kp T.b_page_price .nil pass0 (pa_cons (pv 1) (pa_cons (pv 14) (pa_cons (pv 13) (pa_cons (pe_callB call_len (by rfl) T.m_len bi_len (pa_cons (pv 8) pa_nil)) pa_nil))))))
      (pss_one (ps_expr (pe_bm PySem.F.plainAttrs_list PySem.F.slot_list_append PySem.F.type_list_append mt_append (pv 6) (pa_cons (pe_tup (pa_cons (pv 3) (pa_cons (pv 7) (pa_cons (pv 11) (pa_cons (pv 15) (pa_cons (pv 9) pa_nil)))))) pa_nil)))))) pss_nil)))))))))
      (pss_one (ps_ret (pv 6))))))
theorem tm_options_from {ap_column_splits : AP} {ap_options_to : AP} (T : Txt P K mg) (G_column_splits : FnOk P w K mg base CX0 2 T.f_column_splits T.fd_column_splits ["sums", "frame", "line", "end"] (toSp K ap_column_splits)) (G_options_to : FnOk P w K mg base CX0 2 T.f_options_to T.fd_options_to ["sums", "frame", "state", "end", "splits"] (toSp K ap_options_to)) (cdv : Value) (A : Around) (outer : List PySem.Env) (s : Shared) (H : Hp) (E : XK) (hr : Room 2 (A.deeper (PyProof.Rows.envOfC "options_from" (defScope s_options_from) s.heap.objs.size T.f_options_from cdv))) :
    PSs (cxOf CX0 P w K mg base ["sums", "frame", "state", "line", "options", "end", "splits"] "options_from" (defScope s_options_from) T.f_options_from cdv A outer s H E).nox (defBody s_options_from) (t_options_from K ap_column_splits ap_options_to) := 
      (pss_cons (ps_set (i := 3) sc_options_from.nd rfl (Or.inl rfl) (pe_ix ix_seq (pv 2) pe_int (fun _ _ => rfl)))
      (pss_cons (ps_set (i := 4) sc_options_from.nd rfl (Or.inl rfl) (pe_lst pa_nil))
      (pss_cons (ps_for PassesOwn.never rfl (pi_range2 (by rfl) T.m_range (pa_cons (pv 3) (pa_cons (pe_op op_addG (pe_fld (pv 0) rfl) pe_int) pa_nil))) (pg_name (i := 5) sc_options_from.nd rfl (Or.inl rfl)) (pss_cons (ps_set (i := 6) sc_options_from.nd rfl (Or.inl rfl) (pe_call G_column_splits (hr.mono (by decide)) (by rfl) T.g_column_splits T.F_column_splits.kp T.b_column_splits .nil pass0 (pa_cons (pv 0) (pa_cons (pv 1) (pa_cons (pv 3) (pa_cons (pv 5) pa_nil))))))
      (pss_cons (ps_if (pt_cmpR (op_eqG hr.units) (pe_callB call_len (by rfl) T.m_len bi_len (pa_cons (pv 6) pa_nil)) pe_int (nomark _)) (pss_one ps_break) pss_nil)
      (pss_one (ps_if (PW.pt (pw_or (pt_cmpR (op_eqG hr.units) (pv 5) (pv 3) (nomark _)) (pw_or (pt_cmpR (op_eqG hr.units) (pv 5) (pe_fld (pv 0) rfl) (nomark _)) (pw_or1 (pt_val (pe_ix ix_seq (pe_fld (pv 0) rfl) (pv 5) (fun _ _ => rfl))))))) (pss_one (ps_expr (pe_bm PySem.F.plainAttrs_list PySem.F.slot_list_extend PySem.F.type_list_extend mt_extend (pv 4) (pa_cons (pe_call G_options_to (hr.mono (by decide)) (by rfl) T.g_options_to T.F_options_to.kp T.b_options_to .nil pass0 (pa_cons (pv 0) (pa_cons (pv 1) (pa_cons (pv 2) (pa_cons (pv 5) (pa_cons (pv 6) pa_nil)))))) pa_nil)))) pss_nil)))))
      (pss_one (ps_ret (pv 4))))))
theorem tm_reached_states {ai_GalleySums : AI} {ap_options_from : AP} (T : Txt P K mg) (G_GalleySums___init__ : FnOk P w K mg base CX0 1 T.f_GalleySums___init__ T.fd_GalleySums___init__ ["self", "galley"] (toSpI K T.c_GalleySums ai_GalleySums)) (G_options_from : FnOk P w K mg base CX0 3 T.f_options_from T.fd_options_from ["sums", "frame", "state"] (toSp K ap_options_from)) (cdv : Value) (A : Around) (outer : List PySem.Env) (s : Shared) (H : Hp) (E : XK) (hr : Room 3 (A.deeper (PyProof.Rows.envOfC "reached_states" (defScope s_reached_states) s.heap.objs.size T.f_reached_states cdv))) :
    PSs (cxOf CX0 P w K mg base ["galley", "frame", "sums", "reached", "waiting", "state", "options", "option"] "reached_states" (defScope s_reached_states) T.f_reached_states cdv A outer s H E).nox (defBody s_reached_states) (t_reached_states K w T.c_GalleySums T.c_START ai_GalleySums ap_options_from) := 
      (pss_cons (ps_set (i := 2) sc_reached_states.nd rfl (Or.inl rfl) (pe_make T.mk_GalleySums G_GalleySums___init__ (hr.mono (by decide)) (by rfl) T.g_GalleySums T.b_GalleySums___init__ .nil pass0 (pa_cons (pv 0) pa_nil)))
      (pss_cons (ps_set (i := 3) sc_reached_states.nd rfl (Or.inr rfl) (pe_nnew rfl))
      (pss_cons (ps_set (i := 4) sc_reached_states.nd rfl (Or.inl rfl) (pe_lst (pa_cons (pe_glob (v := .ref T.c_START) (by rfl) T.g_START rfl) pa_nil)))
      (pss_cons (ps_while PassesOwn.never (pt_cmpR op_gt (pe_callB call_len (by rfl) T.m_len bi_len (pa_cons (pv 4) pa_nil)) pe_int (nomark _)) (pss_cons (ps_set (i := 5) sc_reached_states.nd rfl (Or.inl rfl) (pe_bm0 PySem.F.plainAttrs_list PySem.F.slot_list_pop PySem.F.type_list_pop mt_pop (pv 4)))
      (pss_one (ps_if (pt_cmp (pc_nnotin rfl rfl (Nat.lt_of_le_of_lt (Nat.add_le_add_left (Nat.le_of_ble_eq_true rfl : 9 ≤ 64) _) hr.units) (pv 5) (pv 3))) (pss_cons (ps_set (i := 6) sc_reached_states.nd rfl (Or.inl rfl) (pe_call G_options_from (hr.mono (by decide)) (by rfl) T.g_options_from T.F_options_from.kp T.b_options_from .nil pass0 (pa_cons (pv 2) (pa_cons (pv 1) (pa_cons (pv 5) pa_nil)))))
      (pss_cons (ps_nput rfl rfl (Nat.lt_of_le_of_lt (Nat.add_le_add_left (Nat.le_of_ble_eq_true rfl : 9 ≤ 64) _) hr.units) (pv 3) (pv 5) (pv 6) rfl)
      (pss_one (ps_expr (pe_bm PySem.F.plainAttrs_list PySem.F.slot_list_extend PySem.F.type_list_extend mt_extend (pv 4) (pa_cons (pe_lc (own := [("option", 7)]) (g := (gName 7)) (tt := (tB (tNNotIn K w (tOp (rIx K) (tVar 7) (tC (.int 4))) (tVar 3)))) (by rfl) sc_reached_states.nd (pi_list (pv 6)) (blkOk_by (own := [("option", 7)]) (N := ["galley", "frame", "sums", "reached", "waiting", "state", "options", "option"]) (sc := defScope s_reached_states) (by decide +kernel)) (fun _ _ _ _ _ => (pg_name (i := 7) sc_reached_states.nd rfl (Or.inl rfl))) (fun _ _ _ _ _ => (pts_one (pt_cmp (pc_nnotin rfl rfl (Nat.lt_of_le_of_lt (Nat.add_le_add_left (Nat.le_of_ble_eq_true rfl : 9 ≤ 64) _) hr.units) (pe_ix ix_seq (pv 7) pe_int (fun _ _ => rfl)) (pv 3))))) (fun _ _ _ _ _ => (pe_ix ix_seq (pv 7) pe_int (fun _ _ => rfl)))) pa_nil)))))) pss_nil))))
      (pss_one (ps_ret (pv 3)))))))
theorem tm_greatest_line (T : Txt P K mg) (cdv : Value) (A : Around) (outer : List PySem.Env) (s : Shared) (H : Hp) (E : XK) (hr : Room 0 (A.deeper (PyProof.Rows.envOfC "greatest_line" (defScope s_greatest_line) s.heap.objs.size T.f_greatest_line cdv))) :
    PSs (cxOf CX0 P w K mg base ["reached", "state"] "greatest_line" (defScope s_greatest_line) T.f_greatest_line cdv A outer s H E).nox (defBody s_greatest_line) (t_greatest_line K w) := 
      (pss_one (ps_lock (ps_ret (pe_callB (cr_max rfl) (by rfl) T.m_max bi_max (pa_cons (pe_lc (own := [("state", 1)]) (g := (gName 1)) (tt := tYes) (by rfl) sc_greatest_line.nd (pi_keysN (pv 0)) (blkOk_by (own := [("state", 1)]) (N := ["reached", "state"]) (sc := defScope s_greatest_line) (by decide +kernel)) (fun _ _ _ _ _ => (pg_name (i := 1) sc_greatest_line.nd rfl (Or.inl rfl))) (fun _ _ _ _ _ => pts_nil) (fun _ _ _ _ _ => (pe_ix ix_seq (pv 1) pe_int (fun _ _ => rfl)))) pa_nil)))))
theorem tm_cheapest_to_end (T : Txt P K mg) (cdv : Value) (A : Around) (outer : List PySem.Env) (s : Shared) (H : Hp) (E : XK) (hr : Room 0 (A.deeper (PyProof.Rows.envOfC "cheapest_to_end" (defScope s_cheapest_to_end) s.heap.objs.size T.f_cheapest_to_end cdv))) :
    PSs (cxOf CX0 P w K mg base ["reached", "goal", "best", "state", "found", "end", "floats_end", "split", "price", "following", "rest", "count"] "cheapest_to_end" (defScope s_cheapest_to_end) T.f_cheapest_to_end cdv A outer s H E).nox (defBody s_cheapest_to_end) (t_cheapest_to_end K w) := 
      (pss_cons (ps_set (i := 2) sc_cheapest_to_end.nd rfl (Or.inl rfl) (pe_ndisp1 rfl rfl (Nat.lt_of_le_of_lt (Nat.add_le_add_left (Nat.le_of_ble_eq_true rfl : 9 ≤ 64) _) hr.units) (pv 1) (pe_tup (pa_cons pe_int (pa_cons pe_int (pa_cons pe_non (pa_cons pe_non pa_nil)))))))
      (pss_cons (ps_for PassesOwn.never rfl (pi_list (pe_callBK (cr_sortD (b := true) (Nat.lt_of_le_of_lt (Nat.add_le_add_left (Nat.le_of_ble_eq_true rfl : 12 ≤ 64) _) hr.units)) (by rfl) T.m_sorted bi_sorted (pa_cons (pe_callTy (call_list_dN rfl) (by rfl) T.m_list bi_list (pa_cons (pv 0) pa_nil)) pa_nil) (pk_cons pe_bl pk_nil))) (pg_name (i := 3) sc_cheapest_to_end.nd rfl (Or.inl rfl)) (pss_cons (ps_set (i := 4) sc_cheapest_to_end.nd rfl (Or.inl rfl) (pe_lst pa_nil))
      (pss_cons (ps_for PassesOwn.never rfl (pi_list (pe_nget rfl rfl (Nat.lt_of_le_of_lt (Nat.add_le_add_left (Nat.le_of_ble_eq_true rfl : 9 ≤ 64) _) hr.units) (pv 0) (pv 3) (fun _ _ => rfl))) (pg_tup (by rfl) (pgs_cons (pg_name (i := 5) sc_cheapest_to_end.nd rfl (Or.inl rfl)) (pgs_cons (pg_name (i := 6) sc_cheapest_to_end.nd rfl (Or.inl rfl)) (pgs_cons (pg_name (i := 7) sc_cheapest_to_end.nd rfl (Or.inl rfl)) (pgs_cons (pg_name (i := 8) sc_cheapest_to_end.nd rfl (Or.inl rfl)) (pgs_cons (pg_name (i := 9) sc_cheapest_to_end.nd rfl (Or.inl rfl)) pgs_nil)))))) (pss_one (ps_if (pt_cmp (pc_nin rfl rfl (Nat.lt_of_le_of_lt (Nat.add_le_add_left (Nat.le_of_ble_eq_true rfl : 9 ≤ 64) _) hr.units) (pv 9) (pv 2))) (pss_cons (ps_asg (pe_slice sl_G (pe_nget rfl rfl (Nat.lt_of_le_of_lt (Nat.add_le_add_left (Nat.le_of_ble_eq_true rfl : 9 ≤ 64) _) hr.units) (pv 2) (pv 9) (fun _ _ => rfl)) po_none (po_some pe_int)) (pg_tup (by rfl) (pgs_cons (pg_name (i := 10) sc_cheapest_to_end.nd rfl (Or.inl rfl)) (pgs_cons (pg_name (i := 11) sc_cheapest_to_end.nd rfl (Or.inl rfl)) pgs_nil))))
      (pss_one (ps_expr (pe_bm PySem.F.plainAttrs_list PySem.F.slot_list_append PySem.F.type_list_append mt_append (pv 4) (pa_cons (pe_tup (pa_cons (pe_op op_addG (pv 8) (pv 10)) (pa_cons (pe_op op_addG (pv 11) pe_int) (pa_cons (pe_tup (pa_cons (pv 5) (pa_cons (pv 6) (pa_cons (pv 7) pa_nil)))) (pa_cons (pv 9) pa_nil))))) pa_nil))))) pss_nil)))
      (pss_one (ps_if (pt_cmpR op_gt (pe_callB call_len (by rfl) T.m_len bi_len (pa_cons (pv 4) pa_nil)) pe_int (nomark _)) (pss_one (ps_nput rfl rfl (Nat.lt_of_le_of_lt (Nat.add_le_add_left (Nat.le_of_ble_eq_true rfl : 9 ≤ 64) _) hr.units) (pv 2) (pv 3) (pe_callB (cr_minD rfl (Nat.lt_of_le_of_lt (Nat.add_le_add_left (Nat.le_of_ble_eq_true rfl : 12 ≤ 64) _) hr.units)) (by rfl) T.m_min bi_min (pa_cons (pv 4) pa_nil)) rfl)) pss_nil)))))
      (pss_one (ps_ret (pv 2)))))
theorem tm_break_pages {ap_reached_states : AP} {ap_end_state : AP} {ap_cheapest_to_end : AP} {ap_greatest_line : AP} (T : Txt P K mg) (G_reached_states : FnOk P w K mg base CX0 4 T.f_reached_states T.fd_reached_states ["galley", "frame"] (toSp K ap_reached_states)) (G_end_state : FnOk P w K mg base CX0 1 T.f_end_state T.fd_end_state ["galley"] (toSp K ap_end_state)) (G_cheapest_to_end : FnOk P w K mg base CX0 1 T.f_cheapest_to_end T.fd_cheapest_to_end ["reached", "goal"] (toSp K ap_cheapest_to_end)) (G_greatest_line : FnOk P w K mg base CX0 1 T.f_greatest_line T.fd_greatest_line ["reached"] (toSp K ap_greatest_line)) (GE_NoPages : FnOk P w K mg base CX0 1 T.fi_NoPages T.fe_NoPages ["self", "lines"] (spE1 T.c_NoPages "lines" fun _ => True)) (cdv : Value) (A : Around) (outer : List PySem.Env) (s : Shared) (H : Hp) (E : XK) (hr : Room 4 (A.deeper (PyProof.Rows.envOfC "break_pages" (defScope s_break_pages) s.heap.objs.size T.f_break_pages cdv))) :
    PSs (cxOf (L2.CX P w) P w K mg base ["galley", "frame", "reached", "goal", "best", "state", "pages", "line", "floats", "ages", "page", "following", "end", "floats_end", "split"] "break_pages" (defScope s_break_pages) T.f_break_pages cdv A outer s H E) (defBody s_break_pages) (t_break_pages K w T.c_START T.c_NoPages ap_reached_states ap_end_state ap_cheapest_to_end ap_greatest_line (fun cls d _ H' => E cls d H')) := 
      (pss_cons (ps_set (i := 2) sc_break_pages.nd rfl (Or.inl rfl) (pe_call G_reached_states (hr.mono (by decide)) (by rfl) T.g_reached_states T.F_reached_states.kp T.b_reached_states .nil pass0 (pa_cons (pv 0) (pa_cons (pv 1) pa_nil))))
      (pss_cons (ps_set (i := 3) sc_break_pages.nd rfl (Or.inl rfl) (pe_call G_end_state (hr.mono (by decide)) (by rfl) T.g_end_state T.F_end_state.kp T.b_end_state .nil pass0 (pa_cons (pv 0) pa_nil)))
      (pss_cons (ps_set (i := 4) sc_break_pages.nd rfl (Or.inl rfl) (pe_call G_cheapest_to_end (hr.mono (by decide)) (by rfl) T.g_cheapest_to_end T.F_cheapest_to_end.kp T.b_cheapest_to_end .nil pass0 (pa_cons (pv 2) (pa_cons (pv 3) pa_nil))))
      (pss_cons (ps_if (pt_cmp (pc_nnotin rfl rfl (Nat.lt_of_le_of_lt (Nat.add_le_add_left (Nat.le_of_ble_eq_true rfl : 9 ≤ 64) _) hr.units) (pe_glob (v := .ref T.c_START) (by rfl) T.g_START rfl) (pv 4))) (pss_one (ps_raise rfl (takes_of rfl rfl rfl rfl) (pmk_oex T.ox_NoPages T.ic_NoPages T.ti_NoPages GE_NoPages (hr.mono (by decide)) T.be_NoPages .nil pass0 (by rfl) T.g_NoPages (pa_cons (pe_call G_greatest_line (hr.mono (by decide)) (by rfl) T.g_greatest_line T.F_greatest_line.kp T.b_greatest_line .nil pass0 (pa_cons (pv 2) pa_nil)) pa_nil)))) pss_nil)
      (pss_cons (ps_set (i := 5) sc_break_pages.nd rfl (Or.inl rfl) (pe_glob (v := .ref T.c_START) (by rfl) T.g_START rfl))
      (pss_cons (ps_set (i := 6) sc_break_pages.nd rfl (Or.inl rfl) (pe_lst pa_nil))
      (pss_cons (ps_while (passes_of rfl) (pt_cmpR (op_neG hr.units) (pv 5) (pv 3) (nomark _)) (pss_cons (ps_asg (pv 5) (pg_tup (by rfl) (pgs_cons (pg_name (i := 7) sc_break_pages.nd rfl (Or.inl rfl)) (pgs_cons (pg_name (i := 8) sc_break_pages.nd rfl (Or.inl rfl)) (pgs_cons (pg_name (i := 9) sc_break_pages.nd rfl (Or.inl rfl)) pgs_nil)))))
      (pss_cons (ps_asg (pe_slice sl_G (pe_nget rfl rfl (Nat.lt_of_le_of_lt (Nat.add_le_add_left (Nat.le_of_ble_eq_true rfl : 9 ≤ 64) _) hr.units) (pv 4) (pv 5) (fun _ _ => rfl)) (po_some pe_int) po_none) (pg_tup (by rfl) (pgs_cons (pg_name (i := 10) sc_break_pages.nd rfl (Or.inl rfl)) (pgs_cons (pg_name (i := 11) sc_break_pages.nd rfl (Or.inl rfl)) pgs_nil))))
      (pss_cons (ps_asg (pv 10) (pg_tup (by rfl) (pgs_cons (pg_name (i := 12) sc_break_pages.nd rfl (Or.inl rfl)) (pgs_cons (pg_name (i := 13) sc_break_pages.nd rfl (Or.inl rfl)) (pgs_cons (pg_name (i := 14) sc_break_pages.nd rfl (Or.inl rfl)) pgs_nil)))))
      (pss_cons (ps_expr (pe_bm PySem.F.plainAttrs_list PySem.F.slot_list_append PySem.F.type_list_append mt_append (pv 6) (pa_cons (pe_tup (pa_cons (pv 7) (pa_cons (pv 12) (pa_cons (pv 8) (pa_cons (pv 13) (pa_cons (pv 14) pa_nil)))))) pa_nil)))
      (pss_one (ps_set (i := 5) sc_break_pages.nd rfl (Or.inl rfl) (pv 11))))))))
      (pss_one (ps_ret (pe_tup (pa_cons (pe_ix ix_seq (pe_nget rfl rfl (Nat.lt_of_le_of_lt (Nat.add_le_add_left (Nat.le_of_ble_eq_true rfl : 9 ≤ 64) _) hr.units) (pv 4) (pe_glob (v := .ref T.c_START) (by rfl) T.g_START rfl) (fun _ _ => rfl)) pe_int (fun _ _ => rfl)) (pa_cons (pe_callTy call_tuple_of (by rfl) T.m_tuple bi_tuple (pa_cons (pv 6) pa_nil)) pa_nil))))))))))))
theorem tm_Frame___init__ (T : Txt P K mg) (cdv : Value) (A : Around) (outer : List PySem.Env) (s : Shared) (H : Hp) (E : XK) (hr : Room 0 (A.deeper (PyProof.Rows.envOfC "Frame.__init__" (defScope s_Frame___init__) s.heap.objs.size T.f_Frame___init__ cdv))) :
    PSs (cxOf CX0 P w K mg base ["self", "height", "columns", "rule", "under", "wait", "late", "uneven"] "Frame.__init__" (defScope s_Frame___init__) T.f_Frame___init__ cdv A outer s H E).nox (defBody s_Frame___init__) (t_Frame___init__ K) := 
      (pss_cons (ps_fld (pv 0) (pv 1) rfl)
      (pss_cons (ps_fld (pv 0) (pv 2) rfl)
      (pss_cons (ps_fld (pv 0) (pv 3) rfl)
      (pss_cons (ps_fld (pv 0) (pv 4) rfl)
      (pss_cons (ps_fld (pv 0) (pv 5) rfl)
      (pss_cons (ps_fld (pv 0) (pv 6) rfl)
      (pss_one (ps_fld (pv 0) (pv 7) rfl))))))))
theorem tm_Frame_of {ai_Frame : AI} (T : Txt P K mg) (G_Frame___init__ : FnOk P w K mg base CX0 1 T.f_Frame___init__ T.fd_Frame___init__ ["self", "height", "columns", "rule", "under", "wait", "late", "uneven"] (toSpI K T.c_Frame ai_Frame)) (cdv : Value) (A : Around) (outer : List PySem.Env) (s : Shared) (H : Hp) (E : XK) (hr : Room 2 (A.deeper (PyProof.Rows.envOfC "Frame.of" (defScope s_Frame_of) s.heap.objs.size T.f_Frame_of cdv))) :
    PSs (cxOf CX0 P w K mg base ["key", "height", "columns", "rule", "under", "wait", "late", "uneven"] "Frame.of" (defScope s_Frame_of) T.f_Frame_of cdv A outer s H E).nox (defBody s_Frame_of) (t_Frame_of K T.c_Frame ai_Frame) := by
      obtain ⟨mv_0, KB_0⟩ := kb_0 T
      exact
      (pss_cons (ps_asg (pv 0) (pg_tup (by rfl) (pgs_cons (pg_name (i := 1) sc_Frame_of.nd rfl (Or.inl rfl)) (pgs_cons (pg_name (i := 2) sc_Frame_of.nd rfl (Or.inl rfl)) (pgs_cons (pg_name (i := 3) sc_Frame_of.nd rfl (Or.inl rfl)) (pgs_cons (pg_name (i := 4) sc_Frame_of.nd rfl (Or.inl rfl)) (pgs_cons (pg_name (i := 5) sc_Frame_of.nd rfl (Or.inl rfl)) (pgs_cons (pg_name (i := 6) sc_Frame_of.nd rfl (Or.inl rfl)) (pgs_cons (pg_name (i := 7) sc_Frame_of.nd rfl (Or.inl rfl)) pgs_nil)))))))))
      (pss_one (ps_ret (pe_makeKm T.mk_Frame G_Frame___init__ (hr.mono (by decide)) (by rfl) T.g_Frame KB_0 pass0 (pa_cons (pv 1) pa_nil) (pk_cons (pv 2) (pk_cons (pv 3) (pk_cons (pv 4) (pk_cons (pv 5) (pk_cons (pv 6) (pk_cons (pv 7) pk_nil)))))) rfl))))
theorem tm__law_pool (T : Txt P K mg) (cdv : Value) (A : Around) (outer : List PySem.Env) (s : Shared) (H : Hp) (E : XK) (hr : Room 0 (A.deeper (PyProof.Rows.envOfC "_law_pool" (defScope s__law_pool) s.heap.objs.size T.f__law_pool cdv))) :
    PSs (cxOf CX0 P w K mg base ["_law_script", "_law_at", "_law_cell"] "_law_pool" (defScope s__law_pool) T.f__law_pool cdv A outer s H E).nox (defBody s__law_pool) (t__law_pool K) := 
      (pss_cons (ps_set (i := 2) sc__law_pool.nd rfl (Or.inl rfl) pe_int)
      (pss_cons (ps_if (pt_cmpR (op_ltG hr.units0) (pv 1) (pe_callB call_len (by rfl) T.m_len bi_len (pa_cons (pv 0) pa_nil)) (nomark _)) (pss_one (ps_set (i := 2) sc__law_pool.nd rfl (Or.inl rfl) (pe_callB call_abs (by rfl) T.m_abs bi_abs (pa_cons (pe_callTy call_int1 (by rfl) T.m_int bi_int (pa_cons (pe_ix ix_seq (pv 0) (pv 1) (fun _ _ => rfl)) pa_nil)) pa_nil)))) pss_nil)
      (pss_one (ps_ret (pe_lst (pa_cons (pv 2) (pa_cons pe_int (pa_cons (pe_callTy call_int1 (by rfl) T.m_int bi_int (pa_cons (pe_cmpR op_ge (pv 2) (pe_op op_pow pe_int pe_int) (nomark _)) pa_nil)) (pa_cons (pe_op op_mod (pe_callTy call_int1 (by rfl) T.m_int bi_int (pa_cons (pe_op op_addG (pv 2) (pe_op op_mulG (pv 1) pe_int)) pa_nil)) pe_int) pa_nil)))))))))
theorem tm__law_take (T : Txt P K mg) (cdv : Value) (A : Around) (outer : List PySem.Env) (s : Shared) (H : Hp) (E : XK) (hr : Room 0 (A.deeper (PyProof.Rows.envOfC "_law_take" (defScope s__law_take) s.heap.objs.size T.f__law_take cdv))) :
    PSs (cxOf CX0 P w K mg base ["_law_pool_here", "_law_many", "_law_got", "_law_one", "_law_two"] "_law_take" (defScope s__law_take) T.f__law_take cdv A outer s H E).nox (defBody s__law_take) (t__law_take K) := 
      (pss_cons (ps_asg (pe_op op_addG (pe_ix ix_seq (pv 0) pe_int (fun _ _ => rfl)) pe_int) (pg_sub (pv 0) pe_int set_list))
      (pss_cons (ps_if (PW.pt (pw_and (pt_cmpR (op_eqG hr.units) (pe_ix ix_seq (pv 0) pe_int (fun _ _ => rfl)) pe_int (nomark _)) (pw_and1 (pt_cmpR op_gt (pe_ix ix_seq (pv 0) pe_int (fun _ _ => rfl)) pe_int (nomark _))))) (pss_cons (ps_set (i := 2) sc__law_take.nd rfl (Or.inl rfl) (pe_op op_mod (pe_callTy call_int1 (by rfl) T.m_int bi_int (pa_cons (pe_ix ix_seq (pv 0) pe_int (fun _ _ => rfl)) pa_nil)) (pv 1)))
      (pss_cons (ps_asg (pe_op op_fdivW (pe_ix ix_seq (pv 0) pe_int (fun _ _ => rfl)) (pv 1)) (pg_sub (pv 0) pe_int set_list))
      (pss_one (ps_ret (pv 2))))) pss_nil)
      (pss_cons (ps_set (i := 3) sc__law_take.nd rfl (Or.inl rfl) (pe_op op_mod (pe_callTy call_int1 (by rfl) T.m_int bi_int (pa_cons (pe_op op_addG (pe_op op_addG (pe_op op_mulG (pe_ix ix_seq (pv 0) pe_int (fun _ _ => rfl)) pe_int) (pe_op op_mulG (pe_ix ix_seq (pv 0) pe_int (fun _ _ => rfl)) pe_int)) pe_int) pa_nil)) pe_int))
      (pss_cons (ps_set (i := 4) sc__law_take.nd rfl (Or.inl rfl) (pe_op op_mod (pe_callTy call_int1 (by rfl) T.m_int bi_int (pa_cons (pe_op op_addG (pe_op op_addG (pe_op op_mulG (pv 3) pe_int) (pe_op op_fdivW (pv 3) pe_int)) (pe_op op_mulG (pe_op op_mulG (pe_ix ix_seq (pv 0) pe_int (fun _ _ => rfl)) (pe_ix ix_seq (pv 0) pe_int (fun _ _ => rfl))) pe_int)) pa_nil)) pe_int))
      (pss_one (ps_ret (pe_op op_mod (pe_callTy call_int1 (by rfl) T.m_int bi_int (pa_cons (pv 4) pa_nil)) (pv 1))))))))
theorem tm__law_number (T : Txt P K mg) (cdv : Value) (A : Around) (outer : List PySem.Env) (s : Shared) (H : Hp) (E : XK) (hr : Room 0 (A.deeper (PyProof.Rows.envOfC "_law_number" (defScope s__law_number) s.heap.objs.size T.f__law_number cdv))) :
    PSs (cxOf CX0 P w K mg base ["_law_thing"] "_law_number" (defScope s__law_number) T.f__law_number cdv A outer s H E).nox (defBody s__law_number) (t__law_number K) := 
      (pss_one (ps_ret (pe_and (pe_callB call_isi (by rfl) T.m_isinstance bi_isinstance (pa_cons (pv 0) (pa_cons (pe_bltn (v := .ty "int") (by rfl) T.m_int bi_int rfl) pa_nil))) (pe_one (pe_not (pe_callB call_isi (by rfl) T.m_isinstance bi_isinstance (pa_cons (pv 0) (pa_cons (pe_bltn (v := .ty "bool") (by rfl) T.m_bool bi_bool rfl) pa_nil))))))))
theorem tm__law_numbers {ap__law_number : AP} (T : Txt P K mg) (G__law_number : FnOk P w K mg base CX0 1 T.f__law_number T.fd__law_number ["_law_thing"] (toSp K ap__law_number)) (cdv : Value) (A : Around) (outer : List PySem.Env) (s : Shared) (H : Hp) (E : XK) (hr : Room 1 (A.deeper (PyProof.Rows.envOfC "_law_numbers" (defScope s__law_numbers) s.heap.objs.size T.f__law_numbers cdv))) :
    PSs (cxOf CX0 P w K mg base ["_law_thing", "_law_many", "_law_one"] "_law_numbers" (defScope s__law_numbers) T.f__law_numbers cdv A outer s H E).nox (defBody s__law_numbers) (t__law_numbers K ap__law_number) := 
      (pss_cons (ps_if (PW.pt (pw_or (pt_not (pt_val (pe_callB call_isi (by rfl) T.m_isinstance bi_isinstance (pa_cons (pv 0) (pa_cons (pe_bltn (v := .ty "tuple") (by rfl) T.m_tuple bi_tuple rfl) pa_nil))))) (pw_or1 (pt_cmpR (op_neG hr.units) (pe_callB call_len (by rfl) T.m_len bi_len (pa_cons (pv 0) pa_nil)) (pv 1) (nomark _))))) (pss_one (ps_ret pe_bl)) pss_nil)
      (pss_one (ps_ret (pe_cmpR (op_eqG hr.units) (pe_callB call_len (by rfl) T.m_len bi_len (pa_cons (pe_lc (own := [("_law_one", 2)]) (g := (gName 2)) (tt := (tNot (tB (tCall (toSp K ap__law_number) [] E0 (tCons (tVar 2) tNil))))) (by rfl) sc__law_numbers.nd (pi_tup (pv 0)) (blkOk_by (own := [("_law_one", 2)]) (N := ["_law_thing", "_law_many", "_law_one"]) (sc := defScope s__law_numbers) (by decide +kernel)) (fun _ _ _ _ _ => (pg_name (i := 2) sc__law_numbers.nd rfl (Or.inl rfl))) (fun _ _ _ _ _ => (pts_one (pt_not (pt_val (pe_call G__law_number (hr.mono (by decide)) (by rfl) T.g__law_number T.F__law_number.kp T.b__law_number .nil pass0 (pa_cons (pv 2) pa_nil)))))) (fun _ _ _ _ _ => (pv 2))) pa_nil)) pe_int (nomark _)))))
theorem tm__law_paged {ap__law_number : AP} {ap__law_numbers : AP} (T : Txt P K mg) (G__law_number : FnOk P w K mg base CX0 1 T.f__law_number T.fd__law_number ["_law_thing"] (toSp K ap__law_number)) (G__law_numbers : FnOk P w K mg base CX0 2 T.f__law_numbers T.fd__law_numbers ["_law_thing", "_law_many"] (toSp K ap__law_numbers)) (cdv : Value) (A : Around) (outer : List PySem.Env) (s : Shared) (H : Hp) (E : XK) (hr : Room 2 (A.deeper (PyProof.Rows.envOfC "_law_paged" (defScope s__law_paged) s.heap.objs.size T.f__law_paged cdv))) :
    PSs (cxOf CX0 P w K mg base ["_law_answer", "_law_page"] "_law_paged" (defScope s__law_paged) T.f__law_paged cdv A outer s H E).nox (defBody s__law_paged) (t__law_paged K ap__law_number ap__law_numbers) := 
      (pss_cons (ps_if (PW.pt (pw_or (pt_not (pt_val (pe_callB call_isi (by rfl) T.m_isinstance bi_isinstance (pa_cons (pv 0) (pa_cons (pe_bltn (v := .ty "tuple") (by rfl) T.m_tuple bi_tuple rfl) pa_nil))))) (pw_or1 (pt_cmpR (op_neG hr.units) (pe_callB call_len (by rfl) T.m_len bi_len (pa_cons (pv 0) pa_nil)) pe_int (nomark _))))) (pss_one (ps_ret pe_bl)) pss_nil)
      (pss_cons (ps_if (PW.pt (pw_or (pt_not (pt_val (pe_call G__law_number (hr.mono (by decide)) (by rfl) T.g__law_number T.F__law_number.kp T.b__law_number .nil pass0 (pa_cons (pe_ix ix_seq (pv 0) pe_int (fun _ _ => rfl)) pa_nil)))) (pw_or1 (pt_not (pt_val (pe_callB call_isi (by rfl) T.m_isinstance bi_isinstance (pa_cons (pe_ix ix_seq (pv 0) pe_int (fun _ _ => rfl)) (pa_cons (pe_bltn (v := .ty "tuple") (by rfl) T.m_tuple bi_tuple rfl) pa_nil)))))))) (pss_one (ps_ret pe_bl)) pss_nil)
      (pss_one (ps_ret (pe_cmpR (op_eqG hr.units) (pe_callB call_len (by rfl) T.m_len bi_len (pa_cons (pe_lc (own := [("_law_page", 1)]) (g := (gName 1)) (tt := (tNot (tB (tCall (toSp K ap__law_numbers) [] E0 (tCons (tVar 1) (tCons (tC (.int 5)) tNil)))))) (by rfl) sc__law_paged.nd (pi_tup (pe_ix ix_seq (pv 0) pe_int (fun _ _ => rfl))) (blkOk_by (own := [("_law_page", 1)]) (N := ["_law_answer", "_law_page"]) (sc := defScope s__law_paged) (by decide +kernel)) (fun _ _ _ _ _ => (pg_name (i := 1) sc__law_paged.nd rfl (Or.inl rfl))) (fun _ _ _ _ _ => (pts_one (pt_not (pt_val (pe_call G__law_numbers (hr.mono (by decide)) (by rfl) T.g__law_numbers T.F__law_numbers.kp T.b__law_numbers .nil pass0 (pa_cons (pv 1) (pa_cons pe_int pa_nil))))))) (fun _ _ _ _ _ => (pv 1))) pa_nil)) pe_int (nomark _))))))
theorem tm__law_ranges {ap__law_take : AP} (T : Txt P K mg) (G__law_take : FnOk P w K mg base CX0 1 T.f__law_take T.fd__law_take ["_law_pool_here", "_law_many"] (toSp K ap__law_take)) (cdv : Value) (A : Around) (outer : List PySem.Env) (s : Shared) (H : Hp) (E : XK) (hr : Room 1 (A.deeper (PyProof.Rows.envOfC "_law_ranges" (defScope s__law_ranges) s.heap.objs.size T.f__law_ranges cdv))) :
    PSs (cxOf CX0 P w K mg base ["_law_pool_here", "_law_plain", "_law_unit", "_law_wide"] "_law_ranges" (defScope s__law_ranges) T.f__law_ranges cdv A outer s H E).nox (defBody s__law_ranges) (t__law_ranges K ap__law_take) := 
      (pss_cons (ps_set (i := 1) sc__law_ranges.nd rfl (Or.inl rfl) (pe_lst (pa_cons pe_int (pa_cons pe_int (pa_cons pe_int (pa_cons pe_int (pa_cons pe_int (pa_cons pe_int (pa_cons pe_int (pa_cons pe_int (pa_cons pe_int pa_nil)))))))))))
      (pss_cons (ps_set (i := 2) sc__law_ranges.nd rfl (Or.inl rfl) (pe_lst (pa_cons pe_int (pa_cons pe_int (pa_cons pe_int (pa_cons pe_int (pa_cons pe_int (pa_cons pe_int (pa_cons pe_int (pa_cons pe_int (pa_cons pe_int pa_nil)))))))))))
      (pss_cons (ps_set (i := 3) sc__law_ranges.nd rfl (Or.inl rfl) (pe_lst (pa_cons pe_int (pa_cons pe_int (pa_cons pe_int (pa_cons pe_int (pa_cons pe_int (pa_cons pe_int (pa_cons pe_int (pa_cons pe_int (pa_cons pe_int pa_nil)))))))))))
      (pss_one (ps_ret (pe_ix ix_seq (pe_lst (pa_cons (pv 1) (pa_cons (pv 1) (pa_cons (pv 3) (pa_cons (pv 1) (pa_cons (pv 2) (pa_cons (pv 2) (pa_cons (pv 1) (pa_cons (pv 2) pa_nil))))))))) (pe_call G__law_take (hr.mono (by decide)) (by rfl) T.g__law_take T.F__law_take.kp T.b__law_take .nil pass0 (pa_cons (pv 0) (pa_cons pe_int pa_nil))) (fun _ _ => rfl)))))))
theorem tm__law_frame_key {ap__law_take : AP} (T : Txt P K mg) (G__law_take : FnOk P w K mg base CX0 1 T.f__law_take T.fd__law_take ["_law_pool_here", "_law_many"] (toSp K ap__law_take)) (cdv : Value) (A : Around) (outer : List PySem.Env) (s : Shared) (H : Hp) (E : XK) (hr : Room 1 (A.deeper (PyProof.Rows.envOfC "_law_frame_key" (defScope s__law_frame_key) s.heap.objs.size T.f__law_frame_key cdv))) :
    PSs (cxOf CX0 P w K mg base ["_law_pool_here", "_law_scale", "_law_high", "_law_cols", "_law_foot", "_law_head", "_law_patience", "_law_dear"] "_law_frame_key" (defScope s__law_frame_key) T.f__law_frame_key cdv A outer s H E).nox (defBody s__law_frame_key) (t__law_frame_key K ap__law_take) := 
      (pss_cons (ps_set (i := 2) sc__law_frame_key.nd rfl (Or.inl rfl) (pe_op op_addG (pe_ix ix_seq (pv 1) pe_int (fun _ _ => rfl)) (pe_call G__law_take (hr.mono (by decide)) (by rfl) T.g__law_take T.F__law_take.kp T.b__law_take .nil pass0 (pa_cons (pv 0) (pa_cons (pe_ix ix_seq (pv 1) pe_int (fun _ _ => rfl)) pa_nil)))))
      (pss_cons (ps_set (i := 3) sc__law_frame_key.nd rfl (Or.inl rfl) (pe_op op_addG pe_int (pe_call G__law_take (hr.mono (by decide)) (by rfl) T.g__law_take T.F__law_take.kp T.b__law_take .nil pass0 (pa_cons (pv 0) (pa_cons pe_int pa_nil)))))
      (pss_cons (ps_set (i := 4) sc__law_frame_key.nd rfl (Or.inl rfl) (pe_call G__law_take (hr.mono (by decide)) (by rfl) T.g__law_take T.F__law_take.kp T.b__law_take .nil pass0 (pa_cons (pv 0) (pa_cons (pe_ix ix_seq (pv 1) pe_int (fun _ _ => rfl)) pa_nil))))
      (pss_cons (ps_set (i := 5) sc__law_frame_key.nd rfl (Or.inl rfl) (pe_call G__law_take (hr.mono (by decide)) (by rfl) T.g__law_take T.F__law_take.kp T.b__law_take .nil pass0 (pa_cons (pv 0) (pa_cons (pe_ix ix_seq (pv 1) pe_int (fun _ _ => rfl)) pa_nil))))
      (pss_cons (ps_set (i := 6) sc__law_frame_key.nd rfl (Or.inl rfl) (pe_call G__law_take (hr.mono (by decide)) (by rfl) T.g__law_take T.F__law_take.kp T.b__law_take .nil pass0 (pa_cons (pv 0) (pa_cons pe_int pa_nil))))
      (pss_cons (ps_set (i := 7) sc__law_frame_key.nd rfl (Or.inl rfl) (pe_call G__law_take (hr.mono (by decide)) (by rfl) T.g__law_take T.F__law_take.kp T.b__law_take .nil pass0 (pa_cons (pv 0) (pa_cons (pe_ix ix_seq (pv 1) pe_int (fun _ _ => rfl)) pa_nil))))
      (pss_one (ps_ret (pe_tup (pa_cons (pv 2) (pa_cons (pv 3) (pa_cons (pv 4) (pa_cons (pv 5) (pa_cons (pv 6) (pa_cons (pv 7) (pa_cons (pe_call G__law_take (hr.mono (by decide)) (by rfl) T.g__law_take T.F__law_take.kp T.b__law_take .nil pass0 (pa_cons (pv 0) (pa_cons (pe_ix ix_seq (pv 1) pe_int (fun _ _ => rfl)) pa_nil))) pa_nil))))))))))))))))
theorem tm__law_frame {ap_Frame_of : AP} {ai_Frame : AI} (T : Txt P K mg) (G_Frame_of : FnOk P w K mg base CX0 3 T.f_Frame_of T.fd_Frame_of ["key"] (toSp K ap_Frame_of)) (G_Frame___init__ : FnOk P w K mg base CX0 1 T.f_Frame___init__ T.fd_Frame___init__ ["self", "height", "columns", "rule", "under", "wait", "late", "uneven"] (toSpI K T.c_Frame ai_Frame)) (cdv : Value) (A : Around) (outer : List PySem.Env) (s : Shared) (H : Hp) (E : XK) (hr : Room 3 (A.deeper (PyProof.Rows.envOfC "_law_frame" (defScope s__law_frame) s.heap.objs.size T.f__law_frame cdv))) :
    PSs (cxOf CX0 P w K mg base ["_law_key", "_law_way"] "_law_frame" (defScope s__law_frame) T.f__law_frame cdv A outer s H E).nox (defBody s__law_frame) (t__law_frame K T.c_Frame ap_Frame_of ai_Frame) := by
      obtain ⟨mv_0, KB_0⟩ := kb_0 T
      exact
      (pss_cons (ps_if (pt_cmpR (op_eqG hr.units) (pv 1) pe_int (nomark _)) (pss_one (ps_ret (pe_smeth (pe_glob (v := .ref T.c_Frame) (by rfl) T.g_Frame rfl) T.sm_Frame_of G_Frame_of (hr.mono (by decide)) T.F_Frame_of.kp T.b_Frame_of pass0 (pa_cons (pv 0) pa_nil)))) pss_nil)
      (pss_one (ps_ret (pe_makeKm T.mk_Frame G_Frame___init__ (hr.mono (by decide)) (by rfl) T.g_Frame KB_0 pass0 (pa_cons (pe_ix ix_seq (pv 0) pe_int (fun _ _ => rfl)) pa_nil) (pk_cons (pe_ix ix_seq (pv 0) pe_int (fun _ _ => rfl)) (pk_cons (pe_ix ix_seq (pv 0) pe_int (fun _ _ => rfl)) (pk_cons (pe_ix ix_seq (pv 0) pe_int (fun _ _ => rfl)) (pk_cons (pe_ix ix_seq (pv 0) pe_int (fun _ _ => rfl)) (pk_cons (pe_ix ix_seq (pv 0) pe_int (fun _ _ => rfl)) (pk_cons (pe_ix ix_seq (pv 0) pe_int (fun _ _ => rfl)) pk_nil)))))) rfl))))
theorem tm__law_heights {ap__law_take : AP} (T : Txt P K mg) (G__law_take : FnOk P w K mg base CX0 1 T.f__law_take T.fd__law_take ["_law_pool_here", "_law_many"] (toSp K ap__law_take)) (cdv : Value) (A : Around) (outer : List PySem.Env) (s : Shared) (H : Hp) (E : XK) (hr : Room 1 (A.deeper (PyProof.Rows.envOfC "_law_heights" (defScope s__law_heights) s.heap.objs.size T.f__law_heights cdv))) :
    PSs (cxOf CX0 P w K mg base ["_law_pool_here", "_law_many", "_law_tall", "_law_k"] "_law_heights" (defScope s__law_heights) T.f__law_heights cdv A outer s H E).nox (defBody s__law_heights) (t__law_heights K ap__law_take) := 
      (pss_one (ps_ret (pe_callTy call_tuple_of (by rfl) T.m_tuple bi_tuple (pa_cons (pe_lc (own := [("_law_k", 3)]) (g := (gName 3)) (tt := tYes) (by rfl) sc__law_heights.nd (pi_range1 (by rfl) T.m_range (pa_cons (pv 1) pa_nil)) (blkOk_by (own := [("_law_k", 3)]) (N := ["_law_pool_here", "_law_many", "_law_tall", "_law_k"]) (sc := defScope s__law_heights) (by decide +kernel)) (fun _ _ _ _ _ => (pg_name (i := 3) sc__law_heights.nd rfl (Or.inl rfl))) (fun _ _ _ _ _ => pts_nil) (fun _ _ _ _ _ => (pe_op op_addG pe_int (pe_call G__law_take (hr.mono (by decide)) (by rfl) T.g__law_take T.F__law_take.kp T.b__law_take .nil pass0 (pa_cons (pv 0) (pa_cons (pv 2) pa_nil)))))) pa_nil))))
theorem tm__law_lines {ap__law_take : AP} {ap__law_heights : AP} (T : Txt P K mg) (G__law_take : FnOk P w K mg base CX0 1 T.f__law_take T.fd__law_take ["_law_pool_here", "_law_many"] (toSp K ap__law_take)) (G__law_heights : FnOk P w K mg base CX0 2 T.f__law_heights T.fd__law_heights ["_law_pool_here", "_law_many", "_law_tall"] (toSp K ap__law_heights)) (cdv : Value) (A : Around) (outer : List PySem.Env) (s : Shared) (H : Hp) (E : XK) (hr : Room 2 (A.deeper (PyProof.Rows.envOfC "_law_lines" (defScope s__law_lines) s.heap.objs.size T.f__law_lines cdv))) :
    PSs (cxOf CX0 P w K mg base ["_law_pool_here", "_law_many", "_law_floats", "_law_scale", "_law_lines_here", "_law_k", "_law_sort", "_law_notes", "_law_own"] "_law_lines" (defScope s__law_lines) T.f__law_lines cdv A outer s H E).nox (defBody s__law_lines) (t__law_lines K ap__law_take ap__law_heights) := 
      (pss_cons (ps_set (i := 4) sc__law_lines.nd rfl (Or.inl rfl) (pe_lst pa_nil))
      (pss_cons (ps_for PassesOwn.never rfl (pi_range1 (by rfl) T.m_range (pa_cons (pv 1) pa_nil)) (pg_name (i := 5) sc__law_lines.nd rfl (Or.inl rfl)) (pss_cons (ps_set (i := 6) sc__law_lines.nd rfl (Or.inl rfl) (pe_call G__law_take (hr.mono (by decide)) (by rfl) T.g__law_take T.F__law_take.kp T.b__law_take .nil pass0 (pa_cons (pv 0) (pa_cons pe_int pa_nil))))
      (pss_cons (ps_set (i := 7) sc__law_lines.nd rfl (Or.inl rfl) (pe_call G__law_heights (hr.mono (by decide)) (by rfl) T.g__law_heights T.F__law_heights.kp T.b__law_heights .nil pass0 (pa_cons (pv 0) (pa_cons (pe_callTy call_int1 (by rfl) T.m_int bi_int (pa_cons (pe_cmpR (op_eqG hr.units) (pv 6) pe_int (nomark _)) pa_nil)) (pa_cons (pe_ix ix_seq (pv 3) pe_int (fun _ _ => rfl)) pa_nil)))))
      (pss_cons (ps_set (i := 8) sc__law_lines.nd rfl (Or.inl rfl) (pe_call G__law_heights (hr.mono (by decide)) (by rfl) T.g__law_heights T.F__law_heights.kp T.b__law_heights .nil pass0 (pa_cons (pv 0) (pa_cons (pe_callTy call_int1 (by rfl) T.m_int bi_int (pa_cons (pe_and (pe_cmpR (op_eqG hr.units) (pv 6) pe_int (nomark _)) (pe_one (pe_cmpR (op_ltG hr.units0) (pv 2) pe_int (nomark _)))) pa_nil)) (pa_cons (pe_ix ix_seq (pv 3) pe_int (fun _ _ => rfl)) pa_nil)))))
      (pss_cons (ps_set (i := 2) sc__law_lines.nd rfl (Or.inl rfl) (pe_op op_addG (pv 2) (pe_callB call_len (by rfl) T.m_len bi_len (pa_cons (pv 8) pa_nil))))
      (pss_one (ps_expr (pe_bm PySem.F.plainAttrs_list PySem.F.slot_list_append PySem.F.type_list_append mt_append (pv 4) (pa_cons (pe_tup (pa_cons (pv 7) (pa_cons (pv 8) pa_nil))) pa_nil)))))))))
      (pss_one (ps_ret (pe_callTy call_tuple_of (by rfl) T.m_tuple bi_tuple (pa_cons (pv 4) pa_nil))))))
theorem tm__law_paragraphs {ap__law_take : AP} {ap__law_lines : AP} (T : Txt P K mg) (G__law_take : FnOk P w K mg base CX0 1 T.f__law_take T.fd__law_take ["_law_pool_here", "_law_many"] (toSp K ap__law_take)) (G__law_lines : FnOk P w K mg base CX0 3 T.f__law_lines T.fd__law_lines ["_law_pool_here", "_law_many", "_law_floats", "_law_scale"] (toSp K ap__law_lines)) (cdv : Value) (A : Around) (outer : List PySem.Env) (s : Shared) (H : Hp) (E : XK) (hr : Room 3 (A.deeper (PyProof.Rows.envOfC "_law_paragraphs" (defScope s__law_paragraphs) s.heap.objs.size T.f__law_paragraphs cdv))) :
    PSs (cxOf CX0 P w K mg base ["_law_pool_here", "_law_scale", "_law_rows", "_law_floats", "_law_k", "_law_many", "_law_lead", "_law_least", "_law_keep", "_law_above", "_law_below", "_law_lines_here", "_law_line"] "_law_paragraphs" (defScope s__law_paragraphs) T.f__law_paragraphs cdv A outer s H E).nox (defBody s__law_paragraphs) (t__law_paragraphs K ap__law_take ap__law_lines) := 
      (pss_cons (ps_set (i := 2) sc__law_paragraphs.nd rfl (Or.inl rfl) (pe_lst pa_nil))
      (pss_cons (ps_set (i := 3) sc__law_paragraphs.nd rfl (Or.inl rfl) pe_int)
      (pss_cons (ps_for PassesOwn.never rfl (pi_range1 (by rfl) T.m_range (pa_cons (pe_op op_addG pe_int (pe_call G__law_take (hr.mono (by decide)) (by rfl) T.g__law_take T.F__law_take.kp T.b__law_take .nil pass0 (pa_cons (pv 0) (pa_cons (pe_ix ix_seq (pe_lst (pa_cons pe_int (pa_cons pe_int (pa_cons pe_int (pa_cons pe_int pa_nil))))) (pe_call G__law_take (hr.mono (by decide)) (by rfl) T.g__law_take T.F__law_take.kp T.b__law_take .nil pass0 (pa_cons (pv 0) (pa_cons pe_int pa_nil))) (fun _ _ => rfl)) pa_nil)))) pa_nil)) (pg_name (i := 4) sc__law_paragraphs.nd rfl (Or.inl rfl)) (pss_cons (ps_set (i := 5) sc__law_paragraphs.nd rfl (Or.inl rfl) (pe_op op_addG pe_int (pe_call G__law_take (hr.mono (by decide)) (by rfl) T.g__law_take T.F__law_take.kp T.b__law_take .nil pass0 (pa_cons (pv 0) (pa_cons (pe_ix ix_seq (pe_lst (pa_cons pe_int (pa_cons pe_int (pa_cons pe_int (pa_cons pe_int pa_nil))))) (pe_call G__law_take (hr.mono (by decide)) (by rfl) T.g__law_take T.F__law_take.kp T.b__law_take .nil pass0 (pa_cons (pv 0) (pa_cons pe_int pa_nil))) (fun _ _ => rfl)) pa_nil)))))
      (pss_cons (ps_set (i := 6) sc__law_paragraphs.nd rfl (Or.inl rfl) (pe_op op_addG pe_int (pe_call G__law_take (hr.mono (by decide)) (by rfl) T.g__law_take T.F__law_take.kp T.b__law_take .nil pass0 (pa_cons (pv 0) (pa_cons (pe_ix ix_seq (pv 1) pe_int (fun _ _ => rfl)) pa_nil)))))
      (pss_cons (ps_set (i := 7) sc__law_paragraphs.nd rfl (Or.inl rfl) (pe_op op_addG pe_int (pe_call G__law_take (hr.mono (by decide)) (by rfl) T.g__law_take T.F__law_take.kp T.b__law_take .nil pass0 (pa_cons (pv 0) (pa_cons pe_int pa_nil)))))
      (pss_cons (ps_set (i := 8) sc__law_paragraphs.nd rfl (Or.inl rfl) (pe_ix ix_seq (pe_lst (pa_cons pe_str (pa_cons pe_str pa_nil))) (pe_call G__law_take (hr.mono (by decide)) (by rfl) T.g__law_take T.F__law_take.kp T.b__law_take .nil pass0 (pa_cons (pv 0) (pa_cons pe_int pa_nil))) (fun _ _ => rfl)))
      (pss_cons (ps_set (i := 9) sc__law_paragraphs.nd rfl (Or.inl rfl) (pe_op op_mulG (pe_call G__law_take (hr.mono (by decide)) (by rfl) T.g__law_take T.F__law_take.kp T.b__law_take .nil pass0 (pa_cons (pv 0) (pa_cons pe_int pa_nil))) (pe_call G__law_take (hr.mono (by decide)) (by rfl) T.g__law_take T.F__law_take.kp T.b__law_take .nil pass0 (pa_cons (pv 0) (pa_cons (pe_ix ix_seq (pv 1) pe_int (fun _ _ => rfl)) pa_nil)))))
      (pss_cons (ps_set (i := 10) sc__law_paragraphs.nd rfl (Or.inl rfl) (pe_op op_mulG (pe_call G__law_take (hr.mono (by decide)) (by rfl) T.g__law_take T.F__law_take.kp T.b__law_take .nil pass0 (pa_cons (pv 0) (pa_cons pe_int pa_nil))) (pe_call G__law_take (hr.mono (by decide)) (by rfl) T.g__law_take T.F__law_take.kp T.b__law_take .nil pass0 (pa_cons (pv 0) (pa_cons (pe_ix ix_seq (pv 1) pe_int (fun _ _ => rfl)) pa_nil)))))
      (pss_cons (ps_set (i := 11) sc__law_paragraphs.nd rfl (Or.inl rfl) (pe_call G__law_lines (hr.mono (by decide)) (by rfl) T.g__law_lines T.F__law_lines.kp T.b__law_lines .nil pass0 (pa_cons (pv 0) (pa_cons (pv 5) (pa_cons (pv 3) (pa_cons (pv 1) pa_nil))))))
      (pss_cons (ps_set (i := 3) sc__law_paragraphs.nd rfl (Or.inl rfl) (pe_op op_addG (pv 3) (pe_callB (cr_sumG rfl) (by rfl) T.m_sum bi_sum (pa_cons (pe_lc (own := [("_law_line", 12)]) (g := (gName 12)) (tt := tYes) (by rfl) sc__law_paragraphs.nd (pi_tup (pv 11)) (blkOk_by (own := [("_law_line", 12)]) (N := ["_law_pool_here", "_law_scale", "_law_rows", "_law_floats", "_law_k", "_law_many", "_law_lead", "_law_least", "_law_keep", "_law_above", "_law_below", "_law_lines_here", "_law_line"]) (sc := defScope s__law_paragraphs) (by decide +kernel)) (fun _ _ _ _ _ => (pg_name (i := 12) sc__law_paragraphs.nd rfl (Or.inl rfl))) (fun _ _ _ _ _ => pts_nil) (fun _ _ _ _ _ => (pe_callB call_len (by rfl) T.m_len bi_len (pa_cons (pe_ix ix_seq (pv 12) pe_int (fun _ _ => rfl)) pa_nil)))) pa_nil))))
      (pss_one (ps_expr (pe_bm PySem.F.plainAttrs_list PySem.F.slot_list_append PySem.F.type_list_append mt_append (pv 2) (pa_cons (pe_tup (pa_cons (pv 11) (pa_cons (pv 6) (pa_cons (pv 7) (pa_cons (pv 8) (pa_cons (pv 9) (pa_cons (pv 10) pa_nil))))))) pa_nil)))))))))))))
      (pss_one (ps_ret (pv 2))))))
theorem tm__law_places (T : Txt P K mg) (cdv : Value) (A : Around) (outer : List PySem.Env) (s : Shared) (H : Hp) (E : XK) (hr : Room 0 (A.deeper (PyProof.Rows.envOfC "_law_places" (defScope s__law_places) s.heap.objs.size T.f__law_places cdv))) :
    PSs (cxOf CX0 P w K mg base ["_law_pages", "_law_many", "_law_places_here", "_law_line", "_law_page"] "_law_places" (defScope s__law_places) T.f__law_places cdv A outer s H E).nox (defBody s__law_places) (t__law_places K) := 
      (pss_cons (ps_set (i := 2) sc__law_places.nd rfl (Or.inl rfl) (pe_lst pa_nil))
      (pss_cons (ps_set (i := 3) sc__law_places.nd rfl (Or.inl rfl) pe_int)
      (pss_cons (ps_for PassesOwn.never rfl (pi_tup (pv 0)) (pg_name (i := 4) sc__law_places.nd rfl (Or.inl rfl)) (pss_cons (ps_if (PW.pt (pw_or (pt_cmpR (op_neG hr.units) (pe_ix ix_seq (pv 4) pe_int (fun _ _ => rfl)) (pv 3) (nomark _)) (pw_or1 (pt_not (pt_chain3 op_le op_le op_le (pv 3) (pe_ix ix_seq (pv 4) pe_int (fun _ _ => rfl)) (pe_ix ix_seq (pv 4) pe_int (fun _ _ => rfl)) (pv 1)))))) (pss_one (ps_ret pe_non)) pss_nil)
      (pss_cons (ps_set (i := 3) sc__law_places.nd rfl (Or.inl rfl) (pe_ix ix_seq (pv 4) pe_int (fun _ _ => rfl)))
      (pss_one (ps_expr (pe_bm PySem.F.plainAttrs_list PySem.F.slot_list_extend PySem.F.type_list_extend mt_extend (pv 2) (pa_cons (pe_lst (pa_cons (pe_ix ix_seq (pv 4) pe_int (fun _ _ => rfl)) (pa_cons (pv 3) pa_nil))) pa_nil)))))))
      (pss_cons (ps_if (pt_cmpR (op_neG hr.units) (pv 3) (pv 1) (nomark _)) (pss_one (ps_ret pe_non)) pss_nil)
      (pss_one (ps_ret (pv 2)))))))
theorem tm__law_lets (T : Txt P K mg) (cdv : Value) (A : Around) (outer : List PySem.Env) (s : Shared) (H : Hp) (E : XK) (hr : Room 0 (A.deeper (PyProof.Rows.envOfC "_law_lets" (defScope s__law_lets) s.heap.objs.size T.f__law_lets cdv))) :
    PSs (cxOf CX0 P w K mg base ["_law_rows", "_law_place", "_law_before", "_law_k", "_law_many", "_law_row"] "_law_lets" (defScope s__law_lets) T.f__law_lets cdv A outer s H E).nox (defBody s__law_lets) (t__law_lets K) := 
      (pss_cons (ps_set (i := 2) sc__law_lets.nd rfl (Or.inl rfl) pe_int)
      (pss_cons (ps_for PassesOwn.never rfl (pi_range1 (by rfl) T.m_range (pa_cons (pe_callB call_len (by rfl) T.m_len bi_len (pa_cons (pv 0) pa_nil)) pa_nil)) (pg_name (i := 3) sc__law_lets.nd rfl (Or.inl rfl)) (pss_cons (ps_set (i := 4) sc__law_lets.nd rfl (Or.inl rfl) (pe_callB call_len (by rfl) T.m_len bi_len (pa_cons (pe_ix ix_seq (pe_ix ix_seq (pv 0) (pv 3) (fun _ _ => rfl)) pe_int (fun _ _ => rfl)) pa_nil)))
      (pss_cons (ps_if (pt_cmpR (op_ltG hr.units0) (pv 1) (pe_op op_addG (pv 2) (pv 4)) (nomark _)) (pss_cons (ps_set (i := 5) sc__law_lets.nd rfl (Or.inl rfl) (pe_op op_sub (pv 1) (pv 2)))
      (pss_cons (ps_if (pt_cmpR (op_eqG hr.units) (pv 5) pe_int (nomark _)) (pss_one (ps_ret (pe_cmpR (op_eqG hr.units) (pe_ix ix_seq (pe_ix ix_seq (pv 0) (pe_op op_sub (pv 3) pe_int) (fun _ _ => rfl)) pe_int (fun _ _ => rfl)) pe_str (nomark _)))) pss_nil)
      (pss_one (ps_ret (pe_and (pe_cmpR op_ge (pv 5) (pe_ix ix_seq (pe_ix ix_seq (pv 0) (pv 3) (fun _ _ => rfl)) pe_int (fun _ _ => rfl)) (nomark _)) (pe_one (pe_cmpR op_ge (pe_op op_sub (pv 4) (pv 5)) (pe_ix ix_seq (pe_ix ix_seq (pv 0) (pv 3) (fun _ _ => rfl)) pe_int (fun _ _ => rfl)) (nomark _)))))))) pss_nil)
      (pss_one (ps_set (i := 2) sc__law_lets.nd rfl (Or.inl rfl) (pe_op op_addG (pv 2) (pv 4)))))))
      (pss_one (ps_ret pe_bl))))
theorem tm_law {ap__law_pool : AP} {ap__law_ranges : AP} {ap__law_frame_key : AP} {ap__law_frame : AP} {ap__law_take : AP} {ap__law_paragraphs : AP} {ap_make_galley : AP} {ap_break_pages : APX} {ap__law_paged : AP} {ap__law_places : AP} {ap__law_lets : AP} (T : Txt P K mg) (G__law_pool : FnOk P w K mg base CX0 1 T.f__law_pool T.fd__law_pool ["_law_script", "_law_at"] (toSp K ap__law_pool)) (G__law_ranges : FnOk P w K mg base CX0 2 T.f__law_ranges T.fd__law_ranges ["_law_pool_here"] (toSp K ap__law_ranges)) (G__law_frame_key : FnOk P w K mg base CX0 2 T.f__law_frame_key T.fd__law_frame_key ["_law_pool_here", "_law_scale"] (toSp K ap__law_frame_key)) (G__law_frame : FnOk P w K mg base CX0 4 T.f__law_frame T.fd__law_frame ["_law_key", "_law_way"] (toSp K ap__law_frame)) (G__law_take : FnOk P w K mg base CX0 1 T.f__law_take T.fd__law_take ["_law_pool_here", "_law_many"] (toSp K ap__law_take)) (G__law_paragraphs : FnOk P w K mg base CX0 4 T.f__law_paragraphs T.fd__law_paragraphs ["_law_pool_here", "_law_scale"] (toSp K ap__law_paragraphs)) (G_make_galley : FnOk P w K mg base CX0 3 T.f_make_galley T.fd_make_galley ["paragraphs"] (toSp K ap_make_galley)) (G_break_pages : FnOk P w K mg base (L2.CX P w) 5 T.f_break_pages T.fd_break_pages ["galley", "frame"] (toSpX K ap_break_pages)) (G__law_paged : FnOk P w K mg base CX0 3 T.f__law_paged T.fd__law_paged ["_law_answer"] (toSp K ap__law_paged)) (G__law_places : FnOk P w K mg base CX0 1 T.f__law_places T.fd__law_places ["_law_pages", "_law_many"] (toSp K ap__law_places)) (G__law_lets : FnOk P w K mg base CX0 1 T.f__law_lets T.fd__law_lets ["_law_rows", "_law_place"] (toSp K ap__law_lets)) (cdv : Value) (A : Around) (outer : List PySem.Env) (s : Shared) (H : Hp) (E : XK) (hr : Room 5 (A.deeper (PyProof.Rows.envOfC "law" (defScope s_law) s.heap.objs.size T.f_law cdv))) :
    PSs (cxOf CX0 P w K mg base ["_law_script", "_law_pool_here", "_law_scale", "_law_key", "_law_frame_here", "_law_rows", "_law_galley", "_law_answer", "_law_fault", "_law_many", "_law_places_here", "_law_row", "_law_at"] "law" (defScope s_law) T.f_law cdv A outer s H E).nox (defBody s_law) (t_law K T.c_NoPages ap__law_pool ap__law_ranges ap__law_frame_key ap__law_frame ap__law_take ap__law_paragraphs ap_make_galley ap_break_pages ap__law_paged ap__law_places ap__law_lets) := 
      (pss_cons (ps_set (i := 1) sc_law.nd rfl (Or.inl rfl) (pe_call G__law_pool (hr.mono (by decide)) (by rfl) T.g__law_pool T.F__law_pool.kp T.b__law_pool .nil pass0 (pa_cons (pv 0) (pa_cons pe_int pa_nil))))
      (pss_cons (ps_set (i := 2) sc_law.nd rfl (Or.inl rfl) (pe_call G__law_ranges (hr.mono (by decide)) (by rfl) T.g__law_ranges T.F__law_ranges.kp T.b__law_ranges .nil pass0 (pa_cons (pv 1) pa_nil)))
      (pss_cons (ps_set (i := 3) sc_law.nd rfl (Or.inl rfl) (pe_call G__law_frame_key (hr.mono (by decide)) (by rfl) T.g__law_frame_key T.F__law_frame_key.kp T.b__law_frame_key .nil pass0 (pa_cons (pv 1) (pa_cons (pv 2) pa_nil))))
      (pss_cons (ps_set (i := 4) sc_law.nd rfl (Or.inl rfl) (pe_call G__law_frame (hr.mono (by decide)) (by rfl) T.g__law_frame T.F__law_frame.kp T.b__law_frame .nil pass0 (pa_cons (pv 3) (pa_cons (pe_call G__law_take (hr.mono (by decide)) (by rfl) T.g__law_take T.F__law_take.kp T.b__law_take .nil pass0 (pa_cons (pv 1) (pa_cons pe_int pa_nil))) pa_nil))))
      (pss_cons (ps_set (i := 5) sc_law.nd rfl (Or.inr rfl) (pe_call G__law_paragraphs (hr.mono (by decide)) (by rfl) T.g__law_paragraphs T.F__law_paragraphs.kp T.b__law_paragraphs .nil pass0 (pa_cons (pe_call G__law_pool (hr.mono (by decide)) (by rfl) T.g__law_pool T.F__law_pool.kp T.b__law_pool .nil pass0 (pa_cons (pv 0) (pa_cons pe_int pa_nil))) (pa_cons (pv 2) pa_nil))))
      (pss_cons (ps_set (i := 6) sc_law.nd rfl (Or.inl rfl) (pe_call G_make_galley (hr.mono (by decide)) (by rfl) T.g_make_galley T.F_make_galley.kp T.b_make_galley .nil pass0 (pa_cons (pe_callTy call_tuple_of (by rfl) T.m_tuple bi_tuple (pa_cons (pv 5) pa_nil)) pa_nil)))
      (pss_cons (ps_set (i := 7) sc_law.nd rfl (Or.inl rfl) pe_non)
      (pss_cons (ps_set (i := 8) sc_law.nd rfl (Or.inl rfl) pe_bl)
      (pss_cons (ps_try_only rfl rfl ⟨by rfl, by decide, .inl T.g_NoPages⟩ takes00 (fun W1 pn xe tk po => (pss_one (ps_set (i := 7) sc_law.nd rfl (Or.inl rfl) (pe_callS G_break_pages (hr.mono (by decide)) (by rfl) T.g_break_pages T.F_break_pages.kp T.b_break_pages (fun σ => passAt tk σ) (pa_cons (pv 6) (pa_cons (pv 4) pa_nil)))))) (fun a oe cls d pn _ _ => (pss_one (ps_set (i := 8) sc_law.nd rfl (Or.inl rfl) pe_bl))))
      (pss_cons (ps_if (pt_val (pv 8)) (pss_one (ps_ret pe_bl)) pss_nil)
      (pss_cons (ps_if (pt_not (pt_val (pe_call G__law_paged (hr.mono (by decide)) (by rfl) T.g__law_paged T.F__law_paged.kp T.b__law_paged .nil pass0 (pa_cons (pv 7) pa_nil)))) (pss_one (ps_ret pe_bl)) pss_nil)
      (pss_cons (ps_set (i := 9) sc_law.nd rfl (Or.inr rfl) (pe_callB (cr_sumG rfl) (by rfl) T.m_sum bi_sum (pa_cons (pe_lc (own := [("_law_row", 11)]) (g := (gName 11)) (tt := tYes) (by rfl) sc_law.nd (pi_list (pv 5)) (blkOk_by (own := [("_law_row", 11)]) (N := ["_law_script", "_law_pool_here", "_law_scale", "_law_key", "_law_frame_here", "_law_rows", "_law_galley", "_law_answer", "_law_fault", "_law_many", "_law_places_here", "_law_row", "_law_at"]) (sc := defScope s_law) (by decide +kernel)) (fun _ _ _ _ _ => (pg_name (i := 11) sc_law.nd rfl (Or.inl rfl))) (fun _ _ _ _ _ => pts_nil) (fun _ _ _ _ _ => (pe_callB call_len (by rfl) T.m_len bi_len (pa_cons (pe_ix ix_seq (pv 11) pe_int (fun _ _ => rfl)) pa_nil)))) pa_nil)))
      (pss_cons (ps_set (i := 10) sc_law.nd rfl (Or.inl rfl) (pe_call G__law_places (hr.mono (by decide)) (by rfl) T.g__law_places T.F__law_places.kp T.b__law_places .nil pass0 (pa_cons (pe_ix ix_seq (pv 7) pe_int (fun _ _ => rfl)) (pa_cons (pv 9) pa_nil))))
      (pss_cons (ps_if (pt_cmp (pc_isN (pv 10))) (pss_one (ps_ret pe_bl)) pss_nil)
      (pss_one (ps_ret (pe_cmpR (op_eqG hr.units) (pe_callB call_len (by rfl) T.m_len bi_len (pa_cons (pe_lc (own := [("_law_at", 12)]) (g := (gName 12)) (tt := (tAnd (tTest (tChain rLtI rLtI (tC (.int 0)) (tVar 12) (tVar 9))) (tNot (tB (tCall (toSp K ap__law_lets) [] E0 (tCons (tVar 5) (tCons (tVar 12) tNil))))))) (by rfl) sc_law.nd (pi_list (pv 10)) (blkOk_by (own := [("_law_at", 12)]) (N := ["_law_script", "_law_pool_here", "_law_scale", "_law_key", "_law_frame_here", "_law_rows", "_law_galley", "_law_answer", "_law_fault", "_law_many", "_law_places_here", "_law_row", "_law_at"]) (sc := defScope s_law) (by decide +kernel)) (fun _ _ _ _ _ => (pg_name (i := 12) sc_law.nd rfl (Or.inl rfl))) (fun _ _ _ _ _ => (pts_one (PW.pt (pw_and (pt_chain op_lt op_lt pe_int (pv 12) (pv 9)) (pw_and1 (pt_not (pt_val (pe_call G__law_lets (hr.mono (by decide)) (by rfl) T.g__law_lets T.F__law_lets.kp T.b__law_lets .nil pass0 (pa_cons (pv 5) (pa_cons (pv 12) pa_nil)))))))))) (fun _ _ _ _ _ => (pv 12))) pa_nil)) pe_int (nomark _))))))))))))))))))
end
theorem beE_NoPages {K : PySem.W.Frag} {cc cda : Addr} {kV dc pm ct : Value} {an : Option Addr} : Binds K (PySem.W.fnX "__init__" "NoPages.__init__" (defArgs s_NoPages___init__) (defBody s_NoPages___init__) (defScope s_NoPages___init__) [("__class__", cc)] .none kV dc pm an (.ref cda) ct) ["self", "lines"] [] :=
  Binds.all fun us hl => match us, hl with | [_, _], _ => rfl
theorem txt_mk {P : Program} {K : PySem.W.Frag} {h : Heap} {mg : Str → Option Value} (X : K.In h) (G : h.Ns mainGlobals mg)
    {c_GalleySums : Addr} (aGalleySums : PySem.W.nsIn K mainGlobals "GalleySums" = some (some (.ref c_GalleySums)))
    (pgGalleySums : PySem.W.plainGet K c_GalleySums Str.empty = true) (hdGalleySums : PySem.W.hasDictIn K c_GalleySums = true) (poGalleySums : PySem.W.plainOver K c_GalleySums = true) (saGalleySums : PySem.W.findIn K (.ref c_GalleySums) "__setattr__" = some (some (.builtin "object.__setattr__"))) (mkGalleySums : PySem.W.makesIn K c_GalleySums = true) (kcGalleySums : PySem.W.keepIn K (.ref c_GalleySums) = true)
    (haGalleySums : PySem.W.findIn K (.ref c_GalleySums) "__class__" = some (some (.builtin "object.__class__"))) (hmGalleySums : PySem.W.mroIn K c_GalleySums (.type "object") = some true)
    (naGalleySums_lines : PySem.W.findIn K (.ref c_GalleySums) "lines" = some none)
    (naGalleySums_spaces : PySem.W.findIn K (.ref c_GalleySums) "spaces" = some none)
    (naGalleySums_cuts : PySem.W.findIn K (.ref c_GalleySums) "cuts" = some none)
    (naGalleySums_floats : PySem.W.findIn K (.ref c_GalleySums) "floats" = some none)
    (naGalleySums_tops : PySem.W.findIn K (.ref c_GalleySums) "tops" = some none)
    (naGalleySums_noted : PySem.W.findIn K (.ref c_GalleySums) "noted" = some none)
    (naGalleySums_marked : PySem.W.findIn K (.ref c_GalleySums) "marked" = some none)
    {c_Frame : Addr} (aFrame : PySem.W.nsIn K mainGlobals "Frame" = some (some (.ref c_Frame)))
    (pgFrame : PySem.W.plainGet K c_Frame Str.empty = true) (hdFrame : PySem.W.hasDictIn K c_Frame = true) (poFrame : PySem.W.plainOver K c_Frame = true) (saFrame : PySem.W.findIn K (.ref c_Frame) "__setattr__" = some (some (.builtin "object.__setattr__"))) (mkFrame : PySem.W.makesIn K c_Frame = true) (kcFrame : PySem.W.keepIn K (.ref c_Frame) = true)
    (haFrame : PySem.W.findIn K (.ref c_Frame) "__class__" = some (some (.builtin "object.__class__"))) (hmFrame : PySem.W.mroIn K c_Frame (.type "object") = some true)
    (rdFrame : PySem.W.readsIn K c_Frame (.type "type") = true) (gaFrame : PySem.W.specialIn K (.ref c_Frame) "__getattribute__" = some (some (.builtin "type.__getattribute__")))
    (naFrame_height : PySem.W.findIn K (.ref c_Frame) "height" = some none)
    (naFrame_columns : PySem.W.findIn K (.ref c_Frame) "columns" = some none)
    (naFrame_rule : PySem.W.findIn K (.ref c_Frame) "rule" = some none)
    (naFrame_under : PySem.W.findIn K (.ref c_Frame) "under" = some none)
    (naFrame_wait : PySem.W.findIn K (.ref c_Frame) "wait" = some none)
    (naFrame_late : PySem.W.findIn K (.ref c_Frame) "late" = some none)
    (naFrame_uneven : PySem.W.findIn K (.ref c_Frame) "uneven" = some none)
    (hnO : PySem.W.specialIn K (.builtin "object.__class__") "__get__" = some (some (.builtin "getset_descriptor.__get__"))) (htO : PySem.W.takesIn K (.builtin "object.__class__") = some true)
    {f0 : Addr} {od0 an0 : Option Addr} {sl0 : Array (Option Value)} {oc0 kV0 dc0 pm0 cd0 ct0 : Value}
    (a0 : PySem.W.nsIn K mainGlobals "space_and_cut" = some (some (.ref f0))) (l0 : K.lookup f0 = some ⟨oc0, od0, .func (PySem.W.fnOf "space_and_cut" "space_and_cut" (defArgs s_space_and_cut) (defBody s_space_and_cut) (defScope s_space_and_cut) .none kV0 dc0 pm0 an0 cd0 ct0), sl0⟩) (c0 : PySem.W.codeIn K cd0 "space_and_cut" = true) (k0 : PySem.W.keepIn K (.ref f0) = true)
    {f1 : Addr} {od1 an1 : Option Addr} {sl1 : Array (Option Value)} {oc1 kV1 dc1 pm1 cd1 ct1 : Value}
    (a1 : PySem.W.nsIn K mainGlobals "paragraph_lines" = some (some (.ref f1))) (l1 : K.lookup f1 = some ⟨oc1, od1, .func (PySem.W.fnOf "paragraph_lines" "paragraph_lines" (defArgs s_paragraph_lines) (defBody s_paragraph_lines) (defScope s_paragraph_lines) .none kV1 dc1 pm1 an1 cd1 ct1), sl1⟩) (c1 : PySem.W.codeIn K cd1 "paragraph_lines" = true) (k1 : PySem.W.keepIn K (.ref f1) = true)
    {f2 : Addr} {od2 an2 : Option Addr} {sl2 : Array (Option Value)} {oc2 kV2 dc2 pm2 cd2 ct2 : Value}
    (a2 : PySem.W.nsIn K mainGlobals "make_galley" = some (some (.ref f2))) (l2 : K.lookup f2 = some ⟨oc2, od2, .func (PySem.W.fnOf "make_galley" "make_galley" (defArgs s_make_galley) (defBody s_make_galley) (defScope s_make_galley) .none kV2 dc2 pm2 an2 cd2 ct2), sl2⟩) (c2 : PySem.W.codeIn K cd2 "make_galley" = true) (k2 : PySem.W.keepIn K (.ref f2) = true)
    {f3 : Addr} {od3 an3 : Option Addr} {sl3 : Array (Option Value)} {oc3 kV3 dc3 pm3 cd3 ct3 : Value}
    (a3 : PySem.W.nsIn K mainGlobals "end_state" = some (some (.ref f3))) (l3 : K.lookup f3 = some ⟨oc3, od3, .func (PySem.W.fnOf "end_state" "end_state" (defArgs s_end_state) (defBody s_end_state) (defScope s_end_state) .none kV3 dc3 pm3 an3 cd3 ct3), sl3⟩) (c3 : PySem.W.codeIn K cd3 "end_state" = true) (k3 : PySem.W.keepIn K (.ref f3) = true)
    {f4 : Addr} {od4 an4 : Option Addr} {sl4 : Array (Option Value)} {oc4 kV4 dc4 pm4 cd4 ct4 : Value}
    (a4 : PySem.W.findIn K (.ref c_GalleySums) "__init__" = some (some (.ref f4))) (l4 : K.lookup f4 = some ⟨oc4, od4, .func (PySem.W.fnOf "__init__" "GalleySums.__init__" (defArgs s_GalleySums___init__) (defBody s_GalleySums___init__) (defScope s_GalleySums___init__) .none kV4 dc4 pm4 an4 cd4 ct4), sl4⟩) (c4 : PySem.W.codeIn K cd4 "GalleySums.__init__" = true) (k4 : PySem.W.keepIn K (.ref f4) = true)
    (i4 : PySem.W.isFn K (.ref f4) = true)
    {f5 : Addr} {od5 an5 : Option Addr} {sl5 : Array (Option Value)} {oc5 kV5 dc5 pm5 cd5 ct5 : Value}
    (a5 : PySem.W.findIn K (.ref c_GalleySums) "column_height" = some (some (.ref f5))) (l5 : K.lookup f5 = some ⟨oc5, od5, .func (PySem.W.fnOf "column_height" "GalleySums.column_height" (defArgs s_GalleySums_column_height) (defBody s_GalleySums_column_height) (defScope s_GalleySums_column_height) .none kV5 dc5 pm5 an5 cd5 ct5), sl5⟩) (c5 : PySem.W.codeIn K cd5 "GalleySums.column_height" = true) (k5 : PySem.W.keepIn K (.ref f5) = true)
    (i5 : PySem.W.isFn K (.ref f5) = true)
    {f6 : Addr} {od6 an6 : Option Addr} {sl6 : Array (Option Value)} {oc6 kV6 dc6 pm6 cd6 ct6 : Value}
    (a6 : PySem.W.findIn K (.ref c_GalleySums) "page_room" = some (some (.ref f6))) (l6 : K.lookup f6 = some ⟨oc6, od6, .func (PySem.W.fnOf "page_room" "GalleySums.page_room" (defArgs s_GalleySums_page_room) (defBody s_GalleySums_page_room) (defScope s_GalleySums_page_room) .none kV6 dc6 pm6 an6 cd6 ct6), sl6⟩) (c6 : PySem.W.codeIn K cd6 "GalleySums.page_room" = true) (k6 : PySem.W.keepIn K (.ref f6) = true)
    (i6 : PySem.W.isFn K (.ref f6) = true)
    {f7 : Addr} {od7 an7 : Option Addr} {sl7 : Array (Option Value)} {oc7 kV7 dc7 pm7 cd7 ct7 : Value}
    (a7 : PySem.W.findIn K (.ref c_GalleySums) "next_ages" = some (some (.ref f7))) (l7 : K.lookup f7 = some ⟨oc7, od7, .func (PySem.W.fnOf "next_ages" "GalleySums.next_ages" (defArgs s_GalleySums_next_ages) (defBody s_GalleySums_next_ages) (defScope s_GalleySums_next_ages) .none kV7 dc7 pm7 an7 cd7 ct7), sl7⟩) (c7 : PySem.W.codeIn K cd7 "GalleySums.next_ages" = true) (k7 : PySem.W.keepIn K (.ref f7) = true)
    (i7 : PySem.W.isFn K (.ref f7) = true)
    {f8 : Addr} {od8 an8 : Option Addr} {sl8 : Array (Option Value)} {oc8 kV8 dc8 pm8 cd8 ct8 : Value}
    (a8 : PySem.W.nsIn K mainGlobals "column_splits" = some (some (.ref f8))) (l8 : K.lookup f8 = some ⟨oc8, od8, .func (PySem.W.fnOf "column_splits" "column_splits" (defArgs s_column_splits) (defBody s_column_splits) (defScope s_column_splits) .none kV8 dc8 pm8 an8 cd8 ct8), sl8⟩) (c8 : PySem.W.codeIn K cd8 "column_splits" = true) (k8 : PySem.W.keepIn K (.ref f8) = true)
    {f9 : Addr} {od9 an9 : Option Addr} {sl9 : Array (Option Value)} {oc9 kV9 dc9 pm9 cd9 ct9 : Value}
    (a9 : PySem.W.nsIn K mainGlobals "page_price" = some (some (.ref f9))) (l9 : K.lookup f9 = some ⟨oc9, od9, .func (PySem.W.fnOf "page_price" "page_price" (defArgs s_page_price) (defBody s_page_price) (defScope s_page_price) .none kV9 dc9 pm9 an9 cd9 ct9), sl9⟩) (c9 : PySem.W.codeIn K cd9 "page_price" = true) (k9 : PySem.W.keepIn K (.ref f9) = true)
    {f10 : Addr} {od10 an10 : Option Addr} {sl10 : Array (Option Value)} {oc10 kV10 dc10 pm10 cd10 ct10 : Value}
    (a10 : PySem.W.nsIn K mainGlobals "options_to" = some (some (.ref f10))) (l10 : K.lookup f10 = some ⟨oc10, od10, .func (PySem.W.fnOf "options_to" "options_to" (defArgs s_options_to) (defBody s_options_to) (defScope s_options_to) .none kV10 dc10 pm10 an10 cd10 ct10), sl10⟩) (c10 : PySem.W.codeIn K cd10 "options_to" = true) (k10 : PySem.W.keepIn K (.ref f10) = true)
    {f11 : Addr} {od11 an11 : Option Addr} {sl11 : Array (Option Value)} {oc11 kV11 dc11 pm11 cd11 ct11 : Value}
    (a11 : PySem.W.nsIn K mainGlobals "options_from" = some (some (.ref f11))) (l11 : K.lookup f11 = some ⟨oc11, od11, .func (PySem.W.fnOf "options_from" "options_from" (defArgs s_options_from) (defBody s_options_from) (defScope s_options_from) .none kV11 dc11 pm11 an11 cd11 ct11), sl11⟩) (c11 : PySem.W.codeIn K cd11 "options_from" = true) (k11 : PySem.W.keepIn K (.ref f11) = true)
    {f12 : Addr} {od12 an12 : Option Addr} {sl12 : Array (Option Value)} {oc12 kV12 dc12 pm12 cd12 ct12 : Value}
    (a12 : PySem.W.nsIn K mainGlobals "reached_states" = some (some (.ref f12))) (l12 : K.lookup f12 = some ⟨oc12, od12, .func (PySem.W.fnOf "reached_states" "reached_states" (defArgs s_reached_states) (defBody s_reached_states) (defScope s_reached_states) .none kV12 dc12 pm12 an12 cd12 ct12), sl12⟩) (c12 : PySem.W.codeIn K cd12 "reached_states" = true) (k12 : PySem.W.keepIn K (.ref f12) = true)
    {f13 : Addr} {od13 an13 : Option Addr} {sl13 : Array (Option Value)} {oc13 kV13 dc13 pm13 cd13 ct13 : Value}
    (a13 : PySem.W.nsIn K mainGlobals "greatest_line" = some (some (.ref f13))) (l13 : K.lookup f13 = some ⟨oc13, od13, .func (PySem.W.fnOf "greatest_line" "greatest_line" (defArgs s_greatest_line) (defBody s_greatest_line) (defScope s_greatest_line) .none kV13 dc13 pm13 an13 cd13 ct13), sl13⟩) (c13 : PySem.W.codeIn K cd13 "greatest_line" = true) (k13 : PySem.W.keepIn K (.ref f13) = true)
    {f14 : Addr} {od14 an14 : Option Addr} {sl14 : Array (Option Value)} {oc14 kV14 dc14 pm14 cd14 ct14 : Value}
    (a14 : PySem.W.nsIn K mainGlobals "cheapest_to_end" = some (some (.ref f14))) (l14 : K.lookup f14 = some ⟨oc14, od14, .func (PySem.W.fnOf "cheapest_to_end" "cheapest_to_end" (defArgs s_cheapest_to_end) (defBody s_cheapest_to_end) (defScope s_cheapest_to_end) .none kV14 dc14 pm14 an14 cd14 ct14), sl14⟩) (c14 : PySem.W.codeIn K cd14 "cheapest_to_end" = true) (k14 : PySem.W.keepIn K (.ref f14) = true)
    {f15 : Addr} {od15 an15 : Option Addr} {sl15 : Array (Option Value)} {oc15 kV15 dc15 pm15 cd15 ct15 : Value}
    (a15 : PySem.W.nsIn K mainGlobals "break_pages" = some (some (.ref f15))) (l15 : K.lookup f15 = some ⟨oc15, od15, .func (PySem.W.fnOf "break_pages" "break_pages" (defArgs s_break_pages) (defBody s_break_pages) (defScope s_break_pages) .none kV15 dc15 pm15 an15 cd15 ct15), sl15⟩) (c15 : PySem.W.codeIn K cd15 "break_pages" = true) (k15 : PySem.W.keepIn K (.ref f15) = true)
    {f16 : Addr} {od16 an16 : Option Addr} {sl16 : Array (Option Value)} {oc16  dc16 pm16 cd16 ct16 : Value}
    {D_Frame : Addr} {t_Frame_columns : Tok} {t_Frame_rule : Tok} {t_Frame_under : Tok} {t_Frame_wait : Tok} {t_Frame_late : Tok} {t_Frame_uneven : Tok}
    (a16 : PySem.W.findIn K (.ref c_Frame) "__init__" = some (some (.ref f16))) (l16 : K.lookup f16 = some ⟨oc16, od16, .func (PySem.W.fnOf "__init__" "Frame.__init__" (defArgs s_Frame___init__) (defBody s_Frame___init__) (defScope s_Frame___init__) .none (.ref D_Frame) dc16 pm16 an16 cd16 ct16), sl16⟩) (c16 : PySem.W.codeIn K cd16 "Frame.__init__" = true) (k16 : PySem.W.keepIn K (.ref f16) = true)
    (i16 : PySem.W.isFn K (.ref f16) = true)
    (kd_Frame_columns : PySem.W.nsIn K D_Frame "columns" = some (some (.int 1 t_Frame_columns))) (kd_Frame_rule : PySem.W.nsIn K D_Frame "rule" = some (some (.int 4 t_Frame_rule))) (kd_Frame_under : PySem.W.nsIn K D_Frame "under" = some (some (.int 4 t_Frame_under))) (kd_Frame_wait : PySem.W.nsIn K D_Frame "wait" = some (some (.int 1 t_Frame_wait))) (kd_Frame_late : PySem.W.nsIn K D_Frame "late" = some (some (.int 50 t_Frame_late))) (kd_Frame_uneven : PySem.W.nsIn K D_Frame "uneven" = some (some (.int 1 t_Frame_uneven)))
    {f17 : Addr} {od17 an17 : Option Addr} {sl17 : Array (Option Value)} {oc17 kV17 dc17 pm17 cd17 ct17 : Value}
    {p17 : Addr} {rest17 : List Value} (sa17 : PySem.W.findCls K (.ref c_Frame) (.type "type") "of" = some (.get (.builtin "staticmethod.__get__") (.ref p17) .none (.ref c_Frame))) (sr17 : PySem.W.recIn K p17 "staticmethod" = some (.ref f17 :: rest17))
    (l17 : K.lookup f17 = some ⟨oc17, od17, .func (PySem.W.fnOf "of" "Frame.of" (defArgs s_Frame_of) (defBody s_Frame_of) (defScope s_Frame_of) .none kV17 dc17 pm17 an17 cd17 ct17), sl17⟩) (c17 : PySem.W.codeIn K cd17 "Frame.of" = true) (k17 : PySem.W.keepIn K (.ref f17) = true)
    {f18 : Addr} {od18 an18 : Option Addr} {sl18 : Array (Option Value)} {oc18 kV18 dc18 pm18 cd18 ct18 : Value}
    (a18 : PySem.W.nsIn K mainGlobals "_law_pool" = some (some (.ref f18))) (l18 : K.lookup f18 = some ⟨oc18, od18, .func (PySem.W.fnOf "_law_pool" "_law_pool" (defArgs s__law_pool) (defBody s__law_pool) (defScope s__law_pool) .none kV18 dc18 pm18 an18 cd18 ct18), sl18⟩) (c18 : PySem.W.codeIn K cd18 "_law_pool" = true) (k18 : PySem.W.keepIn K (.ref f18) = true)
    {f19 : Addr} {od19 an19 : Option Addr} {sl19 : Array (Option Value)} {oc19 kV19 dc19 pm19 cd19 ct19 : Value}
    (a19 : PySem.W.nsIn K mainGlobals "_law_take" = some (some (.ref f19))) (l19 : K.lookup f19 = some ⟨oc19, od19, .func (PySem.W.fnOf "_law_take" "_law_take" (defArgs s__law_take) (defBody s__law_take) (defScope s__law_take) .none kV19 dc19 pm19 an19 cd19 ct19), sl19⟩) (c19 : PySem.W.codeIn K cd19 "_law_take" = true) (k19 : PySem.W.keepIn K (.ref f19) = true)
    {f20 : Addr} {od20 an20 : Option Addr} {sl20 : Array (Option Value)} {oc20 kV20 dc20 pm20 cd20 ct20 : Value}
    (a20 : PySem.W.nsIn K mainGlobals "_law_number" = some (some (.ref f20))) (l20 : K.lookup f20 = some ⟨oc20, od20, .func (PySem.W.fnOf "_law_number" "_law_number" (defArgs s__law_number) (defBody s__law_number) (defScope s__law_number) .none kV20 dc20 pm20 an20 cd20 ct20), sl20⟩) (c20 : PySem.W.codeIn K cd20 "_law_number" = true) (k20 : PySem.W.keepIn K (.ref f20) = true)
    {f21 : Addr} {od21 an21 : Option Addr} {sl21 : Array (Option Value)} {oc21 kV21 dc21 pm21 cd21 ct21 : Value}
    (a21 : PySem.W.nsIn K mainGlobals "_law_numbers" = some (some (.ref f21))) (l21 : K.lookup f21 = some ⟨oc21, od21, .func (PySem.W.fnOf "_law_numbers" "_law_numbers" (defArgs s__law_numbers) (defBody s__law_numbers) (defScope s__law_numbers) .none kV21 dc21 pm21 an21 cd21 ct21), sl21⟩) (c21 : PySem.W.codeIn K cd21 "_law_numbers" = true) (k21 : PySem.W.keepIn K (.ref f21) = true)
    {f22 : Addr} {od22 an22 : Option Addr} {sl22 : Array (Option Value)} {oc22 kV22 dc22 pm22 cd22 ct22 : Value}
    (a22 : PySem.W.nsIn K mainGlobals "_law_paged" = some (some (.ref f22))) (l22 : K.lookup f22 = some ⟨oc22, od22, .func (PySem.W.fnOf "_law_paged" "_law_paged" (defArgs s__law_paged) (defBody s__law_paged) (defScope s__law_paged) .none kV22 dc22 pm22 an22 cd22 ct22), sl22⟩) (c22 : PySem.W.codeIn K cd22 "_law_paged" = true) (k22 : PySem.W.keepIn K (.ref f22) = true)
    {f23 : Addr} {od23 an23 : Option Addr} {sl23 : Array (Option Value)} {oc23 kV23 dc23 pm23 cd23 ct23 : Value}
    (a23 : PySem.W.nsIn K mainGlobals "_law_ranges" = some (some (.ref f23))) (l23 : K.lookup f23 = some ⟨oc23, od23, .func (PySem.W.fnOf "_law_ranges" "_law_ranges" (defArgs s__law_ranges) (defBody s__law_ranges) (defScope s__law_ranges) .none kV23 dc23 pm23 an23 cd23 ct23), sl23⟩) (c23 : PySem.W.codeIn K cd23 "_law_ranges" = true) (k23 : PySem.W.keepIn K (.ref f23) = true)
    {f24 : Addr} {od24 an24 : Option Addr} {sl24 : Array (Option Value)} {oc24 kV24 dc24 pm24 cd24 ct24 : Value}
    (a24 : PySem.W.nsIn K mainGlobals "_law_frame_key" = some (some (.ref f24))) (l24 : K.lookup f24 = some ⟨oc24, od24, .func (PySem.W.fnOf "_law_frame_key" "_law_frame_key" (defArgs s__law_frame_key) (defBody s__law_frame_key) (defScope s__law_frame_key) .none kV24 dc24 pm24 an24 cd24 ct24), sl24⟩) (c24 : PySem.W.codeIn K cd24 "_law_frame_key" = true) (k24 : PySem.W.keepIn K (.ref f24) = true)
    {f25 : Addr} {od25 an25 : Option Addr} {sl25 : Array (Option Value)} {oc25 kV25 dc25 pm25 cd25 ct25 : Value}
    (a25 : PySem.W.nsIn K mainGlobals "_law_frame" = some (some (.ref f25))) (l25 : K.lookup f25 = some ⟨oc25, od25, .func (PySem.W.fnOf "_law_frame" "_law_frame" (defArgs s__law_frame) (defBody s__law_frame) (defScope s__law_frame) .none kV25 dc25 pm25 an25 cd25 ct25), sl25⟩) (c25 : PySem.W.codeIn K cd25 "_law_frame" = true) (k25 : PySem.W.keepIn K (.ref f25) = true)
    {f26 : Addr} {od26 an26 : Option Addr} {sl26 : Array (Option Value)} {oc26 kV26 dc26 pm26 cd26 ct26 : Value}
    (a26 : PySem.W.nsIn K mainGlobals "_law_heights" = some (some (.ref f26))) (l26 : K.lookup f26 = some ⟨oc26, od26, .func (PySem.W.fnOf "_law_heights" "_law_heights" (defArgs s__law_heights) (defBody s__law_heights) (defScope s__law_heights) .none kV26 dc26 pm26 an26 cd26 ct26), sl26⟩) (c26 : PySem.W.codeIn K cd26 "_law_heights" = true) (k26 : PySem.W.keepIn K (.ref f26) = true)
    {f27 : Addr} {od27 an27 : Option Addr} {sl27 : Array (Option Value)} {oc27 kV27 dc27 pm27 cd27 ct27 : Value}
    (a27 : PySem.W.nsIn K mainGlobals "_law_lines" = some (some (.ref f27))) (l27 : K.lookup f27 = some ⟨oc27, od27, .func (PySem.W.fnOf "_law_lines" "_law_lines" (defArgs s__law_lines) (defBody s__law_lines) (defScope s__law_lines) .none kV27 dc27 pm27 an27 cd27 ct27), sl27⟩) (c27 : PySem.W.codeIn K cd27 "_law_lines" = true) (k27 : PySem.W.keepIn K (.ref f27) = true)
    {f28 : Addr} {od28 an28 : Option Addr} {sl28 : Array (Option Value)} {oc28 kV28 dc28 pm28 cd28 ct28 : Value}
    (a28 : PySem.W.nsIn K mainGlobals "_law_paragraphs" = some (some (.ref f28))) (l28 : K.lookup f28 = some ⟨oc28, od28, .func (PySem.W.fnOf "_law_paragraphs" "_law_paragraphs" (defArgs s__law_paragraphs) (defBody s__law_paragraphs) (defScope s__law_paragraphs) .none kV28 dc28 pm28 an28 cd28 ct28), sl28⟩) (c28 : PySem.W.codeIn K cd28 "_law_paragraphs" = true) (k28 : PySem.W.keepIn K (.ref f28) = true)
    {f29 : Addr} {od29 an29 : Option Addr} {sl29 : Array (Option Value)} {oc29 kV29 dc29 pm29 cd29 ct29 : Value}
    (a29 : PySem.W.nsIn K mainGlobals "_law_places" = some (some (.ref f29))) (l29 : K.lookup f29 = some ⟨oc29, od29, .func (PySem.W.fnOf "_law_places" "_law_places" (defArgs s__law_places) (defBody s__law_places) (defScope s__law_places) .none kV29 dc29 pm29 an29 cd29 ct29), sl29⟩) (c29 : PySem.W.codeIn K cd29 "_law_places" = true) (k29 : PySem.W.keepIn K (.ref f29) = true)
    {f30 : Addr} {od30 an30 : Option Addr} {sl30 : Array (Option Value)} {oc30 kV30 dc30 pm30 cd30 ct30 : Value}
    (a30 : PySem.W.nsIn K mainGlobals "_law_lets" = some (some (.ref f30))) (l30 : K.lookup f30 = some ⟨oc30, od30, .func (PySem.W.fnOf "_law_lets" "_law_lets" (defArgs s__law_lets) (defBody s__law_lets) (defScope s__law_lets) .none kV30 dc30 pm30 an30 cd30 ct30), sl30⟩) (c30 : PySem.W.codeIn K cd30 "_law_lets" = true) (k30 : PySem.W.keepIn K (.ref f30) = true)
    {f31 : Addr} {od31 an31 : Option Addr} {sl31 : Array (Option Value)} {oc31 kV31 dc31 pm31 cd31 ct31 : Value}
    (a31 : PySem.W.nsIn K mainGlobals "law" = some (some (.ref f31))) (l31 : K.lookup f31 = some ⟨oc31, od31, .func (PySem.W.fnOf "law" "law" (defArgs s_law) (defBody s_law) (defScope s_law) .none kV31 dc31 pm31 an31 cd31 ct31), sl31⟩) (c31 : PySem.W.codeIn K cd31 "law" = true) (k31 : PySem.W.keepIn K (.ref f31) = true)
    (z_abs : PySem.W.nsIn K mainGlobals "abs" = some none)
    (z_any : PySem.W.nsIn K mainGlobals "any" = some none)
    (z_bool : PySem.W.nsIn K mainGlobals "bool" = some none)
    (z_int : PySem.W.nsIn K mainGlobals "int" = some none)
    (z_isinstance : PySem.W.nsIn K mainGlobals "isinstance" = some none)
    (z_len : PySem.W.nsIn K mainGlobals "len" = some none)
    (z_list : PySem.W.nsIn K mainGlobals "list" = some none)
    (z_max : PySem.W.nsIn K mainGlobals "max" = some none)
    (z_min : PySem.W.nsIn K mainGlobals "min" = some none)
    (z_range : PySem.W.nsIn K mainGlobals "range" = some none)
    (z_sorted : PySem.W.nsIn K mainGlobals "sorted" = some none)
    (z_sum : PySem.W.nsIn K mainGlobals "sum" = some none)
    (z_super : PySem.W.nsIn K mainGlobals "super" = some none)
    (z_tuple : PySem.W.nsIn K mainGlobals "tuple" = some none)
    {c_START e_START : Addr} {od_START oe_START : Option Addr} {its_START ite_START : Array Value} {n_START ne_START : Nat} {sl_START sle_START : Array (Option Value)} (a_START : PySem.W.nsIn K mainGlobals "START" = some (some (.ref c_START))) (l_START : K.lookup c_START = some ⟨.type "tuple", od_START, .seq its_START n_START, sl_START⟩) (s_START : its_START.size ≤ sizeLine) (v_START : Vals [.int 0, .int 0, .ref e_START] its_START.toList) (le_START : K.lookup e_START = some ⟨.type "tuple", oe_START, .seq ite_START ne_START, sle_START⟩) (se_START : ite_START.size ≤ sizeLine) (ve_START : Vals [] ite_START.toList)
    {c_NoPages : Addr} (a_NoPages : PySem.W.nsIn K mainGlobals "NoPages" = some (some (.ref c_NoPages))) (bs_NoPages : PySem.W.subIn K (.ref c_NoPages) (.type "BaseException") = some true) (tx_NoPages : PySem.W.typeIn K (.ref c_NoPages) = some (.type "type")) (hd_NoPages : PySem.W.hasDictIn K c_NoPages = true)
    (ga_NoPages : PySem.W.findIn K (.ref c_NoPages) "__getattribute__" = some (some (.builtin "BaseException.__getattribute__"))) (gg_NoPages : PySem.W.findIn K (.ref c_NoPages) "__getattr__" = some none) (cl_NoPages : PySem.W.findIn K (.ref c_NoPages) "__class__" = some (some (.builtin "object.__class__"))) (mo_NoPages : PySem.W.mroIn K c_NoPages (.type "object") = some true) (kx_NoPages : PySem.W.keepIn K (.ref c_NoPages) = true)
    (va_NoPages : PySem.W.subIn K (.ref c_NoPages) (.type "ValueError") = some true)
    (ks_ev : subTab K [c_NoPages] = true)
    (opq : PySem.W.nsIn K cStatics "thirdparty.any" = some none) (top0 : (P.main.scope.names.lookup ("super" : Str)).isSome = false)
    {nm_NoPages qn_NoPages : Str} {N_NoPages : Addr} {bs__NoPages bm_NoPages : List Value} {sn_NoPages : List Str} {sub_NoPages : List Value} {ab_NoPages : Bool} {col_NoPages : Option Bool} {dd_NoPages : Option Addr} {k0_NoPages k1_NoPages k2_NoPages k3_NoPages k5_NoPages : Option Value} (oc_NoPages : K.lookup c_NoPages = some (excClassObj nm_NoPages qn_NoPages c_NoPages N_NoPages bs__NoPages bm_NoPages true sn_NoPages sub_NoPages ab_NoPages col_NoPages dd_NoPages k0_NoPages k1_NoPages k2_NoPages k3_NoPages k5_NoPages "ValueError.__new__")) (rv_NoPages : PySem.HandSPX.refsVE bm_NoPages = true) (oa_NoPages : PySem.W.findIn K (.ref c_NoPages) "__setattr__" = some (some (.builtin "object.__setattr__")))
    {fi_NoPages cc_NoPages cda_NoPages : Addr} {fo_NoPages kV_NoPages dc_NoPages pm_NoPages ct_NoPages ccl_NoPages cl__NoPages : Value} {fd_NoPages an_NoPages cdd_NoPages cld_NoPages : Option Addr} {fs_NoPages ccs_NoPages csl_NoPages : Array (Option Value)} {vs_NoPages : Array Value} {file_NoPages : Str} {tf_NoPages : Tok} (ic_NoPages : PySem.W.findIn K (.ref c_NoPages) "__init__" = some (some (.ref fi_NoPages))) (ti_NoPages : PySem.W.typeIn K (.ref fi_NoPages) = some (.type "function"))
    (lk_NoPages : K.lookup fi_NoPages = some ⟨fo_NoPages, fd_NoPages, .func (PySem.W.fnX "__init__" "NoPages.__init__" (defArgs s_NoPages___init__) (defBody s_NoPages___init__) (defScope s_NoPages___init__) [("__class__", cc_NoPages)] .none kV_NoPages dc_NoPages pm_NoPages an_NoPages (.ref cda_NoPages) ct_NoPages), fs_NoPages⟩) (cq_NoPages : PySem.W.codeIn K (.ref cda_NoPages) "NoPages.__init__" = true)
    (co_NoPages : K.lookup cda_NoPages = some ⟨ccl_NoPages, cdd_NoPages, .fields vs_NoPages, ccs_NoPages⟩) (fv_NoPages : vs_NoPages[2]? = some (.str file_NoPages tf_NoPages)) (fe_NoPages : ((P.main.file : Str) == file_NoPages) = true) (ce_NoPages : K.lookup cc_NoPages = some ⟨cl__NoPages, cld_NoPages, .cell (some (.ref c_NoPages)), csl_NoPages⟩) (su_NoPages : PySem.W.ks_superIn K c_NoPages c_NoPages "__init__" = some (some (.builtin "ValueError.__init__")))
    (na_NoPages_lines : PySem.W.findIn K (.ref c_NoPages) "lines" = some none)
    : ∃ T : Txt P K mg, T.f_law = f31 ∧ ∀ (s : Shared) (v : Value), BindsTo s T.fd_law ⟨[v], []⟩ [("_law_script", v)] := by
  have F0 := fun_mk (st := s_space_and_cut) l0 c0 k0
  have b0 := F0.binds (ps := ["paragraph", "previous"]) fun _ _ _ _ _ _ us hl => match us, hl with | [_, _], _ => rfl
  have F1 := fun_mk (st := s_paragraph_lines) l1 c1 k1
  have b1 := F1.binds (ps := ["paragraph", "previous"]) fun _ _ _ _ _ _ us hl => match us, hl with | [_, _], _ => rfl
  have F2 := fun_mk (st := s_make_galley) l2 c2 k2
  have b2 := F2.binds (ps := ["paragraphs"]) fun _ _ _ _ _ _ us hl => match us, hl with | [_], _ => rfl
  have F3 := fun_mk (st := s_end_state) l3 c3 k3
  have b3 := F3.binds (ps := ["galley"]) fun _ _ _ _ _ _ us hl => match us, hl with | [_], _ => rfl
  have F4 := fun_mk (st := s_GalleySums___init__) l4 c4 k4
  have b4 := F4.binds (ps := ["self", "galley"]) fun _ _ _ _ _ _ us hl => match us, hl with | [_, _], _ => rfl
  have F5 := fun_mk (st := s_GalleySums_column_height) l5 c5 k5
  have b5 := F5.binds (ps := ["self", "start", "end"]) fun _ _ _ _ _ _ us hl => match us, hl with | [_, _, _], _ => rfl
  have F6 := fun_mk (st := s_GalleySums_page_room) l6 c6 k6
  have b6 := F6.binds (ps := ["self", "frame", "state", "end", "floats_end"]) fun _ _ _ _ _ _ us hl => match us, hl with | [_, _, _, _, _], _ => rfl
  have F7 := fun_mk (st := s_GalleySums_next_ages) l7 c7 k7
  have b7 := F7.binds (ps := ["self", "state", "end", "floats_end"]) fun _ _ _ _ _ _ us hl => match us, hl with | [_, _, _, _], _ => rfl
  have F8 := fun_mk (st := s_column_splits) l8 c8 k8
  have b8 := F8.binds (ps := ["sums", "frame", "line", "end"]) fun _ _ _ _ _ _ us hl => match us, hl with | [_, _, _, _], _ => rfl
  have F9 := fun_mk (st := s_page_price) l9 c9 k9
  have b9 := F9.binds (ps := ["frame", "slack", "difference", "pending"]) fun _ _ _ _ _ _ us hl => match us, hl with | [_, _, _, _], _ => rfl
  have F10 := fun_mk (st := s_options_to) l10 c10 k10
  have b10 := F10.binds (ps := ["sums", "frame", "state", "end", "splits"]) fun _ _ _ _ _ _ us hl => match us, hl with | [_, _, _, _, _], _ => rfl
  have F11 := fun_mk (st := s_options_from) l11 c11 k11
  have b11 := F11.binds (ps := ["sums", "frame", "state"]) fun _ _ _ _ _ _ us hl => match us, hl with | [_, _, _], _ => rfl
  have F12 := fun_mk (st := s_reached_states) l12 c12 k12
  have b12 := F12.binds (ps := ["galley", "frame"]) fun _ _ _ _ _ _ us hl => match us, hl with | [_, _], _ => rfl
  have F13 := fun_mk (st := s_greatest_line) l13 c13 k13
  have b13 := F13.binds (ps := ["reached"]) fun _ _ _ _ _ _ us hl => match us, hl with | [_], _ => rfl
  have F14 := fun_mk (st := s_cheapest_to_end) l14 c14 k14
  have b14 := F14.binds (ps := ["reached", "goal"]) fun _ _ _ _ _ _ us hl => match us, hl with | [_, _], _ => rfl
  have F15 := fun_mk (st := s_break_pages) l15 c15 k15
  have b15 := F15.binds (ps := ["galley", "frame"]) fun _ _ _ _ _ _ us hl => match us, hl with | [_, _], _ => rfl
  have F16 := fun_mk (st := s_Frame___init__) l16 c16 k16
  have F17 := fun_mk (st := s_Frame_of) l17 c17 k17
  have b17 := F17.binds (ps := ["key"]) fun _ _ _ _ _ _ us hl => match us, hl with | [_], _ => rfl
  have F18 := fun_mk (st := s__law_pool) l18 c18 k18
  have b18 := F18.binds (ps := ["_law_script", "_law_at"]) fun _ _ _ _ _ _ us hl => match us, hl with | [_, _], _ => rfl
  have F19 := fun_mk (st := s__law_take) l19 c19 k19
  have b19 := F19.binds (ps := ["_law_pool_here", "_law_many"]) fun _ _ _ _ _ _ us hl => match us, hl with | [_, _], _ => rfl
  have F20 := fun_mk (st := s__law_number) l20 c20 k20
  have b20 := F20.binds (ps := ["_law_thing"]) fun _ _ _ _ _ _ us hl => match us, hl with | [_], _ => rfl
  have F21 := fun_mk (st := s__law_numbers) l21 c21 k21
  have b21 := F21.binds (ps := ["_law_thing", "_law_many"]) fun _ _ _ _ _ _ us hl => match us, hl with | [_, _], _ => rfl
  have F22 := fun_mk (st := s__law_paged) l22 c22 k22
  have b22 := F22.binds (ps := ["_law_answer"]) fun _ _ _ _ _ _ us hl => match us, hl with | [_], _ => rfl
  have F23 := fun_mk (st := s__law_ranges) l23 c23 k23
  have b23 := F23.binds (ps := ["_law_pool_here"]) fun _ _ _ _ _ _ us hl => match us, hl with | [_], _ => rfl
  have F24 := fun_mk (st := s__law_frame_key) l24 c24 k24
  have b24 := F24.binds (ps := ["_law_pool_here", "_law_scale"]) fun _ _ _ _ _ _ us hl => match us, hl with | [_, _], _ => rfl
  have F25 := fun_mk (st := s__law_frame) l25 c25 k25
  have b25 := F25.binds (ps := ["_law_key", "_law_way"]) fun _ _ _ _ _ _ us hl => match us, hl with | [_, _], _ => rfl
  have F26 := fun_mk (st := s__law_heights) l26 c26 k26
  have b26 := F26.binds (ps := ["_law_pool_here", "_law_many", "_law_tall"]) fun _ _ _ _ _ _ us hl => match us, hl with | [_, _, _], _ => rfl
  have F27 := fun_mk (st := s__law_lines) l27 c27 k27
  have b27 := F27.binds (ps := ["_law_pool_here", "_law_many", "_law_floats", "_law_scale"]) fun _ _ _ _ _ _ us hl => match us, hl with | [_, _, _, _], _ => rfl
  have F28 := fun_mk (st := s__law_paragraphs) l28 c28 k28
  have b28 := F28.binds (ps := ["_law_pool_here", "_law_scale"]) fun _ _ _ _ _ _ us hl => match us, hl with | [_, _], _ => rfl
  have F29 := fun_mk (st := s__law_places) l29 c29 k29
  have b29 := F29.binds (ps := ["_law_pages", "_law_many"]) fun _ _ _ _ _ _ us hl => match us, hl with | [_, _], _ => rfl
  have F30 := fun_mk (st := s__law_lets) l30 c30 k30
  have b30 := F30.binds (ps := ["_law_rows", "_law_place"]) fun _ _ _ _ _ _ us hl => match us, hl with | [_, _], _ => rfl
  have F31 := fun_mk (st := s_law) l31 c31 k31
  have b31 := F31.binds (ps := ["_law_script"]) fun _ _ _ _ _ _ us hl => match us, hl with | [_], _ => rfl
  exact ⟨{ c_NoPages := c_NoPages, g_NoPages := PySem.W.mg_of X G a_NoPages, bs_NoPages := bs_NoPages, tx_NoPages := tx_NoPages, hd_NoPages := hd_NoPages, c_START := c_START, e_START := e_START, g_START := PySem.W.mg_of X G a_START, k_START := ⟨_, _, _, l_START, rfl, rfl, s_START, v_START⟩, ke_START := ⟨_, _, _, le_START, rfl, rfl, se_START, ve_START⟩, m_abs := PySem.W.mg_none_of X G z_abs, m_any := PySem.W.mg_none_of X G z_any, m_bool := PySem.W.mg_none_of X G z_bool, m_int := PySem.W.mg_none_of X G z_int, m_isinstance := PySem.W.mg_none_of X G z_isinstance, m_len := PySem.W.mg_none_of X G z_len, m_list := PySem.W.mg_none_of X G z_list, m_max := PySem.W.mg_none_of X G z_max, m_min := PySem.W.mg_none_of X G z_min, m_range := PySem.W.mg_none_of X G z_range, m_sorted := PySem.W.mg_none_of X G z_sorted, m_sum := PySem.W.mg_none_of X G z_sum, m_super := PySem.W.mg_none_of X G z_super, m_tuple := PySem.W.mg_none_of X G z_tuple, c_GalleySums := c_GalleySums, g_GalleySums := PySem.W.mg_of X G aGalleySums, co_GalleySums := ⟨⟨pgGalleySums, hdGalleySums, poGalleySums, saGalleySums⟩, haGalleySums, hnO, htO, hmGalleySums⟩, na_GalleySums_lines := naGalleySums_lines, na_GalleySums_spaces := naGalleySums_spaces, na_GalleySums_cuts := naGalleySums_cuts, na_GalleySums_floats := naGalleySums_floats, na_GalleySums_tops := naGalleySums_tops, na_GalleySums_noted := naGalleySums_noted, na_GalleySums_marked := naGalleySums_marked, c_Frame := c_Frame, g_Frame := PySem.W.mg_of X G aFrame, co_Frame := ⟨⟨pgFrame, hdFrame, poFrame, saFrame⟩, haFrame, hnO, htO, hmFrame⟩, na_Frame_height := naFrame_height, na_Frame_columns := naFrame_columns, na_Frame_rule := naFrame_rule, na_Frame_under := naFrame_under, na_Frame_wait := naFrame_wait, na_Frame_late := naFrame_late, na_Frame_uneven := naFrame_uneven, f_space_and_cut := f0, fd_space_and_cut := _, F_space_and_cut := F0, b_space_and_cut := b0, g_space_and_cut := PySem.W.mg_of X G a0, f_paragraph_lines := f1, fd_paragraph_lines := _, F_paragraph_lines := F1, b_paragraph_lines := b1, g_paragraph_lines := PySem.W.mg_of X G a1, f_make_galley := f2, fd_make_galley := _, F_make_galley := F2, b_make_galley := b2, g_make_galley := PySem.W.mg_of X G a2, f_end_state := f3, fd_end_state := _, F_end_state := F3, b_end_state := b3, g_end_state := PySem.W.mg_of X G a3, f_GalleySums___init__ := f4, fd_GalleySums___init__ := _, F_GalleySums___init__ := F4, b_GalleySums___init__ := b4, mk_GalleySums := ⟨mkGalleySums, a4, i4, kcGalleySums⟩, f_GalleySums_column_height := f5, fd_GalleySums_column_height := _, F_GalleySums_column_height := F5, b_GalleySums_column_height := b5, mt_GalleySums_column_height := ⟨a5, i5, k5⟩, f_GalleySums_page_room := f6, fd_GalleySums_page_room := _, F_GalleySums_page_room := F6, b_GalleySums_page_room := b6, mt_GalleySums_page_room := ⟨a6, i6, k6⟩, f_GalleySums_next_ages := f7, fd_GalleySums_next_ages := _, F_GalleySums_next_ages := F7, b_GalleySums_next_ages := b7, mt_GalleySums_next_ages := ⟨a7, i7, k7⟩, f_column_splits := f8, fd_column_splits := _, F_column_splits := F8, b_column_splits := b8, g_column_splits := PySem.W.mg_of X G a8, f_page_price := f9, fd_page_price := _, F_page_price := F9, b_page_price := b9, g_page_price := PySem.W.mg_of X G a9, f_options_to := f10, fd_options_to := _, F_options_to := F10, b_options_to := b10, g_options_to := PySem.W.mg_of X G a10, f_options_from := f11, fd_options_from := _, F_options_from := F11, b_options_from := b11, g_options_from := PySem.W.mg_of X G a11, f_reached_states := f12, fd_reached_states := _, F_reached_states := F12, b_reached_states := b12, g_reached_states := PySem.W.mg_of X G a12, f_greatest_line := f13, fd_greatest_line := _, F_greatest_line := F13, b_greatest_line := b13, g_greatest_line := PySem.W.mg_of X G a13, f_cheapest_to_end := f14, fd_cheapest_to_end := _, F_cheapest_to_end := F14, b_cheapest_to_end := b14, g_cheapest_to_end := PySem.W.mg_of X G a14, f_break_pages := f15, fd_break_pages := _, F_break_pages := F15, b_break_pages := b15, g_break_pages := PySem.W.mg_of X G a15, f_Frame___init__ := f16, fd_Frame___init__ := _, F_Frame___init__ := F16, fk_Frame := ⟨⟨_, _, _, _, _, _, _, _, _, _, rfl, l16, c16, .inl ⟨rfl, rfl⟩, .inr ⟨D_Frame, rfl, (kw_cons ⟨_, kd_Frame_columns, _, rfl⟩ (kw_cons ⟨_, kd_Frame_rule, _, rfl⟩ (kw_cons ⟨_, kd_Frame_under, _, rfl⟩ (kw_cons ⟨_, kd_Frame_wait, _, rfl⟩ (kw_cons ⟨_, kd_Frame_late, _, rfl⟩ (kw_cons ⟨_, kd_Frame_uneven, _, rfl⟩ kw_nil))))))⟩⟩, k16⟩, mk_Frame := ⟨mkFrame, a16, i16, kcFrame⟩, f_Frame_of := f17, fd_Frame_of := _, F_Frame_of := F17, b_Frame_of := b17, p_Frame_of := p17, sm_Frame_of := ⟨rdFrame, gaFrame, sa17, ⟨_, sr17⟩⟩, f__law_pool := f18, fd__law_pool := _, F__law_pool := F18, b__law_pool := b18, g__law_pool := PySem.W.mg_of X G a18, f__law_take := f19, fd__law_take := _, F__law_take := F19, b__law_take := b19, g__law_take := PySem.W.mg_of X G a19, f__law_number := f20, fd__law_number := _, F__law_number := F20, b__law_number := b20, g__law_number := PySem.W.mg_of X G a20, f__law_numbers := f21, fd__law_numbers := _, F__law_numbers := F21, b__law_numbers := b21, g__law_numbers := PySem.W.mg_of X G a21, f__law_paged := f22, fd__law_paged := _, F__law_paged := F22, b__law_paged := b22, g__law_paged := PySem.W.mg_of X G a22, f__law_ranges := f23, fd__law_ranges := _, F__law_ranges := F23, b__law_ranges := b23, g__law_ranges := PySem.W.mg_of X G a23, f__law_frame_key := f24, fd__law_frame_key := _, F__law_frame_key := F24, b__law_frame_key := b24, g__law_frame_key := PySem.W.mg_of X G a24, f__law_frame := f25, fd__law_frame := _, F__law_frame := F25, b__law_frame := b25, g__law_frame := PySem.W.mg_of X G a25, f__law_heights := f26, fd__law_heights := _, F__law_heights := F26, b__law_heights := b26, g__law_heights := PySem.W.mg_of X G a26, f__law_lines := f27, fd__law_lines := _, F__law_lines := F27, b__law_lines := b27, g__law_lines := PySem.W.mg_of X G a27, f__law_paragraphs := f28, fd__law_paragraphs := _, F__law_paragraphs := F28, b__law_paragraphs := b28, g__law_paragraphs := PySem.W.mg_of X G a28, f__law_places := f29, fd__law_places := _, F__law_places := F29, b__law_places := b29, g__law_places := PySem.W.mg_of X G a29, f__law_lets := f30, fd__law_lets := _, F__law_lets := F30, b__law_lets := b30, g__law_lets := PySem.W.mg_of X G a30, f_law := f31, fd_law := _, F_law := F31, b_law := b31, g_law := PySem.W.mg_of X G a31, ks_ev := ks_ev, va_NoPages := va_NoPages, xc_NoPages := ⟨ga_NoPages, gg_NoPages, bs_NoPages, hd_NoPages, cl_NoPages, hnO, htO, mo_NoPages⟩, xf_NoPages := ⟨ga_NoPages, gg_NoPages, bs_NoPages, hd_NoPages⟩, kx_NoPages := kx_NoPages, ox_NoPages := ⟨⟨_, _, _, _, _, _, _, _, _, _, _, _, _, _, _, oc_NoPages, rv_NoPages⟩, oa_NoPages, bs_NoPages, tx_NoPages, kx_NoPages⟩, fi_NoPages := fi_NoPages, fe_NoPages := PySem.W.fnX "__init__" "NoPages.__init__" (defArgs s_NoPages___init__) (defBody s_NoPages___init__) (defScope s_NoPages___init__) [("__class__", cc_NoPages)] .none kV_NoPages dc_NoPages pm_NoPages an_NoPages (.ref cda_NoPages) ct_NoPages, cc_NoPages := cc_NoPages, cd_NoPages := cda_NoPages, ic_NoPages := ic_NoPages, ti_NoPages := ti_NoPages, be_NoPages := beE_NoPages, su_NoPages := ⟨⟨_, _, _, _, _, _, _, _, _, rfl, lk_NoPages⟩, cq_NoPages, ⟨_, _, _, _, _, _, co_NoPages, fv_NoPages, fe_NoPages⟩, top0, ⟨_, _, _, _, rfl, ce_NoPages⟩, ⟨_, rfl, rfl⟩, su_NoPages, opq⟩, na_NoPages_lines := na_NoPages_lines }, rfl, fun s v => .of_eq rfl⟩
theorem okE_NoPages {P : Program} {w : World} {K : PySem.W.Frag} {mg : Str → Option Value} {base : Heap} (T : Txt P K mg) : FnOk P w K mg base CX0 1 T.fi_NoPages T.fe_NoPages ["self", "lines"] (spE1 T.c_NoPages "lines" fun _ => True) :=
  ok_e1 T.su_NoPages T.ox_NoPages T.m_super rfl (NdefX.nscope_by (sc := defScope s_NoPages___init__) (by decide +kernel)) (by rfl) T.na_NoPages_lines (by decide) (by decide) (fun _ => rfl) (fun _ => ⟨_, rfl⟩) (fun _ => rfl)
abbrev fs_GalleySums (d0 d1 d2 d3 d4 d5 d6 : Dt) : List (Str × Dt) := [("lines", d0), ("spaces", d1), ("cuts", d2), ("floats", d3), ("tops", d4), ("noted", d5), ("marked", d6)]
theorem lk_GalleySums_lines {d0 d1 d2 d3 d4 d5 d6 : Dt} : List.lookup ("lines" : Str) (fs_GalleySums d0 d1 d2 d3 d4 d5 d6) = some d0 := lk_hit
theorem ne_GalleySums_1_0 : ¬ (("spaces" : Str) = "lines") := by decide +kernel
theorem lk_GalleySums_spaces {d0 d1 d2 d3 d4 d5 d6 : Dt} : List.lookup ("spaces" : Str) (fs_GalleySums d0 d1 d2 d3 d4 d5 d6) = some d1 := (lk_miss ne_GalleySums_1_0).trans (lk_hit)
theorem ne_GalleySums_2_0 : ¬ (("cuts" : Str) = "lines") := by decide +kernel
theorem ne_GalleySums_2_1 : ¬ (("cuts" : Str) = "spaces") := by decide +kernel
theorem lk_GalleySums_cuts {d0 d1 d2 d3 d4 d5 d6 : Dt} : List.lookup ("cuts" : Str) (fs_GalleySums d0 d1 d2 d3 d4 d5 d6) = some d2 := (lk_miss ne_GalleySums_2_0).trans ((lk_miss ne_GalleySums_2_1).trans (lk_hit))
theorem ne_GalleySums_3_0 : ¬ (("floats" : Str) = "lines") := by decide +kernel
theorem ne_GalleySums_3_1 : ¬ (("floats" : Str) = "spaces") := by decide +kernel
theorem ne_GalleySums_3_2 : ¬ (("floats" : Str) = "cuts") := by decide +kernel
theorem lk_GalleySums_floats {d0 d1 d2 d3 d4 d5 d6 : Dt} : List.lookup ("floats" : Str) (fs_GalleySums d0 d1 d2 d3 d4 d5 d6) = some d3 := (lk_miss ne_GalleySums_3_0).trans ((lk_miss ne_GalleySums_3_1).trans ((lk_miss ne_GalleySums_3_2).trans (lk_hit)))
theorem ne_GalleySums_4_0 : ¬ (("tops" : Str) = "lines") := by decide +kernel
theorem ne_GalleySums_4_1 : ¬ (("tops" : Str) = "spaces") := by decide +kernel
theorem ne_GalleySums_4_2 : ¬ (("tops" : Str) = "cuts") := by decide +kernel
theorem ne_GalleySums_4_3 : ¬ (("tops" : Str) = "floats") := by decide +kernel
theorem lk_GalleySums_tops {d0 d1 d2 d3 d4 d5 d6 : Dt} : List.lookup ("tops" : Str) (fs_GalleySums d0 d1 d2 d3 d4 d5 d6) = some d4 := (lk_miss ne_GalleySums_4_0).trans ((lk_miss ne_GalleySums_4_1).trans ((lk_miss ne_GalleySums_4_2).trans ((lk_miss ne_GalleySums_4_3).trans (lk_hit))))
theorem ne_GalleySums_5_0 : ¬ (("noted" : Str) = "lines") := by decide +kernel
theorem ne_GalleySums_5_1 : ¬ (("noted" : Str) = "spaces") := by decide +kernel
theorem ne_GalleySums_5_2 : ¬ (("noted" : Str) = "cuts") := by decide +kernel
theorem ne_GalleySums_5_3 : ¬ (("noted" : Str) = "floats") := by decide +kernel
theorem ne_GalleySums_5_4 : ¬ (("noted" : Str) = "tops") := by decide +kernel
theorem lk_GalleySums_noted {d0 d1 d2 d3 d4 d5 d6 : Dt} : List.lookup ("noted" : Str) (fs_GalleySums d0 d1 d2 d3 d4 d5 d6) = some d5 := (lk_miss ne_GalleySums_5_0).trans ((lk_miss ne_GalleySums_5_1).trans ((lk_miss ne_GalleySums_5_2).trans ((lk_miss ne_GalleySums_5_3).trans ((lk_miss ne_GalleySums_5_4).trans (lk_hit)))))
theorem ne_GalleySums_6_0 : ¬ (("marked" : Str) = "lines") := by decide +kernel
theorem ne_GalleySums_6_1 : ¬ (("marked" : Str) = "spaces") := by decide +kernel
theorem ne_GalleySums_6_2 : ¬ (("marked" : Str) = "cuts") := by decide +kernel
theorem ne_GalleySums_6_3 : ¬ (("marked" : Str) = "floats") := by decide +kernel
theorem ne_GalleySums_6_4 : ¬ (("marked" : Str) = "tops") := by decide +kernel
theorem ne_GalleySums_6_5 : ¬ (("marked" : Str) = "noted") := by decide +kernel
theorem lk_GalleySums_marked {d0 d1 d2 d3 d4 d5 d6 : Dt} : List.lookup ("marked" : Str) (fs_GalleySums d0 d1 d2 d3 d4 d5 d6) = some d6 := (lk_miss ne_GalleySums_6_0).trans ((lk_miss ne_GalleySums_6_1).trans ((lk_miss ne_GalleySums_6_2).trans ((lk_miss ne_GalleySums_6_3).trans ((lk_miss ne_GalleySums_6_4).trans ((lk_miss ne_GalleySums_6_5).trans (lk_hit))))))
theorem lk_GalleySums_no_column_height {d0 d1 d2 d3 d4 d5 d6 : Dt} : List.lookup ("column_height" : Str) (fs_GalleySums d0 d1 d2 d3 d4 d5 d6) = none := (lk_miss (by decide +kernel)).trans ((lk_miss (by decide +kernel)).trans ((lk_miss (by decide +kernel)).trans ((lk_miss (by decide +kernel)).trans ((lk_miss (by decide +kernel)).trans ((lk_miss (by decide +kernel)).trans ((lk_miss (by decide +kernel)).trans (rfl)))))))
theorem lk_GalleySums_no_page_room {d0 d1 d2 d3 d4 d5 d6 : Dt} : List.lookup ("page_room" : Str) (fs_GalleySums d0 d1 d2 d3 d4 d5 d6) = none := (lk_miss (by decide +kernel)).trans ((lk_miss (by decide +kernel)).trans ((lk_miss (by decide +kernel)).trans ((lk_miss (by decide +kernel)).trans ((lk_miss (by decide +kernel)).trans ((lk_miss (by decide +kernel)).trans ((lk_miss (by decide +kernel)).trans (rfl)))))))
theorem lk_GalleySums_no_next_ages {d0 d1 d2 d3 d4 d5 d6 : Dt} : List.lookup ("next_ages" : Str) (fs_GalleySums d0 d1 d2 d3 d4 d5 d6) = none := (lk_miss (by decide +kernel)).trans ((lk_miss (by decide +kernel)).trans ((lk_miss (by decide +kernel)).trans ((lk_miss (by decide +kernel)).trans ((lk_miss (by decide +kernel)).trans ((lk_miss (by decide +kernel)).trans ((lk_miss (by decide +kernel)).trans (rfl)))))))
abbrev o_Frame (c : Addr) (d0 d1 d2 d3 d4 d5 d6 : Dt) : Dt := .obj c [("height", d0), ("columns", d1), ("rule", d2), ("under", d3), ("wait", d4), ("late", d5), ("uneven", d6)]
abbrev fs_Frame (d0 d1 d2 d3 d4 d5 d6 : Dt) : List (Str × Dt) := [("height", d0), ("columns", d1), ("rule", d2), ("under", d3), ("wait", d4), ("late", d5), ("uneven", d6)]
theorem lk_Frame_height {d0 d1 d2 d3 d4 d5 d6 : Dt} : List.lookup ("height" : Str) (fs_Frame d0 d1 d2 d3 d4 d5 d6) = some d0 := lk_hit
theorem ne_Frame_1_0 : ¬ (("columns" : Str) = "height") := by decide +kernel
theorem lk_Frame_columns {d0 d1 d2 d3 d4 d5 d6 : Dt} : List.lookup ("columns" : Str) (fs_Frame d0 d1 d2 d3 d4 d5 d6) = some d1 := (lk_miss ne_Frame_1_0).trans (lk_hit)
theorem ne_Frame_2_0 : ¬ (("rule" : Str) = "height") := by decide +kernel
theorem ne_Frame_2_1 : ¬ (("rule" : Str) = "columns") := by decide +kernel
theorem lk_Frame_rule {d0 d1 d2 d3 d4 d5 d6 : Dt} : List.lookup ("rule" : Str) (fs_Frame d0 d1 d2 d3 d4 d5 d6) = some d2 := (lk_miss ne_Frame_2_0).trans ((lk_miss ne_Frame_2_1).trans (lk_hit))
theorem ne_Frame_3_0 : ¬ (("under" : Str) = "height") := by decide +kernel
theorem ne_Frame_3_1 : ¬ (("under" : Str) = "columns") := by decide +kernel
theorem ne_Frame_3_2 : ¬ (("under" : Str) = "rule") := by decide +kernel
theorem lk_Frame_under {d0 d1 d2 d3 d4 d5 d6 : Dt} : List.lookup ("under" : Str) (fs_Frame d0 d1 d2 d3 d4 d5 d6) = some d3 := (lk_miss ne_Frame_3_0).trans ((lk_miss ne_Frame_3_1).trans ((lk_miss ne_Frame_3_2).trans (lk_hit)))
theorem ne_Frame_4_0 : ¬ (("wait" : Str) = "height") := by decide +kernel
theorem ne_Frame_4_1 : ¬ (("wait" : Str) = "columns") := by decide +kernel
theorem ne_Frame_4_2 : ¬ (("wait" : Str) = "rule") := by decide +kernel
theorem ne_Frame_4_3 : ¬ (("wait" : Str) = "under") := by decide +kernel
theorem lk_Frame_wait {d0 d1 d2 d3 d4 d5 d6 : Dt} : List.lookup ("wait" : Str) (fs_Frame d0 d1 d2 d3 d4 d5 d6) = some d4 := (lk_miss ne_Frame_4_0).trans ((lk_miss ne_Frame_4_1).trans ((lk_miss ne_Frame_4_2).trans ((lk_miss ne_Frame_4_3).trans (lk_hit))))
theorem ne_Frame_5_0 : ¬ (("late" : Str) = "height") := by decide +kernel
theorem ne_Frame_5_1 : ¬ (("late" : Str) = "columns") := by decide +kernel
theorem ne_Frame_5_2 : ¬ (("late" : Str) = "rule") := by decide +kernel
theorem ne_Frame_5_3 : ¬ (("late" : Str) = "under") := by decide +kernel
theorem ne_Frame_5_4 : ¬ (("late" : Str) = "wait") := by decide +kernel
theorem lk_Frame_late {d0 d1 d2 d3 d4 d5 d6 : Dt} : List.lookup ("late" : Str) (fs_Frame d0 d1 d2 d3 d4 d5 d6) = some d5 := (lk_miss ne_Frame_5_0).trans ((lk_miss ne_Frame_5_1).trans ((lk_miss ne_Frame_5_2).trans ((lk_miss ne_Frame_5_3).trans ((lk_miss ne_Frame_5_4).trans (lk_hit)))))
theorem ne_Frame_6_0 : ¬ (("uneven" : Str) = "height") := by decide +kernel
theorem ne_Frame_6_1 : ¬ (("uneven" : Str) = "columns") := by decide +kernel
theorem ne_Frame_6_2 : ¬ (("uneven" : Str) = "rule") := by decide +kernel
theorem ne_Frame_6_3 : ¬ (("uneven" : Str) = "under") := by decide +kernel
theorem ne_Frame_6_4 : ¬ (("uneven" : Str) = "wait") := by decide +kernel
theorem ne_Frame_6_5 : ¬ (("uneven" : Str) = "late") := by decide +kernel
theorem lk_Frame_uneven {d0 d1 d2 d3 d4 d5 d6 : Dt} : List.lookup ("uneven" : Str) (fs_Frame d0 d1 d2 d3 d4 d5 d6) = some d6 := (lk_miss ne_Frame_6_0).trans ((lk_miss ne_Frame_6_1).trans ((lk_miss ne_Frame_6_2).trans ((lk_miss ne_Frame_6_3).trans ((lk_miss ne_Frame_6_4).trans ((lk_miss ne_Frame_6_5).trans (lk_hit))))))
theorem lk_Frame_no_of {d0 d1 d2 d3 d4 d5 d6 : Dt} : List.lookup ("of" : Str) (fs_Frame d0 d1 d2 d3 d4 d5 d6) = none := (lk_miss (by decide +kernel)).trans ((lk_miss (by decide +kernel)).trans ((lk_miss (by decide +kernel)).trans ((lk_miss (by decide +kernel)).trans ((lk_miss (by decide +kernel)).trans ((lk_miss (by decide +kernel)).trans ((lk_miss (by decide +kernel)).trans (rfl)))))))
def ai_Frame : AI := fun ds Post => ∃ e0 e1 e2 e3 e4 e5 e6, ds = [e0, e1, e2, e3, e4, e5, e6] ∧ Post [("height", e0), ("columns", e1), ("rule", e2), ("under", e3), ("wait", e4), ("late", e5), ("uneven", e6)]
theorem ok_Frame___init__ {P : Program} {w : World} {K : PySem.W.Frag} {mg : Str → Option Value} {base : Heap} (T : Txt P K mg) : FnOk P w K mg base CX0 1 T.f_Frame___init__ T.fd_Frame___init__ ["self", "height", "columns", "rule", "under", "wait", "late", "uneven"] (toSpI K T.c_Frame ai_Frame) := by
  refine fn_init T.F_Frame___init__ sc_Frame___init__ (by rintro ds Post ⟨e0, e1, e2, e3, e4, e5, e6, rfl, _⟩; rfl) rfl (fun cdv A outer s H E hr => ⟨_, tm_Frame___init__ T cdv A outer s H E hr, ?_⟩)
  rintro ds Post ⟨e0, e1, e2, e3, e4, e5, e6, rfl, k⟩
  unfold t_Frame___init__
  show WI K T.c_Frame _ [.un, .val e0, .val e1, .val e2, .val e3, .val e4, .val e5, .val e6] [] _
  refine wi_seq (wi_set T.co_Frame.cl T.na_Frame_height (rfl) (Nat.le_of_ble_eq_true rfl) (we_var rfl ⟨_, rfl, rfl, ?_⟩))
  refine wi_seq (wi_set T.co_Frame.cl T.na_Frame_columns ((lk_miss ne_Frame_1_0).trans (rfl)) (Nat.le_of_ble_eq_true rfl) (we_var rfl ⟨_, rfl, rfl, ?_⟩))
  refine wi_seq (wi_set T.co_Frame.cl T.na_Frame_rule ((lk_miss ne_Frame_2_0).trans ((lk_miss ne_Frame_2_1).trans (rfl))) (Nat.le_of_ble_eq_true rfl) (we_var rfl ⟨_, rfl, rfl, ?_⟩))
  refine wi_seq (wi_set T.co_Frame.cl T.na_Frame_under ((lk_miss ne_Frame_3_0).trans ((lk_miss ne_Frame_3_1).trans ((lk_miss ne_Frame_3_2).trans (rfl)))) (Nat.le_of_ble_eq_true rfl) (we_var rfl ⟨_, rfl, rfl, ?_⟩))
  refine wi_seq (wi_set T.co_Frame.cl T.na_Frame_wait ((lk_miss ne_Frame_4_0).trans ((lk_miss ne_Frame_4_1).trans ((lk_miss ne_Frame_4_2).trans ((lk_miss ne_Frame_4_3).trans (rfl))))) (Nat.le_of_ble_eq_true rfl) (we_var rfl ⟨_, rfl, rfl, ?_⟩))
  refine wi_seq (wi_set T.co_Frame.cl T.na_Frame_late ((lk_miss ne_Frame_5_0).trans ((lk_miss ne_Frame_5_1).trans ((lk_miss ne_Frame_5_2).trans ((lk_miss ne_Frame_5_3).trans ((lk_miss ne_Frame_5_4).trans (rfl)))))) (Nat.le_of_ble_eq_true rfl) (we_var rfl ⟨_, rfl, rfl, ?_⟩))
  refine wi_set T.co_Frame.cl T.na_Frame_uneven ((lk_miss ne_Frame_6_0).trans ((lk_miss ne_Frame_6_1).trans ((lk_miss ne_Frame_6_2).trans ((lk_miss ne_Frame_6_3).trans ((lk_miss ne_Frame_6_4).trans ((lk_miss ne_Frame_6_5).trans (rfl))))))) (Nat.le_of_ble_eq_true rfl) (we_var rfl ⟨_, rfl, rfl, ?_⟩)
  exact k
end Lk69

namespace Lk69
open PySem L2 Ab Pg PySem.W
local macro_rules | `(tactic| walk_at "x") => `(tactic| first
  | ((with_reducible refine' we_kst ?h1 ?_); (case h1 => assumption))
  | ((with_reducible refine' ws_retDN ?hh ?_); (case hh => exact rfl))
  | with_reducible refine we_nget ?_
  | with_reducible refine we_nget1 ?_
  | with_reducible refine we_nin ?_
  | with_reducible refine we_nnotin ?_
  | with_reducible refine we_nnew ?_
  | with_reducible refine we_ndisp1 ?_
  | with_reducible refine ws_nput ?_
  | with_reducible refine we_nlist ?_
  | fail "x9")
local macro_rules | `(tactic| walk_at "x") => `(tactic| first | with_reducible refine we_chainI3 ?_ | fail "xc3")
local macro_rules | `(tactic| walk_at "nn") => `(tactic| all_goals try (first | exact Bool.noConfusion (show false = true by assumption) | exact Bool.noConfusion (show true = false by assumption)))
structure Pn where
  nt : List Int
  fl : List Int
structure Pa where
  ls : List Pn
  lead : Int
  least : Int
  kp : Str
  up : Int
  lo : Int
def Pn.dt (l : Pn) : Dt := .tup [.tup (l.nt.map Dt.int), .tup (l.fl.map Dt.int)]
def Pa.dt (p : Pa) : Dt := .tup [.tup (p.ls.map Pn.dt), .int p.lead, .int p.least, .str p.kp, .int p.up, .int p.lo]
def prevD : Option Pa → Dt
  | none => .non
  | some o => .tup [.tup (o.ls.map Pn.dt), .int o.lead, .int o.least, .str o.kp, .int o.up, .int o.lo]
def spc (p : Pa) : Option Pa → Int
  | none => 0
  | some o => if o.lo > p.up then o.lo else p.up
def kpNo (o : Pa) : Bool := decide (o.kp = Str.ofString "no")
def cut0 : Option Pa → Bool
  | none => true
  | some o => kpNo o
def cutJ (p : Pa) (j : Nat) : Bool := decide (p.least ≤ (j : Int) ∧ p.least ≤ (p.ls.length : Int) - j)
def ent (p : Pa) (sp : Int) (ct : Bool) (l : Pn) : Ln := ⟨p.lead, sp, ct, l.nt, l.fl⟩
def entJ (p : Pa) (o : Option Pa) (j : Nat) : Ln := if j = 0 then ent p (spc p o) (cut0 o) (p.ls.getD j ⟨[], []⟩) else ent p 0 (cutJ p j) (p.ls.getD j ⟨[], []⟩)
def lnsOf (p : Pa) (o : Option Pa) : List Ln := (List.range p.ls.length).map (entJ p o)
def gal : Option Pa → List Pa → List Ln
  | _, [] => []
  | o, p :: r => lnsOf p o ++ gal (some p) r
def lastOr : Option Pa → List Pa → Option Pa
  | o, [] => o
  | _, p :: r => lastOr (some p) r
def tots (ps : List Pa) : Nat := (ps.map fun p => p.ls.length).sum
def lets : Option Pa → List Pa → Nat → Bool
  | _, [], _ => false
  | o, p :: r, a => if a < p.ls.length then (if a = 0 then cut0 o else cutJ p a) else lets (some p) r (a - p.ls.length)
theorem gal_app : ∀ (o : Option Pa) (a b : List Pa), gal o (a ++ b) = gal o a ++ gal (lastOr o a) b
  | o, [], b => rfl
  | o, p :: r, b => by
    show lnsOf p o ++ gal (some p) (r ++ b) = (lnsOf p o ++ gal (some p) r) ++ gal (lastOr (some p) r) b
    rw [gal_app, List.append_assoc]
theorem lastOr_snoc : ∀ (o : Option Pa) (a : List Pa) (p : Pa), lastOr o (a ++ [p]) = some p
  | o, [], p => rfl
  | o, q :: r, p => lastOr_snoc (some q) r p
theorem gal_snoc (o : Option Pa) (a : List Pa) (p : Pa) : gal o (a ++ [p]) = gal o a ++ lnsOf p (lastOr o a) := by
  rw [gal_app]
  show _ ++ (lnsOf p (lastOr o a) ++ []) = _
  rw [List.append_nil]
theorem lns_len (p : Pa) (o : Option Pa) : (lnsOf p o).length = p.ls.length := by unfold lnsOf; rw [List.length_map, List.length_range]
theorem gal_len : ∀ (o : Option Pa) (a : List Pa), (gal o a).length = tots a
  | o, [] => rfl
  | o, p :: r => by
    show (lnsOf p o ++ gal (some p) r).length = _
    rw [List.length_append, lns_len, gal_len]
    simp [tots]
theorem cut_gal : ∀ (o : Option Pa) (ps : List Pa) (a : Nat), cutAt (gal o ps) a = lets o ps a
  | o, [], a => rfl
  | o, p :: r, a => by
    show cutAt (lnsOf p o ++ gal (some p) r) a = if a < p.ls.length then (if a = 0 then cut0 o else cutJ p a) else lets (some p) r (a - p.ls.length)
    unfold cutAt
    by_cases h : a < p.ls.length
    · rw [if_pos h, List.getElem?_append_left (by rw [lns_len]; exact h)]
      unfold lnsOf
      rw [List.getElem?_map, List.getElem?_range h]
      show (entJ p o a).cut = _
      unfold entJ
      by_cases hz : a = 0
      · rw [if_pos hz, if_pos hz]; rfl
      · rw [if_neg hz, if_neg hz]; rfl
    · rw [if_neg h, List.getElem?_append_right (by rw [lns_len]; omega), lns_len]
      exact cut_gal (some p) r (a - p.ls.length)
def Chain (n : Nat) : Nat → List Stp → Prop
  | l, [] => l = n
  | l, p :: r => p.1.line = l ∧ l ≤ p.2.sp ∧ p.2.sp ≤ p.2.e ∧ p.2.e ≤ n ∧ Chain n p.2.e r
def plc (ps : List Stp) : List Nat := ps.flatMap fun p => [p.2.sp, p.2.e]
def CutOk (g : List Ln) (a : Nat) : Prop := a = 0 ∨ a = g.length ∨ cutAt g a = true
theorem path_chain {g : List Ln} {r : Fr} {s t : Sta} {ps : List Stp} (h : Path g r s ps t) (ht : t = goalOf g) : Chain g.length s.line ps := by
  induction h with
  | nil => subst ht; rfl
  | cons ho hp ih =>
    rename_i s0 o ps0 t0
    obtain ⟨e, fe, x, h1, h2, h3, h4, _, hx, _, _, _, rfl⟩ := opt_mem ho
    unfold spl at hx
    obtain ⟨p, hp', rfl⟩ := List.mem_map.mp (List.mem_filter.mp hx).1
    have hpl := pl_mem h1 hp'
    exact ⟨rfl, hpl.1, hpl.2, h2, ih ht⟩
theorem path_cuts {g : List Ln} {r : Fr} {s t : Sta} {ps : List Stp} (h : Path g r s ps t) (hs : CutOk g s.line) : ∀ a ∈ plc ps, CutOk g a := by
  induction h with
  | nil => intro a ha; simp [plc] at ha
  | cons ho hp ih =>
    rename_i s0 o ps0 t0
    intro a ha
    obtain ⟨e, fe, x, h1, h2, h3, h4, hc, hx, _, _, _, rfl⟩ := opt_mem ho
    have he : CutOk g e := by
      rcases hc with rfl | hc | hc
      · exact hs
      · exact .inr (.inl hc)
      · exact .inr (.inr hc)
    have ha' : a = x.p ∨ a = e ∨ a ∈ plc ps0 := by
      unfold plc at ha
      rw [List.flatMap_cons] at ha
      rcases List.mem_append.mp ha with ha | ha
      · rcases List.mem_cons.mp ha with ha | ha
        · exact .inl ha
        · exact .inr (.inl (List.mem_singleton.mp ha))
      · exact .inr (.inr ha)
    rcases ha' with rfl | rfl | ha
    · unfold spl at hx
      obtain ⟨p, hp', rfl⟩ := List.mem_map.mp (List.mem_filter.mp hx).1
      show CutOk g p
      unfold plOf at hp'
      split at hp'
      · rcases List.mem_append.mp hp' with q | q
        · exact .inr (.inr (List.mem_filter.mp q).2)
        · rw [List.mem_singleton.mp q]; exact he
      · rw [List.mem_singleton.mp hp']; exact he
    · exact he
    · exact ih he a ha
structure PnO (l : Pn) : Prop where
  nl : l.nt.length ≤ 1
  nn : ∀ n ∈ l.nt, 1 ≤ n ∧ n ≤ 2000
  fl : ∀ x ∈ l.fl, 1 ≤ x ∧ x ≤ 2000
structure PaO (p : Pa) : Prop where
  n : p.ls.length ≤ 6
  ld : 1 ≤ p.lead ∧ p.lead ≤ 99
  up : 0 ≤ p.up ∧ p.up ≤ 100
  lo : 0 ≤ p.lo ∧ p.lo ≤ 100
  ls : ∀ l ∈ p.ls, PnO l
def flS (ls : List Pn) : Nat := (ls.map fun l => l.fl.length).sum
def flP (ps : List Pa) : Nat := (ps.map fun p => flS p.ls).sum
theorem tots_le {ps : List Pa} (h : ∀ p ∈ ps, PaO p) : tots ps ≤ 6 * ps.length := by
  induction ps with
  | nil => simp [tots]
  | cons p r ih =>
    have h1 := (h p List.mem_cons_self).n
    have h2 := ih fun q hq => h q (List.mem_cons_of_mem _ hq)
    unfold tots at h2 ⊢
    rw [List.map_cons, List.sum_cons, List.length_cons]
    omega
theorem lns_flo (p : Pa) (o : Option Pa) : (flo (lnsOf p o)).length = flS p.ls := by
  unfold flo flS
  rw [List.length_flatMap]
  congr 1
  refine List.ext_getElem? fun i => ?_
  rw [List.getElem?_map, List.getElem?_map]
  unfold lnsOf
  rw [List.getElem?_map]
  by_cases h : i < p.ls.length
  · rw [List.getElem?_range h, List.getElem?_eq_getElem h]
    show some ((entJ p o i).fl.length) = some ((p.ls[i]).fl.length)
    have hg : p.ls.getD i ⟨[], []⟩ = p.ls[i] := by rw [List.getD_eq_getElem?_getD, List.getElem?_eq_getElem h]; rfl
    unfold entJ
    split <;> (rw [← hg]; rfl)
  · rw [List.getElem?_eq_none (by rw [List.length_range]; omega), List.getElem?_eq_none (by omega)]
    rfl
theorem gal_flo : ∀ (o : Option Pa) (ps : List Pa), (flo (gal o ps)).length = flP ps
  | o, [] => rfl
  | o, p :: r => by
    show (flo (lnsOf p o ++ gal (some p) r)).length = _
    have e : flo (lnsOf p o ++ gal (some p) r) = flo (lnsOf p o) ++ flo (gal (some p) r) := by unfold flo; rw [List.flatMap_append]
    rw [e, List.length_append, lns_flo, gal_flo]
    simp [flP]
theorem ent_ok {p : Pa} (hp : PaO p) {o : Option Pa} (ho : ∀ q, o = some q → PaO q) {j : Nat} (hj : j < p.ls.length) : LO (entJ p o j) := by
  have hg : p.ls.getD j ⟨[], []⟩ = p.ls[j] := by rw [List.getD_eq_getElem?_getD, List.getElem?_eq_getElem hj]; rfl
  have hl := hp.ls _ (List.getElem_mem hj)
  have hnl := hl.nl
  unfold entJ
  rw [hg]
  split
  · refine ⟨hp.ld, ?_, by show (p.ls[j]).nt.length ≤ 4; omega, hl.nn, hl.fl⟩
    show 0 ≤ spc p o ∧ spc p o ≤ 100
    cases o with
    | none => exact ⟨Int.le_refl _, (by decide : (0 : Int) ≤ 100)⟩
    | some q =>
      have := (ho q rfl).lo
      have := hp.up
      unfold spc
      simp only
      split <;> omega
  · exact ⟨hp.ld, ⟨Int.le_refl _, (by decide : (0 : Int) ≤ 100)⟩, by show (p.ls[j]).nt.length ≤ 4; omega, hl.nn, hl.fl⟩
theorem gal_ok : ∀ (o : Option Pa) (ps : List Pa), (∀ p ∈ ps, PaO p) → (∀ q, o = some q → PaO q) → ∀ l ∈ gal o ps, LO l
  | o, [], _, _, l, h => by simp [gal] at h
  | o, p :: r, h, ho, l, hl => by
    rcases List.mem_append.mp (show l ∈ lnsOf p o ++ gal (some p) r from hl) with hl | hl
    · obtain ⟨j, hj, rfl⟩ := List.mem_map.mp hl
      exact ent_ok (h p List.mem_cons_self) ho (List.mem_range.mp hj)
    · exact gal_ok (some p) r (fun q hq => h q (List.mem_cons_of_mem _ hq)) (fun q e => by cases e; exact h p List.mem_cons_self) l hl
def ap_sc : AP := fun as Post => ∃ (p : Pa) (o : Option Pa), as = [.val p.dt, .val (prevD o)] ∧ Post (.val (.tup [.int (spc p o), .bl (cut0 o)])) as
def ap_pl : AP := fun as Post => ∃ (p : Pa) (o : Option Pa), as = [.val p.dt, .val (prevD o)] ∧ p.ls.length ≤ 6 ∧ Post (.new ((lnsOf p o).map Ln.dt)) as
def ap_mg : AP := fun as Post => ∃ (ps : List Pa), as = [.val (.tup (ps.map Pa.dt))] ∧ ((∀ p ∈ ps, PaO p) ∧ ps.length ≤ 6) ∧ Post (.val (galD (gal none ps))) as
def ap_lns : AP := fun as Post => ∃ (b n : Int) (f : Nat) (s : Sc), EnvT [SPool4 b, SVal (TIs (.int n)), SVal (TIs (.int f)), SIs (.val s.dt)] as ∧ (b ≤ 1000 ∧ 1 ≤ n ∧ n ≤ 6 ∧ f ≤ 2) ∧ ∀ (ls : List Pn) as', (ls.length : Int) = n → f + flS ls ≤ 2 → (∀ l ∈ ls, PnO l) → EnvT [SPool4 (b + 20), SAny, SAny, SAny] as' → Post (.val (.tup (ls.map Pn.dt))) as'
def ap_pars : AP := fun as Post => ∃ (b : Int) (s : Sc), EnvT [SPool4 b, SIs (.val s.dt)] as ∧ (b ≤ 100) ∧ ∀ (ps : List Pa) as', ps.length ≤ 4 → flP ps ≤ 2 → (∀ p ∈ ps, PaO p) → EnvT [SPool4 (b + 500), SAny] as' → Post (.new (ps.map Pa.dt)) as'
def ap_plc : AP := fun as Post => ∃ (ps : List Stp) (n : Nat), as = [.val (.tup (ps.map stpD)), .val (.int n)] ∧ (ps.length ≤ 1000 ∧ Chain n 0 ps) ∧ Post (.new ((plc ps).map fun a : Nat => Dt.int a)) as
def ap_lets : AP := fun as Post => ∃ (ps : List Pa) (a : Nat), as = [.val (.lst (ps.map Pa.dt)), .val (.int a)] ∧ (0 < a ∧ a < tots ps ∧ ps.length ≤ 6) ∧ Post (.val (.bl (lets none ps a))) as
def ap_law : AP := fun as Post => ∃ ns, as = [.val (.scr ns)] ∧ Post (.val (.bl true)) [.val (.scr ns)]
section
variable {K : PySem.W.Frag} {c F cN cB cS : Addr} {w : World}
theorem run_sc : RunOk K [] (t_space_and_cut K) 5 ap_sc := by
  rintro as Post ⟨p, o, rfl, k⟩
  unfold t_space_and_cut
  cases o with
  | none =>
    show WS K [] _ [.val (.tup [.tup (p.ls.map Pn.dt), .int p.lead, .int p.least, .str p.kp, .int p.up, .int p.lo]), .val .non, .un, .un, .un] _
    walk_at "gi"
    exact k
  | some o =>
    show WS K [] _ [.val (.tup [.tup (p.ls.map Pn.dt), .int p.lead, .int p.least, .str p.kp, .int p.up, .int p.lo]), .val (.tup [.tup (o.ls.map Pn.dt), .int o.lead, .int o.least, .str o.kp, .int o.up, .int o.lo]), .un, .un, .un] _
    walk_at "gi"
    walk_at "nn"
    exact k
theorem run_pl : RunOk K [] (t_paragraph_lines K ap_sc) 11 ap_pl := by
  rintro as Post ⟨p, o, rfl, hl, k⟩
  unfold t_paragraph_lines
  show WS K [] _ [.val (.tup [.tup (p.ls.map Pn.dt), .int p.lead, .int p.least, .str p.kp, .int p.up, .int p.lo]), .val (prevD o), .un, .un, .un, .un, .un, .un, .un, .un, .un] _
  walk_at "gi"
  refine .a ⟨p, o, rfl, ?_⟩
  walk_at "gi"
  refine for_range1 (p.ls.length : Int) (fun i G => ∃ (sp : Int) (ct : Bool) (s8 s9 s10 : Sl), (i = 0 → sp = spc p o ∧ ct = cut0 o) ∧ G = [.val p.dt, .val (prevD o), .val (.tup (p.ls.map Pn.dt)), .val (.int p.lead), .val (.int p.least), .val (.int sp), .val (.bl ct), .acc (((List.range i).map (entJ p o)).map Ln.dt), s8, s9, s10]) ?_ ?_ ?_
  · walk_at "gi"
    rw [List.length_map]
    exact .a ⟨rfl, by omega, by omega, _, _, _, _, _, fun _ => ⟨rfl, rfl⟩, rfl⟩
  · rintro i G hi ⟨sp, ct, s8, s9, s10, h0, rfl⟩
    have hi' : i < p.ls.length := by omega
    have hg : p.ls.getD i ⟨[], []⟩ = p.ls[i] := by rw [List.getD_eq_getElem?_getD, List.getElem?_eq_getElem hi']; rfl
    have hat : atI (p.ls.map Pn.dt) (i : Int) = some (.tup [.tup ((p.ls.getD i ⟨[], []⟩).nt.map Dt.int), .tup ((p.ls.getD i ⟨[], []⟩).fl.map Dt.int)]) := atI_of (j := i) rfl (by rw [List.getElem?_map, List.getElem?_eq_getElem hi', hg]; rfl)
    have hlen : (((List.range i).map (entJ p o)).map Ln.dt).length < 1000000 := by rw [List.length_map, List.length_map, List.length_range]; omega
    have hlm : ((p.ls.map Pn.dt).length : Int) = p.ls.length := by rw [List.length_map]
    have fin : ∀ (sp : Int) (ct : Bool) (s9 s10 : Sl), entJ p o i = ent p sp ct (p.ls.getD i ⟨[], []⟩) → Hold (∃ (sp' : Int) (ct' : Bool) (s8 s9' s10' : Sl), (i + 1 = 0 → sp' = spc p o ∧ ct' = cut0 o) ∧ [Sl.val p.dt, .val (prevD o), .val (.tup (p.ls.map Pn.dt)), .val (.int p.lead), .val (.int p.least), .val (.int sp), .val (.bl ct), .acc (((List.range i).map (entJ p o)).map Ln.dt ++ [(ent p sp ct (p.ls.getD i ⟨[], []⟩)).dt]), .val (.int i), s9, s10] = [.val p.dt, .val (prevD o), .val (.tup (p.ls.map Pn.dt)), .val (.int p.lead), .val (.int p.least), .val (.int sp'), .val (.bl ct'), .acc (((List.range (i + 1)).map (entJ p o)).map Ln.dt), s8, s9', s10']) := fun sp ct s9 s10 e => by
      refine .a ⟨sp, ct, .val (.int i), s9, s10, fun h => absurd h (by omega), ?_⟩
      rw [List.range_succ, List.map_append, List.map_append, List.map_singleton, List.map_singleton, e]
    by_cases hz : i = 0
    · obtain ⟨e1, e2⟩ := h0 hz
      walk_at "gi"
      refine fin sp ct _ _ ?_
      unfold entJ
      rw [if_pos hz, e1, e2]
    · walk_at "gi"
      · rename_i hY
        refine fin 0 _ _ _ ?_
        unfold entJ cutJ
        rw [if_neg hz, hlm, show (decide (p.least ≤ (i : Int) ∧ p.least ≤ (p.ls.length : Int) - i)) = decide (p.least ≤ (p.ls.length : Int) - i) from decide_eq_decide.mpr (by omega)]
      · rename_i hY
        refine fin 0 _ _ _ ?_
        unfold entJ cutJ
        rw [if_neg hz, decide_eq_false (by omega)]
  · rintro G ⟨sp, ct, s8, s9, s10, h0, rfl⟩
    rw [Int.toNat_natCast]
    walk_at "gi"
    exact k
theorem run_mg : RunOk K [] (t_make_galley K ap_pl) 4 ap_mg := by
  rintro as Post ⟨ps, rfl, ⟨hok, hlen⟩, k⟩
  unfold t_make_galley
  show WS K [] _ [.val (.tup (ps.map Pa.dt)), .un, .un, .un] _
  refine ws_seq ?_
  walk_at "gx"
  refine ws_seq ?_
  walk_at "gx"
  refine ws_seq ?_
  refine for_tuple (ps.map Pa.dt) (fun i G => ∃ s3, G = [.val (.tup (ps.map Pa.dt)), .acc ((gal none (ps.take i)).map Ln.dt), .val (prevD (lastOr none (ps.take i))), s3]) ?_ ?_ ?_
  · walk_at "gi"
    exact .a ⟨rfl, _, rfl⟩
  · rintro i d G hd ⟨s3, rfl⟩
    obtain ⟨p, hp, rfl⟩ : ∃ p, ps[i]? = some p ∧ p.dt = d := by
      rw [List.getElem?_map] at hd
      exact Option.map_eq_some_iff.mp hd
    have po := hok p (List.mem_of_getElem? hp)
    have hgl : (gal none (ps.take i)).length ≤ 36 := by
      rw [gal_len]
      have := tots_le (ps := ps.take i) fun q hq => hok q (List.mem_of_mem_take hq)
      rw [List.length_take] at this
      omega
    have e1 : ps.take (i + 1) = ps.take i ++ [p] := by rw [List.take_add_one, hp]; rfl
    have po1 := po.n
    walk_at "gi"
    refine we_extend rfl ?_
    walk_at "gi"
    refine .a ⟨p, _, rfl, po1, ?_⟩
    walk_at "gi"
    refine ⟨_, _, rfl, rfl, rfl, by rw [List.length_map, List.length_map, lns_len]; omega, ?_⟩
    walk_at "gi"
    refine .a ⟨.val p.dt, ?_⟩
    rw [e1, gal_snoc, lastOr_snoc, List.map_append]
    rfl
  · rintro G ⟨s3, rfl⟩
    rw [List.length_map, List.take_length]
    walk_at "gi"
    exact k
theorem plc_len (ps : List Stp) : (plc ps).length = 2 * ps.length := by
  induction ps with
  | nil => rfl
  | cons p r ih =>
    have e : plc (p :: r) = [p.2.sp, p.2.e] ++ plc r := rfl
    rw [e, List.length_append, ih]
    simp; omega
theorem plc_snoc (ps : List Stp) (p : Stp) : plc (ps ++ [p]) = plc ps ++ [p.2.sp, p.2.e] := by
  unfold plc; rw [List.flatMap_append]; simp
theorem run_plc : RunOk K [] (t__law_places K) 5 ap_plc := by
  rintro as Post ⟨ps, n, rfl, ⟨hl, hc⟩, k⟩
  unfold t__law_places
  show WS K [] _ [.val (.tup (ps.map stpD)), .val (.int n), .un, .un, .un] _
  refine ws_seq ?_
  walk_at "gx"
  refine ws_seq ?_
  walk_at "gx"
  refine ws_seq ?_
  refine for_tupT ps stpD (fun i G => ∃ (l : Nat) (s4 : Sl), Chain n l (ps.drop i) ∧ G = [.val (.tup (ps.map stpD)), .val (.int n), .acc ((plc (ps.take i)).map fun a : Nat => Dt.int a), .val (.int l), s4]) ?_ ?_ ?_
  · walk_at "gi"
    exact .a ⟨rfl, 0, _, hc, rfl⟩
  · rintro i p G hp ⟨l, s4, hch, rfl⟩
    have hi := (List.getElem?_eq_some_iff.mp hp).1
    have hd : ps.drop i = p :: ps.drop (i + 1) := by
      rw [List.drop_eq_getElem_cons hi]
      congr 1
      exact (List.getElem?_eq_some_iff.mp hp).2
    rw [hd] at hch
    obtain ⟨c1, c2, c3, c4, c5⟩ := hch
    have htk : ps.take (i + 1) = ps.take i ++ [p] := by rw [List.take_add_one, hp]; rfl
    have hlen : ((plc (ps.take i)).map fun a : Nat => Dt.int a).length ≤ 2000 := by
      rw [List.length_map, plc_len, List.length_take]; omega
    obtain ⟨s0, o⟩ := p
    subst c1
    have hlen2 : ((plc (ps.take i)).map fun a : Nat => Dt.int a).length + 2 ≤ 1000000 := by omega
    walk_at "gi"
    refine we_extend rfl ?_
    walk_at "gi"
    refine ⟨_, _, rfl, rfl, rfl, hlen2, ?_⟩
    walk_at "gi"
    refine .a ⟨o.e, .val (stpD (s0, o)), c5, ?_⟩
    rw [htk, plc_snoc, List.map_append]
    rfl
  · rintro G ⟨l, s4, hch, rfl⟩
    rw [List.drop_length] at hch
    have hch : l = n := hch
    subst hch
    rw [List.take_length]
    walk_at "gi"
    walk_at "nn"
    exact k
theorem run_lets : RunOk K [] (t__law_lets K) 6 ap_lets := by
  rintro as Post ⟨ps, a, rfl, ⟨ha0, ha1, hl⟩, k⟩
  unfold t__law_lets
  show WS K [] _ [.val (.lst (ps.map Pa.dt)), .val (.int a), .un, .un, .un, .un] _
  refine ws_seq ?_
  walk_at "gx"
  refine ws_seq ?_
  refine for_range1 (ps.length : Int) (fun i G => ∃ (b : Nat) (s3 s4 s5 : Sl), (b ≤ a ∧ b = tots (ps.take i) ∧ lets none ps a = lets (lastOr none (ps.take i)) (ps.drop i) (a - b)) ∧ G = [.val (.lst (ps.map Pa.dt)), .val (.int a), .val (.int b), s3, s4, s5]) ?_ ?_ ?_
  · walk_at "gi"
    rw [List.length_map]
    exact .a ⟨rfl, by omega, by omega, 0, _, _, _, ⟨Nat.zero_le _, rfl, rfl⟩, rfl⟩
  · rintro i G hi ⟨b, s3, s4, s5, ⟨hb, hbt, hle⟩, rfl⟩
    have hi' : i < ps.length := by omega
    obtain ⟨p, hp⟩ : ∃ p, ps[i]? = some p := ⟨_, List.getElem?_eq_getElem hi'⟩
    have hat : atI (ps.map Pa.dt) (i : Int) = some (.tup [.tup (p.ls.map Pn.dt), .int p.lead, .int p.least, .str p.kp, .int p.up, .int p.lo]) := atI_of (j := i) rfl (by rw [List.getElem?_map, hp]; rfl)
    have hd : ps.drop i = p :: ps.drop (i + 1) := by
      rw [List.drop_eq_getElem_cons hi']
      congr 1
      exact (List.getElem?_eq_some_iff.mp hp).2
    have htk : ps.take (i + 1) = ps.take i ++ [p] := by rw [List.take_add_one, hp]; rfl
    have hlm : ((p.ls.map Pn.dt).length : Int) = p.ls.length := by rw [List.length_map]
    rw [hd] at hle
    have hle : lets none ps a = if a - b < p.ls.length then (if a - b = 0 then cut0 (lastOr none (ps.take i)) else cutJ p (a - b)) else lets (some p) (ps.drop (i + 1)) (a - b - p.ls.length) := hle
    have htt : tots (ps.take (i + 1)) = b + p.ls.length := by
      rw [htk, hbt]; unfold tots; rw [List.map_append, List.sum_append]; simp
    have hlast : i ≠ 0 → ∃ q, ps[i - 1]? = some q ∧ lastOr none (ps.take i) = some q := fun h0 => by
      obtain ⟨q, hq⟩ : ∃ q, ps[i - 1]? = some q := ⟨_, List.getElem?_eq_getElem (by omega)⟩
      refine ⟨q, hq, ?_⟩
      have e1 : ps.take i = ps.take (i - 1) ++ [q] := by
        have := List.take_add_one (l := ps) (i := i - 1)
        rw [show i - 1 + 1 = i by omega, hq] at this
        exact this
      rw [e1, lastOr_snoc]
    walk_at "gi"
    · rename_i hY1 hY2
      rw [hlm] at hY1
      have hi0 : i ≠ 0 := fun z => by
        subst z
        rw [List.take_zero] at hbt
        have : b = 0 := hbt
        omega
      obtain ⟨q, hq, hq2⟩ := hlast hi0
      have hat3 : atI (ps.map Pa.dt) ((i : Int) - 1) = some (.tup [.tup (q.ls.map Pn.dt), .int q.lead, .int q.least, .str q.kp, .int q.up, .int q.lo]) := atI_of (j := i - 1) (by omega) (by rw [List.getElem?_map, hq]; rfl)
      refine ixp rfl hat3 ?_
      walk_at "gi"
      rw [if_pos (by omega), if_pos (by omega), hq2] at hle
      rw [hle] at k
      exact k
    · rename_i hY1 hY2 hY3
      rw [hlm] at hY1 ⊢
      rw [if_pos (by omega), if_neg (by omega)] at hle
      unfold cutJ at hle
      rw [show (decide (p.least ≤ ((a - b : Nat) : Int) ∧ p.least ≤ (p.ls.length : Int) - ((a - b : Nat) : Int))) = decide (p.least ≤ (p.ls.length : Int) - ((a : Int) - b)) from decide_eq_decide.mpr (by omega)] at hle
      rw [hle] at k
      exact k
    · rename_i hY1 hY2 hY3
      rw [hlm] at hY1
      rw [if_pos (by omega), if_neg (by omega)] at hle
      unfold cutJ at hle
      rw [decide_eq_false (by omega)] at hle
      rw [hle] at k
      exact k
    · rename_i hY1
      rw [hlm] at hY1 ⊢
      rw [if_neg (by omega)] at hle
      refine .a ⟨b + p.ls.length, .val (.int i), .val (.int (p.ls.length : Int)), s5, ⟨by omega, htt.symm, ?_⟩, ?_⟩
      · rw [hle, htk, lastOr_snoc, show a - (b + p.ls.length) = a - b - p.ls.length by omega]
      · rw [Int.natCast_add]
  · rintro G ⟨b, s3, s4, s5, ⟨hb, hbt, hle⟩, rfl⟩
    rw [Int.toNat_natCast, List.take_length] at hbt
    omega
end
end Lk69

namespace Lk69
open PySem L2 Ab Pg PySem.W
local macro_rules | `(tactic| walk_at "x") => `(tactic| first
  | ((with_reducible refine' we_kst ?h1 ?_); (case h1 => assumption))
  | ((with_reducible refine' ws_retDN ?hh ?_); (case hh => exact rfl))
  | with_reducible refine we_nget ?_
  | with_reducible refine we_nget1 ?_
  | with_reducible refine we_nin ?_
  | with_reducible refine we_nnotin ?_
  | with_reducible refine we_nnew ?_
  | with_reducible refine we_ndisp1 ?_
  | with_reducible refine ws_nput ?_
  | with_reducible refine we_nlist ?_
  | fail "x9")
local macro_rules | `(tactic| walk_at "x") => `(tactic| first | with_reducible refine we_chainI3 ?_ | fail "xc3")
local macro_rules | `(tactic| walk_at "nn") => `(tactic| all_goals try (first | exact Bool.noConfusion (show false = true by assumption) | exact Bool.noConfusion (show true = false by assumption)))
section
variable {K : PySem.W.Frag} {c F cN cB cS : Addr} {w : World}
theorem flS_snoc (ls : List Pn) (l : Pn) : flS (ls ++ [l]) = flS ls + l.fl.length := by unfold flS; rw [List.map_append, List.sum_append]; simp
theorem run_lns : RunOk K [0] (t__law_lines K ap_take4 ap_hs) 9 ap_lns := by
  rintro as Post ⟨b, n, f, s, he, ho, k⟩
  obtain ⟨a0, a1, a2, a3, a4, a5, a6, a7, a8, hs, h0, h1, h2, h3, h4, h5, h6, h7, h8⟩ := s.at_
  unfold Sc.dt at he
  rw [hs] at he
  walk_at "cs"
  unfold t__law_lines
  refine ws_norm (by walk_at "norm") ?_
  refine ws_seq ?_
  walk_at "gx"
  refine ws_seq ?_
  refine for_range1H ?_
  walk_at "gx"
  refine .a ⟨n, rfl, by omega, by omega, fun i G => ∃ ls : List Pn, EnvT [SPool4 (b + 3 * i), SIs (.val (.int n)), SIs (.val (.int (f + flS ls : Nat))), SIs (.val (.lst ([a0, a1, a2, a3, a4, a5, a6, a7, a8].map Dt.int))), SIs (.acc (ls.map Pn.dt)), SAny, SAny, SAny, SAny] G ∧ ls.length = i ∧ f + flS ls ≤ 2 ∧ ∀ l ∈ ls, PnO l, ⟨[], by walk_at "ty", rfl, by show f + 0 ≤ 2; omega, fun _ h => nomatch h⟩, ?_, ?_⟩
  · rintro i G hi ⟨ls, he, hl, hf, hg⟩
    walk_at "cs"
    refine wg_nameN rfl rfl ?_
    refine norm_intro (by walk_at "norm") ?_
    refine ws_seq ?_
    walk_at "gx"
    rename_i dq srt hq q0 q1
    refine ws_seq ?_
    walk_at "gx"
    obtain ⟨nq, hnq⟩ : ∃ nq : Int, (if decide (srt = 6) = true then (1 : Int) else 0) = nq := ⟨_, rfl⟩
    have hnq2 : 0 ≤ nq ∧ nq ≤ 1 := by rw [← hnq]; split <;> omega
    rw [hnq]
    walk_at "c3"
    walk_at "gx"
    rename_i ns l0 l1 nn
    obtain ⟨nz, rfl, hnz⟩ := ints_of nn
    rw [List.length_map] at l0 l1
    have hns : nz.length ≤ 1 := by omega
    refine ws_cut (fun G => ∃ fz : List Int, (f + flS ls + fz.length ≤ 2 ∧ ∀ z ∈ fz, 1 ≤ z ∧ z ≤ 2000) ∧ EnvT [SPool4 (b + 3 * i + 3), SIs (.val (.int n)), SIs (.val (.int (f + flS ls : Nat))), SIs (.val (.lst ([a0, a1, a2, a3, a4, a5, a6, a7, a8].map Dt.int))), SIs (.acc (ls.map Pn.dt)), SAny, SAny, SIs (.val (.tup (nz.map Dt.int))), SIs (.val (.tup (fz.map Dt.int)))] G) ?_ ?_
    · walk_at "gi"
      · obtain ⟨mq, hmq⟩ : ∃ mq : Int, (if decide (((f + flS ls : Nat) : Int) < 2) = true then (1 : Int) else 0) = mq := ⟨_, rfl⟩
        have hmq2 : 0 ≤ mq ∧ mq ≤ 1 ∧ (mq = 1 → f + flS ls < 2) := by
          rw [← hmq]
          split
          · rename_i h; have := of_decide_eq_true h; omega
          · omega
        rw [hmq]
        walk_at "c3"
        walk_at "gx"
        rename_i fs l2 l3 fn
        obtain ⟨fz, rfl, hfz⟩ := ints_of fn
        rw [List.length_map] at l2 l3
        exact .a ⟨fz, ⟨by omega, hfz⟩, by walk_at "ty"⟩
      · obtain ⟨mq, hmq⟩ : ∃ mq : Int, (if false = true then (1 : Int) else 0) = mq := ⟨_, rfl⟩
        have hmq2 : mq = 0 := by rw [← hmq]; rfl
        rw [hmq]
        walk_at "c3"
        walk_at "gx"
        rename_i fs l2 l3 fn
        obtain ⟨fz, rfl, hfz⟩ := ints_of fn
        rw [List.length_map] at l2 l3
        exact .a ⟨fz, ⟨by omega, hfz⟩, by walk_at "ty"⟩
    · rintro G ⟨fz, ⟨hf1, hf2⟩, he⟩
      walk_at "cs"
      refine ws_seq ?_
      walk_at "gx"
      have e1 : (((f + flS (ls ++ [⟨nz, fz⟩]) : Nat)) : Int) = ((f + flS ls : Nat) : Int) + ((fz.map Dt.int).length : Int) := by
        rw [flS_snoc, List.length_map]
        show ((f + (flS ls + fz.length) : Nat) : Int) = _
        omega
      refine Hold.a ⟨ls ++ [⟨nz, fz⟩], ?_, by rw [List.length_append, hl]; rfl, by rw [flS_snoc]; show f + (flS ls + fz.length) ≤ 2; omega, fun l hl' => ?_⟩
      · rw [e1, List.map_append]
        walk_at "ty"
      · rcases List.mem_append.mp hl' with h | h
        · exact hg l h
        · rw [List.mem_singleton.mp h]
          exact ⟨hns, hnz, hf2⟩
  · rintro G ⟨ls, he, hl, hf, hg⟩
    walk_at "cs"
    walk_at "go"
    refine k ls _ (by omega) hf hg (by walk_at "ty")
theorem flP_snoc (ps : List Pa) (p : Pa) : flP (ps ++ [p]) = flP ps + flS p.ls := by unfold flP; rw [List.map_append, List.sum_append]; simp
theorem cast_fl : ∀ (ls : List Pn), (ls.map fun l => (l.fl.length : Int)).sum = (flS ls : Int)
  | [] => rfl
  | l :: r => by
    have := cast_fl r
    unfold flS at this ⊢
    rw [List.map_cons, List.map_cons, List.sum_cons, List.sum_cons, this]
    omega
inductive TSt : Ty where
  | mk {s : Str} : TSt (.str s)
theorem run_pars : RunOk K [0] (t__law_paragraphs K ap_take4 ap_lns) 13 ap_pars := by
  rintro as Post ⟨b, s, he, ho, k⟩
  obtain ⟨a0, a1, a2, a3, a4, a5, a6, a7, a8, hs, h0, h1, h2, h3, h4, h5, h6, h7, h8⟩ := s.at_
  have hsd : s.dt = .lst ([a0, a1, a2, a3, a4, a5, a6, a7, a8].map Dt.int) := by unfold Sc.dt; rw [hs]
  have L4 : ∀ d ∈ [Dt.int 1, .int 2, .int 2, .int 4], TInt 1 4 d := all_cons (.mk (by decide) (by decide)) (all_cons (.mk (by decide) (by decide)) (all_cons (.mk (by decide) (by decide)) (all_cons (.mk (by decide) (by decide)) all_nil)))
  have L6 : ∀ d ∈ [Dt.int 1, .int 2, .int 3, .int 6], TInt 1 6 d := all_cons (.mk (by decide) (by decide)) (all_cons (.mk (by decide) (by decide)) (all_cons (.mk (by decide) (by decide)) (all_cons (.mk (by decide) (by decide)) all_nil)))
  have L2 : ∀ d ∈ [Dt.str "no", .str "yes"], TSt d := all_cons .mk (all_cons .mk all_nil)
  rw [hsd] at he
  walk_at "cs"
  unfold t__law_paragraphs
  refine ws_norm (by walk_at "norm") ?_
  refine ws_seq ?_
  walk_at "gx"
  refine ws_seq ?_
  walk_at "gx"
  refine ws_seq ?_
  refine for_range1H ?_
  walk_at "gx"
  rename_i dq tq hq q0 q1 dr tr hr r0 r1 d2 cnt hp2 cnt0 cnt1
  refine .a ⟨1 + cnt, rfl, by omega, by omega, fun i G => ∃ ps : List Pa, EnvT [SPool4 (b + 2 + 30 * i), SIs (.val s.dt), SIs (.acc (ps.map Pa.dt)), SIs (.val (.int (flP ps))), SAny, SAny, SAny, SAny, SAny, SAny, SAny, SAny, SIs .un] G ∧ ps.length = i ∧ flP ps ≤ 2 ∧ ∀ p ∈ ps, PaO p, ⟨[], by rw [hsd]; walk_at "ty", rfl, by show 0 ≤ 2; omega, fun _ h => nomatch h⟩, ?_, ?_⟩
  · rintro i G hi ⟨ps, he, hl, hf, hg⟩
    rw [hsd] at he
    walk_at "cs"
    refine wg_nameN rfl rfl ?_
    refine norm_intro (by walk_at "norm") ?_
    have hi4 : i < 4 := by omega
    refine ws_seq ?_
    walk_at "gx"
    rename_i d2 t2 p2 t20 t21
    refine ws_seq ?_
    walk_at "gx"
    rename_i d3 t3 p3 t30 t31
    refine ws_seq ?_
    walk_at "gx"
    rename_i d4 t4 p4 t40 t41
    refine ws_seq ?_
    walk_at "gx"
    refine ws_seq ?_
    walk_at "gx"
    cases ‹TSt _›
    rename_i kp
    refine ws_seq ?_
    walk_at "gx"
    refine ws_seq ?_
    walk_at "gx"
    rename_i d6 t6 p6 t60 t61 d7 t7 p7 t70 t71 d8 t8 p8 t80 t81 d9 t9 p9 t90 t91
    refine .a ⟨b + 2 + 30 * i + 9, 1 + t2, flP ps, s, by rw [hsd]; walk_at "ty", by omega, fun ls as' e1 e2 e3 he => ?_⟩
    walk_at "cs"
    walk_at "gx"
    refine ws_seq ?_
    walk_at "gx"
    refine lc_tupV ls Pn.dt (fun l => Dt.int l.fl.length) (fun _ => true) ?_ ?_ ?_
    · walk_at "gi"
      exact .a ⟨rfl, by omega, rfl, rfl, rfl⟩
    · intro x _
      obtain ⟨xn, xf⟩ := x
      walk_at "gi"
      exact .a ⟨rfl, congrArg (fun n : Nat => Dt.int (n : Int)) (List.length_map _), rfl⟩
    rw [Ab.filter_tt]
    walk_at "gx"
    refine .a ⟨ls.map fun l => (l.fl.length : Int), by rw [List.map_map]; rfl, ?_⟩
    rw [cast_fl]
    walk_at "gx"
    have e4 : ((flP (ps ++ [⟨ls, 1 + t3, 1 + t4, kp, t6 * t7, t8 * t9⟩]) : Nat) : Int) = (flP ps : Int) + (flS ls : Int) := by rw [flP_snoc]; exact Int.natCast_add _ _
    have m1 : 0 ≤ t6 * t7 ∧ t6 * t7 ≤ 100 := by
      rcases (by omega : t6 = 0 ∨ t6 = 1) with rfl | rfl <;> omega
    have m2 : 0 ≤ t8 * t9 ∧ t8 * t9 ≤ 100 := by
      rcases (by omega : t8 = 0 ∨ t8 = 1) with rfl | rfl <;> omega
    refine Hold.a ⟨ps ++ [⟨ls, 1 + t3, 1 + t4, kp, t6 * t7, t8 * t9⟩], ?_, by rw [List.length_append, hl]; rfl, by rw [flP_snoc]; exact e2, fun l hl' => ?_⟩
    · rw [e4, List.map_append, hsd]
      walk_at "ty"
    · rcases List.mem_append.mp hl' with h | h
      · exact hg l h
      · rw [List.mem_singleton.mp h]
        exact ⟨by show ls.length ≤ 6; omega, by show 1 ≤ 1 + t3 ∧ 1 + t3 ≤ 99; omega, m1, m2, e3⟩
  · rintro G ⟨ps, he, hl, hf, hg⟩
    rw [hsd] at he
    walk_at "cs"
    walk_at "go"
    refine k ps _ (by omega) hf hg (by walk_at "ty")
end
end Lk69

namespace Lk69
open PySem L2 Ab Pg PySem.W
local macro_rules | `(tactic| walk_at "x") => `(tactic| first
  | ((with_reducible refine' we_kst ?h1 ?_); (case h1 => assumption))
  | ((with_reducible refine' ws_retDN ?hh ?_); (case hh => exact rfl))
  | with_reducible refine we_nget ?_
  | with_reducible refine we_nget1 ?_
  | with_reducible refine we_nin ?_
  | with_reducible refine we_nnotin ?_
  | with_reducible refine we_nnew ?_
  | with_reducible refine we_ndisp1 ?_
  | with_reducible refine ws_nput ?_
  | with_reducible refine we_nlist ?_
  | fail "x9")
local macro_rules | `(tactic| walk_at "x") => `(tactic| first | with_reducible refine we_chainI3 ?_ | fail "xc3")
local macro_rules | `(tactic| walk_at "nn") => `(tactic| all_goals try (first | exact Bool.noConfusion (show false = true by assumption) | exact Bool.noConfusion (show true = false by assumption)))
section
variable {K : PySem.W.Frag} {c F cN cB cS : Addr} {w : World}
theorem cast_tot : ∀ (ps : List Pa), (ps.map fun p => (p.ls.length : Int)).sum = (tots ps : Int)
  | [] => rfl
  | l :: r => by
    have := cast_tot r
    unfold tots at this ⊢
    rw [List.map_cons, List.map_cons, List.sum_cons, List.sum_cons, this]
    omega
theorem run_law (hx : PySem.W.exmOne K (.ref cN) (.ref cN) = some true) : RunOk K [] (t_law K cN ap_pool4 ap_rg ap_fk (ap_frm F) ap_take4 ap_pars ap_mg (ap_bp F cN) ap_paged ap_plc ap_lets) 13 ap_law := by
  rintro as Post ⟨ns, rfl, k⟩
  unfold t_law
  show WS K [] _ [.val (.scr ns), .un, .un, .un, .un, .un, .un, .un, .un, .un, .un, .un, .un] _
  refine ws_seq ?_
  walk_at "gx"
  refine .a ⟨ns, 1, rfl, by omega, by omega, fun d0 h0 => ?_⟩
  have u0 := Pg.Pool4.up h0 (b := 0) (by omega) (by omega)
  walk_at "gx"
  refine ws_seq ?_
  walk_at "gx"
  cases ‹TSc _›
  rename_i d1 u1 sc
  walk_at "gx"
  refine ws_seq ?_
  walk_at "gx"
  cases ‹TKey _›
  rename_i d2 u2 r hk
  walk_at "gx"
  refine ws_seq ?_
  walk_at "gx"
  rename_i d3 w3 u3 w30 w31
  refine .a ⟨r, w3, rfl, ?_⟩
  walk_at "gx"
  refine ws_seq ?_
  have hc := hk.c
  walk_at "gx"
  refine .a ⟨ns, 0, rfl, by omega, by omega, fun d5 h5 => ?_⟩
  have u5 := Pg.Pool4.up h5 (b := 0) (by omega) (by omega)
  walk_at "gx"
  rename_i ps as' g1 g2
  intro g3 he
  walk_at "cs"
  walk_at "gx"
  refine ws_frz 5 rfl ?_
  refine ws_norm (by walk_at "norm") ?_
  have htt := tots_le g3
  have hgl : (gal none ps).length = tots ps := gal_len none ps
  have hgf : (flo (gal none ps)).length = flP ps := gal_flo none ps
  have hgo := gal_ok none ps g3 (fun _ h => nomatch h)
  generalize hg : gal none ps = g at hgl hgf hgo
  have hgok : Gok g := ⟨by omega, by omega⟩
  have hgb : GB g := ⟨hgok, fun l hl => by
    have h := hgo l hl
    exact ⟨by have := h.h; omega, h.sp.1, fun n hn => by have := h.nn n hn; omega, fun x hx => by have := h.fl x hx; omega⟩⟩
  have hfb : FB r := ⟨by have := hk.h; omega, by have := hk.h; omega, hk.rule.1, hk.under.1⟩
  have hpb : PB g r := PB.of3 hgb hfb (by omega) (by omega) hk.wait.2 fun h => by omega
  refine ws_seq ?_
  walk_at "gx"
  refine .a ⟨ps, rfl, ⟨g3, by omega⟩, ?_⟩
  rw [hg]
  walk_at "gx"
  refine ws_seq ?_
  walk_at "gx"
  refine ws_seq ?_
  walk_at "gx"
  refine ws_cut (fun G => ∃ (a7 : Sl) (f : Bool), (f = false → ∃ qs, Opti g r Pg.start qs ∧ a7 = .val (ansD qs)) ∧ G = [.val (.scr ns), .acc d3, .val sc.dt, .val (keyD r), .val (frD F r), .val (.lst (ps.map Pa.dt)), .val (galD g), a7, .val (.bl f), .un, .un, .un, .un]) ?_ ?_
  · refine (ws_tryO (fun cls fs G => cls = .ref cN ∧ G = [.val (.scr ns), .acc d3, .val sc.dt, .val (keyD r), .val (frD F r), .val (.lst (ps.map Pa.dt)), .val (galD g), .val .non, .val (.bl false), .un, .un, .un, .un]) (fun W => ?_) ?_)
    · refine ws_asgX rfl rfl (wx_call rfl ?_)
      walk_at "gx"
      refine .a ⟨g, r, rfl, hpb, fun hno m' hm1 hm2 => .a ⟨rfl, rfl⟩, fun qs hqs => ?_⟩
      walk_at "gi"
      exact .a ⟨_, false, fun _ => ⟨qs, hqs, rfl⟩, rfl⟩
    · rintro cls fs G ⟨rfl, rfl⟩
      refine ⟨true, hx, fun _ => ?_, fun h => nomatch h⟩
      walk_at "gi"
      exact .a ⟨_, true, fun h => (nomatch h), rfl⟩
  rintro G ⟨a7, f, hf2, rfl⟩
  cases f with
  | true =>
    walk_at "gi"
    exact k
  | false =>
    obtain ⟨qs, hqs, rfl⟩ := hf2 rfl
    have hup := hqs.path.up
    have hpl : qs.length ≤ 66 := by
      have e1 : pot (goalOf g) = g.length + (flo g).length := rfl
      have e2 : pot Pg.start = 0 := rfl
      omega
    have ha : ansD qs = .tup [.int (tot qs), .tup (qs.map stpD)] := rfl
    have hch : Chain g.length 0 qs := path_chain hqs.path rfl
    have hcu : ∀ a ∈ plc qs, CutOk g a := path_cuts hqs.path (.inl rfl)
    refine ws_seq ?_
    walk_at "gx"
    refine ws_seq ?_
    walk_at "gx"
    refine .a ⟨qs, rfl, by omega, ?_⟩
    walk_at "gx"
    refine ws_seq ?_
    walk_at "gx"
    refine lc_lstV ps Pa.dt (fun p => Dt.int p.ls.length) (fun _ => true) ?_ ?_ ?_
    · walk_at "gi"
      exact .a ⟨rfl, by omega, rfl, rfl, rfl⟩
    · intro x _
      obtain ⟨ls, x1, x2, x3, x4, x5⟩ := x
      walk_at "gi"
      exact .a ⟨rfl, congrArg (fun n : Nat => Dt.int (n : Int)) (List.length_map _), rfl⟩
    rw [Ab.filter_tt]
    walk_at "gx"
    refine .a ⟨ps.map fun p => (p.ls.length : Int), by rw [List.map_map]; rfl, ?_⟩
    rw [cast_tot, ← hgl]
    walk_at "gx"
    refine ws_seq ?_
    rw [ha]
    walk_at "gx"
    refine .a ⟨qs, g.length, rfl, ⟨by omega, hch⟩, ?_⟩
    walk_at "gx"
    refine ws_seq ?_
    walk_at "gx"
    have hpc := plc_len qs
    refine lc_accP (plc qs) (fun a : Nat => Dt.int a) (fun a : Nat => Dt.int a) (fun _ => false) rfl (by omega) rfl rfl ?_ ?_
    · intro a ha'
      have hca := hcu a ha'
      walk_at "gi"
      · rename_i hY1 hY2
        refine .a ⟨ps, a, rfl, ⟨by omega, by omega, by omega⟩, ?_⟩
        have hl : lets none ps a = true := by
          rw [← cut_gal, hg]
          rcases hca with h | h | h
          · omega
          · omega
          · exact h
        rw [hl]
        walk_at "gi"
        walk_at "nn"
        all_goals exact .a ⟨rfl, rfl⟩
      all_goals walk_at "nn"
      all_goals (first | exact .a ⟨rfl, rfl⟩ | trace_state)
    · have hz : ((plc qs).filter fun _ => false) = [] := List.filter_eq_nil_iff.mpr fun _ _ h => nomatch h
      rw [hz]
      walk_at "gi"
      exact k
end
section
variable {P : Program} {w : World} {K : PySem.W.Frag} {mg : Str → Option Value} {base : Heap}
theorem gsOk (T : Txt P K mg) : GSok K T.c_GalleySums := ⟨T.co_GalleySums, T.na_GalleySums_lines, T.na_GalleySums_spaces, T.na_GalleySums_cuts, T.na_GalleySums_floats, T.na_GalleySums_tops, T.na_GalleySums_noted, T.na_GalleySums_marked⟩
theorem frOk (T : Txt P K mg) : FRok K T.c_Frame := ⟨T.co_Frame, T.na_Frame_height, T.na_Frame_columns, T.na_Frame_rule, T.na_Frame_under, T.na_Frame_wait, T.na_Frame_late, T.na_Frame_uneven⟩
theorem sT (T : Txt P K mg) : KSt K T.c_START := ⟨T.e_START, T.k_START, T.ke_START⟩
theorem exm_self (T : Txt P K mg) : PySem.W.exmOne K (.ref T.c_NoPages) (.ref T.c_NoPages) = some true := PySem.W.exm_ref T.bs_NoPages T.hd_NoPages T.tx_NoPages (subTab_at T.ks_ev (i := 0) (j := 0) rfl rfl)
theorem ok_space_and_cut (T : Txt P K mg) : FnOk P w K mg base CX0 1 T.f_space_and_cut T.fd_space_and_cut ["paragraph", "previous"] (toSp K (ap_sc)) := by
  exact fn_ab [] T.F_space_and_cut sc_space_and_cut (by walk_at "len") rfl (fun cdv A outer s H E hr => ⟨_, tm_space_and_cut T cdv A outer s H E hr, run_sc⟩)
theorem ok_paragraph_lines (T : Txt P K mg) : FnOk P w K mg base CX0 2 T.f_paragraph_lines T.fd_paragraph_lines ["paragraph", "previous"] (toSp K (ap_pl)) := by
  have G_space_and_cut := ok_space_and_cut (P := P) (w := w) (base := base) T
  exact fn_ab [] T.F_paragraph_lines sc_paragraph_lines (by walk_at "len") rfl (fun cdv A outer s H E hr => ⟨_, tm_paragraph_lines T G_space_and_cut cdv A outer s H E hr, run_pl⟩)
theorem ok_make_galley (T : Txt P K mg) : FnOk P w K mg base CX0 3 T.f_make_galley T.fd_make_galley ["paragraphs"] (toSp K (ap_mg)) := by
  have G_paragraph_lines := ok_paragraph_lines (P := P) (w := w) (base := base) T
  exact fn_ab [] T.F_make_galley sc_make_galley (by walk_at "len") rfl (fun cdv A outer s H E hr => ⟨_, tm_make_galley T G_paragraph_lines cdv A outer s H E hr, run_mg⟩)
theorem ok_end_state (T : Txt P K mg) : FnOk P w K mg base CX0 1 T.f_end_state T.fd_end_state ["galley"] (toSp K (ap_es)) := by
  exact fn_ab [] T.F_end_state sc_end_state (by walk_at "len") rfl (fun cdv A outer s H E hr => ⟨_, tm_end_state T cdv A outer s H E hr, run_es⟩)
theorem ok_GalleySums___init__ (T : Txt P K mg) : FnOk P w K mg base CX0 1 T.f_GalleySums___init__ T.fd_GalleySums___init__ ["self", "galley"] (toSpI K T.c_GalleySums ai_GS) := by
  exact fn_initJ T.F_GalleySums___init__ sc_GalleySums___init__ (by rintro ds Post ⟨_, rfl, _⟩; rfl) rfl (fun cdv A outer s H E hr => ⟨_, tm_GalleySums___init__ T cdv A outer s H E hr, run_init (gsOk T)⟩)
theorem ok_GalleySums_column_height (T : Txt P K mg) : FnOk P w K mg base CX0 1 T.f_GalleySums_column_height T.fd_GalleySums_column_height ["self", "start", "end"] (toSp K (ap_ch T.c_GalleySums)) := by
  exact fn_ab [] T.F_GalleySums_column_height sc_GalleySums_column_height (by walk_at "len") rfl (fun cdv A outer s H E hr => ⟨_, tm_GalleySums_column_height T cdv A outer s H E hr, run_ch (gsOk T)⟩)
theorem ok_GalleySums_page_room (T : Txt P K mg) : FnOk P w K mg base CX0 1 T.f_GalleySums_page_room T.fd_GalleySums_page_room ["self", "frame", "state", "end", "floats_end"] (toSp K (ap_pr T.c_GalleySums T.c_Frame)) := by
  exact fn_ab [] T.F_GalleySums_page_room sc_GalleySums_page_room (by walk_at "len") rfl (fun cdv A outer s H E hr => ⟨_, tm_GalleySums_page_room T cdv A outer s H E hr, run_pr (gsOk T) (frOk T)⟩)
theorem ok_GalleySums_next_ages (T : Txt P K mg) : FnOk P w K mg base CX0 1 T.f_GalleySums_next_ages T.fd_GalleySums_next_ages ["self", "state", "end", "floats_end"] (toSp K (ap_na T.c_GalleySums)) := by
  exact fn_ab [] T.F_GalleySums_next_ages sc_GalleySums_next_ages (by walk_at "len") rfl (fun cdv A outer s H E hr => ⟨_, tm_GalleySums_next_ages T cdv A outer s H E hr, run_na (gsOk T)⟩)
theorem ok_column_splits (T : Txt P K mg) : FnOk P w K mg base CX0 2 T.f_column_splits T.fd_column_splits ["sums", "frame", "line", "end"] (toSp K (ap_cs T.c_GalleySums T.c_Frame)) := by
  have G_GalleySums_column_height := ok_GalleySums_column_height (P := P) (w := w) (base := base) T
  exact fn_ab [] T.F_column_splits sc_column_splits (by walk_at "len") rfl (fun cdv A outer s H E hr => ⟨_, tm_column_splits T G_GalleySums_column_height cdv A outer s H E hr, run_cs (gsOk T) (frOk T)⟩)
theorem ok_page_price (T : Txt P K mg) : FnOk P w K mg base CX0 1 T.f_page_price T.fd_page_price ["frame", "slack", "difference", "pending"] (toSp K (ap_pp T.c_Frame)) := by
  exact fn_ab [] T.F_page_price sc_page_price (by walk_at "len") rfl (fun cdv A outer s H E hr => ⟨_, tm_page_price T cdv A outer s H E hr, run_pp (frOk T)⟩)
theorem ok_options_to (T : Txt P K mg) : FnOk P w K mg base CX0 2 T.f_options_to T.fd_options_to ["sums", "frame", "state", "end", "splits"] (toSp K (ap_to T.c_GalleySums T.c_Frame)) := by
  have G_GalleySums_next_ages := ok_GalleySums_next_ages (P := P) (w := w) (base := base) T
  have G_GalleySums_page_room := ok_GalleySums_page_room (P := P) (w := w) (base := base) T
  have G_page_price := ok_page_price (P := P) (w := w) (base := base) T
  exact fn_ab [4] T.F_options_to sc_options_to (by walk_at "len") rfl (fun cdv A outer s H E hr => ⟨_, tm_options_to T G_GalleySums_next_ages G_GalleySums_page_room G_page_price cdv A outer s H E hr, run_to (gsOk T) (frOk T)⟩)
theorem ok_options_from (T : Txt P K mg) : FnOk P w K mg base CX0 3 T.f_options_from T.fd_options_from ["sums", "frame", "state"] (toSp K (ap_of T.c_GalleySums T.c_Frame)) := by
  have G_column_splits := ok_column_splits (P := P) (w := w) (base := base) T
  have G_options_to := ok_options_to (P := P) (w := w) (base := base) T
  exact fn_ab [] T.F_options_from sc_options_from (by walk_at "len") rfl (fun cdv A outer s H E hr => ⟨_, tm_options_from T G_column_splits G_options_to cdv A outer s H E hr, run_of (gsOk T) (frOk T)⟩)
theorem ok_reached_states (T : Txt P K mg) : FnOk P w K mg base CX0 4 T.f_reached_states T.fd_reached_states ["galley", "frame"] (toSp K (ap_rs w T.c_Frame)) := by
  have G_GalleySums___init__ := ok_GalleySums___init__ (P := P) (w := w) (base := base) T
  have G_options_from := ok_options_from (P := P) (w := w) (base := base) T
  exact fn_ab [] T.F_reached_states sc_reached_states (by walk_at "len") rfl (fun cdv A outer s H E hr => ⟨_, tm_reached_states T G_GalleySums___init__ G_options_from cdv A outer s H E hr, run_rs (sT T)⟩)
theorem ok_greatest_line (T : Txt P K mg) : FnOk P w K mg base CX0 1 T.f_greatest_line T.fd_greatest_line ["reached"] (toSp K (ap_gr w)) := by
  exact fn_ab [0] T.F_greatest_line sc_greatest_line (by walk_at "len") rfl (fun cdv A outer s H E hr => ⟨_, tm_greatest_line T cdv A outer s H E hr, run_gr⟩)
theorem ok_cheapest_to_end (T : Txt P K mg) : FnOk P w K mg base CX0 1 T.f_cheapest_to_end T.fd_cheapest_to_end ["reached", "goal"] (toSp K (ap_ce w)) := by
  exact fn_ab [0] T.F_cheapest_to_end sc_cheapest_to_end (by walk_at "len") rfl (fun cdv A outer s H E hr => ⟨_, tm_cheapest_to_end T cdv A outer s H E hr, run_ce⟩)
theorem ok_break_pages (T : Txt P K mg) : FnOk P w K mg base (L2.CX P w) 5 T.f_break_pages T.fd_break_pages ["galley", "frame"] (toSpX K (ap_bp T.c_Frame T.c_NoPages)) := by
  have G_reached_states := ok_reached_states (P := P) (w := w) (base := base) T
  have G_end_state := ok_end_state (P := P) (w := w) (base := base) T
  have G_cheapest_to_end := ok_cheapest_to_end (P := P) (w := w) (base := base) T
  have G_greatest_line := ok_greatest_line (P := P) (w := w) (base := base) T
  have GE_NoPages := okE_NoPages (P := P) (w := w) (base := base) T
  exact fn_abX [] T.F_break_pages sc_break_pages (by rintro as Post XP ⟨g, r, rfl, _⟩; rfl) rfl _ (fun cdv A outer s H E hr => tm_break_pages T G_reached_states G_end_state G_cheapest_to_end G_greatest_line GE_NoPages cdv A outer s H E hr) (run_bp (sT T))
theorem ok_Frame_of (T : Txt P K mg) : FnOk P w K mg base CX0 3 T.f_Frame_of T.fd_Frame_of ["key"] (toSp K (ap_fof T.c_Frame)) := by
  have G_Frame___init__ := ok_Frame___init__ (P := P) (w := w) (base := base) T
  exact fn_ab [] T.F_Frame_of sc_Frame_of (by walk_at "len") rfl (fun cdv A outer s H E hr => ⟨_, tm_Frame_of T G_Frame___init__ cdv A outer s H E hr, run_fof⟩)
theorem ok__law_pool (T : Txt P K mg) : FnOk P w K mg base CX0 1 T.f__law_pool T.fd__law_pool ["_law_script", "_law_at"] (toSp K (ap_pool4)) := by
  exact fn_ab [] T.F__law_pool sc__law_pool (by walk_at "len") rfl (fun cdv A outer s H E hr => ⟨_, tm__law_pool T cdv A outer s H E hr, run_tPool4⟩)
theorem ok__law_take (T : Txt P K mg) : FnOk P w K mg base CX0 1 T.f__law_take T.fd__law_take ["_law_pool_here", "_law_many"] (toSp K (ap_take4)) := by
  exact fn_ab [0] T.F__law_take sc__law_take (by walk_at "len") rfl (fun cdv A outer s H E hr => ⟨_, tm__law_take T cdv A outer s H E hr, run_tTakeD4⟩)
theorem ok__law_number (T : Txt P K mg) : FnOk P w K mg base CX0 1 T.f__law_number T.fd__law_number ["_law_thing"] (toSp K (ap_num)) := by
  exact fn_ab [] T.F__law_number sc__law_number (by walk_at "len") rfl (fun cdv A outer s H E hr => ⟨_, tm__law_number T cdv A outer s H E hr, run_num⟩)
theorem ok__law_numbers (T : Txt P K mg) : FnOk P w K mg base CX0 2 T.f__law_numbers T.fd__law_numbers ["_law_thing", "_law_many"] (toSp K (ap_nums)) := by
  have G__law_number := ok__law_number (P := P) (w := w) (base := base) T
  exact fn_ab [] T.F__law_numbers sc__law_numbers (by walk_at "len") rfl (fun cdv A outer s H E hr => ⟨_, tm__law_numbers T G__law_number cdv A outer s H E hr, run_nums⟩)
theorem ok__law_paged (T : Txt P K mg) : FnOk P w K mg base CX0 3 T.f__law_paged T.fd__law_paged ["_law_answer"] (toSp K (ap_paged)) := by
  have G__law_number := ok__law_number (P := P) (w := w) (base := base) T
  have G__law_numbers := ok__law_numbers (P := P) (w := w) (base := base) T
  exact fn_ab [] T.F__law_paged sc__law_paged (by walk_at "len") rfl (fun cdv A outer s H E hr => ⟨_, tm__law_paged T G__law_number G__law_numbers cdv A outer s H E hr, run_paged⟩)
theorem ok__law_ranges (T : Txt P K mg) : FnOk P w K mg base CX0 2 T.f__law_ranges T.fd__law_ranges ["_law_pool_here"] (toSp K (ap_rg)) := by
  have G__law_take := ok__law_take (P := P) (w := w) (base := base) T
  exact fn_ab [0] T.F__law_ranges sc__law_ranges (by walk_at "len") rfl (fun cdv A outer s H E hr => ⟨_, tm__law_ranges T G__law_take cdv A outer s H E hr, run_rg⟩)
theorem ok__law_frame_key (T : Txt P K mg) : FnOk P w K mg base CX0 2 T.f__law_frame_key T.fd__law_frame_key ["_law_pool_here", "_law_scale"] (toSp K (ap_fk)) := by
  have G__law_take := ok__law_take (P := P) (w := w) (base := base) T
  exact fn_ab [0] T.F__law_frame_key sc__law_frame_key (by walk_at "len") rfl (fun cdv A outer s H E hr => ⟨_, tm__law_frame_key T G__law_take cdv A outer s H E hr, run_fk⟩)
theorem ok__law_frame (T : Txt P K mg) : FnOk P w K mg base CX0 4 T.f__law_frame T.fd__law_frame ["_law_key", "_law_way"] (toSp K (ap_frm T.c_Frame)) := by
  have G_Frame_of := ok_Frame_of (P := P) (w := w) (base := base) T
  have G_Frame___init__ := ok_Frame___init__ (P := P) (w := w) (base := base) T
  exact fn_ab [] T.F__law_frame sc__law_frame (by walk_at "len") rfl (fun cdv A outer s H E hr => ⟨_, tm__law_frame T G_Frame_of G_Frame___init__ cdv A outer s H E hr, run_frm⟩)
theorem ok__law_heights (T : Txt P K mg) : FnOk P w K mg base CX0 2 T.f__law_heights T.fd__law_heights ["_law_pool_here", "_law_many", "_law_tall"] (toSp K (ap_hs)) := by
  have G__law_take := ok__law_take (P := P) (w := w) (base := base) T
  exact fn_ab [0] T.F__law_heights sc__law_heights (by walk_at "len") rfl (fun cdv A outer s H E hr => ⟨_, tm__law_heights T G__law_take cdv A outer s H E hr, run_hs⟩)
theorem ok__law_lines (T : Txt P K mg) : FnOk P w K mg base CX0 3 T.f__law_lines T.fd__law_lines ["_law_pool_here", "_law_many", "_law_floats", "_law_scale"] (toSp K (ap_lns)) := by
  have G__law_take := ok__law_take (P := P) (w := w) (base := base) T
  have G__law_heights := ok__law_heights (P := P) (w := w) (base := base) T
  exact fn_ab [0] T.F__law_lines sc__law_lines (by walk_at "len") rfl (fun cdv A outer s H E hr => ⟨_, tm__law_lines T G__law_take G__law_heights cdv A outer s H E hr, run_lns⟩)
theorem ok__law_paragraphs (T : Txt P K mg) : FnOk P w K mg base CX0 4 T.f__law_paragraphs T.fd__law_paragraphs ["_law_pool_here", "_law_scale"] (toSp K (ap_pars)) := by
  have G__law_take := ok__law_take (P := P) (w := w) (base := base) T
  have G__law_lines := ok__law_lines (P := P) (w := w) (base := base) T
  exact fn_ab [0] T.F__law_paragraphs sc__law_paragraphs (by walk_at "len") rfl (fun cdv A outer s H E hr => ⟨_, tm__law_paragraphs T G__law_take G__law_lines cdv A outer s H E hr, run_pars⟩)
theorem ok__law_places (T : Txt P K mg) : FnOk P w K mg base CX0 1 T.f__law_places T.fd__law_places ["_law_pages", "_law_many"] (toSp K (ap_plc)) := by
  exact fn_ab [] T.F__law_places sc__law_places (by walk_at "len") rfl (fun cdv A outer s H E hr => ⟨_, tm__law_places T cdv A outer s H E hr, run_plc⟩)
theorem ok__law_lets (T : Txt P K mg) : FnOk P w K mg base CX0 1 T.f__law_lets T.fd__law_lets ["_law_rows", "_law_place"] (toSp K (ap_lets)) := by
  exact fn_ab [] T.F__law_lets sc__law_lets (by walk_at "len") rfl (fun cdv A outer s H E hr => ⟨_, tm__law_lets T cdv A outer s H E hr, run_lets⟩)
theorem ok_law (T : Txt P K mg) : FnOk P w K mg base CX0 6 T.f_law T.fd_law ["_law_script"] (toSp K (ap_law)) := by
  have G__law_pool := ok__law_pool (P := P) (w := w) (base := base) T
  have G__law_ranges := ok__law_ranges (P := P) (w := w) (base := base) T
  have G__law_frame_key := ok__law_frame_key (P := P) (w := w) (base := base) T
  have G__law_frame := ok__law_frame (P := P) (w := w) (base := base) T
  have G__law_take := ok__law_take (P := P) (w := w) (base := base) T
  have G__law_paragraphs := ok__law_paragraphs (P := P) (w := w) (base := base) T
  have G_make_galley := ok_make_galley (P := P) (w := w) (base := base) T
  have G_break_pages := ok_break_pages (P := P) (w := w) (base := base) T
  have G__law_paged := ok__law_paged (P := P) (w := w) (base := base) T
  have G__law_places := ok__law_places (P := P) (w := w) (base := base) T
  have G__law_lets := ok__law_lets (P := P) (w := w) (base := base) T
  exact fn_ab [] T.F_law sc_law (by walk_at "len") rfl (fun cdv A outer s H E hr => ⟨_, tm_law T G__law_pool G__law_ranges G__law_frame_key G__law_frame G__law_take G__law_paragraphs G_make_galley G_break_pages G__law_paged G__law_places G__law_lets cdv A outer s H E hr, run_law (exm_self T)⟩)
end
theorem law_pre {ns : List Int} (hl : ns.length ≤ 63) {Post : Re → List Sl → Prop} (hp : ∀ as, Post (.val (.bl true)) as) : ap_law [.val (.scr ns)] Post := ⟨ns, rfl, hp _⟩
end Lk69

namespace Lk69
open PySem L2 Ab
theorem fin_mk {l : PySem.W.OpenLaw} {w : World} {K : PySem.W.Frag} {h : Heap} {mg : Str → Option Value} {fa : Addr} (X : K.In h) (G : h.Ns mainGlobals mg) (hfa : mg "law" = some (.ref fa))
    {c_GalleySums : Addr} (aGalleySums : PySem.W.nsIn K mainGlobals "GalleySums" = some (some (.ref c_GalleySums)))
    (pgGalleySums : PySem.W.plainGet K c_GalleySums Str.empty = true) (hdGalleySums : PySem.W.hasDictIn K c_GalleySums = true) (poGalleySums : PySem.W.plainOver K c_GalleySums = true) (saGalleySums : PySem.W.findIn K (.ref c_GalleySums) "__setattr__" = some (some (.builtin "object.__setattr__"))) (mkGalleySums : PySem.W.makesIn K c_GalleySums = true) (kcGalleySums : PySem.W.keepIn K (.ref c_GalleySums) = true)
    (haGalleySums : PySem.W.findIn K (.ref c_GalleySums) "__class__" = some (some (.builtin "object.__class__"))) (hmGalleySums : PySem.W.mroIn K c_GalleySums (.type "object") = some true)
    (naGalleySums_lines : PySem.W.findIn K (.ref c_GalleySums) "lines" = some none)
    (naGalleySums_spaces : PySem.W.findIn K (.ref c_GalleySums) "spaces" = some none)
    (naGalleySums_cuts : PySem.W.findIn K (.ref c_GalleySums) "cuts" = some none)
    (naGalleySums_floats : PySem.W.findIn K (.ref c_GalleySums) "floats" = some none)
    (naGalleySums_tops : PySem.W.findIn K (.ref c_GalleySums) "tops" = some none)
    (naGalleySums_noted : PySem.W.findIn K (.ref c_GalleySums) "noted" = some none)
    (naGalleySums_marked : PySem.W.findIn K (.ref c_GalleySums) "marked" = some none)
    {c_Frame : Addr} (aFrame : PySem.W.nsIn K mainGlobals "Frame" = some (some (.ref c_Frame)))
    (pgFrame : PySem.W.plainGet K c_Frame Str.empty = true) (hdFrame : PySem.W.hasDictIn K c_Frame = true) (poFrame : PySem.W.plainOver K c_Frame = true) (saFrame : PySem.W.findIn K (.ref c_Frame) "__setattr__" = some (some (.builtin "object.__setattr__"))) (mkFrame : PySem.W.makesIn K c_Frame = true) (kcFrame : PySem.W.keepIn K (.ref c_Frame) = true)
    (haFrame : PySem.W.findIn K (.ref c_Frame) "__class__" = some (some (.builtin "object.__class__"))) (hmFrame : PySem.W.mroIn K c_Frame (.type "object") = some true)
    (rdFrame : PySem.W.readsIn K c_Frame (.type "type") = true) (gaFrame : PySem.W.specialIn K (.ref c_Frame) "__getattribute__" = some (some (.builtin "type.__getattribute__")))
    (naFrame_height : PySem.W.findIn K (.ref c_Frame) "height" = some none)
    (naFrame_columns : PySem.W.findIn K (.ref c_Frame) "columns" = some none)
    (naFrame_rule : PySem.W.findIn K (.ref c_Frame) "rule" = some none)
    (naFrame_under : PySem.W.findIn K (.ref c_Frame) "under" = some none)
    (naFrame_wait : PySem.W.findIn K (.ref c_Frame) "wait" = some none)
    (naFrame_late : PySem.W.findIn K (.ref c_Frame) "late" = some none)
    (naFrame_uneven : PySem.W.findIn K (.ref c_Frame) "uneven" = some none)
    (hnO : PySem.W.specialIn K (.builtin "object.__class__") "__get__" = some (some (.builtin "getset_descriptor.__get__"))) (htO : PySem.W.takesIn K (.builtin "object.__class__") = some true)
    {f0 : Addr} {od0 an0 : Option Addr} {sl0 : Array (Option Value)} {oc0 kV0 dc0 pm0 cd0 ct0 : Value}
    (a0 : PySem.W.nsIn K mainGlobals "space_and_cut" = some (some (.ref f0))) (l0 : K.lookup f0 = some ⟨oc0, od0, .func (PySem.W.fnOf "space_and_cut" "space_and_cut" (defArgs s_space_and_cut) (defBody s_space_and_cut) (defScope s_space_and_cut) .none kV0 dc0 pm0 an0 cd0 ct0), sl0⟩) (c0 : PySem.W.codeIn K cd0 "space_and_cut" = true) (k0 : PySem.W.keepIn K (.ref f0) = true)
    {f1 : Addr} {od1 an1 : Option Addr} {sl1 : Array (Option Value)} {oc1 kV1 dc1 pm1 cd1 ct1 : Value}
    (a1 : PySem.W.nsIn K mainGlobals "paragraph_lines" = some (some (.ref f1))) (l1 : K.lookup f1 = some ⟨oc1, od1, .func (PySem.W.fnOf "paragraph_lines" "paragraph_lines" (defArgs s_paragraph_lines) (defBody s_paragraph_lines) (defScope s_paragraph_lines) .none kV1 dc1 pm1 an1 cd1 ct1), sl1⟩) (c1 : PySem.W.codeIn K cd1 "paragraph_lines" = true) (k1 : PySem.W.keepIn K (.ref f1) = true)
    {f2 : Addr} {od2 an2 : Option Addr} {sl2 : Array (Option Value)} {oc2 kV2 dc2 pm2 cd2 ct2 : Value}
    (a2 : PySem.W.nsIn K mainGlobals "make_galley" = some (some (.ref f2))) (l2 : K.lookup f2 = some ⟨oc2, od2, .func (PySem.W.fnOf "make_galley" "make_galley" (defArgs s_make_galley) (defBody s_make_galley) (defScope s_make_galley) .none kV2 dc2 pm2 an2 cd2 ct2), sl2⟩) (c2 : PySem.W.codeIn K cd2 "make_galley" = true) (k2 : PySem.W.keepIn K (.ref f2) = true)
    {f3 : Addr} {od3 an3 : Option Addr} {sl3 : Array (Option Value)} {oc3 kV3 dc3 pm3 cd3 ct3 : Value}
    (a3 : PySem.W.nsIn K mainGlobals "end_state" = some (some (.ref f3))) (l3 : K.lookup f3 = some ⟨oc3, od3, .func (PySem.W.fnOf "end_state" "end_state" (defArgs s_end_state) (defBody s_end_state) (defScope s_end_state) .none kV3 dc3 pm3 an3 cd3 ct3), sl3⟩) (c3 : PySem.W.codeIn K cd3 "end_state" = true) (k3 : PySem.W.keepIn K (.ref f3) = true)
    {f4 : Addr} {od4 an4 : Option Addr} {sl4 : Array (Option Value)} {oc4 kV4 dc4 pm4 cd4 ct4 : Value}
    (a4 : PySem.W.findIn K (.ref c_GalleySums) "__init__" = some (some (.ref f4))) (l4 : K.lookup f4 = some ⟨oc4, od4, .func (PySem.W.fnOf "__init__" "GalleySums.__init__" (defArgs s_GalleySums___init__) (defBody s_GalleySums___init__) (defScope s_GalleySums___init__) .none kV4 dc4 pm4 an4 cd4 ct4), sl4⟩) (c4 : PySem.W.codeIn K cd4 "GalleySums.__init__" = true) (k4 : PySem.W.keepIn K (.ref f4) = true)
    (i4 : PySem.W.isFn K (.ref f4) = true)
    {f5 : Addr} {od5 an5 : Option Addr} {sl5 : Array (Option Value)} {oc5 kV5 dc5 pm5 cd5 ct5 : Value}
    (a5 : PySem.W.findIn K (.ref c_GalleySums) "column_height" = some (some (.ref f5))) (l5 : K.lookup f5 = some ⟨oc5, od5, .func (PySem.W.fnOf "column_height" "GalleySums.column_height" (defArgs s_GalleySums_column_height) (defBody s_GalleySums_column_height) (defScope s_GalleySums_column_height) .none kV5 dc5 pm5 an5 cd5 ct5), sl5⟩) (c5 : PySem.W.codeIn K cd5 "GalleySums.column_height" = true) (k5 : PySem.W.keepIn K (.ref f5) = true)
    (i5 : PySem.W.isFn K (.ref f5) = true)
    {f6 : Addr} {od6 an6 : Option Addr} {sl6 : Array (Option Value)} {oc6 kV6 dc6 pm6 cd6 ct6 : Value}
    (a6 : PySem.W.findIn K (.ref c_GalleySums) "page_room" = some (some (.ref f6))) (l6 : K.lookup f6 = some ⟨oc6, od6, .func (PySem.W.fnOf "page_room" "GalleySums.page_room" (defArgs s_GalleySums_page_room) (defBody s_GalleySums_page_room) (defScope s_GalleySums_page_room) .none kV6 dc6 pm6 an6 cd6 ct6), sl6⟩) (c6 : PySem.W.codeIn K cd6 "GalleySums.page_room" = true) (k6 : PySem.W.keepIn K (.ref f6) = true)
    (i6 : PySem.W.isFn K (.ref f6) = true)
    {f7 : Addr} {od7 an7 : Option Addr} {sl7 : Array (Option Value)} {oc7 kV7 dc7 pm7 cd7 ct7 : Value}
    (a7 : PySem.W.findIn K (.ref c_GalleySums) "next_ages" = some (some (.ref f7))) (l7 : K.lookup f7 = some ⟨oc7, od7, .func (PySem.W.fnOf "next_ages" "GalleySums.next_ages" (defArgs s_GalleySums_next_ages) (defBody s_GalleySums_next_ages) (defScope s_GalleySums_next_ages) .none kV7 dc7 pm7 an7 cd7 ct7), sl7⟩) (c7 : PySem.W.codeIn K cd7 "GalleySums.next_ages" = true) (k7 : PySem.W.keepIn K (.ref f7) = true)
    (i7 : PySem.W.isFn K (.ref f7) = true)
    {f8 : Addr} {od8 an8 : Option Addr} {sl8 : Array (Option Value)} {oc8 kV8 dc8 pm8 cd8 ct8 : Value}
    (a8 : PySem.W.nsIn K mainGlobals "column_splits" = some (some (.ref f8))) (l8 : K.lookup f8 = some ⟨oc8, od8, .func (PySem.W.fnOf "column_splits" "column_splits" (defArgs s_column_splits) (defBody s_column_splits) (defScope s_column_splits) .none kV8 dc8 pm8 an8 cd8 ct8), sl8⟩) (c8 : PySem.W.codeIn K cd8 "column_splits" = true) (k8 : PySem.W.keepIn K (.ref f8) = true)
    {f9 : Addr} {od9 an9 : Option Addr} {sl9 : Array (Option Value)} {oc9 kV9 dc9 pm9 cd9 ct9 : Value}
    (a9 : PySem.W.nsIn K mainGlobals "page_price" = some (some (.ref f9))) (l9 : K.lookup f9 = some ⟨oc9, od9, .func (PySem.W.fnOf "page_price" "page_price" (defArgs s_page_price) (defBody s_page_price) (defScope s_page_price) .none kV9 dc9 pm9 an9 cd9 ct9), sl9⟩) (c9 : PySem.W.codeIn K cd9 "page_price" = true) (k9 : PySem.W.keepIn K (.ref f9) = true)
    {f10 : Addr} {od10 an10 : Option Addr} {sl10 : Array (Option Value)} {oc10 kV10 dc10 pm10 cd10 ct10 : Value}
    (a10 : PySem.W.nsIn K mainGlobals "options_to" = some (some (.ref f10))) (l10 : K.lookup f10 = some ⟨oc10, od10, .func (PySem.W.fnOf "options_to" "options_to" (defArgs s_options_to) (defBody s_options_to) (defScope s_options_to) .none kV10 dc10 pm10 an10 cd10 ct10), sl10⟩) (c10 : PySem.W.codeIn K cd10 "options_to" = true) (k10 : PySem.W.keepIn K (.ref f10) = true)
    {f11 : Addr} {od11 an11 : Option Addr} {sl11 : Array (Option Value)} {oc11 kV11 dc11 pm11 cd11 ct11 : Value}
    (a11 : PySem.W.nsIn K mainGlobals "options_from" = some (some (.ref f11))) (l11 : K.lookup f11 = some ⟨oc11, od11, .func (PySem.W.fnOf "options_from" "options_from" (defArgs s_options_from) (defBody s_options_from) (defScope s_options_from) .none kV11 dc11 pm11 an11 cd11 ct11), sl11⟩) (c11 : PySem.W.codeIn K cd11 "options_from" = true) (k11 : PySem.W.keepIn K (.ref f11) = true)
    {f12 : Addr} {od12 an12 : Option Addr} {sl12 : Array (Option Value)} {oc12 kV12 dc12 pm12 cd12 ct12 : Value}
    (a12 : PySem.W.nsIn K mainGlobals "reached_states" = some (some (.ref f12))) (l12 : K.lookup f12 = some ⟨oc12, od12, .func (PySem.W.fnOf "reached_states" "reached_states" (defArgs s_reached_states) (defBody s_reached_states) (defScope s_reached_states) .none kV12 dc12 pm12 an12 cd12 ct12), sl12⟩) (c12 : PySem.W.codeIn K cd12 "reached_states" = true) (k12 : PySem.W.keepIn K (.ref f12) = true)
    {f13 : Addr} {od13 an13 : Option Addr} {sl13 : Array (Option Value)} {oc13 kV13 dc13 pm13 cd13 ct13 : Value}
    (a13 : PySem.W.nsIn K mainGlobals "greatest_line" = some (some (.ref f13))) (l13 : K.lookup f13 = some ⟨oc13, od13, .func (PySem.W.fnOf "greatest_line" "greatest_line" (defArgs s_greatest_line) (defBody s_greatest_line) (defScope s_greatest_line) .none kV13 dc13 pm13 an13 cd13 ct13), sl13⟩) (c13 : PySem.W.codeIn K cd13 "greatest_line" = true) (k13 : PySem.W.keepIn K (.ref f13) = true)
    {f14 : Addr} {od14 an14 : Option Addr} {sl14 : Array (Option Value)} {oc14 kV14 dc14 pm14 cd14 ct14 : Value}
    (a14 : PySem.W.nsIn K mainGlobals "cheapest_to_end" = some (some (.ref f14))) (l14 : K.lookup f14 = some ⟨oc14, od14, .func (PySem.W.fnOf "cheapest_to_end" "cheapest_to_end" (defArgs s_cheapest_to_end) (defBody s_cheapest_to_end) (defScope s_cheapest_to_end) .none kV14 dc14 pm14 an14 cd14 ct14), sl14⟩) (c14 : PySem.W.codeIn K cd14 "cheapest_to_end" = true) (k14 : PySem.W.keepIn K (.ref f14) = true)
    {f15 : Addr} {od15 an15 : Option Addr} {sl15 : Array (Option Value)} {oc15 kV15 dc15 pm15 cd15 ct15 : Value}
    (a15 : PySem.W.nsIn K mainGlobals "break_pages" = some (some (.ref f15))) (l15 : K.lookup f15 = some ⟨oc15, od15, .func (PySem.W.fnOf "break_pages" "break_pages" (defArgs s_break_pages) (defBody s_break_pages) (defScope s_break_pages) .none kV15 dc15 pm15 an15 cd15 ct15), sl15⟩) (c15 : PySem.W.codeIn K cd15 "break_pages" = true) (k15 : PySem.W.keepIn K (.ref f15) = true)
    {f16 : Addr} {od16 an16 : Option Addr} {sl16 : Array (Option Value)} {oc16  dc16 pm16 cd16 ct16 : Value}
    {D_Frame : Addr} {t_Frame_columns : Tok} {t_Frame_rule : Tok} {t_Frame_under : Tok} {t_Frame_wait : Tok} {t_Frame_late : Tok} {t_Frame_uneven : Tok}
    (a16 : PySem.W.findIn K (.ref c_Frame) "__init__" = some (some (.ref f16))) (l16 : K.lookup f16 = some ⟨oc16, od16, .func (PySem.W.fnOf "__init__" "Frame.__init__" (defArgs s_Frame___init__) (defBody s_Frame___init__) (defScope s_Frame___init__) .none (.ref D_Frame) dc16 pm16 an16 cd16 ct16), sl16⟩) (c16 : PySem.W.codeIn K cd16 "Frame.__init__" = true) (k16 : PySem.W.keepIn K (.ref f16) = true)
    (i16 : PySem.W.isFn K (.ref f16) = true)
    (kd_Frame_columns : PySem.W.nsIn K D_Frame "columns" = some (some (.int 1 t_Frame_columns))) (kd_Frame_rule : PySem.W.nsIn K D_Frame "rule" = some (some (.int 4 t_Frame_rule))) (kd_Frame_under : PySem.W.nsIn K D_Frame "under" = some (some (.int 4 t_Frame_under))) (kd_Frame_wait : PySem.W.nsIn K D_Frame "wait" = some (some (.int 1 t_Frame_wait))) (kd_Frame_late : PySem.W.nsIn K D_Frame "late" = some (some (.int 50 t_Frame_late))) (kd_Frame_uneven : PySem.W.nsIn K D_Frame "uneven" = some (some (.int 1 t_Frame_uneven)))
    {f17 : Addr} {od17 an17 : Option Addr} {sl17 : Array (Option Value)} {oc17 kV17 dc17 pm17 cd17 ct17 : Value}
    {p17 : Addr} {rest17 : List Value} (sa17 : PySem.W.findCls K (.ref c_Frame) (.type "type") "of" = some (.get (.builtin "staticmethod.__get__") (.ref p17) .none (.ref c_Frame))) (sr17 : PySem.W.recIn K p17 "staticmethod" = some (.ref f17 :: rest17))
    (l17 : K.lookup f17 = some ⟨oc17, od17, .func (PySem.W.fnOf "of" "Frame.of" (defArgs s_Frame_of) (defBody s_Frame_of) (defScope s_Frame_of) .none kV17 dc17 pm17 an17 cd17 ct17), sl17⟩) (c17 : PySem.W.codeIn K cd17 "Frame.of" = true) (k17 : PySem.W.keepIn K (.ref f17) = true)
    {f18 : Addr} {od18 an18 : Option Addr} {sl18 : Array (Option Value)} {oc18 kV18 dc18 pm18 cd18 ct18 : Value}
    (a18 : PySem.W.nsIn K mainGlobals "_law_pool" = some (some (.ref f18))) (l18 : K.lookup f18 = some ⟨oc18, od18, .func (PySem.W.fnOf "_law_pool" "_law_pool" (defArgs s__law_pool) (defBody s__law_pool) (defScope s__law_pool) .none kV18 dc18 pm18 an18 cd18 ct18), sl18⟩) (c18 : PySem.W.codeIn K cd18 "_law_pool" = true) (k18 : PySem.W.keepIn K (.ref f18) = true)
    {f19 : Addr} {od19 an19 : Option Addr} {sl19 : Array (Option Value)} {oc19 kV19 dc19 pm19 cd19 ct19 : Value}
    (a19 : PySem.W.nsIn K mainGlobals "_law_take" = some (some (.ref f19))) (l19 : K.lookup f19 = some ⟨oc19, od19, .func (PySem.W.fnOf "_law_take" "_law_take" (defArgs s__law_take) (defBody s__law_take) (defScope s__law_take) .none kV19 dc19 pm19 an19 cd19 ct19), sl19⟩) (c19 : PySem.W.codeIn K cd19 "_law_take" = true) (k19 : PySem.W.keepIn K (.ref f19) = true)
    {f20 : Addr} {od20 an20 : Option Addr} {sl20 : Array (Option Value)} {oc20 kV20 dc20 pm20 cd20 ct20 : Value}
    (a20 : PySem.W.nsIn K mainGlobals "_law_number" = some (some (.ref f20))) (l20 : K.lookup f20 = some ⟨oc20, od20, .func (PySem.W.fnOf "_law_number" "_law_number" (defArgs s__law_number) (defBody s__law_number) (defScope s__law_number) .none kV20 dc20 pm20 an20 cd20 ct20), sl20⟩) (c20 : PySem.W.codeIn K cd20 "_law_number" = true) (k20 : PySem.W.keepIn K (.ref f20) = true)
    {f21 : Addr} {od21 an21 : Option Addr} {sl21 : Array (Option Value)} {oc21 kV21 dc21 pm21 cd21 ct21 : Value}
    (a21 : PySem.W.nsIn K mainGlobals "_law_numbers" = some (some (.ref f21))) (l21 : K.lookup f21 = some ⟨oc21, od21, .func (PySem.W.fnOf "_law_numbers" "_law_numbers" (defArgs s__law_numbers) (defBody s__law_numbers) (defScope s__law_numbers) .none kV21 dc21 pm21 an21 cd21 ct21), sl21⟩) (c21 : PySem.W.codeIn K cd21 "_law_numbers" = true) (k21 : PySem.W.keepIn K (.ref f21) = true)
    {f22 : Addr} {od22 an22 : Option Addr} {sl22 : Array (Option Value)} {oc22 kV22 dc22 pm22 cd22 ct22 : Value}
    (a22 : PySem.W.nsIn K mainGlobals "_law_paged" = some (some (.ref f22))) (l22 : K.lookup f22 = some ⟨oc22, od22, .func (PySem.W.fnOf "_law_paged" "_law_paged" (defArgs s__law_paged) (defBody s__law_paged) (defScope s__law_paged) .none kV22 dc22 pm22 an22 cd22 ct22), sl22⟩) (c22 : PySem.W.codeIn K cd22 "_law_paged" = true) (k22 : PySem.W.keepIn K (.ref f22) = true)
    {f23 : Addr} {od23 an23 : Option Addr} {sl23 : Array (Option Value)} {oc23 kV23 dc23 pm23 cd23 ct23 : Value}
    (a23 : PySem.W.nsIn K mainGlobals "_law_ranges" = some (some (.ref f23))) (l23 : K.lookup f23 = some ⟨oc23, od23, .func (PySem.W.fnOf "_law_ranges" "_law_ranges" (defArgs s__law_ranges) (defBody s__law_ranges) (defScope s__law_ranges) .none kV23 dc23 pm23 an23 cd23 ct23), sl23⟩) (c23 : PySem.W.codeIn K cd23 "_law_ranges" = true) (k23 : PySem.W.keepIn K (.ref f23) = true)
    {f24 : Addr} {od24 an24 : Option Addr} {sl24 : Array (Option Value)} {oc24 kV24 dc24 pm24 cd24 ct24 : Value}
    (a24 : PySem.W.nsIn K mainGlobals "_law_frame_key" = some (some (.ref f24))) (l24 : K.lookup f24 = some ⟨oc24, od24, .func (PySem.W.fnOf "_law_frame_key" "_law_frame_key" (defArgs s__law_frame_key) (defBody s__law_frame_key) (defScope s__law_frame_key) .none kV24 dc24 pm24 an24 cd24 ct24), sl24⟩) (c24 : PySem.W.codeIn K cd24 "_law_frame_key" = true) (k24 : PySem.W.keepIn K (.ref f24) = true)
    {f25 : Addr} {od25 an25 : Option Addr} {sl25 : Array (Option Value)} {oc25 kV25 dc25 pm25 cd25 ct25 : Value}
    (a25 : PySem.W.nsIn K mainGlobals "_law_frame" = some (some (.ref f25))) (l25 : K.lookup f25 = some ⟨oc25, od25, .func (PySem.W.fnOf "_law_frame" "_law_frame" (defArgs s__law_frame) (defBody s__law_frame) (defScope s__law_frame) .none kV25 dc25 pm25 an25 cd25 ct25), sl25⟩) (c25 : PySem.W.codeIn K cd25 "_law_frame" = true) (k25 : PySem.W.keepIn K (.ref f25) = true)
    {f26 : Addr} {od26 an26 : Option Addr} {sl26 : Array (Option Value)} {oc26 kV26 dc26 pm26 cd26 ct26 : Value}
    (a26 : PySem.W.nsIn K mainGlobals "_law_heights" = some (some (.ref f26))) (l26 : K.lookup f26 = some ⟨oc26, od26, .func (PySem.W.fnOf "_law_heights" "_law_heights" (defArgs s__law_heights) (defBody s__law_heights) (defScope s__law_heights) .none kV26 dc26 pm26 an26 cd26 ct26), sl26⟩) (c26 : PySem.W.codeIn K cd26 "_law_heights" = true) (k26 : PySem.W.keepIn K (.ref f26) = true)
    {f27 : Addr} {od27 an27 : Option Addr} {sl27 : Array (Option Value)} {oc27 kV27 dc27 pm27 cd27 ct27 : Value}
    (a27 : PySem.W.nsIn K mainGlobals "_law_lines" = some (some (.ref f27))) (l27 : K.lookup f27 = some ⟨oc27, od27, .func (PySem.W.fnOf "_law_lines" "_law_lines" (defArgs s__law_lines) (defBody s__law_lines) (defScope s__law_lines) .none kV27 dc27 pm27 an27 cd27 ct27), sl27⟩) (c27 : PySem.W.codeIn K cd27 "_law_lines" = true) (k27 : PySem.W.keepIn K (.ref f27) = true)
    {f28 : Addr} {od28 an28 : Option Addr} {sl28 : Array (Option Value)} {oc28 kV28 dc28 pm28 cd28 ct28 : Value}
    (a28 : PySem.W.nsIn K mainGlobals "_law_paragraphs" = some (some (.ref f28))) (l28 : K.lookup f28 = some ⟨oc28, od28, .func (PySem.W.fnOf "_law_paragraphs" "_law_paragraphs" (defArgs s__law_paragraphs) (defBody s__law_paragraphs) (defScope s__law_paragraphs) .none kV28 dc28 pm28 an28 cd28 ct28), sl28⟩) (c28 : PySem.W.codeIn K cd28 "_law_paragraphs" = true) (k28 : PySem.W.keepIn K (.ref f28) = true)
    {f29 : Addr} {od29 an29 : Option Addr} {sl29 : Array (Option Value)} {oc29 kV29 dc29 pm29 cd29 ct29 : Value}
    (a29 : PySem.W.nsIn K mainGlobals "_law_places" = some (some (.ref f29))) (l29 : K.lookup f29 = some ⟨oc29, od29, .func (PySem.W.fnOf "_law_places" "_law_places" (defArgs s__law_places) (defBody s__law_places) (defScope s__law_places) .none kV29 dc29 pm29 an29 cd29 ct29), sl29⟩) (c29 : PySem.W.codeIn K cd29 "_law_places" = true) (k29 : PySem.W.keepIn K (.ref f29) = true)
    {f30 : Addr} {od30 an30 : Option Addr} {sl30 : Array (Option Value)} {oc30 kV30 dc30 pm30 cd30 ct30 : Value}
    (a30 : PySem.W.nsIn K mainGlobals "_law_lets" = some (some (.ref f30))) (l30 : K.lookup f30 = some ⟨oc30, od30, .func (PySem.W.fnOf "_law_lets" "_law_lets" (defArgs s__law_lets) (defBody s__law_lets) (defScope s__law_lets) .none kV30 dc30 pm30 an30 cd30 ct30), sl30⟩) (c30 : PySem.W.codeIn K cd30 "_law_lets" = true) (k30 : PySem.W.keepIn K (.ref f30) = true)
    {f31 : Addr} {od31 an31 : Option Addr} {sl31 : Array (Option Value)} {oc31 kV31 dc31 pm31 cd31 ct31 : Value}
    (a31 : PySem.W.nsIn K mainGlobals "law" = some (some (.ref f31))) (l31 : K.lookup f31 = some ⟨oc31, od31, .func (PySem.W.fnOf "law" "law" (defArgs s_law) (defBody s_law) (defScope s_law) .none kV31 dc31 pm31 an31 cd31 ct31), sl31⟩) (c31 : PySem.W.codeIn K cd31 "law" = true) (k31 : PySem.W.keepIn K (.ref f31) = true)
    (z_abs : PySem.W.nsIn K mainGlobals "abs" = some none)
    (z_any : PySem.W.nsIn K mainGlobals "any" = some none)
    (z_bool : PySem.W.nsIn K mainGlobals "bool" = some none)
    (z_int : PySem.W.nsIn K mainGlobals "int" = some none)
    (z_isinstance : PySem.W.nsIn K mainGlobals "isinstance" = some none)
    (z_len : PySem.W.nsIn K mainGlobals "len" = some none)
    (z_list : PySem.W.nsIn K mainGlobals "list" = some none)
    (z_max : PySem.W.nsIn K mainGlobals "max" = some none)
    (z_min : PySem.W.nsIn K mainGlobals "min" = some none)
    (z_range : PySem.W.nsIn K mainGlobals "range" = some none)
    (z_sorted : PySem.W.nsIn K mainGlobals "sorted" = some none)
    (z_sum : PySem.W.nsIn K mainGlobals "sum" = some none)
    (z_super : PySem.W.nsIn K mainGlobals "super" = some none)
    (z_tuple : PySem.W.nsIn K mainGlobals "tuple" = some none)
    {c_START e_START : Addr} {od_START oe_START : Option Addr} {its_START ite_START : Array Value} {n_START ne_START : Nat} {sl_START sle_START : Array (Option Value)} (a_START : PySem.W.nsIn K mainGlobals "START" = some (some (.ref c_START))) (l_START : K.lookup c_START = some ⟨.type "tuple", od_START, .seq its_START n_START, sl_START⟩) (s_START : its_START.size ≤ sizeLine) (v_START : Vals [.int 0, .int 0, .ref e_START] its_START.toList) (le_START : K.lookup e_START = some ⟨.type "tuple", oe_START, .seq ite_START ne_START, sle_START⟩) (se_START : ite_START.size ≤ sizeLine) (ve_START : Vals [] ite_START.toList)
    {c_NoPages : Addr} (a_NoPages : PySem.W.nsIn K mainGlobals "NoPages" = some (some (.ref c_NoPages))) (bs_NoPages : PySem.W.subIn K (.ref c_NoPages) (.type "BaseException") = some true) (tx_NoPages : PySem.W.typeIn K (.ref c_NoPages) = some (.type "type")) (hd_NoPages : PySem.W.hasDictIn K c_NoPages = true)
    (ga_NoPages : PySem.W.findIn K (.ref c_NoPages) "__getattribute__" = some (some (.builtin "BaseException.__getattribute__"))) (gg_NoPages : PySem.W.findIn K (.ref c_NoPages) "__getattr__" = some none) (cl_NoPages : PySem.W.findIn K (.ref c_NoPages) "__class__" = some (some (.builtin "object.__class__"))) (mo_NoPages : PySem.W.mroIn K c_NoPages (.type "object") = some true) (kx_NoPages : PySem.W.keepIn K (.ref c_NoPages) = true)
    (va_NoPages : PySem.W.subIn K (.ref c_NoPages) (.type "ValueError") = some true)
    (ks_ev : subTab K [c_NoPages] = true)
    (opq : PySem.W.nsIn K cStatics "thirdparty.any" = some none) (top0 : (l.prog.main.scope.names.lookup ("super" : Str)).isSome = false)
    {nm_NoPages qn_NoPages : Str} {N_NoPages : Addr} {bs__NoPages bm_NoPages : List Value} {sn_NoPages : List Str} {sub_NoPages : List Value} {ab_NoPages : Bool} {col_NoPages : Option Bool} {dd_NoPages : Option Addr} {k0_NoPages k1_NoPages k2_NoPages k3_NoPages k5_NoPages : Option Value} (oc_NoPages : K.lookup c_NoPages = some (excClassObj nm_NoPages qn_NoPages c_NoPages N_NoPages bs__NoPages bm_NoPages true sn_NoPages sub_NoPages ab_NoPages col_NoPages dd_NoPages k0_NoPages k1_NoPages k2_NoPages k3_NoPages k5_NoPages "ValueError.__new__")) (rv_NoPages : PySem.HandSPX.refsVE bm_NoPages = true) (oa_NoPages : PySem.W.findIn K (.ref c_NoPages) "__setattr__" = some (some (.builtin "object.__setattr__")))
    {fi_NoPages cc_NoPages cda_NoPages : Addr} {fo_NoPages kV_NoPages dc_NoPages pm_NoPages ct_NoPages ccl_NoPages cl__NoPages : Value} {fd_NoPages an_NoPages cdd_NoPages cld_NoPages : Option Addr} {fs_NoPages ccs_NoPages csl_NoPages : Array (Option Value)} {vs_NoPages : Array Value} {file_NoPages : Str} {tf_NoPages : Tok} (ic_NoPages : PySem.W.findIn K (.ref c_NoPages) "__init__" = some (some (.ref fi_NoPages))) (ti_NoPages : PySem.W.typeIn K (.ref fi_NoPages) = some (.type "function"))
    (lk_NoPages : K.lookup fi_NoPages = some ⟨fo_NoPages, fd_NoPages, .func (PySem.W.fnX "__init__" "NoPages.__init__" (defArgs s_NoPages___init__) (defBody s_NoPages___init__) (defScope s_NoPages___init__) [("__class__", cc_NoPages)] .none kV_NoPages dc_NoPages pm_NoPages an_NoPages (.ref cda_NoPages) ct_NoPages), fs_NoPages⟩) (cq_NoPages : PySem.W.codeIn K (.ref cda_NoPages) "NoPages.__init__" = true)
    (co_NoPages : K.lookup cda_NoPages = some ⟨ccl_NoPages, cdd_NoPages, .fields vs_NoPages, ccs_NoPages⟩) (fv_NoPages : vs_NoPages[2]? = some (.str file_NoPages tf_NoPages)) (fe_NoPages : ((l.prog.main.file : Str) == file_NoPages) = true) (ce_NoPages : K.lookup cc_NoPages = some ⟨cl__NoPages, cld_NoPages, .cell (some (.ref c_NoPages)), csl_NoPages⟩) (su_NoPages : PySem.W.ks_superIn K c_NoPages c_NoPages "__init__" = some (some (.builtin "ValueError.__init__")))
    (na_NoPages_lines : PySem.W.findIn K (.ref c_NoPages) "lines" = some none)
    : ∃ fd : FuncData, (∀ (s : Shared) (v : Value), BindsTo s fd ⟨[v], []⟩ [("_law_script", v)]) ∧ ∀ base : Heap, K.In base → base.Ns mainGlobals mg → FnOk l.prog w K mg base CX0 6 fa fd ["_law_script"] (toSp K ap_law) := by
  obtain ⟨T, e, hb⟩ := txt_mk X G aGalleySums pgGalleySums hdGalleySums poGalleySums saGalleySums mkGalleySums kcGalleySums haGalleySums hmGalleySums naGalleySums_lines naGalleySums_spaces naGalleySums_cuts naGalleySums_floats naGalleySums_tops naGalleySums_noted naGalleySums_marked aFrame pgFrame hdFrame poFrame saFrame mkFrame kcFrame haFrame hmFrame rdFrame gaFrame naFrame_height naFrame_columns naFrame_rule naFrame_under naFrame_wait naFrame_late naFrame_uneven hnO htO a0 l0 c0 k0 a1 l1 c1 k1 a2 l2 c2 k2 a3 l3 c3 k3 a4 l4 c4 k4 i4 a5 l5 c5 k5 i5 a6 l6 c6 k6 i6 a7 l7 c7 k7 i7 a8 l8 c8 k8 a9 l9 c9 k9 a10 l10 c10 k10 a11 l11 c11 k11 a12 l12 c12 k12 a13 l13 c13 k13 a14 l14 c14 k14 a15 l15 c15 k15 a16 l16 c16 k16 i16 kd_Frame_columns kd_Frame_rule kd_Frame_under kd_Frame_wait kd_Frame_late kd_Frame_uneven sa17 sr17 l17 c17 k17 a18 l18 c18 k18 a19 l19 c19 k19 a20 l20 c20 k20 a21 l21 c21 k21 a22 l22 c22 k22 a23 l23 c23 k23 a24 l24 c24 k24 a25 l25 c25 k25 a26 l26 c26 k26 a27 l27 c27 k27 a28 l28 c28 k28 a29 l29 c29 k29 a30 l30 c30 k30 a31 l31 c31 k31 z_abs z_any z_bool z_int z_isinstance z_len z_list z_max z_min z_range z_sorted z_sum z_super z_tuple a_START l_START s_START v_START le_START se_START ve_START a_NoPages bs_NoPages tx_NoPages hd_NoPages ga_NoPages gg_NoPages cl_NoPages mo_NoPages kx_NoPages va_NoPages ks_ev opq top0 oc_NoPages rv_NoPages oa_NoPages ic_NoPages ti_NoPages lk_NoPages cq_NoPages co_NoPages fv_NoPages fe_NoPages ce_NoPages su_NoPages na_NoPages_lines
  have e2 : T.f_law = fa := by
    have := T.g_law
    rw [hfa] at this
    cases this
    rfl
  exact ⟨T.fd_law, hb, fun base _ _ => by rw [← e2]; exact ok_law T⟩
end Lk69

end Pg
open PySem PySem.W PyProof.Rows
set_option maxRecDepth 100000 in
set_option maxHeartbeats 0 in
theorem PySem.Challenge.cw_stylepages_k69_whole_widows_and_orphans_holds : PySem.Challenge.rw_stylepages_k69_whole_widows_and_orphans.Holds := by
  w_on; o_law; k_head; (case hw => w_witness2)
  k_fill
  refine L2.walk_of (l := PySem.Challenge.rw_stylepages_k69_whole_widows_and_orphans) (n := 63) (k := 6) (x := "_law_script") (CX := fun _ => L2.CX0) (sp := fun w => Ab.toSp _ Pg.Lk69.ap_law) rfl (by decide) rfl ⟨rfl, by decide, by decide⟩ (fun w h Y => PySem.W.kIn_of Y) ?F (fun _ _ a ns hl _ hS => Ab.law_sp hS (fun Post hp => Pg.Lk69.law_pre hl hp)) (fun _ _ _ _ _ h => h)
  case F =>
    intro w mg fa h KX G hmg
    refine' Pg.Lk69.fin_mk KX G hmg ?aGalleySums ?pgGalleySums ?hdGalleySums ?poGalleySums ?saGalleySums ?mkGalleySums ?kcGalleySums ?haGalleySums ?hmGalleySums ?naGalleySums_lines ?naGalleySums_spaces ?naGalleySums_cuts ?naGalleySums_floats ?naGalleySums_tops ?naGalleySums_noted ?naGalleySums_marked ?aFrame ?pgFrame ?hdFrame ?poFrame ?saFrame ?mkFrame ?kcFrame ?haFrame ?hmFrame ?rdFrame ?gaFrame ?naFrame_height ?naFrame_columns ?naFrame_rule ?naFrame_under ?naFrame_wait ?naFrame_late ?naFrame_uneven ?hnO ?htO ?a0 ?l0 ?c0 ?k0 ?a1 ?l1 ?c1 ?k1 ?a2 ?l2 ?c2 ?k2 ?a3 ?l3 ?c3 ?k3 ?a4 ?l4 ?c4 ?k4 ?i4 ?a5 ?l5 ?c5 ?k5 ?i5 ?a6 ?l6 ?c6 ?k6 ?i6 ?a7 ?l7 ?c7 ?k7 ?i7 ?a8 ?l8 ?c8 ?k8 ?a9 ?l9 ?c9 ?k9 ?a10 ?l10 ?c10 ?k10 ?a11 ?l11 ?c11 ?k11 ?a12 ?l12 ?c12 ?k12 ?a13 ?l13 ?c13 ?k13 ?a14 ?l14 ?c14 ?k14 ?a15 ?l15 ?c15 ?k15 ?a16 ?l16 ?c16 ?k16 ?i16 ?kd_Frame_columns ?kd_Frame_rule ?kd_Frame_under ?kd_Frame_wait ?kd_Frame_late ?kd_Frame_uneven ?sa17 ?sr17 ?l17 ?c17 ?k17 ?a18 ?l18 ?c18 ?k18 ?a19 ?l19 ?c19 ?k19 ?a20 ?l20 ?c20 ?k20 ?a21 ?l21 ?c21 ?k21 ?a22 ?l22 ?c22 ?k22 ?a23 ?l23 ?c23 ?k23 ?a24 ?l24 ?c24 ?k24 ?a25 ?l25 ?c25 ?k25 ?a26 ?l26 ?c26 ?k26 ?a27 ?l27 ?c27 ?k27 ?a28 ?l28 ?c28 ?k28 ?a29 ?l29 ?c29 ?k29 ?a30 ?l30 ?c30 ?k30 ?a31 ?l31 ?c31 ?k31 ?z_abs ?z_any ?z_bool ?z_int ?z_isinstance ?z_len ?z_list ?z_max ?z_min ?z_range ?z_sorted ?z_sum ?z_super ?z_tuple ?a_START ?l_START ?s_START ?v_START ?le_START ?se_START ?ve_START ?a_NoPages ?bs_NoPages ?tx_NoPages ?hd_NoPages ?ga_NoPages ?gg_NoPages ?cl_NoPages ?mo_NoPages ?kx_NoPages ?va_NoPages ?ks_ev ?opq ?top0 ?oc_NoPages ?rv_NoPages ?oa_NoPages ?ic_NoPages ?ti_NoPages ?lk_NoPages ?cq_NoPages ?co_NoPages ?fv_NoPages ?fe_NoPages ?ce_NoPages ?su_NoPages ?na_NoPages_lines
    (case aGalleySums => k_is); (case pgGalleySums => k_is); (case hdGalleySums => k_is); (case poGalleySums => k_is); (case saGalleySums => k_is); (case mkGalleySums => k_is); (case kcGalleySums => k_is); (case haGalleySums => k_is); (case hmGalleySums => k_is); (case naGalleySums_lines => k_is); (case naGalleySums_spaces => k_is); (case naGalleySums_cuts => k_is); (case naGalleySums_floats => k_is); (case naGalleySums_tops => k_is); (case naGalleySums_noted => k_is); (case naGalleySums_marked => k_is); (case aFrame => k_is); (case pgFrame => k_is); (case hdFrame => k_is); (case poFrame => k_is); (case saFrame => k_is); (case mkFrame => k_is); (case kcFrame => k_is); (case haFrame => k_is); (case hmFrame => k_is); (case rdFrame => k_is); (case gaFrame => k_is); (case naFrame_height => k_is); (case naFrame_columns => k_is); (case naFrame_rule => k_is); (case naFrame_under => k_is); (case naFrame_wait => k_is); (case naFrame_late => k_is); (case naFrame_uneven => k_is); (case hnO => k_is); (case htO => k_is); (case a0 => k_is); (case l0 => k_is); (case c0 => k_is); (case k0 => k_is); (case a1 => k_is); (case l1 => k_is); (case c1 => k_is); (case k1 => k_is); (case a2 => k_is); (case l2 => k_is); (case c2 => k_is); (case k2 => k_is); (case a3 => k_is); (case l3 => k_is); (case c3 => k_is); (case k3 => k_is); (case a4 => k_is); (case l4 => k_is); (case c4 => k_is); (case k4 => k_is); (case i4 => k_is); (case a5 => k_is); (case l5 => k_is); (case c5 => k_is); (case k5 => k_is); (case i5 => k_is); (case a6 => k_is); (case l6 => k_is); (case c6 => k_is); (case k6 => k_is); (case i6 => k_is); (case a7 => k_is); (case l7 => k_is); (case c7 => k_is); (case k7 => k_is); (case i7 => k_is); (case a8 => k_is); (case l8 => k_is); (case c8 => k_is); (case k8 => k_is); (case a9 => k_is); (case l9 => k_is); (case c9 => k_is); (case k9 => k_is); (case a10 => k_is); (case l10 => k_is); (case c10 => k_is); (case k10 => k_is); (case a11 => k_is); (case l11 => k_is); (case c11 => k_is); (case k11 => k_is); (case a12 => k_is); (case l12 => k_is); (case c12 => k_is); (case k12 => k_is); (case a13 => k_is); (case l13 => k_is); (case c13 => k_is); (case k13 => k_is); (case a14 => k_is); (case l14 => k_is); (case c14 => k_is); (case k14 => k_is); (case a15 => k_is); (case l15 => k_is); (case c15 => k_is); (case k15 => k_is); (case a16 => k_is); (case l16 => k_is); (case c16 => k_is); (case k16 => k_is); (case i16 => k_is); (case kd_Frame_columns => k_is); (case kd_Frame_rule => k_is); (case kd_Frame_under => k_is); (case kd_Frame_wait => k_is); (case kd_Frame_late => k_is); (case kd_Frame_uneven => k_is); (case sa17 => k_is); (case sr17 => k_is); (case l17 => k_is); (case c17 => k_is); (case k17 => k_is); (case a18 => k_is); (case l18 => k_is); (case c18 => k_is); (case k18 => k_is); (case a19 => k_is); (case l19 => k_is); (case c19 => k_is); (case k19 => k_is); (case a20 => k_is); (case l20 => k_is); (case c20 => k_is); (case k20 => k_is); (case a21 => k_is); (case l21 => k_is); (case c21 => k_is); (case k21 => k_is); (case a22 => k_is); (case l22 => k_is); (case c22 => k_is); (case k22 => k_is); (case a23 => k_is); (case l23 => k_is); (case c23 => k_is); (case k23 => k_is); (case a24 => k_is); (case l24 => k_is); (case c24 => k_is); (case k24 => k_is); (case a25 => k_is); (case l25 => k_is); (case c25 => k_is); (case k25 => k_is); (case a26 => k_is); (case l26 => k_is); (case c26 => k_is); (case k26 => k_is); (case a27 => k_is); (case l27 => k_is); (case c27 => k_is); (case k27 => k_is); (case a28 => k_is); (case l28 => k_is); (case c28 => k_is); (case k28 => k_is); (case a29 => k_is); (case l29 => k_is); (case c29 => k_is); (case k29 => k_is); (case a30 => k_is); (case l30 => k_is); (case c30 => k_is); (case k30 => k_is); (case a31 => k_is); (case l31 => k_is); (case c31 => k_is); (case k31 => k_is); (case z_abs => k_is); (case z_any => k_is); (case z_bool => k_is); (case z_int => k_is); (case z_isinstance => k_is); (case z_len => k_is); (case z_list => k_is); (case z_max => k_is); (case z_min => k_is); (case z_range => k_is); (case z_sorted => k_is); (case z_sum => k_is); (case z_super => k_is); (case z_tuple => k_is); (case a_START => k_is); (case l_START => k_is); (case s_START => first | decide +kernel | exact .nil); (case v_START => exact (.cons ⟨_, rfl⟩ (.cons ⟨_, rfl⟩ (.cons rfl .nil)))); (case le_START => k_is); (case se_START => first | decide +kernel | exact .nil); (case ve_START => first | decide +kernel | exact .nil); (case a_NoPages => k_is); (case bs_NoPages => k_is); (case tx_NoPages => k_is); (case hd_NoPages => k_is); (case ga_NoPages => k_is); (case gg_NoPages => k_is); (case cl_NoPages => k_is); (case mo_NoPages => k_is); (case kx_NoPages => k_is); (case va_NoPages => k_is); (case ks_ev => first | rfl | decide +kernel | k_is); (case opq => k_is); (case top0 => first | rfl | decide +kernel | k_is); (case oc_NoPages => k_is); (case rv_NoPages => first | rfl | decide +kernel | k_is); (case oa_NoPages => k_is); (case ic_NoPages => k_is); (case ti_NoPages => k_is); (case lk_NoPages => k_is); (case cq_NoPages => k_is); (case co_NoPages => k_is); (case fv_NoPages => first | rfl | decide +kernel | k_is); (case fe_NoPages => first | rfl | decide +kernel | k_is); (case ce_NoPages => k_is); (case su_NoPages => first | rfl | decide +kernel | k_is); (case na_NoPages_lines => k_is)
