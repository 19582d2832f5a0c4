import PyProof.Rows.All
import Wide.All
import OpenK.AllK
import Wide.FinOn
import HandS.ForMost
import HandS.IsInst
import HandS.TupAny
import HandS.Wide
import HandS.Flow
import HandS.Exc
import HandS.ExcOwn
import HandS.TryOnly
import HandS.TryMany
import HandS.ExcIs
import HandS.ExcField
import HandS.WordsExc
import HandS.ExcInit
import KE.KDictKeyed
import KE.KTupSum
import HandS.MakeKwOnly
import HandS.ClsMeth
import HandS.TupMul
import KE.GoesEnum
import HandS.RaiseMore
import HandS.Conv
import KE.KDictDisplayH
import KE.SortData
import KE.DataMinMax
import HandS.SortKw
import HandS.TupLen
import HandS.ReCall
import HandS.More
import HandS.Rev
import HandS.Text
import KE.KDictLaws
import KE.KTops
import HandS.DictComp
import HandS.GenList
import HandS.Spec
import KE.KExcIs
import HandS.Style
import HandS.Nested
import KE.KExcSuper
import HandS.ExcValue
import HandS.IterVal
import HandS.OwnIter
import KE.KOpsOwn
import PyProof.ListStr
import HandS.Deep
import PySem.Challenge.RW_stylepages_k32_whole_outlines_there_and
set_option Elab.async false
set_option linter.all false
set_option maxRecDepth 100000
set_option maxHeartbeats 4000000
namespace Ab
open PySem L2

inductive Dt where
  | raw (v : V)
  | tup (ds : List Dt)
  | lst (ds : List Dt)
  | obj (C : Addr) (fs : List (Str × Dt))
  | scr (ns : List Int)
  | dK (kvs : List (Key × Dt))
  | dT (kvs : List (List Key × Dt))
  | exn (a : Addr) (d : Option Addr) (fs : List (Str × Dt))
  | err (C : Addr) (fs : List (Str × Dt))
  | dN (w : World) (kvs : List (NestedKey × Dt))
abbrev Dt.int (i : Int) : Dt := .raw (.int i)
abbrev Dt.bl (b : Bool) : Dt := .raw (.bl b)
abbrev Dt.str (s : Str) : Dt := .raw (.str s)
abbrev Dt.non : Dt := .raw .non

mutual
def dtN : NestedKey → Dt
  | .none => .raw .non
  | .num i => .raw (.int i)
  | .text x => .raw (.str x)
  | .tup ks => .tup (dtNs ks)
def dtNs : List NestedKey → List Dt
  | [] => []
  | k :: r => dtN k :: dtNs r
end
def DNOk (w : World) (a : Addr) (xs : List (NestedKey × Addr × V)) (h : Heap) : Prop :=
  xs.length ≤ sizeLine ∧ (a == sysModules) = false ∧ (∀ x ∈ xs, x.1.depth ≤ 8) ∧
  ∃ ys : List (NestedKey × Addr × Value), Paired (fun p q => p.1 = q.1 ∧ p.2.1 = q.2.1 ∧ RelV p.2.2 q.2.2) xs ys ∧
    ∃ o es ep, h.get? a = some o ∧ o.ExactDict ∧ o.data = .dict es ep ∧ es.toList = ys.map (fun y => (⟨y.1.hash w, .ref y.2.1, y.2.2⟩ : DictEntry)) ∧ (ys.map (·.1)).Nodup
def dNO (w : World) (a : Addr) (xs : List (NestedKey × Addr × V)) : HO := .ext (DNOk w a xs)

inductive Is (K : PySem.W.Frag) (B : Hp) : V → Dt → Prop where
  | raw (v : V) : Is K B v (.raw v)
  | tup {a : Addr} {xs : List V} {ds : List Dt} (h : SqT K B a xs) (hl : xs.length = ds.length) (hi : ∀ (i : Nat) v d, xs[i]? = some v → ds[i]? = some d → Is K B v d) : Is K B (.ref a) (.tup ds)
  | lst {a : Addr} {xs : List V} {ds : List Dt} (h : B a = some (.lst xs)) (hl : xs.length = ds.length) (hi : ∀ (i : Nat) v d, xs[i]? = some v → ds[i]? = some d → Is K B v d) : Is K B (.ref a) (.lst ds)
  | obj {a dx C : Addr} {fs : List (Str × V)} {gs : List (Str × Dt)} (h : B a = some (.ins C dx fs)) (hk : ∀ f : Str, (fs.lookup f).isSome = (gs.lookup f).isSome) (hi : ∀ (f : Str) v d, fs.lookup f = some v → gs.lookup f = some d → Is K B v d) : Is K B (.ref a) (.obj C gs)
  | scr {a : Addr} {ns : List Int} (h : SqL K B a (ns.map V.int)) : Is K B (.ref a) (.scr ns)
  | dK {a : Addr} {xs : List (Key × V)} {kvs : List (Key × Dt)} (h : B a = some (.dK xs)) (hk : xs.map (·.1) = kvs.map (·.1)) (hi : ∀ (i : Nat) v d, (xs.map (·.2))[i]? = some v → (kvs.map (·.2))[i]? = some d → Is K B v d) : Is K B (.ref a) (.dK kvs)
  | dT {a : Addr} {xs : List (List Key × V)} {kvs : List (List Key × Dt)} (h : B a = some (.dT xs)) (hk : xs.map (·.1) = kvs.map (·.1)) (hi : ∀ (i : Nat) v d, (xs.map (·.2))[i]? = some v → (kvs.map (·.2))[i]? = some d → Is K B v d) : Is K B (.ref a) (.dT kvs)
  | exn0 {a : Addr} : Is K B (.ref a) (.exn a none [])
  | exnD {a dd : Addr} {fs : List (Str × V)} {gs : List (Str × Dt)} (h : B dd = some (.xd fs)) (hk : ∀ f : Str, (fs.lookup f).isSome = (gs.lookup f).isSome) (hi : ∀ (f : Str) v d, fs.lookup f = some v → gs.lookup f = some d → Is K B v d) : Is K B (.ref a) (.exn a (some dd) gs)
  | err0 {a C : Addr} (h : B a = some (exo a C none)) : Is K B (.ref a) (.err C [])
  | errD {a dd C : Addr} {fs : List (Str × V)} {gs : List (Str × Dt)} (h : B a = some (exo a C (some dd))) (hd : B dd = some (exd dd fs)) (hk : ∀ f : Str, (fs.lookup f).isSome = (gs.lookup f).isSome) (hi : ∀ (f : Str) v d, fs.lookup f = some v → gs.lookup f = some d → Is K B v d) : Is K B (.ref a) (.err C gs)
  | dN {a : Addr} {w : World} {xs : List (NestedKey × Addr × V)} {kvs : List (NestedKey × Dt)} (h : B a = some (dNO w a xs)) (hk : xs.map (·.1) = kvs.map (·.1)) (hq : ∀ (i : Nat) x, xs[i]? = some x → Is K B (.ref x.2.1) (dtN x.1)) (hi : ∀ (i : Nat) v d, (xs.map (·.2.2))[i]? = some v → (kvs.map (·.2))[i]? = some d → Is K B v d) : Is K B (.ref a) (.dN w kvs)
structure IsA (K : PySem.W.Frag) (B : Hp) (vs : List V) (ds : List Dt) : Prop where
  len : vs.length = ds.length
  at_ : ∀ (i : Nat) v d, vs[i]? = some v → ds[i]? = some d → Is K B v d

section
variable {K : PySem.W.Frag} {B B' H H' : Hp} {v : V} {d : Dt} {vs : List V} {ds : List Dt}
theorem sqT_mono {a : Addr} {xs : List V} (e : Same B B') (h : SqT K B a xs) : SqT K B' a xs := by
  rcases h with (h | ⟨o, h⟩) | h
  · exact .inl (.inl (e _ _ h))
  · exact .inl (.inr ⟨o, e _ _ h⟩)
  · exact .inr h
theorem Is.mono (e : Same B B') (h : Is K B v d) : Is K B' v d := by
  induction h with
  | raw v => exact .raw v
  | tup h hl hi ih => exact .tup (sqT_mono e h) hl ih
  | lst h hl hi ih => exact .lst (e _ _ h) hl ih
  | obj h hk hi ih => exact .obj (e _ _ h) hk ih
  | scr h => exact .scr (e.seq h)
  | dK h hk hi ih => exact .dK (e _ _ h) hk ih
  | dT h hk hi ih => exact .dT (e _ _ h) hk ih
  | exn0 => exact .exn0
  | exnD h hk hi ih => exact .exnD (e _ _ h) hk ih
  | err0 h => exact .err0 (e _ _ h)
  | errD h hd hk hi ih => exact .errD (e _ _ h) (e _ _ hd) hk ih
  | dN h hk hq hi ihq ih => exact .dN (e _ _ h) hk ihq ih
theorem IsA.mono (e : Same B B') (h : IsA K B vs ds) : IsA K B' vs ds := ⟨h.len, fun i v d a b => (h.at_ i v d a b).mono e⟩
theorem Is.rawI (h : Is K B v (.raw u)) : v = u := by cases h; rfl
theorem IsA.nil : IsA K B [] [] := ⟨rfl, fun i v d a => by simp at a⟩
theorem IsA.snoc (h : IsA K B vs ds) (hv : Is K B v d) : IsA K B (vs ++ [v]) (ds ++ [d]) := by
  refine ⟨by simp [h.len], fun i w e a b => ?_⟩
  by_cases hi : i < vs.length
  · rw [List.getElem?_append_left hi] at a
    rw [List.getElem?_append_left (by rw [← h.len]; exact hi)] at b
    exact h.at_ i w e a b
  · rw [List.getElem?_append_right (by omega)] at a
    rw [List.getElem?_append_right (by rw [← h.len]; omega)] at b
    rw [← h.len] at b
    generalize i - vs.length = j at a b
    cases j with
    | zero => simp at a b; subst a b; exact hv
    | succ j => simp at a
theorem IsA.cons (hv : Is K B v d) (h : IsA K B vs ds) : IsA K B (v :: vs) (d :: ds) := by
  refine ⟨by simp [h.len], fun i w e a b => ?_⟩
  cases i with
  | zero => simp at a b; subst a b; exact hv
  | succ j => simp at a b; exact h.at_ j w e a b
theorem IsA.append {us : List V} {es : List Dt} (h : IsA K B vs ds) (h' : IsA K B us es) : IsA K B (vs ++ us) (ds ++ es) := by
  refine ⟨by simp [h.len, h'.len], fun i w e a b => ?_⟩
  by_cases hi : i < vs.length
  · rw [List.getElem?_append_left hi] at a
    rw [List.getElem?_append_left (by rw [← h.len]; exact hi)] at b
    exact h.at_ i w e a b
  · rw [List.getElem?_append_right (by omega)] at a
    rw [List.getElem?_append_right (by rw [← h.len]; omega)] at b
    rw [← h.len] at b
    exact h'.at_ _ w e a b
theorem IsA.get {i : Nat} (h : IsA K B vs ds) (e : ds[i]? = some d) : ∃ v, vs[i]? = some v ∧ Is K B v d := by
  have hi : i < ds.length := (List.getElem?_eq_some_iff.mp e).1
  have hv : i < vs.length := by rw [h.len]; exact hi
  exact ⟨vs[i], List.getElem?_eq_getElem hv, h.at_ i _ d (List.getElem?_eq_getElem hv) e⟩
theorem IsA.set {j : Nat} (h : IsA K B vs ds) (hv : Is K B v d) : IsA K B (vs.set j v) (ds.set j d) := by
  refine ⟨by simp [h.len], fun i w e a b => ?_⟩
  by_cases hij : j = i
  · subst hij
    have h1 : j < (vs.set j v).length := (List.getElem?_eq_some_iff.mp a).1
    rw [List.length_set] at h1
    rw [List.getElem?_set_self h1] at a
    rw [List.getElem?_set_self (by rw [← h.len]; exact h1)] at b
    cases a; cases b; exact hv
  · rw [List.getElem?_set_ne hij] at a b
    exact h.at_ i w e a b
theorem IsA.drop (n : Nat) (h : IsA K B vs ds) : IsA K B (vs.drop n) (ds.drop n) := by
  refine ⟨by simp [h.len], fun i w e a b => ?_⟩
  rw [List.getElem?_drop] at a b
  exact h.at_ _ w e a b
theorem IsA.take (n : Nat) (h : IsA K B vs ds) : IsA K B (vs.take n) (ds.take n) := by
  refine ⟨by simp [h.len], fun i w e a b => ?_⟩
  rw [List.getElem?_take] at a b
  split at a
  · rename_i hi
    rw [if_pos hi] at b
    exact h.at_ _ w e a b
  · cases a
theorem IsA.reverse (h : IsA K B vs ds) : IsA K B vs.reverse ds.reverse := by
  refine ⟨by simp [h.len], fun i w e a b => ?_⟩
  have hi : i < vs.length := by
    have := (List.getElem?_eq_some_iff.mp a).1
    simpa using this
  rw [List.getElem?_reverse hi] at a
  rw [List.getElem?_reverse (by rw [← h.len]; exact hi)] at b
  rw [← h.len] at b
  exact h.at_ _ w e a b
theorem Is.tupR (h : Is K B v (.tup ds)) : ∃ a xs, v = .ref a ∧ SqT K B a xs ∧ IsA K B xs ds := by
  cases h with
  | tup h hl hi => exact ⟨_, _, rfl, h, hl, hi⟩
theorem Is.lstR (h : Is K B v (.lst ds)) : ∃ a xs, v = .ref a ∧ B a = some (.lst xs) ∧ IsA K B xs ds := by
  cases h with
  | lst h hl hi => exact ⟨_, _, rfl, h, hl, hi⟩
theorem IsA.atI {i : Int} {d : Dt} (h : IsA K B vs ds) (e : L2.atI ds i = some d) : ∃ v, L2.atI vs i = some v ∧ Is K B v d := by
  unfold L2.atI at e ⊢
  rw [h.len]
  cases q : ixN ds.length i with
  | none => rw [q] at e; cases e
  | some j =>
    rw [q] at e
    exact h.get e
theorem IsA.raws : ∀ {xs : List V}, IsA K B xs (xs.map Dt.raw)
  | [] => .nil
  | x :: r => .cons (.raw x) IsA.raws
theorem IsA.rawsI : ∀ {us xs : List V}, IsA K B us (xs.map Dt.raw) → us = xs
  | [], [], _ => rfl
  | [], _ :: _, h => by have := h.len; simp at this
  | _ :: _, [], h => by have := h.len; simp at this
  | u :: us, x :: xs, h => by
    have h0 := h.at_ 0 u (.raw x) rfl rfl
    have ht : IsA K B us (xs.map Dt.raw) := ⟨by have := h.len; simpa using this, fun i v d a b => h.at_ (i + 1) v d (by simpa using a) (by simpa using b)⟩
    rw [h0.rawI, ht.rawsI]
end

inductive Cn where
  | lst (ds : List Dt)
  | dK (kvs : List (Key × Dt))
  | dT (kvs : List (List Key × Dt))
  | dN (w : World) (kvs : List (NestedKey × Dt))
def Cn.dt : Cn → Dt
  | .lst ds => .lst ds
  | .dK kvs => .dK kvs
  | .dT kvs => .dT kvs
  | .dN w kvs => .dN w kvs
structure IsKv {κ : Type} (K : PySem.W.Frag) (B : Hp) (xs : List (κ × V)) (kvs : List (κ × Dt)) : Prop where
  ks : xs.map (·.1) = kvs.map (·.1)
  vs : IsA K B (xs.map (·.2)) (kvs.map (·.2))
structure IsNv (K : PySem.W.Frag) (B : Hp) (xs : List (NestedKey × Addr × V)) (kvs : List (NestedKey × Dt)) : Prop where
  ks : xs.map (·.1) = kvs.map (·.1)
  qs : ∀ (i : Nat) x, xs[i]? = some x → Is K B (.ref x.2.1) (dtN x.1)
  vs : IsA K B (xs.map (·.2.2)) (kvs.map (·.2))
def CnIs (K : PySem.W.Frag) (B : Hp) (a : Addr) (o : HO) : Cn → Prop
  | .lst ds => ∃ vs, o = .lst vs ∧ IsA K B vs ds
  | .dK kvs => ∃ xs, o = .dK xs ∧ IsKv K B xs kvs
  | .dT kvs => ∃ xs, o = .dT xs ∧ IsKv K B xs kvs
  | .dN w kvs => ∃ xs, o = dNO w a xs ∧ IsNv K B xs kvs
theorem IsNv.mono {K : PySem.W.Frag} {B B' : Hp} {xs : List (NestedKey × Addr × V)} {kvs : List (NestedKey × Dt)} (e : Same B B') (h : IsNv K B xs kvs) : IsNv K B' xs kvs := ⟨h.ks, fun i x q => (h.qs i x q).mono e, h.vs.mono e⟩
theorem CnIs.mono {K : PySem.W.Frag} {B B' : Hp} {a : Addr} {o : HO} {c : Cn} (e : Same B B') (h : CnIs K B a o c) : CnIs K B' a o c := by
  cases c with
  | lst ds => obtain ⟨vs, e1, e2⟩ := h; exact ⟨vs, e1, e2.mono e⟩
  | dK kvs => obtain ⟨vs, e1, e2, e3⟩ := h; exact ⟨vs, e1, e2, e3.mono e⟩
  | dT kvs => obtain ⟨vs, e1, e2, e3⟩ := h; exact ⟨vs, e1, e2, e3.mono e⟩
  | dN w kvs => obtain ⟨vs, e1, e2⟩ := h; exact ⟨vs, e1, e2.mono e⟩
theorem CnIs.is {K : PySem.W.Frag} {B : Hp} {o : HO} {c : Cn} {a : Addr} (hb : B a = some o) (h : CnIs K B a o c) : Is K B (.ref a) c.dt := by
  cases c with
  | lst ds => obtain ⟨vs, rfl, e2⟩ := h; exact .lst hb e2.len e2.at_
  | dK kvs => obtain ⟨vs, rfl, e2, e3⟩ := h; exact .dK hb e2 e3.at_
  | dT kvs => obtain ⟨vs, rfl, e2, e3⟩ := h; exact .dT hb e2 e3.at_
  | dN w kvs => obtain ⟨vs, rfl, e2⟩ := h; exact .dN hb e2.ks e2.qs e2.vs.at_
inductive Sl where
  | un
  | val (d : Dt)
  | cel (c : Cn)
abbrev Sl.acc (ds : List Dt) : Sl := .cel (.lst ds)
def Own (σ : L2.St) (Γ : List Sl) (a : Addr) : Prop := ∃ (i : Nat) (c : Cn), Γ[i]? = some (.cel c) ∧ σ[i]? = some (some (.ref a))
structure Env (K : PySem.W.Frag) (B H : Hp) (σ : L2.St) (Γ : List Sl) : Prop where
  len : σ.length = Γ.length
  bh : Same B H
  val : ∀ (i : Nat) d, Γ[i]? = some (.val d) → ∃ v, σ[i]? = some (some v) ∧ Is K B v d
  cel : ∀ (i : Nat) c, Γ[i]? = some (.cel c) → ∃ l o, σ[i]? = some (some (.ref l)) ∧ H l = some o ∧ B l = none ∧ CnIs K B l o c
  sep : ∀ (i j : Nat) c d l, Γ[i]? = some (.cel c) → Γ[j]? = some (.cel d) → σ[i]? = some (some (.ref l)) → σ[j]? = some (some (.ref l)) → i = j
theorem Env.acc {K : PySem.W.Frag} {B H : Hp} {σ : L2.St} {Γ : List Sl} (E : Env K B H σ Γ) (i : Nat) (ds : List Dt) (h : Γ[i]? = some (.acc ds)) : ∃ l vs, σ[i]? = some (some (.ref l)) ∧ H l = some (.lst vs) ∧ B l = none ∧ IsA K B vs ds := by
  obtain ⟨l, o, e1, e2, e3, vs, rfl, e4⟩ := E.cel i _ h
  exact ⟨l, vs, e1, e2, e3, e4⟩
structure Mv (m : Addr → Prop) (B H B' H' : Hp) : Prop where
  kp : ∀ a o, ¬ m a → H a = some o → H' a = some o
  bb : Same B B'
  off : ∀ a, ¬ m a → H a ≠ none → B a = none → B' a = none
theorem Mv.refl (m : Addr → Prop) (B H : Hp) : Mv m B H B H := ⟨fun _ _ _ h => h, Same.refl B, fun _ _ _ h => h⟩
theorem Mv.trans {m m1 : Addr → Prop} {B H B1 H1 B2 H2 : Hp} (x : Mv m B H B1 H1) (hm : ∀ a, m1 a → m a ∨ H a = none) (y : Mv m1 B1 H1 B2 H2) : Mv m B H B2 H2 := by
  have nm : ∀ a, ¬ m a → H a ≠ none → ¬ m1 a := fun a na ha z => (hm a z).elim na ha
  refine ⟨fun a o na e => ?_, x.bb.trans y.bb, fun a na ha hb => ?_⟩
  · exact y.kp a o (nm a na (by rw [e]; exact fun z => nomatch z)) (x.kp a o na e)
  · refine y.off a (nm a na ha) ?_ (x.off a na ha hb)
    cases q : H a with
    | none => exact absurd q ha
    | some o => rw [x.kp a o na q]; exact fun z => nomatch z
theorem Mv.back {m : Addr → Prop} {B H B1 H1 : Hp} (x : Mv m B H B1 H1) {a : Addr} (h : H1 a = none) : m a ∨ H a = none := by
  by_cases hm : m a
  · exact .inl hm
  · refine .inr ?_
    cases q : H a with
    | none => rfl
    | some o => rw [x.kp a o hm q] at h; cases h
inductive Re where
  | val (d : Dt)
  | nw (c : Cn)
  | own (i : Nat)
abbrev Re.new (ds : List Dt) : Re := .nw (.lst ds)
def Re.dt? : Re → Option Dt
  | .val d => some d
  | .nw c => some c.dt
  | .own _ => none
def ReOk (K : PySem.W.Frag) (σ : L2.St) (m m' : Addr → Prop) (B' H H' : Hp) (v : V) : Re → Prop
  | .val d => Is K B' v d
  | .nw c => ∃ l o, v = .ref l ∧ (m l ∨ H l = none) ∧ ¬ m' l ∧ H' l = some o ∧ B' l = none ∧ CnIs K B' l o c
  | .own i => ∃ l, v = .ref l ∧ σ[i]? = some (some (.ref l))
structure Go (K : PySem.W.Frag) (σ : L2.St) (B H : Hp) (Γ : List Sl) (B' H' : Hp) (Γ' : List Sl) : Prop where
  mv : Mv (Own σ Γ) B H B' H'
  ac : ∀ (i : Nat) c, Γ'[i]? = some (.cel c) → ∃ d, Γ[i]? = some (.cel d)
  env : Env K B' H' σ Γ'
theorem Go.sub {K : PySem.W.Frag} {σ : L2.St} {B H B' H' : Hp} {Γ Γ' : List Sl} (g : Go K σ B H Γ B' H' Γ') : ∀ a, Own σ Γ' a → Own σ Γ a := fun a ⟨i, ds, h1, h2⟩ => by
  obtain ⟨es, h⟩ := g.ac i ds h1
  exact ⟨i, es, h, h2⟩
section
variable {K : PySem.W.Frag} {σ : L2.St} {B H B1 H1 B2 H2 : Hp} {Γ Γ1 Γ2 : List Sl} {v : V} {r : Re}
theorem Go.refl (E : Env K B H σ Γ) : Go K σ B H Γ B H Γ := ⟨Mv.refl _ _ _, fun _ ds h => ⟨ds, h⟩, E⟩
theorem Go.trans (x : Go K σ B H Γ B1 H1 Γ1) (y : Go K σ B1 H1 Γ1 B2 H2 Γ2) : Go K σ B H Γ B2 H2 Γ2 :=
  ⟨x.mv.trans (fun a h => .inl (x.sub a h)) y.mv, fun i ds h => by
    obtain ⟨es, h1⟩ := y.ac i ds h
    exact x.ac i es h1, y.env⟩
theorem Env.tracked (E : Env K B H σ Γ) {a : Addr} (h : Own σ Γ a) : ∃ o, H a = some o ∧ B a = none := by
  obtain ⟨i, ds, h1, h2⟩ := h
  obtain ⟨l, vs, e1, e2, e3, _⟩ := E.cel i ds h1
  rw [h2] at e1
  cases e1
  exact ⟨vs, e2, e3⟩
theorem ReOk.raw {m m' : Addr → Prop} (v : V) : ReOk K σ m m' B1 H H1 v (.val (.raw v)) := Is.raw v
theorem ReOk.step {m m1 m2 : Addr → Prop} (h : ReOk K σ m m1 B1 H H1 v r) (y : Mv m1 B1 H1 B2 H2) (hs : ∀ a, m2 a → m1 a) : ReOk K σ m m2 B2 H H2 v r := by
  cases r with
  | val d => exact Is.mono y.bb h
  | nw ds =>
    obtain ⟨l, vs, e, h1, h2, h3, h4, h5⟩ := h
    exact ⟨l, vs, e, h1, fun z => h2 (hs l z), y.kp l _ h2 h3, y.off l h2 (by rw [h3]; exact fun z => nomatch z) h4, h5.mono y.bb⟩
  | own i => exact h
theorem ReOk.earlier {m m1 m2 : Addr → Prop} (h : ReOk K σ m1 m2 B2 H1 H2 v r) (x : Mv m B H B1 H1) (hm : ∀ a, m1 a → m a ∨ H a = none) : ReOk K σ m m2 B2 H H2 v r := by
  cases r with
  | val d => exact h
  | nw ds =>
    obtain ⟨l, vs, e, h1, h2, h3⟩ := h
    refine ⟨l, vs, e, ?_, h2, h3⟩
    rcases h1 with h1 | h1
    · exact hm l h1
    · exact x.back h1
  | own i => exact h
theorem Env.laid (E : Env K B H σ Γ) {p : Addr} {o : HO} (hp : H p = none) : Env K (upd B p o) (upd H p o) σ Γ := by
  have hb : B p = none := by
    cases q : B p with
    | none => rfl
    | some u => rw [E.bh p u q] at hp; cases hp
  have sB : Same B (upd B p o) := fun a u e => by rw [upd_ne (ne_of_none e hb)]; exact e
  refine ⟨E.len, fun a u e => ?_, fun i d h => ?_, fun i ds h => ?_, E.sep⟩
  · by_cases ha : a = p
    · subst ha; rw [upd_same] at e ⊢; exact e
    · rw [upd_ne ha] at e ⊢; exact E.bh a u e
  · obtain ⟨v, e, q⟩ := E.val i d h
    exact ⟨v, e, q.mono sB⟩
  · obtain ⟨l, vs, e, e1, e2, q⟩ := E.cel i ds h
    have hl : l ≠ p := ne_of_none e1 hp
    exact ⟨l, vs, e, by rw [upd_ne hl]; exact e1, by rw [upd_ne hl]; exact e2, q.mono sB⟩
theorem Go.laid (E : Env K B H σ Γ) {p : Addr} {o : HO} (hp : H p = none) : Go K σ B H Γ (upd B p o) (upd H p o) Γ := by
  have hb : B p = none := by
    cases q : B p with
    | none => rfl
    | some u => rw [E.bh p u q] at hp; cases hp
  refine ⟨⟨fun a u _ e => by rw [upd_ne (ne_of_none e hp)]; exact e, fun a u e => by rw [upd_ne (ne_of_none e hb)]; exact e, fun a _ ha hb' => ?_⟩, fun _ ds h => ⟨ds, h⟩, E.laid hp⟩
  have : a ≠ p := fun z => by subst z; exact ha hp
  rw [upd_ne this]; exact hb'
theorem Env.beside (E : Env K B H σ Γ) {p : Addr} {o : HO} (hp : H p = none) : Env K B (upd H p o) σ Γ := by
  refine ⟨E.len, fun a u e => ?_, E.val, fun i ds h => ?_, E.sep⟩
  · have h := E.bh a u e
    rw [upd_ne (ne_of_none h hp)]; exact h
  · obtain ⟨l, vs, e, e1, e2, q⟩ := E.cel i ds h
    exact ⟨l, vs, e, by rw [upd_ne (ne_of_none e1 hp)]; exact e1, e2, q⟩
theorem Go.beside (E : Env K B H σ Γ) {p : Addr} {o : HO} (hp : H p = none) : Go K σ B H Γ B (upd H p o) Γ :=
  ⟨⟨fun a u _ e => by rw [upd_ne (ne_of_none e hp)]; exact e, Same.refl B, fun _ _ _ h => h⟩, fun _ ds h => ⟨ds, h⟩, E.beside hp⟩
theorem Env.base_none (E : Env K B H σ Γ) {p : Addr} (hp : H p = none) : B p = none := by
  cases q : B p with
  | none => rfl
  | some u => rw [E.bh p u q] at hp; cases hp
theorem Env.not_own (E : Env K B H σ Γ) {p : Addr} (hp : H p = none) : ¬ Own σ Γ p := fun z => by
  obtain ⟨vs, h, _⟩ := E.tracked z
  rw [hp] at h; cases h
end

def WE (K : PySem.W.Frag) (te : TE) (Γ : List Sl) (Post : Re → List Sl → Prop) : Prop := ∀ σ B H, Env K B H σ Γ → ∀ Q : VK,
  (∀ v B' H' r Γ', Go K σ B H Γ B' H' Γ' → ReOk K σ (Own σ Γ) (Own σ Γ') B' H H' v r → Post r Γ' → Q v H') → te σ H Q
def WT (K : PySem.W.Frag) (tt : TT) (Γ : List Sl) (Post : Bool → List Sl → Prop) : Prop := ∀ σ B H, Env K B H σ Γ → ∀ Q : Bool → Hp → Prop,
  (∀ b B' H' Γ', Go K σ B H Γ B' H' Γ' → Post b Γ' → Q b H') → tt σ H Q
def WD (K : PySem.W.Frag) (ta : TA) (Γ : List Sl) (Post : List Dt → List Sl → Prop) : Prop := ∀ σ B H, Env K B H σ Γ → ∀ Q : List V → Hp → Prop,
  (∀ vs B' H' ds Γ', Go K σ B H Γ B' H' Γ' → IsA K B' vs ds → Post ds Γ' → Q vs H') → ta σ H Q
section
variable {K : PySem.W.Frag} {Γ : List Sl} {Post : Re → List Sl → Prop} {ta tb tc te : TE} {t u : TT}
theorem we_mono {Post' : Re → List Sl → Prop} (h : WE K te Γ Post) (hp : ∀ r Γ', Post r Γ' → Post' r Γ') : WE K te Γ Post' := fun σ B H E Q q => h σ B H E Q fun v B' H' r Γ' g k p => q v B' H' r Γ' g k (hp r Γ' p)
theorem we_var {i : Nat} {d : Dt} (h : Γ[i]? = some (.val d)) (p : Post (.val d) Γ) : WE K (tVar i) Γ Post := fun σ B H E Q q => by
  obtain ⟨v, e, k⟩ := E.val i d h
  exact ⟨v, e, q v B H (.val d) Γ (.refl E) k p⟩
theorem we_c {v : V} (p : Post (.val (.raw v)) Γ) : WE K (tC v) Γ Post := fun σ B H E Q q => q v B H (.val (.raw v)) Γ (.refl E) (.raw v) p
theorem we_own {i : Nat} {ds : Cn} (h : Γ[i]? = some (.cel ds)) (p : Post (.own i) Γ) : WE K (tVar i) Γ Post := fun σ B H E Q q => by
  obtain ⟨l, vs, e, e1, e2, k⟩ := E.cel i ds h
  exact ⟨.ref l, e, q (.ref l) B H (.own i) Γ (.refl E) ⟨l, rfl, e⟩ p⟩
theorem we_move {i : Nat} {ds : Cn} (h : Γ[i]? = some (.cel ds)) (p : Post (.nw ds) (Γ.set i .un)) : WE K (tVar i) Γ Post := fun σ B H E Q q => by
  obtain ⟨l, vs, e, e1, e2, k⟩ := E.cel i ds h
  have hl : i < Γ.length := (List.getElem?_eq_some_iff.mp h).1
  have ne : ∀ {j : Nat} {s : Sl}, (Γ.set i .un)[j]? = some s → s ≠ .un → j ≠ i := fun {j s} hj hs z => by
    subst z
    rw [List.getElem?_set_self hl] at hj
    cases hj; exact hs rfl
  have sub : ∀ {j : Nat} {s : Sl}, (Γ.set i .un)[j]? = some s → s ≠ .un → Γ[j]? = some s := fun {j s} hj hs => by
    have := ne hj hs
    rw [List.getElem?_set_ne (fun z => this z.symm)] at hj
    exact hj
  have E' : Env K B H σ (Γ.set i .un) := ⟨by rw [List.length_set]; exact E.len, E.bh, fun j d hj => E.val j d (sub hj (fun z => nomatch z)), fun j es hj => E.cel j es (sub hj (fun z => nomatch z)),
    fun j k ds es l h1 h2 => E.sep j k ds es l (sub h1 (fun z => nomatch z)) (sub h2 (fun z => nomatch z))⟩
  have sb : ∀ (j : Nat) es, (Γ.set i .un)[j]? = some (.cel es) → ∃ es', Γ[j]? = some (.cel es') := fun j es h1 => ⟨es, sub h1 (fun z => nomatch z)⟩
  refine ⟨.ref l, e, q (.ref l) B H (.nw ds) _ ⟨Mv.refl _ _ _, sb, E'⟩ ⟨l, vs, rfl, .inl ⟨i, ds, h, e⟩, ?_, e1, e2, k⟩ p⟩
  rintro ⟨j, es, h1, h2⟩
  exact ne h1 (fun z => nomatch z) (E.sep j i es ds l (sub h1 (fun z => nomatch z)) h h2 e)
theorem we_freeze (h : WE K te Γ fun r Γ1 => ∃ d, r.dt? = some d ∧ Post (.val d) Γ1) : WE K te Γ Post := fun σ B H E Q q => by
  refine h σ B H E Q fun v B1 H1 r Γ1 g k p => ?_
  obtain ⟨d, hd, p⟩ := p
  cases r with
  | own i => cases hd
  | val d =>
    cases hd
    exact q v B1 H1 (.val d) Γ1 g k p
  | nw ds =>
    cases hd
    obtain ⟨l, vs, rfl, h1, h2, h3, h4, h5⟩ := k
    have sB : Same B1 (upd B1 l vs) := fun a u e => by rw [upd_ne (ne_of_none e h4)]; exact e
    refine q (.ref l) (upd B1 l vs) H1 (.val ds.dt) Γ1 ⟨⟨g.mv.kp, g.mv.bb.trans sB, fun a na ha hb => ?_⟩, g.ac, ?_⟩ ?_ p
    · have hal : a ≠ l := fun z => by
        subst z
        exact h1.elim na ha
      rw [upd_ne hal]; exact g.mv.off a na ha hb
    · refine ⟨g.env.len, fun a u e => ?_, fun i d hi => ?_, fun i es hi => ?_, g.env.sep⟩
      · by_cases ha : a = l
        · subst ha; rw [upd_same] at e; cases e; exact h3
        · rw [upd_ne ha] at e; exact g.env.bh a u e
      · obtain ⟨w, e, k⟩ := g.env.val i d hi
        exact ⟨w, e, k.mono sB⟩
      · obtain ⟨c, us, e, e1, e2, k⟩ := g.env.cel i es hi
        have hc : c ≠ l := fun z => by
          subst z
          exact h2 ⟨i, es, hi, e⟩
        exact ⟨c, us, e, e1, by rw [upd_ne hc]; exact e2, k.mono sB⟩
    · exact (h5.mono sB).is upd_same
theorem we_opI {C : Int → Int → Prop} {g : Int → Int → V} (h : WE K ta Γ fun ra Γ1 => ∃ i, ra = .val (.int i) ∧ WE K tb Γ1 fun rb Γ2 => ∃ j, rb = .val (.int j) ∧ C i j ∧ Post (.val (.raw (g i j))) Γ2) : WE K (tOp (rI C g) ta tb) Γ Post := fun σ B H E Q q => by
  refine h σ B H E _ fun x B1 H1 ra Γ1 g1 k1 p1 => ?_
  obtain ⟨i, rfl, p1⟩ := p1
  refine p1 σ B1 H1 g1.env _ fun y B2 H2 rb Γ2 g2 k2 p2 => ?_
  obtain ⟨j, rfl, hc, p⟩ := p2
  cases Is.rawI k1
  cases Is.rawI k2
  exact ⟨i, j, rfl, rfl, hc, q _ B2 H2 _ Γ2 (g1.trans g2) (.raw _) p⟩
theorem we_opI0 {g : Int → Int → V} (h : WE K ta Γ fun ra Γ1 => ∃ i, ra = .val (.int i) ∧ WE K tb Γ1 fun rb Γ2 => ∃ j, rb = .val (.int j) ∧ Post (.val (.raw (g i j))) Γ2) : WE K (tOp (rI0 g) ta tb) Γ Post := fun σ B H E Q q => by
  refine h σ B H E _ fun x B1 H1 ra Γ1 g1 k1 p1 => ?_
  obtain ⟨i, rfl, p1⟩ := p1
  refine p1 σ B1 H1 g1.env _ fun y B2 H2 rb Γ2 g2 k2 p2 => ?_
  obtain ⟨j, rfl, p⟩ := p2
  cases Is.rawI k1
  cases Is.rawI k2
  exact ⟨i, j, rfl, rfl, q _ B2 H2 _ Γ2 (g1.trans g2) (.raw _) p⟩
theorem we_neg (h : WE K ta Γ fun ra Γ1 => ∃ i, ra = .val (.int i) ∧ Post (.val (.int (-i))) Γ1) : WE K (tUn (rU fun i => .int (-i)) ta) Γ Post := fun σ B H E Q q => by
  refine h σ B H E _ fun x B1 H1 ra Γ1 g1 k1 p1 => ?_
  obtain ⟨i, rfl, p⟩ := p1
  cases Is.rawI k1
  exact ⟨i, rfl, q _ B1 H1 _ Γ1 g1 (.raw _) p⟩
theorem wt_mono {P P' : Bool → List Sl → Prop} (h : WT K t Γ P) (hp : ∀ b Γ', P b Γ' → P' b Γ') : WT K t Γ P' := fun σ B H E Q q => h σ B H E Q fun b B' H' Γ' g p => q b B' H' Γ' g (hp b Γ' p)
theorem wt_test {P : Bool → List Sl → Prop} (h : WE K te Γ fun r Γ1 => ∃ b, r = .val (.bl b) ∧ P b Γ1) : WT K (tTest te) Γ P := fun σ B H E Q q => by
  refine h σ B H E _ fun x B1 H1 r Γ1 g k p => ?_
  obtain ⟨b, rfl, p⟩ := p
  cases Is.rawI k
  exact ⟨b, rfl, q b B1 H1 Γ1 g p⟩
theorem wt_B {P : Bool → List Sl → Prop} (h : WE K te Γ fun r Γ1 => ∃ b, r = .val (.bl b) ∧ P b Γ1) : WT K (tB te) Γ P := wt_test h
theorem wt_and {P : Bool → List Sl → Prop} (h : WT K t Γ fun b Γ1 => (b = true → WT K u Γ1 P) ∧ (b = false → P false Γ1)) : WT K (tAnd t u) Γ P := fun σ B H E Q q => by
  refine h σ B H E _ fun b B1 H1 Γ1 g p => ?_
  cases b with
  | true =>
    show u σ H1 Q
    exact p.1 rfl σ B1 H1 g.env Q fun b B' H' Γ' g' p' => q b B' H' Γ' (g.trans g') p'
  | false =>
    show Q false H1
    exact q false B1 H1 Γ1 g (p.2 rfl)
theorem wt_or {P : Bool → List Sl → Prop} (h : WT K t Γ fun b Γ1 => (b = false → WT K u Γ1 P) ∧ (b = true → P true Γ1)) : WT K (tOr t u) Γ P := fun σ B H E Q q => by
  refine h σ B H E _ fun b B1 H1 Γ1 g p => ?_
  cases b with
  | false =>
    show u σ H1 Q
    exact p.1 rfl σ B1 H1 g.env Q fun b B' H' Γ' g' p' => q b B' H' Γ' (g.trans g') p'
  | true =>
    show Q true H1
    exact q true B1 H1 Γ1 g (p.2 rfl)
theorem wt_not {P : Bool → List Sl → Prop} (h : WT K t Γ fun b Γ1 => P (!b) Γ1) : WT K (tNot t) Γ P := fun σ B H E Q q => h σ B H E _ fun b B1 H1 Γ1 g p => q (!b) B1 H1 Γ1 g p
theorem we_andV (h : WE K ta Γ fun ra Γ1 => ∃ b, ra = .val (.bl b) ∧ (b = true → WE K tb Γ1 Post) ∧ (b = false → Post (.val (.bl false)) Γ1)) : WE K (tAndV ta tb) Γ Post := fun σ B H E Q q => by
  refine h σ B H E _ fun x B1 H1 ra Γ1 g k p => ?_
  obtain ⟨b, rfl, p1, p2⟩ := p
  cases Is.rawI k
  refine ⟨b, rfl, ?_⟩
  cases b with
  | true =>
    show tb σ H1 Q
    exact p1 rfl σ B1 H1 g.env Q fun v B' H' r Γ' g' k' p' => q v B' H' r Γ' (g.trans g') (ReOk.earlier k' g.mv fun a h => .inl (g.sub a h)) p'
  | false =>
    show Q (.bl false) H1
    exact q _ B1 H1 _ Γ1 g (.raw _) (p2 rfl)
theorem we_orV (h : WE K ta Γ fun ra Γ1 => ∃ b, ra = .val (.bl b) ∧ (b = false → WE K tb Γ1 Post) ∧ (b = true → Post (.val (.bl true)) Γ1)) : WE K (tOrV ta tb) Γ Post := fun σ B H E Q q => by
  refine h σ B H E _ fun x B1 H1 ra Γ1 g k p => ?_
  obtain ⟨b, rfl, p1, p2⟩ := p
  cases Is.rawI k
  refine ⟨b, rfl, ?_⟩
  cases b with
  | false =>
    show tb σ H1 Q
    exact p1 rfl σ B1 H1 g.env Q fun v B' H' r Γ' g' k' p' => q v B' H' r Γ' (g.trans g') (ReOk.earlier k' g.mv fun a h => .inl (g.sub a h)) p'
  | true =>
    show Q (.bl true) H1
    exact q _ B1 H1 _ Γ1 g (.raw _) (p2 rfl)
theorem we_notV (h : WE K ta Γ fun ra Γ1 => ∃ b, ra = .val (.bl b) ∧ Post (.val (.bl (!b))) Γ1) : WE K (tNotV ta) Γ Post := fun σ B H E Q q => by
  refine h σ B H E _ fun x B1 H1 ra Γ1 g k p => ?_
  obtain ⟨b, rfl, p⟩ := p
  cases Is.rawI k
  exact ⟨b, rfl, q _ B1 H1 _ Γ1 g (.raw _) p⟩
theorem we_if (h : WT K t Γ fun b Γ1 => (b = true → WE K ta Γ1 Post) ∧ (b = false → WE K tb Γ1 Post)) : WE K (tIf t ta tb) Γ Post := fun σ B H E Q q => by
  refine h σ B H E _ fun b B1 H1 Γ1 g p => ?_
  cases b with
  | true =>
    show ta σ H1 Q
    exact p.1 rfl σ B1 H1 g.env Q fun v B' H' r Γ' g' k' p' => q v B' H' r Γ' (g.trans g') (ReOk.earlier k' g.mv fun a h => .inl (g.sub a h)) p'
  | false =>
    show tb σ H1 Q
    exact p.2 rfl σ B1 H1 g.env Q fun v B' H' r Γ' g' k' p' => q v B' H' r Γ' (g.trans g') (ReOk.earlier k' g.mv fun a h => .inl (g.sub a h)) p'
theorem wd_nil {P : List Dt → List Sl → Prop} (p : P [] Γ) : WD K tNil Γ P := fun σ B H E Q q => q [] B H [] Γ (.refl E) .nil p
theorem wd_cons {P : List Dt → List Sl → Prop} {tr : TA} (h : WE K te Γ fun r Γ1 => ∃ d, r.dt? = some d ∧ WD K tr Γ1 fun ds Γ2 => P (d :: ds) Γ2) : WD K (tCons te tr) Γ P := fun σ B H E Q q => by
  have h' : WE K te Γ fun r Γ1 => ∃ d, r = .val d ∧ WD K tr Γ1 fun ds Γ2 => P (d :: ds) Γ2 := we_freeze (we_mono h fun r Γ1 ⟨d, hd, k⟩ => ⟨d, hd, d, rfl, k⟩)
  refine h' σ B H E _ fun x B1 H1 ra Γ1 g1 k1 p1 => ?_
  obtain ⟨d, rfl, p1⟩ := p1
  refine p1 σ B1 H1 g1.env _ fun vs B2 H2 ds Γ2 g2 k2 p2 => ?_
  exact q (x :: vs) B2 H2 (d :: ds) Γ2 (g1.trans g2) (.cons (Is.mono g2.mv.bb k1) k2) p2
theorem we_tup {t : TA} (h : WD K t Γ fun ds Γ1 => ds.length ≤ 1000000 ∧ Post (.val (.tup ds)) Γ1) : WE K (tTup t) Γ Post := fun σ B H E Q q => by
  refine h σ B H E _ fun vs B1 H1 ds Γ1 g k p => ?_
  refine ⟨Nat.le_trans (by rw [k.len]; exact p.1) (by decide), fun a ha => ?_⟩
  have g2 := Go.laid (o := .tup vs) g.env ha
  have k2 := k.mono g2.mv.bb
  exact q (.ref a) _ _ (.val (.tup ds)) Γ1 (g.trans g2) (.tup (.inl (.inl upd_same)) k2.len k2.at_) p.2
theorem we_lst {t : TA} (h : WD K t Γ fun ds Γ1 => ds.length ≤ 1000000 ∧ Post (.new ds) Γ1) : WE K (tLst t) Γ Post := fun σ B H E Q q => by
  refine h σ B H E _ fun vs B1 H1 ds Γ1 g k p => ?_
  refine ⟨Nat.le_trans (by rw [k.len]; exact p.1) (by decide), fun a ha => ?_⟩
  have g2 := Go.beside (o := .lst vs) g.env ha
  refine q (.ref a) _ _ (.new ds) Γ1 (g.trans g2) ⟨a, _, rfl, g.mv.back ha, g.env.not_own ha, upd_same, g.env.base_none ha, vs, rfl, k⟩ p.2
end
end Ab

namespace Ab
open PySem L2
def RvOk (K : PySem.W.Frag) (σ : L2.St) (B H : Hp) (Γ : List Sl) (v : V) : Re → Prop
  | .val d => Is K B v d
  | .nw c => ∃ l o, v = .ref l ∧ ¬ Own σ Γ l ∧ H l = some o ∧ B l = none ∧ CnIs K B l o c
  | .own i => ∃ l, v = .ref l ∧ σ[i]? = some (some (.ref l))
def seqOf (Γ : List Sl) : Re → Option (List Dt)
  | .val (.tup ds) => some ds
  | .val (.lst ds) => some ds
  | .val (.scr ns) => some (ns.map Dt.int)
  | .val _ => none
  | .nw (.lst ds) => some ds
  | .nw _ => none
  | .own i => match Γ[i]? with
    | some (Sl.cel (.lst ds)) => some ds
    | _ => none
def lstOf (Γ : List Sl) : Re → Option (List Dt)
  | .val (.lst ds) => some ds
  | .val (.scr ns) => some (ns.map Dt.int)
  | .val _ => none
  | .nw (.lst ds) => some ds
  | .nw _ => none
  | .own i => match Γ[i]? with
    | some (Sl.cel (.lst ds)) => some ds
    | _ => none
def tyOf : Re → Option String
  | .val (.raw .non) => some "NoneType"
  | .val (.raw (.bl _)) => some "bool"
  | .val (.raw (.int _)) => some "int"
  | .val (.raw (.str _)) => some "str"
  | .val (.tup _) => some "tuple"
  | .val (.lst _) => some "list"
  | .val (.dK _) => some "dict"
  | .val (.dT _) => some "dict"
  | .nw (.lst _) => some "list"
  | .nw (.dK _) => some "dict"
  | .nw (.dT _) => some "dict"
  | .own _ => some "list"
  | _ => none
section
variable {K : PySem.W.Frag} {σ : L2.St} {B H B1 H1 B2 H2 : Hp} {Γ Γ1 Γ2 : List Sl} {v : V} {r : Re} {ds : List Dt} {m m' : Addr → Prop}
theorem ReOk.rv (h : ReOk K σ m (Own σ Γ) B H1 H v r) : RvOk K σ B H Γ v r := by
  cases r with
  | val d => exact h
  | nw ds => obtain ⟨l, vs, e, _, h2, h3⟩ := h; exact ⟨l, vs, e, h2, h3⟩
  | own i => exact h
theorem rv_lst (E : Env K B H σ Γ) (h : RvOk K σ B H Γ v r) (e : lstOf Γ r = some ds) : ∃ a vs, v = .ref a ∧ SqL K H a vs ∧ IsA K B vs ds := by
  cases r with
  | val d =>
    cases d with
    | lst es => cases e; obtain ⟨a, xs, rfl, h1, h2⟩ := Is.lstR h; exact ⟨a, xs, rfl, .inl (.inl (E.bh _ _ h1)), h2⟩
    | scr ns =>
      cases e
      cases h with
      | scr h => exact ⟨_, _, rfl, E.bh.seq h, by
          have := IsA.raws (K := K) (B := B) (xs := ns.map V.int)
          rwa [List.map_map] at this⟩
    | raw u => cases e
    | tup es => cases e
    | obj C fs => cases e
    | dK es => cases e
    | dT es => cases e
    | exn a d fs => cases e
    | err C fs => cases e
    | dN w es => cases e
  | nw c =>
    cases c with
    | lst es => cases e; obtain ⟨l, o, rfl, _, h1, _, vs, rfl, h2⟩ := h; exact ⟨l, vs, rfl, .inl (.inl h1), h2⟩
    | dK es => cases e
    | dT es => cases e
    | dN w es => cases e
  | own i =>
    obtain ⟨l, rfl, hl⟩ := h
    have e' : (match Γ[i]? with
      | some (Sl.cel (.lst ds)) => some ds
      | _ => none) = some ds := e
    split at e'
    · rename_i es hi
      cases e'
      obtain ⟨c, us, q1, q2, q3, q4⟩ := E.acc i _ hi
      rw [hl] at q1; cases q1
      exact ⟨l, us, rfl, .inl (.inl q2), q4⟩
    · cases e'
theorem rv_seq (E : Env K B H σ Γ) (h : RvOk K σ B H Γ v r) (e : seqOf Γ r = some ds) : ∃ a vs, v = .ref a ∧ (SqL K H a vs ∨ SqT K H a vs) ∧ IsA K B vs ds := by
  cases r with
  | val d =>
    cases d with
    | tup es => cases e; obtain ⟨a, xs, rfl, h1, h2⟩ := Is.tupR h; exact ⟨a, xs, rfl, .inr (sqT_mono E.bh h1), h2⟩
    | lst es => obtain ⟨a, xs, rfl, h1, h2⟩ := rv_lst E h e; exact ⟨a, xs, rfl, .inl h1, h2⟩
    | scr es => obtain ⟨a, xs, rfl, h1, h2⟩ := rv_lst E h e; exact ⟨a, xs, rfl, .inl h1, h2⟩
    | raw u => cases e
    | obj C fs => cases e
    | dK es => cases e
    | dT es => cases e
    | exn a d fs => cases e
    | err C fs => cases e
    | dN w es => cases e
  | nw c =>
    cases c with
    | lst es => obtain ⟨a, xs, rfl, h1, h2⟩ := rv_lst E h e; exact ⟨a, xs, rfl, .inl h1, h2⟩
    | dK es => cases e
    | dT es => cases e
    | dN w es => cases e
  | own i => obtain ⟨a, xs, rfl, h1, h2⟩ := rv_lst E h e; exact ⟨a, xs, rfl, .inl h1, h2⟩
theorem ty_sqT {a : Addr} {xs : List V} (h : SqT K H a xs) : TyX K H (.ref a) (.type "tuple") := by
  rcases h with (h | ⟨o, h⟩) | ⟨o, its, n, h1, h2, _⟩
  · exact .base (.tup h)
  · exact .fTuple h
  · exact .kTuple h1 h2
theorem rv_ty {T : String} (E : Env K B H σ Γ) (hi : ∀ i, r = .own i → ∃ ds, Γ[i]? = some (.acc ds)) (h : RvOk K σ B H Γ v r) (e : tyOf r = some T) : TyX K H v (.type T) := by
  cases r with
  | val d =>
    cases d with
    | raw u =>
      have hv : v = u := Is.rawI h
      subst hv
      cases v <;> first | (cases e; first | exact .base .non | exact .base (.bl _) | exact .base (.int _) | exact .base (.str _)) | cases e
    | tup es => cases e; obtain ⟨a, xs, rfl, h1, h2⟩ := Is.tupR h; exact ty_sqT (sqT_mono E.bh h1)
    | lst es => cases e; obtain ⟨a, xs, rfl, h1, h2⟩ := Is.lstR h; exact .base (.lst (E.bh _ _ h1))
    | scr es => cases e
    | obj C fs => cases e
    | dK es => cases e; cases h with | dK h1 _ _ => exact .base (.dK (E.bh _ _ h1))
    | dT es => cases e; cases h with | dT h1 _ _ => exact .base (.dT (E.bh _ _ h1))
    | exn a d fs => cases e
    | err C fs => cases e
    | dN w es => cases e
  | nw c =>
    cases c with
    | lst es => cases e; obtain ⟨l, o, rfl, _, h1, _, vs, rfl, h2⟩ := h; exact .base (.lst h1)
    | dK es => cases e; obtain ⟨l, o, rfl, _, h1, _, vs, rfl, h2⟩ := h; exact .base (.dK h1)
    | dT es => cases e; obtain ⟨l, o, rfl, _, h1, _, vs, rfl, h2⟩ := h; exact .base (.dT h1)
    | dN w es => cases e
  | own i =>
    cases e
    obtain ⟨l, rfl, hl⟩ := h
    obtain ⟨ds, hd⟩ := hi i rfl
    obtain ⟨c, us, q1, q2, _⟩ := E.acc i _ hd
    rw [hl] at q1; cases q1
    exact .base (.lst q2)
end
section
variable {K : PySem.W.Frag} {Γ : List Sl} {Post : Re → List Sl → Prop} {ta tb tc te : TE} {t u : TT}
theorem we_two' {r : R2} (h : WE K ta Γ fun ra Γ1 => WE K tb Γ1 fun rb Γ2 =>
      ∀ σ B H x y, Env K B H σ Γ2 → RvOk K σ B H Γ2 x ra → RvOk K σ B H Γ2 y rb → ∀ Q : VK, (∀ v B' H' z Γ', Go K σ B H Γ2 B' H' Γ' → ReOk K σ (Own σ Γ2) (Own σ Γ') B' H H' v z → Post z Γ' → Q v H') → r x y H Q) : WE K (tOp r ta tb) Γ Post := fun σ B H E Q q => by
  refine h σ B H E _ fun x B1 H1 ra Γ1 g1 k1 p1 => ?_
  refine p1 σ B1 H1 g1.env _ fun y B2 H2 rb Γ2 g2 k2 p2 => ?_
  exact p2 σ B2 H2 x y g2.env (ReOk.rv (ReOk.step k1 g2.mv g2.sub)) k2.rv Q fun v B' H' z Γ' g3 k3 p3 => q v B' H' z Γ' ((g1.trans g2).trans g3) (ReOk.earlier k3 (g1.trans g2).mv fun a h => .inl ((g1.trans g2).sub a h)) p3
theorem we_one' {r : V → Hp → VK → Prop} (h : WE K ta Γ fun ra Γ1 => ∀ σ B H x, Env K B H σ Γ1 → RvOk K σ B H Γ1 x ra → ∀ Q : VK, (∀ v B' H' z Γ', Go K σ B H Γ1 B' H' Γ' → ReOk K σ (Own σ Γ1) (Own σ Γ') B' H H' v z → Post z Γ' → Q v H') → r x H Q) :
    ∀ σ B H, Env K B H σ Γ → ∀ Q : VK, (∀ v B' H' r Γ', Go K σ B H Γ B' H' Γ' → ReOk K σ (Own σ Γ) (Own σ Γ') B' H H' v r → Post r Γ' → Q v H') → ta σ H (fun x H1 => r x H1 Q) := fun σ B H E Q q => by
  refine h σ B H E _ fun x B1 H1 ra Γ1 g1 k1 p1 => ?_
  exact p1 σ B1 H1 x g1.env k1.rv Q fun v B' H' z Γ' g3 k3 p3 => q v B' H' z Γ' (g1.trans g3) (ReOk.earlier k3 g1.mv fun a h => .inl (g1.sub a h)) p3
theorem we_cb1 {r : List V → Hp → VK → Prop} (h : WE K te Γ fun ra Γ1 => ∀ σ B H x, Env K B H σ Γ1 → RvOk K σ B H Γ1 x ra → ∀ Q : VK, (∀ v B' H' z Γ', Go K σ B H Γ1 B' H' Γ' → ReOk K σ (Own σ Γ1) (Own σ Γ') B' H H' v z → Post z Γ' → Q v H') → r [x] H Q) : WE K (tCB r (tCons te tNil)) Γ Post :=
  we_one' (r := fun x H Q => r [x] H Q) h
def rLenV (K : PySem.W.Frag) : List V → Hp → VK → Prop := fun xs H Q => ∃ x n, xs = [x] ∧ LenV K x H n ∧ Q (.int n) H
def rAbs : List V → Hp → VK → Prop := fun xs H Q => ∃ i, xs = [.int i] ∧ Q (.int (if i < 0 then -i else i)) H
theorem we_abs (h : WE K te Γ fun r Γ1 => ∃ i, r = .val (.int i) ∧ Post (.val (.int (if i < 0 then -i else i))) Γ1) : WE K (tCB rAbs (tCons te tNil)) Γ Post :=
  we_cb1 (we_mono h fun r Γ1 ⟨i, e, p⟩ => fun σ B H x E kx Q q => by
    subst e
    cases Is.rawI kx
    exact ⟨i, rfl, q _ B H _ Γ1 (.refl E) (.raw _) p⟩)
def rInt1 : List V → Hp → VK → Prop := fun xs H Q => (∃ i, xs = [.int i] ∧ Q (.int i) H) ∨ ∃ k, xs = [.bl k] ∧ Q (.int (if k then 1 else 0)) H
def rTupleOf (K : PySem.W.Frag) : List V → Hp → VK → Prop := fun xs H Q => ∃ p ys, xs = [.ref p] ∧ ((SqL K H p ys ∧ ∀ l, H l = none → Q (.ref l) (upd H l (.tup ys))) ∨ (SqT K H p ys ∧ Q (.ref p) H))
def rListOf (K : PySem.W.Frag) : List V → Hp → VK → Prop := fun xs H Q => ∃ p ys, xs = [.ref p] ∧ (SqL K H p ys ∨ SqT K H p ys) ∧ ∀ l, H l = none → Q (.ref l) (upd H l (.lst ys))
theorem re_laidT {σ : L2.St} {B H : Hp} {vs : List V} {ds : List Dt} {a : Addr} (E : Env K B H σ Γ) (k : IsA K B vs ds) (ha : H a = none) : ReOk K σ (Own σ Γ) (Own σ Γ) (upd B a (.tup vs)) H (upd H a (.tup vs)) (.ref a) (.val (.tup ds)) := by
  have k2 := k.mono (Go.laid (o := .tup vs) E ha).mv.bb
  exact Is.tup (.inl (.inl upd_same)) k2.len k2.at_
theorem re_newL {σ : L2.St} {B H : Hp} {vs : List V} {ds : List Dt} {a : Addr} (E : Env K B H σ Γ) (k : IsA K B vs ds) (ha : H a = none) : ReOk K σ (Own σ Γ) (Own σ Γ) B H (upd H a (.lst vs)) (.ref a) (.new ds) :=
  ⟨a, _, rfl, .inr ha, E.not_own ha, upd_same, E.base_none ha, vs, rfl, k⟩
theorem we_tuple (h : WE K te Γ fun r Γ1 => ∃ ds, seqOf Γ1 r = some ds ∧ Post (.val (.tup ds)) Γ1) : WE K (tCB (rTupleOf K) (tCons te tNil)) Γ Post :=
  we_cb1 (we_mono h fun r Γ1 ⟨ds, hs, p⟩ => fun σ B H x E kx Q q => by
    obtain ⟨a, vs, rfl, hq, ha⟩ := rv_seq E kx hs
    rcases hq with hq | hq
    · exact ⟨a, vs, rfl, .inl ⟨hq, fun l hl => q _ _ _ _ Γ1 (Go.laid E hl) (re_laidT E ha hl) p⟩⟩
    · cases r with
      | val d =>
        cases d with
        | tup es =>
          cases hs
          exact ⟨a, vs, rfl, .inr ⟨hq, q _ B H (.val (.tup ds)) Γ1 (.refl E) kx p⟩⟩
        | lst es =>
          obtain ⟨c, us, e, h1, h2⟩ := rv_lst (ds := ds) E kx hs
          cases e
          exact ⟨a, us, rfl, .inl ⟨h1, fun l hl => q _ _ _ _ Γ1 (Go.laid E hl) (re_laidT E h2 hl) p⟩⟩
        | raw u => cases hs
        | scr es =>
          obtain ⟨c, us, e, h1, h2⟩ := rv_lst (ds := ds) E kx hs
          cases e
          exact ⟨a, us, rfl, .inl ⟨h1, fun l hl => q _ _ _ _ Γ1 (Go.laid E hl) (re_laidT E h2 hl) p⟩⟩
        | obj C fs => cases hs
        | dK es => cases hs
        | dT es => cases hs
        | exn a d fs => cases hs
        | err C fs => cases hs
        | dN w es => cases hs
      | nw c =>
        cases c with
        | lst es =>
          obtain ⟨c, us, e, h1, h2⟩ := rv_lst (ds := ds) E kx hs
          cases e
          exact ⟨a, us, rfl, .inl ⟨h1, fun l hl => q _ _ _ _ Γ1 (Go.laid E hl) (re_laidT E h2 hl) p⟩⟩
        | dK es => cases hs
        | dT es => cases hs
        | dN w es => cases hs
      | own i =>
        obtain ⟨c, us, e, h1, h2⟩ := rv_lst (ds := ds) E kx hs
        cases e
        exact ⟨a, us, rfl, .inl ⟨h1, fun l hl => q _ _ _ _ Γ1 (Go.laid E hl) (re_laidT E h2 hl) p⟩⟩)
theorem we_list (h : WE K te Γ fun r Γ1 => ∃ ds, seqOf Γ1 r = some ds ∧ Post (.new ds) Γ1) : WE K (tCB (rListOf K) (tCons te tNil)) Γ Post :=
  we_cb1 (we_mono h fun r Γ1 ⟨ds, hs, p⟩ => fun σ B H x E kx Q q => by
    obtain ⟨a, vs, rfl, hq, ha⟩ := rv_seq E kx hs
    exact ⟨a, vs, rfl, hq, fun l hl => q _ _ _ _ Γ1 (Go.beside E hl) (re_newL E ha hl) p⟩)
theorem we_isi {c : String} (h : WE K te Γ fun r Γ1 => (∀ i, r = .own i → ∃ ds, Γ1[i]? = some (.acc ds)) ∧ ∃ T b, tyOf r = some T ∧ kitB T c = some b ∧ Post (.val (.bl b)) Γ1) : WE K (tCB (rIsi K) (tCons te (tCons (tC (.ty c)) tNil))) Γ Post :=
  we_one' (r := fun x H Q => rIsi K [x, .ty c] H Q) (we_mono h fun r Γ1 ⟨ho, T, b, ht, hk, p⟩ => fun σ B H x E kx Q q =>
    ⟨x, .ty c, .type T, .type c, b, rfl, .ty c, rv_ty E ho kx ht, kit_ty hk, q _ B H _ Γ1 (.refl E) (.raw _) p⟩)
def rMx2 : List V → Hp → VK → Prop := fun xs H Q => ∃ i j, xs = [.int i, .int j] ∧ Q (.int (if j > i then j else i)) H
def rMn2 : List V → Hp → VK → Prop := fun xs H Q => ∃ i j, xs = [.int i, .int j] ∧ Q (.int (if j < i then j else i)) H
theorem we_max2 (h : WE K ta Γ fun ra Γ1 => ∃ i, ra = .val (.int i) ∧ WE K tb Γ1 fun rb Γ2 => ∃ j, rb = .val (.int j) ∧ Post (.val (.int (if j > i then j else i))) Γ2) : WE K (tCB rMx2 (tCons ta (tCons tb tNil))) Γ Post :=
  we_two' (r := fun x y H Q => rMx2 [x, y] H Q) (we_mono h fun ra Γ1 ⟨i, ei, h1⟩ => we_mono h1 fun rb Γ2 ⟨j, ej, p⟩ => fun σ B H x y E kx ky Q q => by
    subst ei ej
    cases Is.rawI kx; cases Is.rawI ky
    exact ⟨i, j, rfl, q _ B H _ Γ2 (.refl E) (.raw _) p⟩)
theorem we_min2 (h : WE K ta Γ fun ra Γ1 => ∃ i, ra = .val (.int i) ∧ WE K tb Γ1 fun rb Γ2 => ∃ j, rb = .val (.int j) ∧ Post (.val (.int (if j < i then j else i))) Γ2) : WE K (tCB rMn2 (tCons ta (tCons tb tNil))) Γ Post :=
  we_two' (r := fun x y H Q => rMn2 [x, y] H Q) (we_mono h fun ra Γ1 ⟨i, ei, h1⟩ => we_mono h1 fun rb Γ2 ⟨j, ej, p⟩ => fun σ B H x y E kx ky Q q => by
    subst ei ej
    cases Is.rawI kx; cases Is.rawI ky
    exact ⟨i, j, rfl, q _ B H _ Γ2 (.refl E) (.raw _) p⟩)
theorem we_chainI {g g' : Int → Int → Bool} (h : WE K ta Γ fun ra Γ1 => ∃ i, ra = .val (.int i) ∧ WE K tb Γ1 fun rb Γ2 => ∃ j, rb = .val (.int j) ∧
      (g i j = true → WE K tc Γ2 fun rc Γ3 => ∃ k, rc = .val (.int k) ∧ Post (.val (.bl (g' j k))) Γ3) ∧ (g i j = false → Post (.val (.bl false)) Γ2)) :
    WE K (tChain (rI0 fun i j => .bl (g i j)) (rI0 fun i j => .bl (g' i j)) ta tb tc) Γ Post := fun σ B H E Q q => by
  refine h σ B H E _ fun x B1 H1 ra Γ1 g1 k1 p1 => ?_
  obtain ⟨i, rfl, p1⟩ := p1
  refine p1 σ B1 H1 g1.env _ fun y B2 H2 rb Γ2 g2 k2 p2 => ?_
  obtain ⟨j, rfl, p2, p3⟩ := p2
  cases Is.rawI k1; cases Is.rawI k2
  refine ⟨i, j, rfl, rfl, g i j, rfl, ?_⟩
  cases hg : g i j with
  | true =>
    show tc σ H2 fun w' H4 => rI0 (fun i j => .bl (g' i j)) (.int j) w' H4 Q
    refine p2 hg σ B2 H2 g2.env _ fun z B3 H3 rc Γ3 g3 k3 p3 => ?_
    obtain ⟨k, rfl, p⟩ := p3
    cases Is.rawI k3
    exact ⟨j, k, rfl, rfl, q _ B3 H3 _ Γ3 ((g1.trans g2).trans g3) (.raw _) p⟩
  | false =>
    show Q (.bl false) H2
    exact q _ B2 H2 _ Γ2 (g1.trans g2) (.raw _) (p3 hg)
theorem we_in {neg : Bool} (h : WE K ta Γ fun ra Γ1 => WE K tb Γ1 fun rb Γ2 => ∃ (x : V) (us : List V), ra = .val (.raw x) ∧ seqOf Γ2 rb = some (us.map Dt.raw) ∧ flatV x = true ∧ us.all flatV = true ∧ Post (.val (.bl (if neg then !inV x us else inV x us))) Γ2) : WE K (tOp (rIn K neg) ta tb) Γ Post :=
  we_two' (we_mono h fun ra Γ1 h1 => we_mono h1 fun rb Γ2 ⟨x, us, e, hs, hx, hu, p⟩ => fun σ B H y z E ky kz Q q => by
    subst e
    cases Is.rawI ky
    obtain ⟨a, vs, rfl, hq, ha⟩ := rv_seq E kz hs
    cases ha.rawsI
    exact ⟨a, _, rfl, hq, hx, hu, q _ B H _ Γ2 (.refl E) (.raw _) p⟩)
end
end Ab

namespace Ab
open PySem L2
structure GoS (K : PySem.W.Frag) (pin : List Nat) (σ : L2.St) (B H : Hp) (Γ : List Sl) (σ' : L2.St) (B' H' : Hp) (Γ' : List Sl) : Prop where
  mv : Mv (Own σ Γ) B H B' H'
  new : ∀ a, Own σ' Γ' a → Own σ Γ a ∨ H a = none
  env : Env K B' H' σ' Γ'
  pin : ∀ i, i ∈ pin → σ'[i]? = σ[i]?
structure Ex where
  W : WX
  q : Value → List (Str × Dt) → List Sl → Prop
def Ex.no : Ex := ⟨fun _ _ _ _ => True, fun _ _ _ => False⟩
inductive ExB (K : PySem.W.Frag) (B : Hp) : Option Addr → List (Str × Dt) → Prop where
  | none : ExB K B none []
  | some {dd : Addr} {fs : List (Str × V)} {gs : List (Str × Dt)} (h : B dd = some (.xd fs)) (hk : ∀ f : Str, (fs.lookup f).isSome = (gs.lookup f).isSome) (hi : ∀ (f : Str) v d, fs.lookup f = some v → gs.lookup f = some d → Is K B v d) (hne : gs ≠ []) : ExB K B (some dd) gs
structure Ps where
  nx : List Sl → Prop
  rt : Re → List Sl → Prop
  bk : List Sl → Prop := fun _ => False
  ct : List Sl → Prop := fun _ => False
  ex : Ex := Ex.no
def Re.free : Re → Bool
  | .own _ => false
  | _ => true
def WS (K : PySem.W.Frag) (pin : List Nat) (ts : TS) (Γ : List Sl) (P : Ps) : Prop := ∀ σ B H (D : Ends), Env K B H σ Γ →
  (∀ σ' B' H' Γ', GoS K pin σ B H Γ σ' B' H' Γ' → P.nx Γ' → D.nx σ' H') →
  (∀ v σ' B' H' r Γ', GoS K pin σ B H Γ σ' B' H' Γ' → ReOk K [] (Own σ Γ) (Own σ' Γ') B' H H' v r → P.rt r Γ' → D.rt v H') →
  (∀ σ' B' H' Γ', GoS K pin σ B H Γ σ' B' H' Γ' → P.bk Γ' → D.bk σ' H') →
  (∀ σ' B' H' Γ', GoS K pin σ B H Γ σ' B' H' Γ' → P.ct Γ' → D.ct σ' H') →
  (∀ cls d fs σ' B' H' Γ', GoS K pin σ B H Γ σ' B' H' Γ' → ExB K B' d fs → P.ex.q cls fs Γ' → P.ex.W cls d σ' H') → ts D σ H
def WG (K : PySem.W.Frag) (pin : List Nat) (g : TG) (d : Dt) (Γ : List Sl) (P : List Sl → Prop) : Prop := ∀ σ B H x, Env K B H σ Γ → Is K B x d → ∀ Q : L2.St → Hp → Prop,
  (∀ σ' Γ', GoS K pin σ B H Γ σ' B H Γ' → P Γ' → Q σ' H) → g x σ H Q
section
variable {K : PySem.W.Frag} {pin : List Nat} {σ σ1 σ2 : L2.St} {B H B1 H1 B2 H2 : Hp} {Γ Γ1 Γ2 : List Sl} {v : V} {r : Re} {P : Ps}
theorem GoS.refl (E : Env K B H σ Γ) : GoS K pin σ B H Γ σ B H Γ := ⟨Mv.refl _ _ _, fun _ h => .inl h, E, fun _ _ => rfl⟩
theorem GoS.trans (x : GoS K pin σ B H Γ σ1 B1 H1 Γ1) (y : GoS K pin σ1 B1 H1 Γ1 σ2 B2 H2 Γ2) : GoS K pin σ B H Γ σ2 B2 H2 Γ2 :=
  ⟨x.mv.trans x.new y.mv, fun a h => (y.new a h).elim (fun z => x.new a z) fun z => x.mv.back z, y.env, fun i hi => (y.pin i hi).trans (x.pin i hi)⟩
theorem Go.s (x : Go K σ B H Γ B1 H1 Γ1) : GoS K pin σ B H Γ σ B1 H1 Γ1 := ⟨x.mv, fun a h => .inl (x.sub a h), x.env, fun _ _ => rfl⟩
theorem ReOk.off {m m' : Addr → Prop} (h : ReOk K σ m m' B1 H H1 v r) (hf : r.free = true) : ReOk K [] m m' B1 H H1 v r := by
  cases r with
  | val d => exact h
  | nw ds => exact h
  | own i => cases hf
theorem Own.set_ne {i : Nat} {x : Option V} {s : Sl} {a : Addr} (h : Own (σ.set i x) (Γ.set i s) a) (hs : ∀ ds, s = .cel ds → x ≠ some (.ref a)) : Own σ Γ a := by
  obtain ⟨j, ds, h1, h2⟩ := h
  by_cases hij : i = j
  · subst hij
    have hi : i < Γ.length := by
      have := (List.getElem?_eq_some_iff.mp h1).1
      simpa using this
    have hi2 : i < σ.length := by
      have := (List.getElem?_eq_some_iff.mp h2).1
      simpa using this
    rw [List.getElem?_set_self hi] at h1
    rw [List.getElem?_set_self hi2] at h2
    exact absurd (Option.some.inj h2) (hs ds (Option.some.inj h1))
  · rw [List.getElem?_set_ne hij] at h1 h2
    exact ⟨j, ds, h1, h2⟩
def slOf : Re → Sl
  | .val d => .val d
  | .nw c => .cel c
  | .own _ => .un
theorem Env.setV (E : Env K B H σ Γ) {i : Nat} {d : Dt} (hi : i < Γ.length) (hv : Is K B v d) : Env K B H (σ.set i (some v)) (Γ.set i (.val d)) := by
  have hi2 : i < σ.length := by rw [E.len]; exact hi
  have nac : ∀ {j : Nat} {es : Cn}, (Γ.set i (.val d))[j]? = some (.cel es) → i ≠ j := fun {j es} h z => by
    subst z
    rw [List.getElem?_set_self hi] at h; cases h
  refine ⟨by simp [E.len], E.bh, fun j e h => ?_, fun j es h => ?_, fun j k ds es l h1 h2 h3 h4 => ?_⟩
  · by_cases hij : i = j
    · subst hij
      rw [List.getElem?_set_self hi] at h
      cases h
      exact ⟨v, List.getElem?_set_self hi2, hv⟩
    · rw [List.getElem?_set_ne hij] at h ⊢
      exact E.val j e h
  · have hij := nac h
    rw [List.getElem?_set_ne hij] at h ⊢
    exact E.cel j es h
  · have a1 := nac h1
    have a2 := nac h2
    rw [List.getElem?_set_ne a1] at h1 h3
    rw [List.getElem?_set_ne a2] at h2 h4
    exact E.sep j k ds es l h1 h2 h3 h4
theorem Env.setU (E : Env K B H σ Γ) {i : Nat} (x : Option V) (hi : i < Γ.length) : Env K B H (σ.set i x) (Γ.set i .un) := by
  have nac : ∀ {j : Nat} {s : Sl}, (Γ.set i .un)[j]? = some s → s ≠ .un → i ≠ j := fun {j s} h hs z => by
    subst z
    rw [List.getElem?_set_self hi] at h; cases h; exact hs rfl
  refine ⟨by simp [E.len], E.bh, fun j e h => ?_, fun j es h => ?_, fun j k ds es l h1 h2 h3 h4 => ?_⟩
  · have hij := nac h (fun z => nomatch z)
    rw [List.getElem?_set_ne hij] at h ⊢
    exact E.val j e h
  · have hij := nac h (fun z => nomatch z)
    rw [List.getElem?_set_ne hij] at h ⊢
    exact E.cel j es h
  · have a1 := nac h1 (fun z => nomatch z)
    have a2 := nac h2 (fun z => nomatch z)
    rw [List.getElem?_set_ne a1] at h1 h3
    rw [List.getElem?_set_ne a2] at h2 h4
    exact E.sep j k ds es l h1 h2 h3 h4
theorem Env.setA (E : Env K B H σ Γ) {i : Nat} {l : Addr} {vs : HO} {ds : Cn} (hi : i < Γ.length) (hn : ¬ Own σ Γ l) (hl : H l = some vs) (hb : B l = none) (ha : CnIs K B l vs ds) : Env K B H (σ.set i (some (.ref l))) (Γ.set i (.cel ds)) := by
  have hi2 : i < σ.length := by rw [E.len]; exact hi
  refine ⟨by simp [E.len], E.bh, fun j e h => ?_, fun j es h => ?_, fun j k ds' es l' h1 h2 h3 h4 => ?_⟩
  · by_cases hij : i = j
    · subst hij
      rw [List.getElem?_set_self hi] at h
      cases h
    · rw [List.getElem?_set_ne hij] at h ⊢
      exact E.val j e h
  · by_cases hij : i = j
    · subst hij
      rw [List.getElem?_set_self hi] at h
      cases h
      exact ⟨l, vs, List.getElem?_set_self hi2, hl, hb, ha⟩
    · rw [List.getElem?_set_ne hij] at h ⊢
      exact E.cel j es h
  · by_cases h1i : i = j
    · by_cases h2i : i = k
      · exact h1i.symm.trans h2i
      · subst h1i
        rw [List.getElem?_set_self hi2] at h3
        rw [List.getElem?_set_ne h2i] at h2 h4
        cases h3
        exact absurd ⟨k, es, h2, h4⟩ hn
    · by_cases h2i : i = k
      · subst h2i
        rw [List.getElem?_set_self hi2] at h4
        rw [List.getElem?_set_ne h1i] at h1 h3
        cases h4
        exact absurd ⟨j, ds', h1, h3⟩ hn
      · rw [List.getElem?_set_ne h1i] at h1 h3
        rw [List.getElem?_set_ne h2i] at h2 h4
        exact E.sep j k ds' es l' h1 h2 h3 h4
theorem pin_set {i : Nat} {x : Option V} (hp : pin.contains i = false) : ∀ j, j ∈ pin → (σ.set i x)[j]? = σ[j]? := fun j hj => by
  have : i ≠ j := fun z => by
    subst z
    have := List.contains_iff_mem.mpr hj
    rw [hp] at this; cases this
  exact List.getElem?_set_ne this
theorem goS_set (g : Go K σ B H Γ B1 H1 Γ1) (k : ReOk K σ (Own σ Γ) (Own σ Γ1) B1 H H1 v r) {i : Nat} (hp : pin.contains i = false) (hi : i < Γ1.length) : GoS K pin σ B H Γ (σ.set i (some v)) B1 H1 (Γ1.set i (slOf r)) := by
  cases r with
  | val d => exact ⟨g.mv, fun a h => .inl (g.sub a (h.set_ne fun ds z => nomatch z)), g.env.setV hi k, pin_set hp⟩
  | own j => exact ⟨g.mv, fun a h => .inl (g.sub a (h.set_ne fun ds z => nomatch z)), g.env.setU _ hi, pin_set hp⟩
  | nw ds =>
    obtain ⟨l, vs, rfl, h1, h2, h3, h4, h5⟩ := k
    refine ⟨g.mv, fun a h => ?_, g.env.setA hi h2 h3 h4 h5, pin_set hp⟩
    by_cases ha : a = l
    · subst ha; exact h1
    · exact .inl (g.sub a (h.set_ne fun ds _ z => ha (by cases z; rfl)))
end
section
variable {K : PySem.W.Frag} {pin : List Nat} {Γ : List Sl} {P : Ps} {te ta tb : TE} {tt : TT} {t u tb' : TS} {g : TG}
theorem ws_mono {P' : Ps} (h : WS K pin t Γ P) (h1 : ∀ G, P.nx G → P'.nx G) (h2 : ∀ r G, P.rt r G → P'.rt r G) (h3 : ∀ G, P.bk G → P'.bk G) (h4 : ∀ G, P.ct G → P'.ct G) (h5 : P'.ex = P.ex := by rfl) : WS K pin t Γ P' := fun σ B H D E n r b c xx =>
  h σ B H D E (fun σ' B' H' Γ' g p => n σ' B' H' Γ' g (h1 _ p)) (fun v σ' B' H' z Γ' g k p => r v σ' B' H' z Γ' g k (h2 _ _ p)) (fun σ' B' H' Γ' g p => b σ' B' H' Γ' g (h3 _ p)) (fun σ' B' H' Γ' g p => c σ' B' H' Γ' g (h4 _ p)) (h5 ▸ xx)
theorem ws_from {σ σ1 : L2.St} {B H B1 H1 : Hp} {Γ1 : List Sl} {D : Ends} (h : WS K pin t Γ1 P) (g : GoS K pin σ B H Γ σ1 B1 H1 Γ1)
    (n : ∀ σ' B' H' Γ', GoS K pin σ B H Γ σ' B' H' Γ' → P.nx Γ' → D.nx σ' H')
    (r : ∀ v σ' B' H' r Γ', GoS K pin σ B H Γ σ' B' H' Γ' → ReOk K [] (Own σ Γ) (Own σ' Γ') B' H H' v r → P.rt r Γ' → D.rt v H')
    (b : ∀ σ' B' H' Γ', GoS K pin σ B H Γ σ' B' H' Γ' → P.bk Γ' → D.bk σ' H')
    (c : ∀ σ' B' H' Γ', GoS K pin σ B H Γ σ' B' H' Γ' → P.ct Γ' → D.ct σ' H')
    (xx : ∀ cls d fs σ' B' H' Γ', GoS K pin σ B H Γ σ' B' H' Γ' → ExB K B' d fs → P.ex.q cls fs Γ' → P.ex.W cls d σ' H') : t D σ1 H1 :=
  h σ1 B1 H1 D g.env (fun σ' B' H' Γ' g' p => n σ' B' H' Γ' (g.trans g') p) (fun v σ' B' H' z Γ' g' k p => r v σ' B' H' z Γ' (g.trans g') (ReOk.earlier k g.mv g.new) p)
    (fun σ' B' H' Γ' g' p => b σ' B' H' Γ' (g.trans g') p) (fun σ' B' H' Γ' g' p => c σ' B' H' Γ' (g.trans g') p) (fun cls d fs σ' B' H' Γ' g' hx p => xx cls d fs σ' B' H' Γ' (g.trans g') hx p)
theorem ws_seq (h : WS K pin t Γ { P with nx := fun Γ1 => WS K pin u Γ1 P }) : WS K pin (tSeq t u) Γ P := fun σ B H D E n r b c xx =>
  h σ B H { D with nx := u D } E (fun σ' B' H' Γ' g p => ws_from (t := u) (D := D) p g n r b c xx) r b c xx
theorem ws_nil (p : P.nx Γ) : WS K pin tNext Γ P := fun σ B H D E n r b c xx => n σ B H Γ (.refl E) p
theorem ws_cont (p : P.ct Γ) : WS K pin tCont Γ P := fun σ B H D E n r b c xx => c σ B H Γ (.refl E) p
theorem ws_expr (h : WE K te Γ fun _ Γ1 => P.nx Γ1) : WS K pin (tDrop te) Γ P := fun σ B H D E n r b c xx =>
  h σ B H E _ fun v B1 H1 z Γ1 g k p => n σ B1 H1 Γ1 g.s p
theorem ws_ret (h : WE K te Γ fun z Γ1 => z.free = true ∧ P.rt z Γ1) : WS K pin (tRet te) Γ P := fun σ B H D E n r b c xx =>
  h σ B H E _ fun v B1 H1 z Γ1 g k ⟨hf, p⟩ => r v σ B1 H1 z Γ1 g.s (k.off hf) p
theorem ws_retA {i : Nat} {ds : List Dt} (h : Γ[i]? = some (.acc ds)) (p : P.rt (.new ds) (Γ.set i .un)) : WS K pin (tRet (tVar i)) Γ P := ws_ret (we_move h ⟨rfl, p⟩)
theorem ws_if (h : WT K tt Γ fun b Γ1 => (b = true → WS K pin t Γ1 P) ∧ (b = false → WS K pin u Γ1 P)) : WS K pin (tIfS tt t u) Γ P := fun σ B H D E n r b c xx =>
  h σ B H E _ fun z B1 H1 Γ1 g p => by
    cases z with
    | true =>
      show t D σ H1
      exact ws_from (p.1 rfl) g.s n r b c xx
    | false =>
      show u D σ H1
      exact ws_from (p.2 rfl) g.s n r b c xx
theorem ws_asg {i : Nat} (hp : pin.contains i = false) (hi : decide (i < Γ.length) = true) (h : WE K te Γ fun z Γ1 => P.nx (Γ1.set i (slOf z))) : WS K pin (tAsg te (gName i)) Γ P := fun σ B H D E n r b c xx =>
  h σ B H E _ fun v B1 H1 z Γ1 g k p => n _ B1 H1 _ (goS_set g k hp (by rw [← g.env.len, E.len]; exact of_decide_eq_true hi)) p
theorem ws_asgG (h : WE K te Γ fun z Γ1 => ∃ d, z = .val d ∧ WG K pin g d Γ1 P.nx) : WS K pin (tAsg te g) Γ P := fun σ B H D E n r b c xx =>
  h σ B H E _ fun v B1 H1 z Γ1 g1 k p => by
    obtain ⟨d, rfl, p⟩ := p
    exact p σ B1 H1 v g1.env k _ fun σ' Γ' g2 p2 => n σ' B1 H1 Γ' (g1.s.trans g2) p2
theorem wg_name {i : Nat} {d : Dt} {Q : List Sl → Prop} (hp : pin.contains i = false) (hi : decide (i < Γ.length) = true) (p : Q (Γ.set i (.val d))) : WG K pin (gName i) d Γ Q := fun σ B H x E k R q =>
  q _ _ (goS_set (r := .val d) (.refl E) k hp (of_decide_eq_true hi)) p
def WGs (K : PySem.W.Frag) (pin : List Nat) (g : TGs) (ds : List Dt) (Γ : List Sl) (P : List Sl → Prop) : Prop := ∀ σ B H xs, Env K B H σ Γ → IsA K B xs ds → ∀ Q : L2.St → Hp → Prop,
  (∀ σ' Γ', GoS K pin σ B H Γ σ' B H Γ' → P Γ' → Q σ' H) → g xs σ H Q
theorem wgs_nil {Q : List Sl → Prop} (p : Q Γ) : WGs K pin gNil [] Γ Q := fun σ B H xs E k R q => by
  have : xs = [] := List.eq_nil_of_length_eq_zero (by rw [k.len]; rfl)
  exact ⟨this, q σ Γ (.refl E) p⟩
theorem wgs_cons {g1 : TG} {g2 : TGs} {d : Dt} {ds : List Dt} {Q : List Sl → Prop} (h : WG K pin g1 d Γ fun Γ1 => WGs K pin g2 ds Γ1 Q) : WGs K pin (gCons g1 g2) (d :: ds) Γ Q := fun σ B H xs E k R q => by
  cases xs with
  | nil => have := k.len; simp at this
  | cons x r =>
    refine ⟨x, r, rfl, h σ B H x E (k.at_ 0 x d rfl rfl) _ fun σ1 Γ1 e1 p1 => ?_⟩
    exact p1 σ1 B H r e1.env ⟨by have := k.len; simpa using this, fun i v d a b => k.at_ (i + 1) v d (by simpa using a) (by simpa using b)⟩ R fun σ2 Γ2 e2 p2 => q σ2 Γ2 (e1.trans e2) p2
theorem wg_tup {n : Nat} {g2 : TGs} {ds : List Dt} {Q : List Sl → Prop} (hn : ds.length = n) (h : WGs K pin g2 ds Γ Q) : WG K pin (gTup K n g2) (.tup ds) Γ Q := fun σ B H x E k R q => by
  obtain ⟨a, xs, rfl, h1, h2⟩ := Is.tupR k
  exact ⟨a, xs, rfl, sqT_mono E.bh h1, by rw [h2.len]; exact hn, h σ B H xs E h2 R q⟩
theorem ws_aug {i : Nat} {f : Int → Int → Int} {a : Int} (hx : Γ[i]? = some (.val (.int a))) (hp : pin.contains i = false) (h : WE K te Γ fun z Γ1 => ∃ b, z = .val (.int b) ∧ P.nx (Γ1.set i (.val (.int (f a b))))) : WS K pin (tAug i te (ipI f)) Γ P := fun σ B H D E n r b c xx => by
  obtain ⟨v, hv, hk⟩ := E.val i _ hx
  cases hk.rawI
  refine ⟨_, hv, h σ B H E _ fun y B1 H1 z Γ1 g k p => ?_⟩
  obtain ⟨b, rfl, p⟩ := p
  cases Is.rawI k
  exact ⟨a, b, rfl, rfl, n _ B1 H1 _ (goS_set (r := .val (.int (f a b))) g (Is.raw _) hp (by rw [← g.env.len, E.len]; exact (List.getElem?_eq_some_iff.mp hx).1)) p⟩
theorem Env.put {σ : L2.St} {B H : Hp} {i : Nat} {ds es : Cn} {l : Addr} {ys : HO} (E : Env K B H σ Γ) (h : Γ[i]? = some (.cel ds)) (hl : σ[i]? = some (some (.ref l))) (ha : CnIs K B l ys es) : Env K B (upd H l ys) σ (Γ.set i (.cel es)) := by
  have hi : i < Γ.length := (List.getElem?_eq_some_iff.mp h).1
  obtain ⟨l', vs, q1, q2, q3, q4⟩ := E.cel i ds h
  rw [hl] at q1; cases q1
  have up : ∀ {j : Nat} {es' : Cn}, (Γ.set i (.cel es))[j]? = some (.cel es') → ∃ ds', Γ[j]? = some (.cel ds') := fun {j es'} hj => by
    by_cases hij : i = j
    · subst hij; exact ⟨ds, h⟩
    · rw [List.getElem?_set_ne hij] at hj; exact ⟨es', hj⟩
  refine ⟨by simp [E.len], fun a u e => ?_, fun j e hj => ?_, fun j es' hj => ?_, fun j k ds' es' l' h1 h2 h3 h4 => ?_⟩
  · rw [upd_ne (ne_of_none e q3)]; exact E.bh a u e
  · by_cases hij : i = j
    · subst hij; rw [List.getElem?_set_self hi] at hj; cases hj
    · rw [List.getElem?_set_ne hij] at hj; exact E.val j e hj
  · by_cases hij : i = j
    · subst hij; rw [List.getElem?_set_self hi] at hj; cases hj
      exact ⟨l, ys, hl, upd_same, q3, ha⟩
    · rw [List.getElem?_set_ne hij] at hj
      obtain ⟨c, us, e1, e2, e3, e4⟩ := E.cel j es' hj
      have hc : c ≠ l := fun z => by
        subst z
        exact hij (E.sep i j ds es' c h hj hl e1)
      exact ⟨c, us, e1, by rw [upd_ne hc]; exact e2, e3, e4⟩
  · obtain ⟨d1, g1⟩ := up h1
    obtain ⟨d2, g2⟩ := up h2
    exact E.sep j k d1 d2 l' g1 g2 h3 h4
theorem Own.put {σ : L2.St} {i : Nat} {ds es : Cn} {a : Addr} (h : Γ[i]? = some (.cel ds)) (o : Own σ (Γ.set i (.cel es)) a) : Own σ Γ a := by
  obtain ⟨j, es', h1, h2⟩ := o
  by_cases hij : i = j
  · subst hij; exact ⟨i, ds, h, h2⟩
  · rw [List.getElem?_set_ne hij] at h1; exact ⟨j, es', h1, h2⟩
theorem Go.putC {σ : L2.St} {B H : Hp} {i : Nat} {ds es : Cn} {l : Addr} {ys : HO} (E : Env K B H σ Γ) (h : Γ[i]? = some (.cel ds)) (hl : σ[i]? = some (some (.ref l))) (ha : CnIs K B l ys es) : Go K σ B H Γ B (upd H l ys) (Γ.set i (.cel es)) :=
  ⟨⟨fun a o na e => by rw [upd_ne (fun z => na (by subst z; exact ⟨i, ds, h, hl⟩))]; exact e, Same.refl B, fun _ _ _ e => e⟩, fun j es' hj => by
    by_cases hij : i = j
    · subst hij; exact ⟨ds, h⟩
    · rw [List.getElem?_set_ne hij] at hj; exact ⟨es', hj⟩, E.put h hl ha⟩
theorem Go.put {σ : L2.St} {B H : Hp} {i : Nat} {ds es : List Dt} {l : Addr} {ys : List V} (E : Env K B H σ Γ) (h : Γ[i]? = some (.acc ds)) (hl : σ[i]? = some (some (.ref l))) (ha : IsA K B ys es) : Go K σ B H Γ B (upd H l (.lst ys)) (Γ.set i (.acc es)) :=
  Go.putC E h hl ⟨ys, rfl, ha⟩
theorem we_append {i : Nat} {ds0 : List Dt} {Post : Re → List Sl → Prop} (h0 : Γ[i]? = some (.acc ds0)) (h : WE K te Γ fun z Γ1 => ∃ d ds, z.dt? = some d ∧ Γ1[i]? = some (.acc ds) ∧ ds.length < 1000000 ∧ Post (.val .non) (Γ1.set i (.acc (ds ++ [d])))) :
    WE K (tBM K "list" rAppend (tVar i) (tCons te tNil)) Γ Post := fun σ B H E Q q => by
  obtain ⟨l, vs, e0, e1, e2, k0⟩ := E.acc i ds0 h0
  refine ⟨.ref l, e0, .inl ⟨rfl, vs, .inl (.inl e1)⟩, ?_⟩
  have h' : WE K te Γ fun z Γ1 => ∃ d ds, z = .val d ∧ Γ1[i]? = some (.acc ds) ∧ ds.length < 1000000 ∧ Post (.val .non) (Γ1.set i (.acc (ds ++ [d]))) := we_freeze (we_mono h fun z Γ1 ⟨d, ds, hd, r⟩ => ⟨d, hd, d, ds, rfl, r⟩)
  refine h' σ B H E _ fun y B1 H1 z Γ1 g k p => ?_
  obtain ⟨d, ds, rfl, hi, hz, p⟩ := p
  obtain ⟨l', us, f0, f1, f2, k1⟩ := g.env.acc i ds hi
  rw [e0] at f0; cases f0
  refine ⟨l, us, y, rfl, rfl, f1, Nat.lt_trans (by rw [k1.len]; exact hz) (by decide), ?_⟩
  have g2 := Go.put g.env hi e0 (k1.snoc k)
  exact q .non B1 _ (.val .non) _ (g.trans g2) (Is.raw _) p
theorem ws_setA {i : Nat} {tj : TE} (h : WE K te Γ fun z Γ1 => ∃ d, z = .val d ∧ (∃ ds1, Γ1[i]? = some (.acc ds1)) ∧ WE K tj Γ1 fun y Γ2 => ∃ ds k j, y = .val (.int k) ∧ Γ2[i]? = some (.acc ds) ∧ ixN ds.length k = some j ∧ P.nx (Γ2.set i (.acc (ds.set j d)))) :
    WS K pin (tAsg te (gSub (tVar i) tj rSetL)) Γ P := fun σ B H D E n r b c xx => by
  refine h σ B H E _ fun v B1 H1 z Γ1 g1 k1 p1 => ?_
  obtain ⟨d, rfl, ⟨ds1, h1⟩, p1⟩ := p1
  obtain ⟨l, vs, e0, e1, e2, k0⟩ := g1.env.acc i ds1 h1
  refine ⟨.ref l, e0, p1 σ B1 H1 g1.env _ fun y B2 H2 w Γ2 g2 k2 p2 => ?_⟩
  obtain ⟨ds, k, j, rfl, hi, hj, p⟩ := p2
  cases Is.rawI k2
  obtain ⟨l', us, f0, f1, f2, k3⟩ := g2.env.acc i ds hi
  rw [e0] at f0; cases f0
  refine ⟨l, us, k, j, rfl, rfl, f1, by rw [k3.len]; exact hj, ?_⟩
  exact n _ B2 _ _ ((g1.trans g2).trans (Go.put g2.env hi e0 (k3.set (Is.mono g2.mv.bb k1)))).s p
theorem we_reverse {i : Nat} {ds : List Dt} {Post : Re → List Sl → Prop} (h0 : Γ[i]? = some (.acc ds)) (p : Post (.val .non) (Γ.set i (.acc ds.reverse))) : WE K (tBM0 K "list" rReverse (tVar i)) Γ Post := fun σ B H E Q q => by
  obtain ⟨l, vs, e0, e1, e2, k0⟩ := E.acc i ds h0
  exact ⟨.ref l, e0, .inl ⟨rfl, vs, .inl (.inl e1)⟩, l, vs, rfl, rfl, e1, q .non B _ (.val .non) _ (Go.put E h0 e0 k0.reverse) (Is.raw _) p⟩
theorem ws_for1 {t1 : TA} (h : WD K t1 Γ fun ds Γ1 => ∃ n : Int, ds = [.int n] ∧ -(2 ^ 62) ≤ n ∧ n < 2 ^ 62 ∧ ∃ Inv : Nat → List Sl → Prop, Inv 0 Γ1 ∧
      (∀ (i : Nat) Γ', (i : Int) < n → Inv i Γ' → WG K pin g (.int i) Γ' fun Γ2 => WS K pin tb' Γ2 ⟨Inv (i + 1), P.rt, P.nx, Inv (i + 1), P.ex⟩) ∧ ∀ Γ', Inv n.toNat Γ' → P.nx Γ') : WS K pin (tFor (iRng1 t1) g tb') Γ P := fun σ B H D E n r b c xx => by
  refine h σ B H E _ fun vs B1 H1 ds Γ1 g1 k p => ?_
  obtain ⟨m, rfl, hlo, hhi, Inv, i0, turn, done⟩ := p
  have ev : vs = [.int m] := IsA.rawsI (xs := [.int m]) k
  refine ⟨m, ev, hlo, hhi, ?_⟩
  refine for_range (lo := 0) (n := m.toNat) (fun i σ' H' => ∃ B' Γ', GoS K pin σ B H Γ σ' B' H' Γ' ∧ Inv i Γ') ⟨B1, Γ1, g1.s, i0⟩ ?_ ?_
  · rintro i σ' H' hi ⟨B', Γ', g2, inv⟩
    have e0 : (0 : Int) + (i : Int) = (i : Int) := Int.zero_add _
    rw [e0]
    refine turn i Γ' (by omega) inv σ' B' H' _ g2.env (.raw _) _ fun σ2 Γ2 g3 w => ?_
    exact ws_from w (g2.trans g3) (fun σ3 B3 H3 Γ3 g4 p => ⟨B3, Γ3, g4, p⟩) r (fun σ3 B3 H3 Γ3 g4 p => n σ3 B3 H3 Γ3 g4 p) (fun σ3 B3 H3 Γ3 g4 p => ⟨B3, Γ3, g4, p⟩) xx
  · rintro σ' H' ⟨B', Γ', g2, inv⟩
    exact n σ' B' H' Γ' g2 (done Γ' inv)
theorem ws_for2 {t1 : TA} (h : WD K t1 Γ fun ds Γ1 => ∃ lo m : Int, ds = [.int lo, .int m] ∧ (-(2 ^ 62) ≤ lo ∧ lo < 2 ^ 62 ∧ -(2 ^ 62) ≤ m ∧ m < 2 ^ 62) ∧ ∃ Inv : Nat → List Sl → Prop, Inv 0 Γ1 ∧
      (∀ (i : Nat) Γ', lo + (i : Int) < m → Inv i Γ' → WG K pin g (.int (lo + i)) Γ' fun Γ2 => WS K pin tb' Γ2 ⟨Inv (i + 1), P.rt, P.nx, Inv (i + 1), P.ex⟩) ∧ ∀ Γ', Inv (m - lo).toNat Γ' → P.nx Γ') : WS K pin (tFor (iRng2 t1) g tb') Γ P := fun σ B H D E n r b c xx => by
  refine h σ B H E _ fun vs B1 H1 ds Γ1 g1 k p => ?_
  obtain ⟨lo, m, rfl, hb, Inv, i0, turn, done⟩ := p
  have ev : vs = [.int lo, .int m] := IsA.rawsI (xs := [.int lo, .int m]) k
  refine ⟨lo, m, ev, hb, ?_⟩
  refine for_range (lo := lo) (n := (m - lo).toNat) (fun i σ' H' => ∃ B' Γ', GoS K pin σ B H Γ σ' B' H' Γ' ∧ Inv i Γ') ⟨B1, Γ1, g1.s, i0⟩ ?_ ?_
  · rintro i σ' H' hi ⟨B', Γ', g2, inv⟩
    refine turn i Γ' (by omega) inv σ' B' H' _ g2.env (.raw _) _ fun σ2 Γ2 g3 w => ?_
    exact ws_from w (g2.trans g3) (fun σ3 B3 H3 Γ3 g4 p => ⟨B3, Γ3, g4, p⟩) r (fun σ3 B3 H3 Γ3 g4 p => n σ3 B3 H3 Γ3 g4 p) (fun σ3 B3 H3 Γ3 g4 p => ⟨B3, Γ3, g4, p⟩) xx
  · rintro σ' H' ⟨B', Γ', g2, inv⟩
    exact n σ' B' H' Γ' g2 (done Γ' inv)
theorem ws_forT (h : WE K te Γ fun z Γ1 => ∃ ds, z = .val (.tup ds) ∧ ∃ Inv : Nat → List Sl → Prop, Inv 0 Γ1 ∧
      (∀ (i : Nat) d Γ', ds[i]? = some d → Inv i Γ' → WG K pin g d Γ' fun Γ2 => WS K pin tb' Γ2 ⟨Inv (i + 1), P.rt, P.nx, Inv (i + 1), P.ex⟩) ∧ ∀ Γ', Inv ds.length Γ' → P.nx Γ') : WS K pin (tFor (iTup K te) g tb') Γ P := fun σ B H D E n r b c xx => by
  refine h σ B H E _ fun v B1 H1 z Γ1 g1 k p => ?_
  obtain ⟨ds, rfl, Inv, i0, turn, done⟩ := p
  obtain ⟨a, xs, rfl, ha, hx⟩ := Is.tupR k
  refine ⟨a, rfl, ⟨xs, sqT_mono g1.env.bh ha⟩, for_tup (xs := xs) (fun i σ' H' => ∃ B' Γ', Same B1 B' ∧ GoS K pin σ B H Γ σ' B' H' Γ' ∧ Inv i Γ') ⟨B1, Γ1, Same.refl _, g1.s, i0⟩ ?_ ?_ ?_⟩
  · rintro i σ' H' _ ⟨B', Γ', sb, g2, _⟩
    exact sqT_mono (sb.trans g2.env.bh) ha
  · rintro i x σ' H' hi ⟨B', Γ', sb, g2, inv⟩
    have hlt : i < ds.length := by rw [← hx.len]; exact (List.getElem?_eq_some_iff.mp hi).1
    refine turn i ds[i] Γ' (List.getElem?_eq_getElem hlt) inv σ' B' H' x g2.env ((hx.at_ i x _ hi (List.getElem?_eq_getElem hlt)).mono sb) _ fun σ2 Γ2 g3 w => ?_
    have g23 := g2.trans g3
    refine w σ2 B' H' _ g23.env (fun σ3 B3 H3 Γ3 g4 p => ⟨B3, Γ3, sb.trans g4.mv.bb, g23.trans g4, p⟩) (fun v σ3 B3 H3 z Γ3 g4 k4 p => r v σ3 B3 H3 z Γ3 (g23.trans g4) (ReOk.earlier k4 g23.mv g23.new) p)
      (fun σ3 B3 H3 Γ3 g4 p => n σ3 B3 H3 Γ3 (g23.trans g4) p) (fun σ3 B3 H3 Γ3 g4 p => ⟨B3, Γ3, sb.trans g4.mv.bb, g23.trans g4, p⟩) (fun cls d fs σ3 B3 H3 Γ3 g4 hx p => xx cls d fs σ3 B3 H3 Γ3 (g23.trans g4) hx p)
  · rintro σ' H' ⟨B', Γ', sb, g2, inv⟩
    rw [hx.len] at inv
    exact n σ' B' H' Γ' g2 (done Γ' inv)
theorem ws_forL (h : WE K te Γ fun z Γ1 => ∃ d ds, z.dt? = some d ∧ d = .lst ds ∧ ∃ Inv : Nat → List Sl → Prop, Inv 0 Γ1 ∧
      (∀ (i : Nat) d Γ', ds[i]? = some d → Inv i Γ' → WG K pin g d Γ' fun Γ2 => WS K pin tb' Γ2 ⟨Inv (i + 1), P.rt, P.nx, Inv (i + 1), P.ex⟩) ∧ ∀ Γ', Inv ds.length Γ' → P.nx Γ') : WS K pin (tFor (iList K te) g tb') Γ P := fun σ B H D E n r b c xx => by
  have h' : WE K te Γ fun z Γ1 => ∃ ds, z = .val (.lst ds) ∧ ∃ Inv : Nat → List Sl → Prop, Inv 0 Γ1 ∧
      (∀ (i : Nat) d Γ', ds[i]? = some d → Inv i Γ' → WG K pin g d Γ' fun Γ2 => WS K pin tb' Γ2 ⟨Inv (i + 1), P.rt, P.nx, Inv (i + 1), P.ex⟩) ∧ ∀ Γ', Inv ds.length Γ' → P.nx Γ' :=
    we_freeze (we_mono h fun z Γ1 ⟨d, ds, hd, e, r⟩ => ⟨d, hd, ds, by rw [e], r⟩)
  refine h' σ B H E _ fun v B1 H1 z Γ1 g1 k p => ?_
  obtain ⟨ds, rfl, Inv, i0, turn, done⟩ := p
  obtain ⟨a, xs, rfl, ha, hx⟩ := Is.lstR k
  refine ⟨a, rfl, ⟨xs, .inl (.inl (g1.env.bh _ _ ha))⟩, for_list (xs := xs) (fun i σ' H' => ∃ B' Γ', Same B1 B' ∧ GoS K pin σ B H Γ σ' B' H' Γ' ∧ Inv i Γ') ⟨B1, Γ1, Same.refl _, g1.s, i0⟩ ?_ ?_ ?_⟩
  · rintro i σ' H' _ ⟨B', Γ', sb, g2, _⟩
    exact .inl (.inl ((sb.trans g2.env.bh) _ _ ha))
  · rintro i x σ' H' hi ⟨B', Γ', sb, g2, inv⟩
    have hlt : i < ds.length := by rw [← hx.len]; exact (List.getElem?_eq_some_iff.mp hi).1
    refine turn i ds[i] Γ' (List.getElem?_eq_getElem hlt) inv σ' B' H' x g2.env ((hx.at_ i x _ hi (List.getElem?_eq_getElem hlt)).mono sb) _ fun σ2 Γ2 g3 w => ?_
    have g23 := g2.trans g3
    refine w σ2 B' H' _ g23.env (fun σ3 B3 H3 Γ3 g4 p => ⟨B3, Γ3, sb.trans g4.mv.bb, g23.trans g4, p⟩) (fun v σ3 B3 H3 z Γ3 g4 k4 p => r v σ3 B3 H3 z Γ3 (g23.trans g4) (ReOk.earlier k4 g23.mv g23.new) p)
      (fun σ3 B3 H3 Γ3 g4 p => n σ3 B3 H3 Γ3 (g23.trans g4) p) (fun σ3 B3 H3 Γ3 g4 p => ⟨B3, Γ3, sb.trans g4.mv.bb, g23.trans g4, p⟩) (fun cls d fs σ3 B3 H3 Γ3 g4 hx p => xx cls d fs σ3 B3 H3 Γ3 (g23.trans g4) hx p)
  · rintro σ' H' ⟨B', Γ', sb, g2, inv⟩
    rw [hx.len] at inv
    exact n σ' B' H' Γ' g2 (done Γ' inv)
theorem ws_forA {k : Nat} {ds : List Dt} (h0 : Γ[k]? = some (.acc ds)) (Inv : Nat → List Sl → Prop) (i0 : Inv 0 Γ) (hk : ∀ i Γ', Inv i Γ' → Γ'[k]? = some (.acc ds))
      (turn : ∀ (i : Nat) d Γ', ds[i]? = some d → Inv i Γ' → WG K (k :: pin) g d Γ' fun Γ2 => WS K (k :: pin) tb' Γ2 ⟨Inv (i + 1), P.rt, P.nx, Inv (i + 1), P.ex⟩) (done : ∀ Γ', Inv ds.length Γ' → P.nx Γ') : WS K pin (tFor (iList K (tVar k)) g tb') Γ P := fun σ B H D E n r b c xx => by
  obtain ⟨l, xs, e0, e1, e2, hx⟩ := E.acc k ds h0
  have off : ∀ {σ' B' H' Γ'}, GoS K (k :: pin) σ B H Γ σ' B' H' Γ' → GoS K pin σ B H Γ σ' B' H' Γ' := fun g => ⟨g.mv, g.new, g.env, fun i hi => g.pin i (List.mem_cons_of_mem _ hi)⟩
  have items : ∀ {i σ' B' H' Γ'}, GoS K (k :: pin) σ B H Γ σ' B' H' Γ' → Inv i Γ' → ∃ ys, H' l = some (.lst ys) ∧ IsA K B' ys ds := fun {i σ' B' H' Γ'} g inv => by
    obtain ⟨c, ys, q1, q2, q3, q4⟩ := g.env.acc k ds (hk i Γ' inv)
    rw [g.pin k (List.mem_cons_self), e0] at q1
    cases q1
    exact ⟨ys, q2, q4⟩
  refine ⟨.ref l, e0, l, rfl, ⟨xs, .inl (.inl e1)⟩, fun i m σ' H' => m = ds.length - i ∧ i ≤ ds.length ∧ ∃ B' Γ', GoS K (k :: pin) σ B H Γ σ' B' H' Γ' ∧ Inv i Γ', ⟨ds.length, by simp, Nat.zero_le _, B, Γ, .refl E, i0⟩, ?_⟩
  rintro i m σ' H' ⟨rfl, hi, B', Γ', g2, inv⟩
  obtain ⟨ys, hy, hya⟩ := items g2 inv
  by_cases hlt : i < ds.length
  · obtain ⟨x, hx1, hx2⟩ := hya.get (List.getElem?_eq_getElem hlt)
    refine .inr ⟨⟨ys, x, .inl (.inl hy), hx1⟩, fun σ2 H2 => ∃ B' Γ', GoS K (k :: pin) σ B H Γ σ2 B' H2 Γ' ∧ Inv (i + 1) Γ', fun σ2 H2 ⟨B2, Γ2, q⟩ => ⟨ds.length - (i + 1), by omega, rfl, hlt, B2, Γ2, q⟩, fun x' H2 hyl => ?_⟩
    obtain ⟨e, hyl⟩ := hyl
    subst e
    have ex : x' = x := by
      have := hyl ys (.inl (.inl hy))
      rw [hx1] at this; cases this; rfl
    subst ex
    refine turn i ds[i] Γ' (List.getElem?_eq_getElem hlt) inv σ' B' _ x' g2.env hx2 _ fun σ2 Γ2 g3 w => ?_
    have g23 := g2.trans g3
    exact w σ2 B' _ _ g23.env (fun σ3 B3 H3 Γ3 g4 p => ⟨B3, Γ3, g23.trans g4, p⟩) (fun v σ3 B3 H3 z Γ3 g4 k4 p => r v σ3 B3 H3 z Γ3 (off (g23.trans g4)) (ReOk.earlier k4 g23.mv g23.new) p)
      (fun σ3 B3 H3 Γ3 g4 p => n σ3 B3 H3 Γ3 (off (g23.trans g4)) p) (fun σ3 B3 H3 Γ3 g4 p => ⟨B3, Γ3, g23.trans g4, p⟩) (fun cls d fs σ3 B3 H3 Γ3 g4 hx p => xx cls d fs σ3 B3 H3 Γ3 (off (g23.trans g4)) hx p)
  · have e : i = ds.length := by omega
    subst e
    exact .inl ⟨⟨ys, .inl (.inl hy), by rw [hya.len]; exact Nat.le_refl _⟩, n σ' B' H' Γ' (off g2) (done Γ' inv)⟩
theorem ws_while (Inv : Nat → List Sl → Prop) (m0 : Nat) (i0 : Inv m0 Γ)
      (turn : ∀ m Γ', Inv m Γ' → WT K tt Γ' fun z Γ1 => (z = true → WS K pin tb' Γ1 ⟨fun G => ∃ m', m' < m ∧ Inv m' G, P.rt, P.nx, fun G => ∃ m', m' < m ∧ Inv m' G, P.ex⟩) ∧ (z = false → P.nx Γ1)) : WS K pin (tWhile tt tb') Γ P := fun σ B H D E n r b c xx => by
  refine ⟨fun m σ' H' => ∃ B' Γ', GoS K pin σ B H Γ σ' B' H' Γ' ∧ Inv m Γ', ⟨m0, B, Γ, .refl E, i0⟩, ?_⟩
  rintro m σ' H' ⟨B', Γ', g, inv⟩
  refine turn m Γ' inv σ' B' H' g.env _ fun z B1 H1 Γ1 g1 p => ?_
  have gg := g.trans g1.s
  cases z with
  | true =>
    refine (show ∃ N : L2.St → Hp → Prop, _ from ⟨fun σ2 H2 => ∃ B2 Γ2, GoS K pin σ B H Γ σ2 B2 H2 Γ2 ∧ ∃ m', m' < m ∧ Inv m' Γ2, fun σ2 H2 ⟨B2, Γ2, g2, m', hm, inv'⟩ => ⟨m', hm, B2, Γ2, g2, inv'⟩, ?_⟩)
    exact ws_from (p.1 rfl) gg (fun σ3 B3 H3 Γ3 g4 p => ⟨B3, Γ3, g4, p⟩) r (fun σ3 B3 H3 Γ3 g4 p => n σ3 B3 H3 Γ3 g4 p) (fun σ3 B3 H3 Γ3 g4 p => ⟨B3, Γ3, g4, p⟩) xx
  | false => exact n σ' B1 H1 Γ1 gg (p.2 rfl)
end
end Ab

namespace Ab
open PySem L2
abbrev AP := List Sl → (Re → List Sl → Prop) → Prop
def toSp (K : PySem.W.Frag) (ap : AP) : Sp := fun vs H Q _ => ∃ B as Post, Env K B H (vs.map some) as ∧ ap as Post ∧
  ∀ v B' H' r as', Go K (vs.map some) B H as B' H' as' → ReOk K [] (Own (vs.map some) as) (Own (vs.map some) as') B' H H' v r → Post r as' → Q v H'
def exitSl (pin : List Nat) (Γ : List Sl) (i : Nat) : Sl → Sl
  | .val d => .val d
  | .un => .un
  | .cel _ => if pin.contains i then (Γ[i]?).getD .un else .un
def exitFrom (pin : List Nat) (Γ : List Sl) : Nat → List Sl → List Sl
  | _, [] => []
  | k, s :: r => exitSl pin Γ k s :: exitFrom pin Γ (k + 1) r
def exitArgs (pin : List Nat) (Γ as : List Sl) : List Sl := exitFrom pin Γ 0 as
theorem exitFrom_get (pin : List Nat) (Γ : List Sl) : ∀ (as : List Sl) (k i : Nat), (exitFrom pin Γ k as)[i]? = (as[i]?).map (exitSl pin Γ (k + i))
  | [], k, i => by simp [exitFrom]
  | s :: r, k, 0 => by simp [exitFrom]
  | s :: r, k, i + 1 => by
    rw [exitFrom]
    simp only [List.getElem?_cons_succ]
    rw [exitFrom_get pin Γ r (k + 1) i]
    rw [show k + 1 + i = k + (i + 1) by omega]
theorem exitArgs_get {pin : List Nat} {Γ as : List Sl} {i : Nat} {s : Sl} (h : (exitArgs pin Γ as)[i]? = some s) : ∃ s0, as[i]? = some s0 ∧ s = exitSl pin Γ i s0 := by
  unfold exitArgs at h
  rw [exitFrom_get] at h
  cases q : as[i]? with
  | none => rw [q] at h; cases h
  | some s0 =>
    rw [q] at h
    simp at h
    exact ⟨s0, rfl, h.symm⟩
theorem exitFrom_len (pin : List Nat) (Γ : List Sl) : ∀ (as : List Sl) (k : Nat), (exitFrom pin Γ k as).length = as.length
  | [], _ => rfl
  | s :: r, k => by rw [exitFrom, List.length_cons, List.length_cons, exitFrom_len pin Γ r (k + 1)]
section
variable {K : PySem.W.Frag}
theorem start_get {N : List Str} {vs : List V} {i : Nat} (h : i < vs.length) : (L2.start N vs)[i]? = (vs.map some)[i]? := by
  unfold L2.start
  rw [List.getElem?_append_left (by rw [List.length_map]; exact h)]
theorem env_start {B H : Hp} {N : List Str} {vs : List V} {as : List Sl} (E : Env K B H (vs.map some) as) (hn : as.length ≤ N.length) : Env K B H (L2.start N vs) (as ++ List.replicate (N.length - as.length) .un) := by
  have hl : vs.length = as.length := by have := E.len; simpa using this
  have lt : ∀ {i : Nat} {s : Sl}, (as ++ List.replicate (N.length - as.length) Sl.un)[i]? = some s → s ≠ .un → i < as.length ∧ as[i]? = some s := fun {i s} h hs => by
    by_cases hi : i < as.length
    · rw [List.getElem?_append_left hi] at h; exact ⟨hi, h⟩
    · rw [List.getElem?_append_right (by omega)] at h
      have := List.mem_of_getElem? h
      rw [List.mem_replicate] at this
      exact absurd this.2 hs
  refine ⟨?_, E.bh, fun i d h => ?_, fun i ds h => ?_, fun i j ds es l h1 h2 h3 h4 => ?_⟩
  · unfold L2.start
    rw [List.length_append, List.length_map, List.length_replicate, List.length_append, List.length_replicate, hl]
  · obtain ⟨hi, h⟩ := lt h (fun z => nomatch z)
    rw [start_get (by omega)]
    exact E.val i d h
  · obtain ⟨hi, h⟩ := lt h (fun z => nomatch z)
    rw [start_get (by omega)]
    exact E.cel i ds h
  · obtain ⟨hi, h1⟩ := lt h1 (fun z => nomatch z)
    obtain ⟨hj, h2⟩ := lt h2 (fun z => nomatch z)
    rw [start_get (by omega)] at h3 h4
    exact E.sep i j ds es l h1 h2 h3 h4
theorem own_start {N : List Str} {vs : List V} {as : List Sl} (hl : vs.length = as.length) {a : Addr} : Own (L2.start N vs) (as ++ List.replicate (N.length - as.length) .un) a ↔ Own (vs.map some) as a := by
  constructor
  · rintro ⟨i, ds, h1, h2⟩
    by_cases hi : i < as.length
    · rw [List.getElem?_append_left hi] at h1
      rw [start_get (by omega)] at h2
      exact ⟨i, ds, h1, h2⟩
    · rw [List.getElem?_append_right (by omega)] at h1
      have := List.mem_of_getElem? h1
      rw [List.mem_replicate] at this
      cases this.2
  · rintro ⟨i, ds, h1, h2⟩
    have hi : i < as.length := (List.getElem?_eq_some_iff.mp h1).1
    refine ⟨i, ds, ?_, ?_⟩
    · rw [List.getElem?_append_left hi]; exact h1
    · rw [start_get (by omega)]; exact h2
variable {P : Program} {w : World} {mg : Str → Option Value} {base : Heap}
theorem exit_go {N : List Str} {vs : List V} {as : List Sl} {B H B' H' : Hp} {pin : List Nat} {σ' : L2.St} {Γ' : List Sl} (E1 : Env K B H (vs.map some) as) (hl : vs.length = as.length)
    (g : GoS K pin (L2.start N vs) B H (as ++ List.replicate (N.length - as.length) .un) σ' B' H' Γ') : Go K (vs.map some) B H as B' H' (exitArgs pin Γ' as) ∧
      ∀ v r, ReOk K [] (Own (L2.start N vs) (as ++ List.replicate (N.length - as.length) .un)) (Own σ' Γ') B' H H' v r → ReOk K [] (Own (vs.map some) as) (Own (vs.map some) (exitArgs pin Γ' as)) B' H H' v r := by
  have hpinv : ∀ i, i < vs.length → i ∈ pin → σ'[i]? = (vs.map some)[i]? := fun i hi hp => by rw [g.pin i hp, start_get hi]
  have acc : ∀ {i : Nat} {ds : Cn}, (exitArgs pin Γ' as)[i]? = some (.cel ds) → i ∈ pin ∧ Γ'[i]? = some (.cel ds) ∧ ∃ ds0, as[i]? = some (.cel ds0) := fun {i ds} h => by
    obtain ⟨s0, h0, e⟩ := exitArgs_get h
    cases s0 with
    | un => cases e
    | val d => cases e
    | cel es =>
      unfold exitSl at e
      simp only at e
      split at e
      · rename_i hc
        refine ⟨List.contains_iff_mem.mp hc, ?_, es, h0⟩
        cases q : Γ'[i]? with
        | none => rw [q] at e; cases e
        | some s => rw [q] at e; simp at e; rw [← e]
      · cases e
  have own' : ∀ {a}, Own (vs.map some) (exitArgs pin Γ' as) a → Own σ' Γ' a := fun {a} ⟨i, ds, h1, h2⟩ => by
    obtain ⟨hp, h3, _, _⟩ := acc h1
    have hi : i < vs.length := by
      have := (List.getElem?_eq_some_iff.mp h2).1
      simpa using this
    exact ⟨i, ds, h3, by rw [hpinv i hi hp]; exact h2⟩
  have E' : Env K B' H' (vs.map some) (exitArgs pin Γ' as) := by
    refine ⟨by unfold exitArgs; rw [exitFrom_len, List.length_map, hl], g.env.bh, fun i d h => ?_, fun i ds h => ?_, fun i j ds es l h1 h2 h3 h4 => ?_⟩
    · obtain ⟨s0, h0, e⟩ := exitArgs_get h
      cases s0 with
      | un => cases e
      | val d' =>
        cases e
        obtain ⟨v, e1, e2⟩ := E1.val i d h0
        exact ⟨v, e1, e2.mono g.mv.bb⟩
      | cel es =>
        unfold exitSl at e
        simp only at e
        split at e
        · rename_i hc
          have hp := List.contains_iff_mem.mp hc
          have hi : i < vs.length := by rw [hl]; exact (List.getElem?_eq_some_iff.mp h0).1
          cases q : Γ'[i]? with
          | none => rw [q] at e; cases e
          | some s =>
            rw [q] at e
            simp at e
            subst e
            rw [← hpinv i hi hp]
            exact g.env.val i d q
        · cases e
    · obtain ⟨hp, h3, _, h4⟩ := acc h
      have hi : i < vs.length := by rw [hl]; exact (List.getElem?_eq_some_iff.mp h4).1
      rw [← hpinv i hi hp]
      exact g.env.cel i ds h3
    · obtain ⟨hp, g1, _, _⟩ := acc h1
      obtain ⟨hp2, g2, _, _⟩ := acc h2
      have hi : i < vs.length := by have := (List.getElem?_eq_some_iff.mp h3).1; simpa using this
      have hj : j < vs.length := by have := (List.getElem?_eq_some_iff.mp h4).1; simpa using this
      exact g.env.sep i j ds es l g1 g2 (by rw [hpinv i hi hp]; exact h3) (by rw [hpinv j hj hp2]; exact h4)
  have hm : ∀ a, Own (L2.start N vs) (as ++ List.replicate (N.length - as.length) .un) a ↔ Own (vs.map some) as a := fun a => own_start hl
  refine ⟨⟨⟨fun a o na e => g.mv.kp a o (fun z => na ((hm a).mp z)) e, g.mv.bb, fun a na ha hb => g.mv.off a (fun z => na ((hm a).mp z)) ha hb⟩, fun i ds h1 => ?_, E'⟩, fun v r kk => ?_⟩
  · obtain ⟨_, _, ds0, h3⟩ := acc h1
    exact ⟨ds0, h3⟩
  · cases r with
    | val d => exact kk
    | own i => exact kk
    | nw ds =>
      obtain ⟨l, us, e, h1, h2, h3⟩ := kk
      exact ⟨l, us, e, h1.imp (fun z => (hm l).mp z) id, fun z => h2 (own' z), h3⟩
theorem fn_ab {x qual : Str} {st : Stmt} {f : Addr} {fd : FuncData} {N ps : List Str} {k : Nat} {ap : AP} (pin : List Nat) (F : Fun K x qual st f fd) (S : FnScope N ps (defScope st))
    (hlen : ∀ as Post, ap as Post → as.length = ps.length) (hN : decide (ps.length ≤ N.length) = true)
    (body : ∀ (cdv : Value) (A : Around) (outer : List PySem.Env) (s : Shared) (H : Hp) (E : XK), Room k (A.deeper (PyProof.Rows.envOfC qual (defScope st) s.heap.objs.size f cdv)) →
      ∃ t, PSs (cxOf CX0 P w K mg base N qual (defScope st) f cdv A outer s H E).nox (defBody st) t ∧
        ∀ as Post, ap as Post → WS K pin t (as ++ List.replicate (N.length - as.length) .un) ⟨fun G => Post (.val .non) (exitArgs pin G as), fun r G => Post r (exitArgs pin G as), fun _ => False, fun _ => False, .no⟩) :
    FnOk P w K mg base CX0 (k + 1) f fd ps (toSp K ap) := by
  refine F.ok S (fun vs H Q E h => ?_) (fun cdv A outer s H vs Q E hr h => ?_)
  · obtain ⟨B, as, Post, E1, ha, _⟩ := h
    have := E1.len
    rw [List.length_map] at this
    rw [this]; exact hlen as Post ha
  · obtain ⟨B, as, Post, E1, ha, q⟩ := h
    obtain ⟨t, ht, hw⟩ := body cdv A outer s H E hr
    refine ⟨t, ht, ?_⟩
    have hl : vs.length = as.length := by have := E1.len; simpa using this
    have hps : as.length ≤ N.length := by rw [hlen as Post ha]; exact of_decide_eq_true hN
    have E0 := env_start E1 hps
    have fin : ∀ v σ' B' H' r Γ', GoS K pin (L2.start N vs) B H (as ++ List.replicate (N.length - as.length) .un) σ' B' H' Γ' → ReOk K [] (Own (L2.start N vs) (as ++ List.replicate (N.length - as.length) .un)) (Own σ' Γ') B' H H' v r → Post r (exitArgs pin Γ' as) → Q v H' := by
      intro v σ' B' H' r Γ' g kk p
      obtain ⟨g', kr⟩ := exit_go E1 hl g
      exact q v B' H' r _ g' (kr v r kk) p
    exact hw as Post ha (L2.start N vs) B H _ E0 (fun σ' B' H' Γ' g p => fin .non σ' B' H' (.val .non) Γ' g (Is.raw _) p) (fun v σ' B' H' r Γ' g kk p => fin v σ' B' H' r Γ' g kk p) (fun _ _ _ _ _ p => p.elim) (fun _ _ _ _ _ p => p.elim) (fun _ _ _ _ _ _ _ _ _ p => (show False from p).elim)
end
structure AsOk (K : PySem.W.Frag) (σ : L2.St) (m m' : Addr → Prop) (B' H H' : Hp) (vs : List V) (rs : List Re) : Prop where
  len : vs.length = rs.length
  at_ : ∀ (i : Nat) v r, vs[i]? = some v → rs[i]? = some r → ReOk K σ m m' B' H H' v r
  sep : ∀ (i j : Nat) ds es l, rs[i]? = some (.nw ds) → rs[j]? = some (.nw es) → vs[i]? = some (.ref l) → vs[j]? = some (.ref l) → i = j
def WA (K : PySem.W.Frag) (ta : TA) (Γ : List Sl) (Post : List Re → List Sl → Prop) : Prop := ∀ σ B H, Env K B H σ Γ → ∀ Q : List V → Hp → Prop,
  (∀ vs B' H' rs Γ', Go K σ B H Γ B' H' Γ' → AsOk K σ (Own σ Γ) (Own σ Γ') B' H H' vs rs → Post rs Γ' → Q vs H') → ta σ H Q
section
variable {K : PySem.W.Frag} {Γ : List Sl} {te : TE} {tr : TA}
theorem wa_nil {P : List Re → List Sl → Prop} (p : P [] Γ) : WA K tNil Γ P := fun σ B H E Q q => q [] B H [] Γ (.refl E) ⟨rfl, fun i v r a => by simp at a, fun i j ds es l a => by simp at a⟩ p
theorem wa_cons {P : List Re → List Sl → Prop} (h : WE K te Γ fun r Γ1 => WA K tr Γ1 fun rs Γ2 => P (r :: rs) Γ2) : WA K (tCons te tr) Γ P := fun σ B H E Q q => by
  refine h σ B H E _ fun x B1 H1 r Γ1 g1 k1 p1 => ?_
  refine p1 σ B1 H1 g1.env _ fun vs B2 H2 rs Γ2 g2 k2 p2 => ?_
  have k1' := ReOk.step k1 g2.mv g2.sub
  refine q (x :: vs) B2 H2 (r :: rs) Γ2 (g1.trans g2) ⟨by simp [k2.len], fun i v z a b => ?_, fun i j ds es l a b c d => ?_⟩ p2
  · cases i with
    | zero => simp at a b; subst a b; exact k1'
    | succ i => simp at a b; exact ReOk.earlier (k2.at_ i v z a b) g1.mv fun a h => .inl (g1.sub a h)
  · -- two new lists are apart
    have apart : ∀ (j : Nat) es, r = .nw ds → rs[j]? = some (.nw es) → x = .ref l → vs[j]? = some (.ref l) → False := fun j es hr hj hx hv => by
      subst hr
      obtain ⟨l1, us, e, _, n1, t1, _⟩ := k1
      rw [hx] at e; cases e
      obtain ⟨l2, us2, e2, f2, _⟩ := k2.at_ j _ _ hv hj
      cases e2
      rcases f2 with f2 | f2
      · exact n1 f2
      · rw [t1] at f2; cases f2
    cases i with
    | zero =>
      cases j with
      | zero => rfl
      | succ j => simp at a b c d; exact (apart j es a b c d).elim
    | succ i =>
      cases j with
      | zero =>
        simp at a b c d
        have : ∀ es', r = .nw es' → False := fun es' hr => by
          subst hr
          obtain ⟨l1, us, e, _, n1, t1, _⟩ := k1
          rw [d] at e; cases e
          obtain ⟨l2, us2, e2, f2, _⟩ := k2.at_ i _ _ c a
          cases e2
          rcases f2 with f2 | f2
          · exact n1 f2
          · rw [t1] at f2; cases f2
        exact (this es b).elim
      | succ j =>
        simp at a b c d
        rw [k2.sep i j ds es l a b c d]
end
def argSl (Γ : List Sl) : Re → Sl
  | .val d => .val d
  | .nw ds => .cel ds
  | .own i => match Γ[i]? with
    | some (.cel ds) => .cel ds
    | _ => .un
def putBack : List Re → List Sl → List Sl → List Sl
  | .own i :: rs, s :: as, Γ => putBack rs as (Γ.set i s)
  | _ :: rs, _ :: as, Γ => putBack rs as Γ
  | _, _, Γ => Γ
def ownsOf : List Re → List Nat
  | .own i :: rs => i :: ownsOf rs
  | _ :: rs => ownsOf rs
  | [] => []
def nodupB : List Nat → Bool
  | [] => true
  | x :: r => !r.contains x && nodupB r
theorem ownsOf_mem {i : Nat} : ∀ {rs : List Re}, i ∈ ownsOf rs ↔ ∃ j : Nat, rs[j]? = some (.own i)
  | [] => by simp [ownsOf]
  | r :: rs => by
    have ih := ownsOf_mem (i := i) (rs := rs)
    have split : (∃ j : Nat, (r :: rs)[j]? = some (.own i)) ↔ r = .own i ∨ ∃ j : Nat, rs[j]? = some (.own i) := by
      constructor
      · rintro ⟨j, h⟩
        cases j with
        | zero => simp at h; exact .inl h
        | succ j => simp at h; exact .inr ⟨j, h⟩
      · rintro (h | ⟨j, h⟩)
        · exact ⟨0, by simp [h]⟩
        · exact ⟨j + 1, by simp [h]⟩
    rw [split]
    cases r with
    | own k => simp only [ownsOf, List.mem_cons, ih, Re.own.injEq]; constructor <;> rintro (h | h) <;> first | exact .inl h.symm | exact .inr h
    | val d => simp [ownsOf, ih]
    | nw ds => simp [ownsOf, ih]
theorem putBack_len : ∀ (rs : List Re) (as Γ : List Sl), (putBack rs as Γ).length = Γ.length
  | [], _, _ => by simp [putBack]
  | .own i :: rs, [], Γ => by simp [putBack]
  | .own i :: rs, s :: as, Γ => by rw [putBack, putBack_len]; simp
  | .val d :: rs, [], Γ => by simp [putBack]
  | .val d :: rs, s :: as, Γ => by rw [putBack, putBack_len]; simp
  | .nw d :: rs, [], Γ => by simp [putBack]
  | .nw d :: rs, s :: as, Γ => by rw [putBack, putBack_len]; simp
theorem putBack_other {i : Nat} : ∀ (rs : List Re) (as Γ : List Sl), i ∉ ownsOf rs → (putBack rs as Γ)[i]? = Γ[i]?
  | [], _, _, _ => by simp [putBack]
  | .own k :: rs, [], Γ, _ => by simp [putBack]
  | .own k :: rs, s :: as, Γ, h => by
    rw [ownsOf, List.mem_cons, not_or] at h
    rw [putBack, putBack_other rs as _ h.2, List.getElem?_set_ne (fun z => h.1 z.symm)]
  | .val d :: rs, [], Γ, _ => by simp [putBack]
  | .val d :: rs, s :: as, Γ, h => by rw [putBack]; exact putBack_other rs as _ h; all_goals simp
  | .nw d :: rs, [], Γ, _ => by simp [putBack]
  | .nw d :: rs, s :: as, Γ, h => by rw [putBack]; exact putBack_other rs as _ h; all_goals simp
theorem putBack_own {i : Nat} : ∀ (rs : List Re) (as Γ : List Sl) (j : Nat), nodupB (ownsOf rs) = true → rs[j]? = some (.own i) → j < as.length → i < Γ.length → (putBack rs as Γ)[i]? = as[j]?
  | [], _, _, _, _, h, _, _ => by simp at h
  | r :: rs, [], Γ, j, _, _, hj, _ => by simp at hj
  | .own k :: rs, s :: as, Γ, 0, nd, h, _, hi => by
    simp at h
    subst h
    rw [ownsOf, nodupB, Bool.and_eq_true] at nd
    have : k ∉ ownsOf rs := fun z => by
      have := List.contains_iff_mem.mpr z
      rw [this] at nd; exact absurd nd.1 (by decide)
    rw [putBack, putBack_other rs as _ this, List.getElem?_set_self hi]; rfl
  | .own k :: rs, s :: as, Γ, j + 1, nd, h, hj, hi => by
    simp at h hj
    rw [ownsOf, nodupB, Bool.and_eq_true] at nd
    rw [putBack, putBack_own rs as _ j nd.2 h hj (by simpa using hi)]; simp
  | .val d :: rs, s :: as, Γ, 0, nd, h, _, hi => by simp at h
  | .val d :: rs, s :: as, Γ, j + 1, nd, h, hj, hi => by
    simp at h hj
    rw [putBack, putBack_own rs as _ j nd h hj hi]; simp
    all_goals simp
  | .nw d :: rs, s :: as, Γ, 0, nd, h, _, hi => by simp at h
  | .nw d :: rs, s :: as, Γ, j + 1, nd, h, hj, hi => by
    simp at h hj
    rw [putBack, putBack_own rs as _ j nd h hj hi]; simp
    all_goals simp
theorem nodupB_ix {rs : List Re} {i : Nat} : ∀ {j k : Nat}, nodupB (ownsOf rs) = true → rs[j]? = some (.own i) → rs[k]? = some (.own i) → j = k := by
  induction rs with
  | nil => intro j k _ h; simp at h
  | cons r rs ih =>
    intro j k nd h1 h2
    have tail : nodupB (ownsOf rs) = true := by
      cases r with
      | own i => rw [ownsOf, nodupB, Bool.and_eq_true] at nd; exact nd.2
      | val d => exact nd
      | nw d => exact nd
    have head : r = .own i → ∀ n : Nat, rs[n]? = some (.own i) → False := fun e n hn => by
      subst e
      rw [ownsOf, nodupB, Bool.and_eq_true] at nd
      have : i ∈ ownsOf rs := ownsOf_mem.mpr ⟨n, hn⟩
      rw [List.contains_iff_mem.mpr this] at nd
      exact absurd nd.1 (by decide)
    cases j with
    | zero =>
      cases k with
      | zero => rfl
      | succ k => simp at h1 h2; exact (head h1 k h2).elim
    | succ j =>
      cases k with
      | zero => simp at h1 h2; exact (head h2 j h1).elim
      | succ k => simp at h1 h2; rw [ih tail h1 h2]
theorem call_go {K : PySem.W.Frag} {σ : L2.St} {B H B1 H1 : Hp} {Γ Γ1 : List Sl} {vs : List V} {rs : List Re} (E : Env K B H σ Γ) (g1 : Go K σ B H Γ B1 H1 Γ1) (k1 : AsOk K σ (Own σ Γ) (Own σ Γ1) B1 H H1 vs rs)
    (nd : nodupB (ownsOf rs) = true) : Env K B1 H1 (vs.map some) (rs.map (argSl Γ1)) ∧ ∀ B2 H2 as', Go K (vs.map some) B1 H1 (rs.map (argSl Γ1)) B2 H2 as' → Go K σ B H Γ B2 H2 (putBack rs as' Γ1) ∧
      ∀ v r, ReOk K [] (Own (vs.map some) (rs.map (argSl Γ1))) (Own (vs.map some) as') B2 H1 H2 v r → ReOk K σ (Own σ Γ) (Own σ (putBack rs as' Γ1)) B2 H H2 v r := by
  have hl := k1.len
  have aget : ∀ {i : Nat} {s : Sl}, (rs.map (argSl Γ1))[i]? = some s → ∃ r, rs[i]? = some r ∧ s = argSl Γ1 r := fun {i s} h => by
    rw [List.getElem?_map] at h
    cases q : rs[i]? with
    | none => rw [q] at h; cases h
    | some r => rw [q] at h; simp at h; exact ⟨r, rfl, h.symm⟩
  have vget : ∀ {i : Nat} {r : Re}, rs[i]? = some r → ∃ v, vs[i]? = some v ∧ (vs.map some)[i]? = some (some v) ∧ ReOk K σ (Own σ Γ) (Own σ Γ1) B1 H H1 v r := fun {i r} h => by
    have hi : i < vs.length := by rw [hl]; exact (List.getElem?_eq_some_iff.mp h).1
    refine ⟨vs[i], List.getElem?_eq_getElem hi, by rw [List.getElem?_map, List.getElem?_eq_getElem hi]; rfl, k1.at_ i _ _ (List.getElem?_eq_getElem hi) h⟩
  -- an owned argument: new or a slot's
  have accArg : ∀ {i : Nat} {ds : Cn}, (rs.map (argSl Γ1))[i]? = some (.cel ds) → (rs[i]? = some (.nw ds)) ∨ ∃ k, rs[i]? = some (.own k) ∧ Γ1[k]? = some (.cel ds) := fun {i ds} h => by
    obtain ⟨r, h1, h2⟩ := aget h
    cases r with
    | val d => cases h2
    | nw es => cases h2; exact .inl h1
    | own k =>
      have h2' : Sl.cel ds = (match Γ1[k]? with
        | some (.cel ds) => .cel ds
        | _ => .un) := h2
      split at h2'
      · rename_i es he
        cases h2'
        exact .inr ⟨k, h1, he⟩
      · cases h2'
  -- who is owned on the callee's side
  have ownArg : ∀ {a}, Own (vs.map some) (rs.map (argSl Γ1)) a → ((∃ (i : Nat) (ds : Cn), rs[i]? = some (Re.nw ds) ∧ vs[i]? = some (V.ref a)) ∨ ∃ (i k : Nat) (ds : Cn), rs[i]? = some (Re.own k) ∧ Γ1[k]? = some (.cel ds) ∧ vs[i]? = some (.ref a) ∧ σ[k]? = some (some (.ref a))) := fun {a} ⟨i, ds, h1, h2⟩ => by
    rw [List.getElem?_map] at h2
    cases hv : vs[i]? with
    | none => rw [hv] at h2; cases h2
    | some v =>
      rw [hv] at h2
      simp at h2
      subst h2
      rcases accArg h1 with h | ⟨k, h, hk⟩
      · exact .inl ⟨i, ds, h, hv⟩
      · obtain ⟨v', e1, _, l, e2, e3⟩ := vget h
        rw [hv] at e1; cases e1; cases e2
        exact .inr ⟨i, k, ds, h, hk, hv, e3⟩
  have newOff : ∀ {i : Nat} {ds a}, rs[i]? = some (.nw ds) → vs[i]? = some (.ref a) → (Own σ Γ a ∨ H a = none) ∧ ¬ Own σ Γ1 a := fun {i ds a} h1 h2 => by
    obtain ⟨v', e1, _, l, us, e2, e3, e4, _⟩ := vget h1
    rw [h2] at e1; cases e1; cases e2
    exact ⟨e3, e4⟩
  have ownBack : ∀ {a}, Own (vs.map some) (rs.map (argSl Γ1)) a → Own σ Γ a ∨ H a = none := fun {a} o => by
    rcases ownArg o with ⟨i, ds, h1, h2⟩ | ⟨i, k, ds, h1, h2, h3, h4⟩
    · exact (newOff h1 h2).1
    · exact .inl (g1.sub a ⟨k, ds, h2, h4⟩)
  have E2 : Env K B1 H1 (vs.map some) (rs.map (argSl Γ1)) := by
    refine ⟨by simp [hl], g1.env.bh, fun i d h => ?_, fun i ds h => ?_, fun i j ds es l h1 h2 h3 h4 => ?_⟩
    · obtain ⟨r, h1, h2⟩ := aget h
      cases r with
      | val d' => cases h2; obtain ⟨v, _, e1, e2⟩ := vget h1; exact ⟨v, e1, e2⟩
      | nw es => cases h2
      | own k =>
        have h2' : Sl.val d = (match Γ1[k]? with
          | some (.cel ds) => .cel ds
          | _ => .un) := h2
        split at h2' <;> cases h2'
    · rcases accArg h with h1 | ⟨k, h1, hk⟩
      · obtain ⟨v, _, e1, l, us, e2, _, _, e3, e4, e5⟩ := vget h1
        subst e2
        exact ⟨l, us, e1, e3, e4, e5⟩
      · obtain ⟨v, _, e1, l, e2, e3⟩ := vget h1
        subst e2
        obtain ⟨c, us, f1, f2, f3, f4⟩ := g1.env.cel k ds hk
        rw [e3] at f1; cases f1
        exact ⟨l, us, e1, f2, f3, f4⟩
    · have v3 : vs[i]? = some (.ref l) := by
        rw [List.getElem?_map] at h3
        cases q : vs[i]? with
        | none => rw [q] at h3; cases h3
        | some v => rw [q] at h3; simp at h3; rw [h3]
      have v4 : vs[j]? = some (.ref l) := by
        rw [List.getElem?_map] at h4
        cases q : vs[j]? with
        | none => rw [q] at h4; cases h4
        | some v => rw [q] at h4; simp at h4; rw [h4]
      rcases accArg h1 with a1 | ⟨k, a1, b1⟩
      · rcases accArg h2 with a2 | ⟨k2, a2, b2⟩
        · exact k1.sep i j ds es l a1 a2 v3 v4
        · obtain ⟨v', e1, _, l2, e2, e3⟩ := vget a2
          rw [v4] at e1; cases e1; cases e2
          exact absurd ⟨k2, es, b2, e3⟩ (newOff a1 v3).2
      · obtain ⟨v', e1, _, l2, e2, e3⟩ := vget a1
        rw [v3] at e1; cases e1; cases e2
        rcases accArg h2 with a2 | ⟨k2, a2, b2⟩
        · exact absurd ⟨k, ds, b1, e3⟩ (newOff a2 v4).2
        · obtain ⟨v', f1, _, l2, f2, f3⟩ := vget a2
          rw [v4] at f1; cases f1; cases f2
          have := g1.env.sep k k2 ds es l b1 b2 e3 f3
          subst this
          exact nodupB_ix nd a1 a2
  refine ⟨E2, fun B2 H2 as' g2 => ?_⟩
  have hal : as'.length = rs.length := by
    have := g2.env.len
    rw [List.length_map] at this
    omega
  -- slot i of the caller afterwards
  have slot : ∀ {i : Nat} {s : Sl}, (putBack rs as' Γ1)[i]? = some s → (∃ j : Nat, rs[j]? = some (.own i) ∧ as'[j]? = some s ∧ ∃ v, (vs.map some)[j]? = some (some v) ∧ σ[i]? = some (some v)) ∨ (i ∉ ownsOf rs ∧ Γ1[i]? = some s) := fun {i s} h => by
    by_cases hi : i ∈ ownsOf rs
    · obtain ⟨j, hj⟩ := ownsOf_mem.mp hi
      have hil : i < Γ1.length := by
        have := (List.getElem?_eq_some_iff.mp h).1
        rw [putBack_len] at this; exact this
      rw [putBack_own rs as' Γ1 j nd hj (by rw [hal]; exact (List.getElem?_eq_some_iff.mp hj).1) hil] at h
      obtain ⟨v, _, e1, l, e2, e3⟩ := vget hj
      exact .inl ⟨j, hj, h, v, e1, by rw [e2]; exact e3⟩
    · rw [putBack_other rs as' Γ1 hi] at h
      exact .inr ⟨hi, h⟩
  -- a slot's list that was not handed over
  have kept : ∀ {i : Nat} {ds : Cn} {l : Addr}, i ∉ ownsOf rs → Γ1[i]? = some (.cel ds) → σ[i]? = some (some (.ref l)) → ¬ Own (vs.map some) (rs.map (argSl Γ1)) l := fun {i ds l} hi h1 h2 o => by
    rcases ownArg o with ⟨j, es, a1, a2⟩ | ⟨j, k, es, a1, a2, a3, a4⟩
    · exact (newOff a1 a2).2 ⟨i, ds, h1, h2⟩
    · have := g1.env.sep i k ds es l h1 a2 h2 a4
      subst this
      exact hi (ownsOf_mem.mpr ⟨j, a1⟩)
  have ac2 : ∀ (i : Nat) ds, (putBack rs as' Γ1)[i]? = some (.cel ds) → ∃ es, Γ1[i]? = some (.cel es) := fun i ds h1 => by
    rcases slot h1 with ⟨j, hj, ha, v, e1, e2⟩ | ⟨_, h⟩
    · obtain ⟨es, h⟩ := g2.ac j ds ha
      rcases accArg h with h | ⟨k, h, hk⟩
      · rw [hj] at h; cases h
      · rw [hj] at h; cases h; exact ⟨es, hk⟩
    · exact ⟨ds, h⟩
  have kOff : ∀ {a}, ¬ Own σ Γ a → H a ≠ none → ¬ Own (vs.map some) (rs.map (argSl Γ1)) a := fun {a} na ha o => (ownBack o).elim na ha
  have E3 : Env K B2 H2 σ (putBack rs as' Γ1) := by
    refine ⟨by rw [putBack_len]; exact g1.env.len, g2.env.bh, fun i d h => ?_, fun i ds h => ?_, fun i j ds es l h1 h2 h3 h4 => ?_⟩
    · rcases slot h with ⟨j, hj, ha, v, e1, e2⟩ | ⟨hi, h⟩
      · obtain ⟨v', f1, f2⟩ := g2.env.val j d ha
        rw [e1] at f1; cases f1
        exact ⟨v, e2, f2⟩
      · obtain ⟨v, f1, f2⟩ := g1.env.val i d h
        exact ⟨v, f1, f2.mono g2.mv.bb⟩
    · rcases slot h with ⟨j, hj, ha, v, e1, e2⟩ | ⟨hi, h⟩
      · obtain ⟨l, us, f1, f2⟩ := g2.env.cel j ds ha
        rw [e1] at f1; cases f1
        exact ⟨l, us, e2, f2⟩
      · obtain ⟨l, us, f1, f2, f3, f4⟩ := g1.env.cel i ds h
        have nk := kept hi h f1
        exact ⟨l, us, f1, g2.mv.kp l _ nk f2, g2.mv.off l nk (by rw [f2]; exact fun z => nomatch z) f3, f4.mono g2.mv.bb⟩
    · obtain ⟨d1, b1⟩ := ac2 i ds h1
      obtain ⟨d2, b2⟩ := ac2 j es h2
      exact g1.env.sep i j d1 d2 l b1 b2 h3 h4
  refine ⟨⟨⟨fun a o na e => ?_, g1.mv.bb.trans g2.mv.bb, fun a na ha hb => ?_⟩, fun i ds h => ?_, E3⟩, fun v r k2 => ?_⟩
  · exact g2.mv.kp a o (kOff na (by rw [e]; exact fun z => nomatch z)) (g1.mv.kp a o na e)
  · refine g2.mv.off a (kOff na ha) ?_ (g1.mv.off a na ha hb)
    cases q : H a with
    | none => exact absurd q ha
    | some o => rw [g1.mv.kp a o na q]; exact fun z => nomatch z
  · obtain ⟨es, h1⟩ := ac2 i ds h
    exact g1.ac i es h1
  · cases r with
    | val d => exact k2
    | own i => obtain ⟨l, _, e⟩ := k2; simp at e
    | nw ds =>
      obtain ⟨l, us, e, f1, f2, f3, f4, f5⟩ := k2
      refine ⟨l, us, e, ?_, ?_, f3, f4, f5⟩
      · rcases f1 with f1 | f1
        · exact ownBack f1
        · exact g1.mv.back f1
      · rintro ⟨i, es, h1, h2⟩
        rcases slot h1 with ⟨j, hj, ha, w, e1, e2⟩ | ⟨hi, h⟩
        · rw [h2] at e2; cases e2
          exact f2 ⟨j, es, ha, e1⟩
        · have nk := kept hi h h2
          rcases f1 with f1 | f1
          · exact nk f1
          · obtain ⟨us', t1, _⟩ := g1.env.tracked ⟨i, es, h, h2⟩
            rw [t1] at f1; cases f1
theorem call_core {K : PySem.W.Frag} {σ : L2.St} {B H B1 H1 : Hp} {Γ Γ1 : List Sl} {vs : List V} {rs : List Re} {Post : Re → List Sl → Prop} {ap : AP} {E0 : XK} {Q : VK} (E : Env K B H σ Γ) (g1 : Go K σ B H Γ B1 H1 Γ1) (k1 : AsOk K σ (Own σ Γ) (Own σ Γ1) B1 H H1 vs rs)
    (nd : nodupB (ownsOf rs) = true) (hap : ap (rs.map (argSl Γ1)) fun r as' => Post r (putBack rs as' Γ1)) (q : ∀ v B' H' r Γ', Go K σ B H Γ B' H' Γ' → ReOk K σ (Own σ Γ) (Own σ Γ') B' H H' v r → Post r Γ' → Q v H') : toSp K ap vs H1 Q E0 := by
  obtain ⟨E2, kk⟩ := call_go E g1 k1 nd
  refine ⟨B1, rs.map (argSl Γ1), _, E2, hap, fun v B2 H2 r as' g2 k2 p => ?_⟩
  obtain ⟨g, kr⟩ := kk B2 H2 as' g2
  exact q v B2 H2 r _ g (kr v r k2) p
theorem we_call {K : PySem.W.Frag} {Γ : List Sl} {Post : Re → List Sl → Prop} {ap : AP} {E0 : XK} {ta : TA} (h : WA K ta Γ fun rs Γ1 => nodupB (ownsOf rs) = true ∧ ap (rs.map (argSl Γ1)) fun r as' => Post r (putBack rs as' Γ1)) : WE K (tCall (toSp K ap) [] E0 ta) Γ Post := fun σ B H E Q q => by
  refine h σ B H E _ fun vs B1 H1 rs Γ1 g1 k1 p1 => ?_
  rw [List.append_nil]
  exact call_core E g1 k1 p1.1 p1.2 q
end Ab

namespace Ab
open PySem L2
def keepV : Option Sl → Sl
  | some (.val d) => .val d
  | _ => .un
section
variable {K : PySem.W.Frag} {σ : L2.St} {B H : Hp} {Γ : List Sl}
theorem keepV_acc {o : Option Sl} {ds : Cn} (h : keepV o = .cel ds) : False := by
  unfold keepV at h
  split at h <;> cases h
theorem Env.updOff {D : Addr} {o : HO} (E : Env K B H σ Γ) (hb : B D = none) (hn : ¬ Own σ Γ D) : Env K B (upd H D o) σ Γ := by
  refine ⟨E.len, fun a u e => ?_, E.val, fun i ds h => ?_, E.sep⟩
  · rw [upd_ne (ne_of_none e hb)]; exact E.bh a u e
  · obtain ⟨l, vs, e, e1, e2, q⟩ := E.cel i ds h
    have : l ≠ D := fun z => by subst z; exact hn ⟨i, ds, h, e⟩
    exact ⟨l, vs, e, by rw [upd_ne this]; exact e1, e2, q⟩
theorem env_back {j : Nat} {x : Option V} {Γ0 : List Sl} {B0 H0 : Hp} (E0 : Env K B0 H0 σ Γ0) (bb : Same B0 B) (E : Env K B H (σ.set j x) Γ) (hj : j < Γ.length) : Env K B H σ (Γ.set j (keepV Γ0[j]?)) := by
  have ne : ∀ {k : Nat} {ds : Cn}, (Γ.set j (keepV Γ0[j]?))[k]? = some (.cel ds) → j ≠ k := fun {k ds} h z => by
    subst z
    rw [List.getElem?_set_self hj] at h
    exact keepV_acc (Option.some.inj h)
  refine ⟨?_, E.bh, fun k d h => ?_, fun k ds h => ?_, fun i k ds es l h1 h2 h3 h4 => ?_⟩
  · have := E.len
    rw [List.length_set] at this ⊢
    exact this
  · by_cases hk : j = k
    · subst hk
      rw [List.getElem?_set_self hj] at h
      cases q : Γ0[j]? with
      | none => rw [q] at h; cases h
      | some s =>
        rw [q] at h
        cases s with
        | un => cases h
        | cel ds => cases h
        | val d' =>
          cases h
          obtain ⟨v, e1, e2⟩ := E0.val j d q
          exact ⟨v, e1, e2.mono bb⟩
    · rw [List.getElem?_set_ne hk] at h
      obtain ⟨v, e1, e2⟩ := E.val k d h
      rw [List.getElem?_set_ne hk] at e1
      exact ⟨v, e1, e2⟩
  · have hk := ne h
    rw [List.getElem?_set_ne hk] at h
    obtain ⟨l, vs, e1, e2⟩ := E.cel k ds h
    rw [List.getElem?_set_ne hk] at e1
    exact ⟨l, vs, e1, e2⟩
  · have a1 := ne h1
    have a2 := ne h2
    rw [List.getElem?_set_ne a1] at h1
    rw [List.getElem?_set_ne a2] at h2
    exact E.sep i k ds es l h1 h2 (by rw [List.getElem?_set_ne a1]; exact h3) (by rw [List.getElem?_set_ne a2]; exact h4)
theorem own_back {j : Nat} {x : Option V} {s : Sl} {a : Addr} (hs : ∀ ds, s ≠ .cel ds) (h : Own σ (Γ.set j s) a) : Own (σ.set j x) Γ a := by
  obtain ⟨k, ds, h1, h2⟩ := h
  by_cases hk : j = k
  · subst hk
    have hj : j < Γ.length := by
      have := (List.getElem?_eq_some_iff.mp h1).1
      simpa using this
    rw [List.getElem?_set_self hj] at h1
    exact absurd (Option.some.inj h1) (hs ds)
  · rw [List.getElem?_set_ne hk] at h1
    exact ⟨k, ds, h1, by rw [List.getElem?_set_ne hk]; exact h2⟩
theorem Mv.iff {m m1 : Addr → Prop} {B' H' : Hp} (h : ∀ a, m1 a → m a) (x : Mv m1 B H B' H') : Mv m B H B' H' := ⟨fun a o na e => x.kp a o (fun z => na (h a z)) e, x.bb, fun a na ha hb => x.off a (fun z => na (h a z)) ha hb⟩
structure LcSt (K : PySem.W.Frag) (σ : L2.St) (B H : Hp) (Γ : List Sl) (j : Nat) (D : Addr) (Inv : Nat → List Dt → List Sl → Prop) (i : Nat) (H' : Hp) (B' : Hp) (Γ' : List Sl) (vs : List V) (es : List Dt) : Prop where
  mv : Mv (Own σ Γ) B H B' H'
  ac : ∀ (k : Nat) ds, Γ'[k]? = some (.cel ds) → ∃ es, Γ[k]? = some (.cel es)
  env : Env K B' H' σ Γ'
  hD : H' D = some (.lst vs)
  bD : B' D = none
  oD : ¬ Own σ Γ' D
  its : IsA K B' vs es
  len : es.length ≤ i
  inv : Inv i es Γ'
theorem lc_run {j n : Nat} {J : It} {dt : Nat → Dt} {tt : TT} {te : TE} {Post : Re → List Sl → Prop} {Q : VK} (E : Env K B H σ Γ) (hj : j < Γ.length) (hja : ∀ ds, Γ[j]? ≠ some (.cel ds)) (hn : n ≤ 1000000)
    (Inv : Nat → List Dt → List Sl → Prop)
    (go : ∀ i B' H' es Γ', i < n → Same B B' → Env K B' H' σ Γ' → Inv i es Γ' → J.go i H') (yl : ∀ i H' x H'' B' es Γ', i < n → Same B B' → Env K B' H' σ Γ' → Inv i es Γ' → J.yld i H' x H'' → H'' = H' ∧ Is K B' x (dt i)) (stop : ∀ B' H' es Γ', Same B B' → Env K B' H' σ Γ' → Inv n es Γ' → J.stop n H')
    (i0 : Inv 0 [] Γ)
    (turn : ∀ i es Γ', i < n → Inv i es Γ' → WT K tt (Γ'.set j (.val (dt i))) fun b Γ2 => (b = true → WE K te Γ2 fun r Γ3 => ∃ d, r.dt? = some d ∧ Inv (i + 1) (es ++ [d]) (Γ3.set j (keepV Γ[j]?))) ∧ (b = false → Inv (i + 1) es (Γ2.set j (keepV Γ[j]?))))
    (done : ∀ es Γ', Inv n es Γ' → Post (.new es) Γ') (q : ∀ v B' H' r Γ', Go K σ B H Γ B' H' Γ' → ReOk K σ (Own σ Γ) (Own σ Γ') B' H H' v r → Post r Γ' → Q v H') :
    ∀ D, H D = none → ∃ W : Nat → Nat → Hp → Prop, (∃ m, W 0 m (upd H D (.lst []))) ∧ ∀ i m H, W i m H →
      (J.stop i H ∧ Q (.ref D) H) ∨ (J.go i H ∧ ∃ Nx : Hp → Prop, (∀ H', Nx H' → ∃ m', m' < m ∧ W (i + 1) m' H') ∧ ∀ x H', J.yld i H x H' → gName j x (wipe σ [j]) H' fun σ2 H2 => wipe σ2 [j] = wipe σ [j] ∧ tt σ2 H2 fun b H3 =>
        if b = true then te σ2 H3 fun y H4 => ∃ acc, H4 D = some (.lst acc) ∧ acc.length < sizeLine ∧ Nx (upd H4 D (.lst (acc ++ [y]))) else Nx H3) := by
  intro D hD
  have hjs : j < σ.length := by rw [E.len]; exact hj
  refine ⟨fun i m H' => m = n - i ∧ i ≤ n ∧ ∃ B' Γ' vs es, LcSt K σ B H Γ j D Inv i H' B' Γ' vs es, ⟨n, by simp, Nat.zero_le _, B, Γ, [], [], ⟨(Go.beside E hD).mv, fun k ds h => ⟨ds, h⟩, E.beside hD, upd_same, E.base_none hD, E.not_own hD, .nil, Nat.le_refl _, i0⟩⟩, ?_⟩
  rintro i m H' ⟨rfl, hi, B', Γ', vs, es, S⟩
  by_cases hlt : i < n
  · refine .inr ⟨go i B' H' es Γ' hlt S.mv.bb S.env S.inv, fun H2 => ∃ B' Γ' vs es, LcSt K σ B H Γ j D Inv (i + 1) H2 B' Γ' vs es, fun H2 ⟨B2, Γ2, vs2, es2, S2⟩ => ⟨n - (i + 1), by omega, rfl, hlt, B2, Γ2, vs2, es2, S2⟩, fun x H2 hy => ?_⟩
    obtain ⟨e, hx⟩ := yl i H' x H2 B' es Γ' hlt S.mv.bb S.env S.inv hy
    subst e
    have hj' : j < Γ'.length := by rw [← S.env.len]; exact hjs
    have es2 : (wipe σ [j]).set j (some x) = σ.set j (some x) := by
      show (σ.set j none).set j (some x) = _
      rw [List.set_set]
    show wipe ((wipe σ [j]).set j (some x)) [j] = wipe σ [j] ∧ _
    rw [es2]
    refine ⟨by show (σ.set j (some x)).set j none = σ.set j none; rw [List.set_set], ?_⟩
    have E2 := S.env.setV hj' hx
    -- owners within and without
    have ow1 : ∀ a, Own (σ.set j (some x)) (Γ'.set j (.val (dt i))) a → Own σ Γ' a := fun a h => h.set_ne fun ds z => nomatch z
    have nA : ¬ Own (σ.set j (some x)) (Γ'.set j (.val (dt i))) D := fun z => S.oD (ow1 D z)
    have tD : H2 D ≠ none := by rw [S.hD]; exact fun z => nomatch z
    -- what a turn comes to
    have fin : ∀ {B3 H3 : Hp} {Γ3 : List Sl}, Go K (σ.set j (some x)) B' H2 (Γ'.set j (.val (dt i))) B3 H3 Γ3 →
        Mv (Own σ Γ) B H B3 H3 ∧ (∀ (k : Nat) ds, (Γ3.set j (keepV Γ[j]?))[k]? = some (.cel ds) → ∃ es, Γ[k]? = some (.cel es)) ∧ Env K B3 H3 σ (Γ3.set j (keepV Γ[j]?)) ∧ H3 D = some (.lst vs) ∧ B3 D = none ∧ ¬ Own σ (Γ3.set j (keepV Γ[j]?)) D ∧ IsA K B3 vs es := by
      intro B3 H3 Γ3 g
      have hj3 : j < Γ3.length := by
        have h1 := g.env.len
        rw [List.length_set] at h1
        omega
      have subO : ∀ a, Own σ (Γ3.set j (keepV Γ[j]?)) a → Own (σ.set j (some x)) Γ3 a := fun a h => own_back (fun ds z => keepV_acc z) h
      refine ⟨S.mv.trans (m1 := Own σ Γ') (fun a ⟨k, ds, h1, h2⟩ => .inl (by obtain ⟨es, h⟩ := S.ac k ds h1; exact ⟨k, es, h, h2⟩)) (g.mv.iff ow1), fun k ds h => ?_, env_back E (S.mv.bb.trans g.mv.bb) g.env hj3, g.mv.kp D _ nA S.hD, g.mv.off D nA tD S.bD, fun z => nA (g.sub D (subO D z)), S.its.mono g.mv.bb⟩
      by_cases hk : j = k
      · subst hk
        rw [List.getElem?_set_self hj3] at h
        exact (keepV_acc (Option.some.inj h)).elim
      · rw [List.getElem?_set_ne hk] at h
        obtain ⟨es', h1⟩ := g.ac k ds h
        rw [List.getElem?_set_ne hk] at h1
        exact S.ac k es' h1
    refine turn i es Γ' hlt S.inv (σ.set j (some x)) B' H2 E2 _ fun b B3 H3 Γ3 g3 p => ?_
    cases b with
    | true =>
      show te (σ.set j (some x)) H3 _
      have p1 : WE K te Γ3 fun r Γ4 => ∃ d, r = .val d ∧ Inv (i + 1) (es ++ [d]) (Γ4.set j (keepV Γ[j]?)) := we_freeze (we_mono (p.1 rfl) fun r Γ4 ⟨d, hd, k⟩ => ⟨d, hd, d, rfl, k⟩)
      refine p1 (σ.set j (some x)) B3 H3 g3.env _ fun y B4 H4 r Γ4 g4 k4 p4 => ?_
      obtain ⟨d, rfl, inv⟩ := p4
      obtain ⟨f1, f2, f3, f4, f5, f6, f7⟩ := fin (g3.trans g4)
      refine ⟨vs, f4, ?_, B4, Γ4.set j (keepV Γ[j]?), vs ++ [y], es ++ [d], ?_⟩
      · rw [S.its.len]
        have := S.len
        exact Nat.lt_of_le_of_lt this (Nat.lt_of_lt_of_le hlt (Nat.le_trans hn (by decide)))
      · refine ⟨⟨fun a o na e => ?_, f1.bb, f1.off⟩, f2, f3.updOff f5 f6, upd_same, f5, f6, f7.snoc k4, by rw [List.length_append]; have := S.len; simp; omega, inv⟩
        rw [upd_ne (ne_of_none e hD)]
        exact f1.kp a o na e
    | false =>
      show ∃ B' Γ' vs es, _
      obtain ⟨f1, f2, f3, f4, f5, f6, f7⟩ := fin g3
      exact ⟨B3, Γ3.set j (keepV Γ[j]?), vs, es, ⟨f1, f2, f3, f4, f5, f6, f7, Nat.le_trans S.len (Nat.le_succ i), p.2 rfl⟩⟩
  · have e : i = n := by omega
    subst e
    exact .inl ⟨stop B' H' es Γ' S.mv.bb S.env S.inv, q (.ref D) B' H' (.new es) Γ' ⟨S.mv, S.ac, S.env⟩ ⟨D, _, rfl, .inr hD, S.oD, S.hD, S.bD, vs, rfl, S.its⟩ (done es Γ' S.inv)⟩
end
section
variable {K : PySem.W.Frag} {Γ : List Sl} {Post : Re → List Sl → Prop} {te tl : TE} {tt : TT} {j : Nat}
def notAcc : Option Sl → Bool
  | some (.cel _) => false
  | _ => true
theorem notAcc_ne {o : Option Sl} (h : notAcc o = true) (ds : Cn) : o ≠ some (.cel ds) := fun z => by subst z; cases h
theorem we_lc1 {t1 : TA} (h : WD K t1 Γ fun ds Γ1 => ∃ n : Nat, ds = [.int n] ∧ n ≤ 1000000 ∧ decide (j < Γ1.length) = true ∧ notAcc Γ1[j]? = true ∧ ∃ Inv : Nat → List Dt → List Sl → Prop, Inv 0 [] Γ1 ∧
      (∀ i es Γ', i < n → Inv i es Γ' → WT K tt (Γ'.set j (.val (.int i))) fun b Γ2 => (b = true → WE K te Γ2 fun r Γ3 => ∃ d, r.dt? = some d ∧ Inv (i + 1) (es ++ [d]) (Γ3.set j (keepV Γ1[j]?))) ∧ (b = false → Inv (i + 1) es (Γ2.set j (keepV Γ1[j]?)))) ∧
      ∀ es Γ', Inv n es Γ' → Post (.new es) Γ') : WE K (tLc (iRng1 t1) (gName j) tt te [j]) Γ Post := fun σ B H E Q q => by
  refine h σ B H E _ fun vs B1 H1 ds Γ1 g1 k p => ?_
  obtain ⟨n, rfl, hn, hj, hja, Inv, i0, turn, done⟩ := p
  have ev : vs = [.int n] := IsA.rawsI (xs := [.int n]) k
  refine ⟨n, ev, by omega, by omega, ?_⟩
  have e0 : ((n : Int)).toNat = n := by omega
  rw [e0]
  refine lc_run (n := n) (dt := fun i => .int i) (J := Itr 0 n) g1.env (of_decide_eq_true hj) (notAcc_ne hja) hn Inv (fun i B' H' _ _ hi _ _ _ => hi) (fun i H' x H'' B' _ _ hi _ _ _ hy => ?_) (fun B' H' _ _ _ _ _ => Nat.le_refl _) i0 turn done fun v B2 H2 r Γ2 g2 k2 p2 => q v B2 H2 r Γ2 (g1.trans g2) (ReOk.earlier k2 g1.mv fun a h => .inl (g1.sub a h)) p2
  obtain ⟨e1, e2⟩ := hy
  subst e1 e2
  rw [Int.zero_add]
  exact ⟨rfl, .raw _⟩
end
theorem we_lcA {K : PySem.W.Frag} {Γ : List Sl} {Post : Re → List Sl → Prop} {te : TE} {tt : TT} {j k : Nat} {ds : List Dt} (h0 : Γ[k]? = some (.acc ds)) (hn : ds.length ≤ 1000000) (hj : decide (j < Γ.length) = true) (hja : notAcc Γ[j]? = true) (Inv : Nat → List Dt → List Sl → Prop) (i0 : Inv 0 [] Γ)
      (hk : ∀ i es Γ', Inv i es Γ' → Γ'[k]? = some (.acc ds))
      (turn : ∀ (i : Nat) d es Γ', ds[i]? = some d → Inv i es Γ' → WT K tt (Γ'.set j (.val d)) fun b Γ2 => (b = true → WE K te Γ2 fun r Γ3 => ∃ d, r.dt? = some d ∧ Inv (i + 1) (es ++ [d]) (Γ3.set j (keepV Γ[j]?))) ∧ (b = false → Inv (i + 1) es (Γ2.set j (keepV Γ[j]?))))
      (done : ∀ es Γ', Inv ds.length es Γ' → Post (.new es) Γ') : WE K (tLc (iList K (tVar k)) (gName j) tt te [j]) Γ Post := fun σ B H E Q q => by
  obtain ⟨l, xs, e0, e1, e2, hx⟩ := E.acc k ds h0
  have at_ : ∀ i, i < ds.length → ds[i]? = some (ds.getD i .non) := fun i hi => by rw [List.getD_eq_getElem?_getD, List.getElem?_eq_getElem hi]; rfl
  have items : ∀ {i es B' H' Γ'}, Env K B' H' σ Γ' → Inv i es Γ' → ∃ ys, H' l = some (.lst ys) ∧ IsA K B' ys ds := fun {i es B' H' Γ'} E' inv => by
    obtain ⟨c, ys, q1, q2, q3, q4⟩ := E'.acc k ds (hk i es Γ' inv)
    rw [e0] at q1
    cases q1
    exact ⟨ys, q2, q4⟩
  refine ⟨.ref l, e0, l, rfl, ⟨xs, .inl (.inl e1)⟩, ?_⟩
  refine lc_run (n := ds.length) (dt := fun i => ds.getD i .non) (J := Itl K l) E (of_decide_eq_true hj) (notAcc_ne hja) hn Inv (fun i B' H' es Γ' hi b1 b2 inv => ?_) (fun i H' x H'' B' es Γ' hi b1 b2 inv hy => ?_) (fun B' H' es Γ' b1 b2 inv => ?_) i0 (fun i es Γ' hi' => turn i _ es Γ' (at_ i hi')) done q
  · obtain ⟨ys, h1, h2⟩ := items b2 inv
    obtain ⟨x, h3, _⟩ := h2.get (at_ i hi)
    exact ⟨ys, x, .inl (.inl h1), h3⟩
  · obtain ⟨ys, h1, h2⟩ := items b2 inv
    obtain ⟨e1, e2⟩ := hy
    subst e1
    exact ⟨rfl, h2.at_ i x _ (e2 ys (.inl (.inl h1))) (at_ i hi)⟩
  · obtain ⟨ys, h1, h2⟩ := items b2 inv
    exact ⟨ys, .inl (.inl h1), by rw [h2.len]; exact Nat.le_refl _⟩
mutual
def Dt.py : Dt → Option PyData
  | .raw .non => some .none
  | .raw (.bl b) => some (.bool b)
  | .raw (.int i) => some (.int i)
  | .raw (.str s) => some (.str s)
  | .raw _ => none
  | .tup ds => (pyAll ds).map .tuple
  | .lst ds => (pyAll ds).map .list
  | .obj _ _ => none
  | .scr ns => none
  | .dK _ => none
  | .dT _ => none
  | .exn _ _ _ => none
  | .err _ _ => none
  | .dN _ _ => none
def pyAll : List Dt → Option (List PyData)
  | [] => some []
  | d :: ds => match Dt.py d, pyAll ds with
    | some p, some ps => some (p :: ps)
    | _, _ => none
end
section
variable {K : PySem.W.Frag} {B H : Hp}
theorem pyAll_dp : ∀ {ds : List Dt} {ps : List PyData} {vs : List V}, (∀ d p v, d ∈ ds → Dt.py d = some p → Is K B v d → Dp K B v p) → pyAll ds = some ps → IsA K B vs ds → DpAll K B vs ps
  | [], ps, vs, _, e, h => by
    rw [pyAll] at e
    cases e
    have : vs = [] := List.eq_nil_of_length_eq_zero (by rw [h.len]; rfl)
    subst this; exact .nil
  | d :: ds, ps, vs, f, e, h => by
    rw [pyAll] at e
    split at e
    · rename_i p qs h1 h2
      cases e
      cases vs with
      | nil => have := h.len; simp at this
      | cons v vs =>
        refine .cons (f d p v (List.mem_cons_self) h1 (h.at_ 0 v d rfl rfl)) (pyAll_dp (fun d p v hd => f d p v (List.mem_cons_of_mem _ hd)) h2 ⟨by have := h.len; simpa using this, fun i v d a b => h.at_ (i + 1) v d (by simpa using a) (by simpa using b)⟩)
    · cases e
theorem is_dp {v : V} {d : Dt} (h : Is K B v d) : ∀ {p : PyData}, d.py = some p → Dp K B v p := by
  induction h with
  | raw v =>
    intro p e
    cases v <;> (simp only [Dt.py] at e; cases e) <;> constructor
  | @tup a xs ds h hl hi ih =>
    intro p e
    rw [Dt.py] at e
    cases q : pyAll ds with
    | none => rw [q] at e; cases e
    | some ps =>
      rw [q] at e
      cases e
      refine .tup h ?_
      clear h
      induction ds generalizing xs ps with
      | nil =>
        rw [pyAll] at q; cases q
        have : xs = [] := List.eq_nil_of_length_eq_zero (by rw [hl]; rfl)
        subst this; exact .nil
      | cons d ds ihd =>
        rw [pyAll] at q
        split at q
        · rename_i p1 qs h1 h2
          cases q
          cases xs with
          | nil => simp at hl
          | cons x xs =>
            exact .cons (ih 0 x d rfl rfl h1) (ihd (by simpa using hl) (fun i v d a b => hi (i + 1) v d (by simpa using a) (by simpa using b)) (fun i v d a b => ih (i + 1) v d (by simpa using a) (by simpa using b)) qs h2)
        · cases q
  | @lst a xs ds h hl hi ih =>
    intro p e
    rw [Dt.py] at e
    cases q : pyAll ds with
    | none => rw [q] at e; cases e
    | some ps =>
      rw [q] at e
      cases e
      refine .lst (.inl (.inl h)) ?_
      clear h
      induction ds generalizing xs ps with
      | nil =>
        rw [pyAll] at q; cases q
        have : xs = [] := List.eq_nil_of_length_eq_zero (by rw [hl]; rfl)
        subst this; exact .nil
      | cons d ds ihd =>
        rw [pyAll] at q
        split at q
        · rename_i p1 qs h1 h2
          cases q
          cases xs with
          | nil => simp at hl
          | cons x xs =>
            exact .cons (ih 0 x d rfl rfl h1) (ihd (by simpa using hl) (fun i v d a b => hi (i + 1) v d (by simpa using a) (by simpa using b)) (fun i v d a b => ih (i + 1) v d (by simpa using a) (by simpa using b)) qs h2)
        · cases q
  | obj h hk hi ih => intro p e; rw [Dt.py] at e; cases e
  | dK h hk hi ih => intro p e; rw [Dt.py] at e; cases e
  | dT h hk hi ih => intro p e; rw [Dt.py] at e; cases e
  | exn0 => intro p e; rw [Dt.py] at e; cases e
  | exnD h hk hi ih => intro p e; rw [Dt.py] at e; cases e
  | err0 h => intro p e; rw [Dt.py] at e; cases e
  | errD h hd hk hi ih => intro p e; rw [Dt.py] at e; cases e
  | dN h hk hq hi ihq ih => intro p e; rw [Dt.py] at e; cases e
  | scr h => intro p e; rw [Dt.py] at e; cases e
mutual
theorem dp_mono {B' : Hp} (s : Same B B') {v : V} : ∀ {p : PyData}, Dp K B v p → Dp K B' v p
  | _, .non => .non
  | _, .bl b => .bl b
  | _, .int i => .int i
  | _, .str x => .str x
  | _, .lst h hs => .lst (s.seq h) (dpAll_mono s hs)
  | _, .tup h hs => .tup (sqT_mono s h) (dpAll_mono s hs)
theorem dpAll_mono {B' : Hp} (s : Same B B') : ∀ {vs : List V} {ps : List PyData}, DpAll K B vs ps → DpAll K B' vs ps
  | _, _, .nil => .nil
  | _, _, .cons h hs => .cons (dp_mono s h) (dpAll_mono s hs)
end
end
def Re.py (Γ : List Sl) : Re → Option PyData
  | .val d => d.py
  | .nw (.lst ds) => (pyAll ds).map .list
  | .nw _ => none
  | .own i => match Γ[i]? with
    | some (Sl.cel (.lst ds)) => (pyAll ds).map .list
    | _ => none
section
variable {K : PySem.W.Frag} {Γ : List Sl} {Post : Re → List Sl → Prop} {ta tb : TE}
theorem rv_dp {σ : L2.St} {B H : Hp} {v : V} {r : Re} {p : PyData} (E : Env K B H σ Γ) (h : RvOk K σ B H Γ v r) (e : r.py Γ = some p) : Dp K H v p := by
  have lst : ∀ {ds : List Dt}, lstOf Γ r = some ds → (pyAll ds).map PyData.list = some p → Dp K H v p := fun {ds} h1 h2 => by
    obtain ⟨a, vs, rfl, hq, ha⟩ := rv_lst E h h1
    cases q : pyAll ds with
    | none => rw [q] at h2; cases h2
    | some ps =>
      rw [q] at h2
      cases h2
      exact .lst hq (dpAll_mono E.bh (pyAll_dp (fun d p v _ e k => is_dp k e) q ha))
  cases r with
  | val d => exact dp_mono E.bh (is_dp h e)
  | nw c =>
    cases c with
    | lst ds => exact lst rfl e
    | dK es => cases e
    | dT es => cases e
    | dN w es => cases e
  | own i =>
    have e' : (match Γ[i]? with
      | some (Sl.cel (.lst ds)) => (pyAll ds).map PyData.list
      | _ => none) = some p := e
    split at e'
    · rename_i ds hi
      exact lst (by show (match Γ[i]? with | some (Sl.cel (.lst ds)) => some ds | _ => none) = some ds; rw [hi]) e'
    · cases e'
end
end Ab

namespace Ab
open PySem L2
abbrev rSubI : R2 := rI0 fun i j => .int (i - j)
def CDiv64 (i j : Int) : Prop := 0 < j ∧ j < 18446744073709551616
abbrev rDivI : R2 := rI CDiv64 fun i j => .int (i / j)
theorem op_fdivW {X : Cx} : OpR X (binaryOp .FloorDiv) rDivI := opI fun i j _ _ _ _ _ hc q => by
  have h1 : (0 : Int) < j := hc.1
  have h2 : j < 18446744073709551616 := hc.2
  refine PyProof.Rows.floordiv_int (by omega) (by rw [Int.fdiv_eq_ediv_of_nonneg i (by omega)]; exact q) (.inl (PyProof.noPylong_of_log2 ?_))
  have h3 : j.natAbs < 2 ^ 64 := by omega
  have h4 : j.natAbs.log2 < 64 := (Nat.log2_lt (by omega)).mpr h3
  omega
abbrev rModI : R2 := rI (fun _ j => 0 < j) fun i j => .int (i % j)
abbrev rPowI : R2 := rI CPow fun i j => .int (i ^ j.toNat)
abbrev rLeI : R2 := rI0 fun i j => .bl (decide (i ≤ j))
abbrev rGtI : R2 := rI0 fun i j => .bl (decide (j < i))
abbrev rGeI : R2 := rI0 fun i j => .bl (decide (j ≤ i))
abbrev rNegI : V → Hp → VK → Prop := rU fun i => .int (-i)
def rAddG (K : PySem.W.Frag) : R2 := fun x y H Q => rI0 (fun i j => .int (i + j)) x y H Q ∨ (∃ i j, x = .str i ∧ y = .str j ∧ i.length + j.length ≤ sizeLine ∧ Q (.str (i ++ j)) H) ∨ rCatA K x y H Q ∨ rCat x y H Q
def rMulG (K : PySem.W.Frag) : R2 := fun x y H Q => rI CMul (fun i j => .int (i * j)) x y H Q ∨ rI CMulW (fun i j => .int (i * j)) x y H Q
def rEqG (K : PySem.W.Frag) : R2 := fun x y H Q => rEq x y H Q ∨ rEqD K x y H Q
def rNeG (K : PySem.W.Frag) : R2 := fun x y H Q => rNe x y H Q ∨ rNeD K x y H Q
def rLtG (K : PySem.W.Frag) : R2 := fun x y H Q => rI0 (fun i j => .bl (decide (i < j))) x y H Q ∨ (∃ i j, x = .str i ∧ y = .str j ∧ Q (.bl (decide (i.cps.toList < j.cps.toList))) H) ∨ rLtT K x y H Q
def rInG (K : PySem.W.Frag) : R2 := fun x y H Q => rIn K false x y H Q ∨ ∃ (c : Nat) (z : Str), x = .str ⟨#[c]⟩ ∧ y = .str z ∧ Q (.bl (decide (c ∈ z.cps.toList))) H
def rSlG (K : PySem.W.Frag) : V → Option Int → Option Int → Hp → VK → Prop := fun x lo hi H Q => rSlL K x lo hi H Q ∨ rSlA K x lo hi H Q ∨ rSlS x lo hi H Q
section
variable {X : Cx}
theorem op_addG : OpR X (binaryOp .Add) (rAddG X.K) := op_add.or (op_add_str.or (op_catA.or op_cat))
theorem op_mulG : OpR X (binaryOp .Mult) (rMulG X.K) := op_mul.or op_mulW
theorem op_eqG (hu : X.A.units + 64 < cLine) : OpR X (compareOp .Eq) (rEqG X.K) := op_eq.or (op_eqD hu)
theorem op_neG (hu : X.A.units + 64 < cLine) : OpR X (compareOp .NotEq) (rNeG X.K) := op_ne.or (op_neD hu)
theorem op_ltG (hu : X.A.units < cLine) : OpR X (compareOp .Lt) (rLtG X.K) := op_lt.or (op_lt_str.or (op_ltT hu))
end
def Re.isScr : Re → Bool
  | .val (.scr _) => true
  | _ => false
def AddP (ra rb : Re) (Γ : List Sl) (Post : Re → List Sl → Prop) : Prop :=
  (∃ i j, ra = .val (.int i) ∧ rb = .val (.int j) ∧ Post (.val (.int (i + j))) Γ) ∨ (∃ s t : Str, ra = .val (.str s) ∧ rb = .val (.str t) ∧ s.length + t.length ≤ 1000000 ∧ Post (.val (.str (s ++ t))) Γ) ∨
  (∃ ds es, ra = .val (.tup ds) ∧ rb = .val (.tup es) ∧ ds.length + es.length ≤ 1000000 ∧ Post (.val (.tup (ds ++ es))) Γ) ∨ (∃ ds es, lstOf Γ ra = some ds ∧ lstOf Γ rb = some es ∧ ra.isScr = false ∧ rb.isScr = false ∧ ds.length + es.length ≤ 1000000 ∧ Post (.new (ds ++ es)) Γ)
def EqP (neg : Bool) (ra rb : Re) (Γ : List Sl) (Post : Re → List Sl → Prop) : Prop :=
  (∃ x y : V, ra = .val (.raw x) ∧ rb = .val (.raw y) ∧ scal x y = true ∧ Post (.val (.bl (neg ^^ decide (x = y)))) Γ) ∨
  (∃ p q : PyData, ra.py Γ = some p ∧ rb.py Γ = some q ∧ SeqAt.shaped p = true ∧ SeqAt.shaped q = true ∧ Post (.val (.bl (neg ^^ PyData.eqv p q))) Γ)
def MulP (ra rb : Re) (Γ : List Sl) (Post : Re → List Sl → Prop) : Prop := ∃ i j, ra = .val (.int i) ∧ rb = .val (.int j) ∧ (CMul i j ∨ CMulW i j) ∧ Post (.val (.int (i * j))) Γ
def IxP (ra rb : Re) (Γ : List Sl) (Post : Re → List Sl → Prop) : Prop :=
  (∃ ds k d, seqOf Γ ra = some ds ∧ rb = .val (.int k) ∧ atI ds k = some d ∧ Post (.val d) Γ) ∨ (∃ z k c, ra = .val (.str z) ∧ rb = .val (.int k) ∧ z.length ≤ 1000000 ∧ atI z.cps.toList k = some c ∧ Post (.val (.str ⟨#[c]⟩)) Γ)
def LenP (r : Re) (Γ : List Sl) (Post : Re → List Sl → Prop) : Prop := (∃ ds, seqOf Γ r = some ds ∧ Post (.val (.int ds.length)) Γ) ∨ (∃ z : Str, r = .val (.str z) ∧ z.length ≤ 1000000 ∧ Post (.val (.int z.length)) Γ)
def IntP (r : Re) (Γ : List Sl) (Post : Re → List Sl → Prop) : Prop := (∃ i, r = .val (.int i) ∧ Post (.val (.int i)) Γ) ∨ (∃ b, r = .val (.bl b) ∧ Post (.val (.int (if b then 1 else 0))) Γ)
section
variable {K : PySem.W.Frag} {Γ : List Sl} {Post : Re → List Sl → Prop} {ta tb tc te : TE}
theorem rv_lstH {σ : L2.St} {B H : Hp} {v : V} {r : Re} {ds : List Dt} (E : Env K B H σ Γ) (h : RvOk K σ B H Γ v r) (e : lstOf Γ r = some ds) (hs : r.isScr = false) : ∃ a vs, v = .ref a ∧ H a = some (.lst vs) ∧ IsA K B vs ds := by
  cases r with
  | val d =>
    cases d with
    | lst es => cases e; obtain ⟨a, xs, rfl, h1, h2⟩ := Is.lstR h; exact ⟨a, xs, rfl, E.bh _ _ h1, h2⟩
    | raw u => cases e
    | tup es => cases e
    | obj C fs => cases e
    | dK es => cases e
    | dT es => cases e
    | exn a d fs => cases e
    | err C fs => cases e
    | dN w es => cases e
    | scr ns => cases hs
  | nw c =>
    cases c with
    | lst es => cases e; obtain ⟨l, o, rfl, _, h1, _, vs, rfl, h2⟩ := h; exact ⟨l, vs, rfl, h1, h2⟩
    | dK es => cases e
    | dT es => cases e
    | dN w es => cases e
  | own i =>
    obtain ⟨l, rfl, hl⟩ := h
    have e' : (match Γ[i]? with
      | some (Sl.cel (.lst ds)) => some ds
      | _ => none) = some ds := e
    split at e'
    · rename_i es hi
      cases e'
      obtain ⟨c, us, q1, q2, q3, q4⟩ := E.acc i _ hi
      rw [hl] at q1; cases q1
      exact ⟨l, us, rfl, q2, q4⟩
    · cases e'
theorem we_addG (h : WE K ta Γ fun ra Γ1 => WE K tb Γ1 fun rb Γ2 => AddP ra rb Γ2 Post) : WE K (tOp (rAddG K) ta tb) Γ Post :=
  we_two' (we_mono h fun ra Γ1 h1 => we_mono h1 fun rb Γ2 hp => fun σ B H x y E kx ky Q q => by
    rcases hp with ⟨i, j, rfl, rfl, p⟩ | ⟨s, t, rfl, rfl, hz, p⟩ | ⟨ds, es, rfl, rfl, hz, p⟩ | ⟨ds, es, h1, h2, s1, s2, hz, p⟩
    · cases Is.rawI kx; cases Is.rawI ky
      exact .inl ⟨i, j, rfl, rfl, q _ B H _ Γ2 (.refl E) (.raw _) p⟩
    · cases Is.rawI kx; cases Is.rawI ky
      exact .inr (.inl ⟨s, t, rfl, rfl, Nat.le_trans hz (by decide), q _ B H _ Γ2 (.refl E) (.raw _) p⟩)
    · obtain ⟨a, xs, rfl, h1, h2⟩ := Is.tupR kx
      obtain ⟨b, ys, rfl, g1, g2⟩ := Is.tupR ky
      refine .inr (.inr (.inl ⟨a, b, xs, ys, rfl, rfl, sqT_mono E.bh h1, sqT_mono E.bh g1, Nat.le_trans (by rw [h2.len, g2.len]; exact hz) (by decide), fun e => ?_, fun e1 e => ?_, fun _ _ l hl => ?_⟩))
      · have : ds = [] := List.eq_nil_of_length_eq_zero (by rw [← h2.len, e]; rfl)
        subst this
        exact q _ B H (.val _) Γ2 (.refl E) (show Is K B _ _ from ky) p
      · have : es = [] := List.eq_nil_of_length_eq_zero (by rw [← g2.len, e]; rfl)
        subst this
        rw [List.append_nil] at p
        exact q _ B H (.val _) Γ2 (.refl E) (show Is K B _ _ from kx) p
      · exact q _ _ _ _ Γ2 (Go.laid E hl) (re_laidT E (h2.append g2) hl) p
    · obtain ⟨a, xs, rfl, a1, a2⟩ := rv_lstH E kx h1 s1
      obtain ⟨b, ys, rfl, b1, b2⟩ := rv_lstH E ky h2 s2
      exact .inr (.inr (.inr ⟨a, b, xs, ys, rfl, rfl, a1, b1, Nat.le_trans (by rw [a2.len, b2.len]; exact hz) (by decide), fun l hl => q _ _ _ _ Γ2 (Go.beside E hl) (re_newL E (a2.append b2) hl) p⟩)))
theorem we_mulG (h : WE K ta Γ fun ra Γ1 => WE K tb Γ1 fun rb Γ2 => MulP ra rb Γ2 Post) : WE K (tOp (rMulG K) ta tb) Γ Post :=
  we_two' (we_mono h fun ra Γ1 h1 => we_mono h1 fun rb Γ2 hp => fun σ B H x y E kx ky Q q => by
    obtain ⟨i, j, rfl, rfl, hc, p⟩ := hp
    cases Is.rawI kx; cases Is.rawI ky
    have fin := q _ B H _ Γ2 (.refl E) (.raw _) p
    rcases hc with hc | hc
    · exact .inl ⟨i, j, rfl, rfl, hc, fin⟩
    · exact .inr ⟨i, j, rfl, rfl, hc, fin⟩)
theorem we_eqG (h : WE K ta Γ fun ra Γ1 => WE K tb Γ1 fun rb Γ2 => EqP false ra rb Γ2 Post) : WE K (tOp (rEqG K) ta tb) Γ Post :=
  we_two' (we_mono h fun ra Γ1 h1 => we_mono h1 fun rb Γ2 hp => fun σ B H x y E kx ky Q q => by
    rcases hp with ⟨u, w, rfl, rfl, hs, p⟩ | ⟨a, b, e1, e2, s1, s2, p⟩
    · cases Is.rawI kx; cases Is.rawI ky
      rw [Bool.false_xor] at p
      exact .inl ⟨hs, q _ B H _ Γ2 (.refl E) (.raw _) p⟩
    · rw [Bool.false_xor] at p
      exact .inr ⟨a, b, rv_dp E kx e1, rv_dp E ky e2, s1, s2, q _ B H _ Γ2 (.refl E) (.raw _) p⟩)
theorem we_neG (h : WE K ta Γ fun ra Γ1 => WE K tb Γ1 fun rb Γ2 => EqP true ra rb Γ2 Post) : WE K (tOp (rNeG K) ta tb) Γ Post :=
  we_two' (we_mono h fun ra Γ1 h1 => we_mono h1 fun rb Γ2 hp => fun σ B H x y E kx ky Q q => by
    rcases hp with ⟨u, w, rfl, rfl, hs, p⟩ | ⟨a, b, e1, e2, s1, s2, p⟩
    · cases Is.rawI kx; cases Is.rawI ky
      rw [Bool.true_xor] at p
      exact .inl ⟨hs, q _ B H _ Γ2 (.refl E) (.raw _) p⟩
    · rw [Bool.true_xor] at p
      exact .inr ⟨a, b, rv_dp E kx e1, rv_dp E ky e2, s1, s2, q _ B H _ Γ2 (.refl E) (.raw _) p⟩)
theorem we_ixG (h : WE K ta Γ fun ra Γ1 => WE K tb Γ1 fun rb Γ2 => IxP ra rb Γ2 Post) : WE K (tOp (rIx K) ta tb) Γ Post :=
  we_two' (we_mono h fun ra Γ1 h1 => we_mono h1 fun rb Γ2 hp => fun σ B H x y E kx ky Q q => by
    rcases hp with ⟨ds, k, d, hs, rfl, hd, p⟩ | ⟨z, k, c, rfl, rfl, hz, hd, p⟩
    · cases Is.rawI ky
      obtain ⟨a, vs, rfl, hq, ha⟩ := rv_seq E kx hs
      obtain ⟨v, hv, hi⟩ := ha.atI hd
      have fin := q v B H (.val d) Γ2 (.refl E) hi p
      rcases hq with hq | hq
      · exact .inl ⟨a, vs, k, v, rfl, rfl, hq, hv, fin⟩
      · exact .inr (.inl ⟨a, vs, k, v, rfl, rfl, hq, hv, fin⟩)
    · cases Is.rawI ky
      cases Is.rawI kx
      exact .inr (.inr ⟨z, k, c, rfl, rfl, Nat.le_trans hz (by decide), hd, q _ B H _ Γ2 (.refl E) (.raw _) p⟩))
theorem we_lenG (h : WE K te Γ fun r Γ1 => LenP r Γ1 Post) : WE K (tCB (rLenV K) (tCons te tNil)) Γ Post :=
  we_cb1 (we_mono h fun r Γ1 hp => fun σ B H x E kx Q q => by
    rcases hp with ⟨ds, hs, p⟩ | ⟨z, rfl, hz, p⟩
    · obtain ⟨a, vs, rfl, hq, ha⟩ := rv_seq E kx hs
      have e : (ds.length : Int) = (vs.length : Int) := by rw [ha.len]
      rw [e] at p
      refine ⟨_, vs.length, rfl, ?_, q _ B H _ Γ1 (.refl E) (.raw _) p⟩
      rcases hq with hq | hq
      · exact .inl ⟨vs, hq, rfl⟩
      · exact .inr ⟨vs, hq, rfl⟩
    · cases Is.rawI kx
      exact ⟨_, z.length, rfl, ⟨Nat.le_trans hz (by decide), rfl⟩, q _ B H _ Γ1 (.refl E) (.raw _) p⟩)
theorem we_intG (h : WE K te Γ fun r Γ1 => IntP r Γ1 Post) : WE K (tCB rInt1 (tCons te tNil)) Γ Post :=
  we_cb1 (we_mono h fun r Γ1 hp => fun σ B H x E kx Q q => by
    rcases hp with ⟨i, rfl, p⟩ | ⟨b, rfl, p⟩
    · cases Is.rawI kx; exact .inl ⟨i, rfl, q _ B H _ Γ1 (.refl E) (.raw _) p⟩
    · cases Is.rawI kx; exact .inr ⟨b, rfl, q _ B H _ Γ1 (.refl E) (.raw _) p⟩)
def WO (K : PySem.W.Frag) (to : TO) (Γ : List Sl) (Post : Option Int → List Sl → Prop) : Prop := ∀ σ B H, Env K B H σ Γ → ∀ Q : Option Int → Hp → Prop, (∀ o B' H' Γ', Go K σ B H Γ B' H' Γ' → Post o Γ' → Q o H') → to σ H Q
theorem wo_none {P : Option Int → List Sl → Prop} (p : P none Γ) : WO K tNoPart Γ P := fun σ B H E Q q => q none B H Γ (.refl E) p
theorem wo_some {P : Option Int → List Sl → Prop} (h : WE K te Γ fun r Γ1 => ∃ i, r = .val (.int i) ∧ P (some i) Γ1) : WO K (tPart te) Γ P := fun σ B H E Q q => by
  refine h σ B H E _ fun v B1 H1 r Γ1 g k ⟨i, e, p⟩ => ?_
  subst e
  cases Is.rawI k
  exact ⟨i, rfl, q _ B1 H1 Γ1 g p⟩
def cutD (xs : List Dt) (lo hi : Option Int) : List Dt := (xs.drop (HT.sIx xs.length 0 lo)).take (HT.sIx xs.length xs.length hi - HT.sIx xs.length 0 lo)
def SlP (ra : Re) (lo hi : Option Int) (Γ : List Sl) (Post : Re → List Sl → Prop) : Prop :=
  (∃ ds, lstOf Γ ra = some ds ∧ Post (.new (cutD ds lo hi)) Γ) ∨ (∃ ds, ra = .val (.tup ds) ∧ Post (.val (.tup (cutD ds lo hi))) Γ) ∨ (∃ z : Str, ra = .val (.str z) ∧ z.length ≤ 1000000 ∧ Post (.val (.str (cutS z lo hi))) Γ)
theorem cut_is {B : Hp} {vs : List V} {ds : List Dt} (lo hi : Option Int) (h : IsA K B vs ds) : IsA K B (cutV vs lo hi) (cutD ds lo hi) := by
  unfold cutV cutD
  rw [h.len]
  exact (h.drop _).take _
theorem cut_whole {ds : List Dt} {lo hi : Option Int} (h : HT.sIx ds.length 0 lo = 0 ∧ HT.sIx ds.length ds.length hi = ds.length) : cutD ds lo hi = ds := by
  unfold cutD
  rw [h.1, h.2, List.drop_zero, Nat.sub_zero, List.take_length]
theorem we_slG {tl th : TO} (h : WE K ta Γ fun ra Γ1 => WO K tl Γ1 fun lo Γ2 => WO K th Γ2 fun hi Γ3 => SlP ra lo hi Γ3 Post) : WE K (tSl (rSlG K) ta tl th) Γ Post := fun σ B H E Q q => by
  refine h σ B H E _ fun x B1 H1 ra Γ1 g1 k1 p1 => ?_
  refine p1 σ B1 H1 g1.env _ fun lo B2 H2 Γ2 g2 p2 => ?_
  refine p2 σ B2 H2 g2.env _ fun hi B3 H3 Γ3 g3 p3 => ?_
  have g23 := g2.trans g3
  have kx := ReOk.rv (ReOk.step k1 g23.mv g23.sub)
  have g := g1.trans g23
  have fin : ∀ v B' H' z Γ', Go K σ B3 H3 Γ3 B' H' Γ' → ReOk K σ (Own σ Γ3) (Own σ Γ') B' H3 H' v z → Post z Γ' → Q v H' := fun v B' H' z Γ' g4 k4 p4 => q v B' H' z Γ' (g.trans g4) (ReOk.earlier k4 g.mv fun a h => .inl (g.sub a h)) p4
  rcases p3 with ⟨ds, hs, p⟩ | ⟨ds, rfl, p⟩ | ⟨z, rfl, hz, p⟩
  · obtain ⟨a, vs, rfl, hq, ha⟩ := rv_lst g3.env kx hs
    exact .inl ⟨a, vs, rfl, hq, fun l hl => fin _ _ _ _ Γ3 (Go.beside g3.env hl) (re_newL g3.env (cut_is lo hi ha) hl) p⟩
  · obtain ⟨a, vs, rfl, hq, ha⟩ := Is.tupR kx
    refine .inr (.inl ⟨a, vs, rfl, sqT_mono g3.env.bh hq, fun hw => ?_, fun _ l hl => fin _ _ _ _ Γ3 (Go.laid g3.env hl) (re_laidT g3.env (cut_is lo hi ha) hl) p⟩)
    rw [ha.len] at hw
    rw [cut_whole hw] at p
    exact fin _ B3 H3 (.val _) Γ3 (.refl g3.env) (show Is K B3 _ _ from kx) p
  · cases Is.rawI kx
    exact .inr (.inr ⟨z, rfl, Nat.le_trans hz (by decide), fin _ B3 H3 _ Γ3 (.refl g3.env) (.raw _) p⟩)
def InP (neg : Bool) (ra rb : Re) (Γ : List Sl) (Post : Re → List Sl → Prop) : Prop :=
  (∃ (x : V) (us : List V), ra = .val (.raw x) ∧ seqOf Γ rb = some (us.map Dt.raw) ∧ flatV x = true ∧ us.all flatV = true ∧ Post (.val (.bl (if neg then !inV x us else inV x us))) Γ)
theorem we_inG (h : WE K ta Γ fun ra Γ1 => WE K tb Γ1 fun rb Γ2 => InP false ra rb Γ2 Post ∨ ∃ (c : Nat) (z : Str), ra = .val (.str ⟨#[c]⟩) ∧ rb = .val (.str z) ∧ Post (.val (.bl (decide (c ∈ z.cps.toList)))) Γ2) : WE K (tOp (rInG K) ta tb) Γ Post :=
  we_two' (we_mono h fun ra Γ1 h1 => we_mono h1 fun rb Γ2 hp => fun σ B H y z E ky kz Q q => by
    rcases hp with ⟨x, us, rfl, hs, hx, hu, p⟩ | ⟨c, s, rfl, rfl, p⟩
    · cases Is.rawI ky
      obtain ⟨a, vs, rfl, hq, ha⟩ := rv_seq E kz hs
      cases ha.rawsI
      exact .inl ⟨a, _, rfl, hq, hx, hu, q _ B H _ Γ2 (.refl E) (.raw _) p⟩
    · cases Is.rawI ky; cases Is.rawI kz
      exact .inr ⟨c, s, rfl, rfl, q _ B H _ Γ2 (.refl E) (.raw _) p⟩)
theorem we_notInG (h : WE K ta Γ fun ra Γ1 => WE K tb Γ1 fun rb Γ2 => InP true ra rb Γ2 Post) : WE K (tOp (rIn K true) ta tb) Γ Post := we_in h
end
def LtP (ra rb : Re) (Γ : List Sl) (Post : Re → List Sl → Prop) : Prop :=
  (∃ i j, ra = .val (.int i) ∧ rb = .val (.int j) ∧ Post (.val (.bl (decide (i < j)))) Γ) ∨ (∃ s t : Str, ra = .val (.str s) ∧ rb = .val (.str t) ∧ Post (.val (.bl (decide (s.cps.toList < t.cps.toList)))) Γ) ∨
  (∃ ns ms : List Int, ra = .val (.tup (ns.map Dt.int)) ∧ rb = .val (.tup (ms.map Dt.int)) ∧ Post (.val (.bl (HT.lexLt ns ms))) Γ)
theorem we_ltG {K : PySem.W.Frag} {Γ : List Sl} {Post : Re → List Sl → Prop} {ta tb : TE} (h : WE K ta Γ fun ra Γ1 => WE K tb Γ1 fun rb Γ2 => LtP ra rb Γ2 Post) : WE K (tOp (rLtG K) ta tb) Γ Post :=
  we_two' (we_mono h fun ra Γ1 h1 => we_mono h1 fun rb Γ2 hp => fun σ B H x y E kx ky Q q => by
    rcases hp with ⟨i, j, rfl, rfl, p⟩ | ⟨s, t, rfl, rfl, p⟩ | ⟨ns, ms, rfl, rfl, p⟩
    · cases Is.rawI kx; cases Is.rawI ky
      exact .inl ⟨i, j, rfl, rfl, q _ B H _ Γ2 (.refl E) (.raw _) p⟩
    · cases Is.rawI kx; cases Is.rawI ky
      exact .inr (.inl ⟨s, t, rfl, rfl, q _ B H _ Γ2 (.refl E) (.raw _) p⟩)
    · obtain ⟨a, xs, rfl, h1, h2⟩ := Is.tupR kx
      obtain ⟨b, ys, rfl, g1, g2⟩ := Is.tupR ky
      have e1 : xs = ns.map V.int := IsA.rawsI (xs := ns.map V.int) (by rw [List.map_map]; exact h2)
      have e2 : ys = ms.map V.int := IsA.rawsI (xs := ms.map V.int) (by rw [List.map_map]; exact g2)
      subst e1 e2
      exact .inr (.inr ⟨a, b, ns, ms, rfl, rfl, sqT_mono E.bh h1, sqT_mono E.bh g1, q _ B H _ Γ2 (.refl E) (.raw _) p⟩))
theorem law_sp {K : PySem.W.Frag} {ap : AP} {H : Hp} {a : Addr} {ns : List Int} {E : XK} (hS : SqL K H a (ns.map V.int)) (h : ∀ Post : Re → List Sl → Prop, (∀ as, Post (.val (.bl true)) as) → ap [.val (.scr ns)] Post) : toSp K ap [.ref a] H (fun v _ => v = .bl true) E := by
  refine ⟨H, [.val (.scr ns)], fun r _ => r = .val (.bl true), ⟨rfl, Same.refl H, fun i d hi => ?_, fun i ds hi => ?_, fun i j ds es l hi => ?_⟩, h _ (fun _ => rfl), fun v B' H' r as' g k p => ?_⟩
  · cases i with
    | zero => simp at hi; subst hi; exact ⟨.ref a, rfl, .scr hS⟩
    | succ i => simp at hi
  · cases i with
    | zero => simp at hi
    | succ i => simp at hi
  · cases i with
    | zero => simp at hi
    | succ i => simp at hi
  · subst p; exact Is.rawI k
theorem bi_int : bootBuiltins "int" = some (.type "int") := by decide +kernel
theorem bi_bool : bootBuiltins "bool" = some (.type "bool") := by decide +kernel
theorem bi_str : bootBuiltins "str" = some (.type "str") := by decide +kernel
theorem bi_list : bootBuiltins "list" = some (.type "list") := by decide +kernel
theorem bi_tuple : bootBuiltins "tuple" = some (.type "tuple") := by decide +kernel
theorem bi_len : bootBuiltins "len" = some (.builtin "len") := by decide +kernel
theorem bi_abs : bootBuiltins "abs" = some (.builtin "abs") := by decide +kernel
theorem bi_min : bootBuiltins "min" = some (.builtin "min") := by decide +kernel
theorem bi_isinstance : bootBuiltins "isinstance" = some (.builtin "isinstance") := by decide +kernel
end Ab

namespace Ab
open PySem L2
section
variable {Γ : List Sl} {Post : Re → List Sl → Prop}
theorem addp_i {i j : Int} (p : Post (.val (.int (i + j))) Γ) : AddP (.val (.int i)) (.val (.int j)) Γ Post := .inl ⟨i, j, rfl, rfl, p⟩
theorem addp_t {ds es : List Dt} (hz : ds.length + es.length ≤ 1000000) (p : Post (.val (.tup (ds ++ es))) Γ) : AddP (.val (.tup ds)) (.val (.tup es)) Γ Post := .inr (.inr (.inl ⟨ds, es, rfl, rfl, hz, p⟩))
theorem addp_l {ra rb : Re} {ds es : List Dt} (h1 : lstOf Γ ra = some ds) (h2 : lstOf Γ rb = some es) (s1 : ra.isScr = false) (s2 : rb.isScr = false) (hz : ds.length + es.length ≤ 1000000) (p : Post (.new (ds ++ es)) Γ) : AddP ra rb Γ Post := .inr (.inr (.inr ⟨ds, es, h1, h2, s1, s2, hz, p⟩))
theorem mulp_l {i j : Int} (hc : -(2 ^ 64) < i ∧ i < 2 ^ 64) (p : Post (.val (.int (i * j))) Γ) : MulP (.val (.int i)) (.val (.int j)) Γ Post := ⟨i, j, rfl, rfl, .inl (.inl hc), p⟩
theorem mulp_r {i j : Int} (hc : -(2 ^ 64) < j ∧ j < 2 ^ 64) (p : Post (.val (.int (i * j))) Γ) : MulP (.val (.int i)) (.val (.int j)) Γ Post := ⟨i, j, rfl, rfl, .inl (.inr hc), p⟩
theorem eqp_s {neg : Bool} {x y : V} (hs : scal x y = true) (p : Post (.val (.bl (neg ^^ decide (x = y)))) Γ) : EqP neg (.val (.raw x)) (.val (.raw y)) Γ Post := .inl ⟨x, y, rfl, rfl, hs, p⟩
theorem dec_i {i j : Int} : decide (V.int i = V.int j) = decide (i = j) := by
  by_cases h : i = j
  · subst h; simp
  · have : ¬ V.int i = V.int j := fun z => h (V.int.inj z)
    rw [decide_eq_false this, decide_eq_false h]
theorem eqp_i {i j : Int} (p : Post (.val (.bl (decide (i = j)))) Γ) : EqP false (.val (.int i)) (.val (.int j)) Γ Post := eqp_s rfl (by rw [dec_i, Bool.false_xor]; exact p)
theorem nep_i {i j : Int} (p : Post (.val (.bl (!decide (i = j)))) Γ) : EqP true (.val (.int i)) (.val (.int j)) Γ Post := eqp_s rfl (by rw [dec_i, Bool.true_xor]; exact p)
theorem eqp_d {neg : Bool} {ra rb : Re} {p q : PyData} (h1 : ra.py Γ = some p) (h2 : rb.py Γ = some q) (s1 : SeqAt.shaped p = true) (s2 : SeqAt.shaped q = true) (k : Post (.val (.bl (neg ^^ PyData.eqv p q))) Γ) : EqP neg ra rb Γ Post := .inr ⟨p, q, h1, h2, s1, s2, k⟩
theorem intp_i {i : Int} (p : Post (.val (.int i)) Γ) : IntP (.val (.int i)) Γ Post := .inl ⟨i, rfl, p⟩
theorem intp_b {b : Bool} (p : Post (.val (.int (if b then 1 else 0))) Γ) : IntP (.val (.bl b)) Γ Post := .inr ⟨b, rfl, p⟩
theorem ltp_i {i j : Int} (p : Post (.val (.bl (decide (i < j)))) Γ) : LtP (.val (.int i)) (.val (.int j)) Γ Post := .inl ⟨i, j, rfl, rfl, p⟩
theorem ixp {ra : Re} {ds : List Dt} {k : Int} {d : Dt} (h1 : seqOf Γ ra = some ds) (h2 : atI ds k = some d) (p : Post (.val d) Γ) : IxP ra (.val (.int k)) Γ Post := .inl ⟨ds, k, d, h1, rfl, h2, p⟩
theorem ixp_s {z : Str} {k : Int} {c : Nat} (hz : z.length ≤ 1000000) (h2 : atI z.cps.toList k = some c) (p : Post (.val (.str ⟨#[c]⟩)) Γ) : IxP (.val (.str z)) (.val (.int k)) Γ Post := .inr ⟨z, k, c, rfl, rfl, hz, h2, p⟩
theorem lenp {r : Re} {ds : List Dt} (h : seqOf Γ r = some ds) (p : Post (.val (.int ds.length)) Γ) : LenP r Γ Post := .inl ⟨ds, h, p⟩
theorem lenp_s {z : Str} (hz : z.length ≤ 1000000) (p : Post (.val (.int z.length)) Γ) : LenP (.val (.str z)) Γ Post := .inr ⟨z, rfl, hz, p⟩
theorem slp_t {ds : List Dt} {lo hi : Option Int} (p : Post (.val (.tup (cutD ds lo hi))) Γ) : SlP (.val (.tup ds)) lo hi Γ Post := .inr (.inl ⟨ds, rfl, p⟩)
theorem slp_s {z : Str} {lo hi : Option Int} (hz : z.length ≤ 1000000) (p : Post (.val (.str (cutS z lo hi))) Γ) : SlP (.val (.str z)) lo hi Γ Post := .inr (.inr ⟨z, rfl, hz, p⟩)
theorem atI_of {α : Type} {xs : List α} {k : Int} {j : Nat} {x : α} (e : k = (j : Int)) (h : xs[j]? = some x) : atI xs k = some x := by
  subst e
  have hj : j < xs.length := (List.getElem?_eq_some_iff.mp h).1
  unfold atI ixN
  rw [if_pos (by omega), if_pos (by omega)]
  simpa using h
end
section
variable {K : PySem.W.Frag} {Γ : List Sl} {Post : Re → List Sl → Prop} {te : TE}
def IsiP (c : String) (r : Re) (Γ : List Sl) (Post : Re → List Sl → Prop) : Prop := (∀ i, r = .own i → ∃ ds, Γ[i]? = some (.acc ds)) ∧ ∃ T b, tyOf r = some T ∧ kitB T c = some b ∧ Post (.val (.bl b)) Γ
theorem we_isiG {c : String} (h : WE K te Γ fun r Γ1 => IsiP c r Γ1 Post) : WE K (tCB (rIsi K) (tCons te (tCons (tC (.ty c)) tNil))) Γ Post := we_isi h
theorem isi_own {i : Nat} {ds : List Dt} {c : String} {b : Bool} (h : Γ[i]? = some (.acc ds)) (hk : kitB "list" c = some b) (p : Post (.val (.bl b)) Γ) : IsiP c (.own i) Γ Post :=
  ⟨fun j e => by cases e; exact ⟨ds, h⟩, "list", b, rfl, hk, p⟩
theorem isi_val {d : Dt} {T c : String} {b : Bool} (ht : tyOf (.val d) = some T) (hk : kitB T c = some b) (p : Post (.val (.bl b)) Γ) : IsiP c (.val d) Γ Post :=
  ⟨(fun j e => nomatch e), T, b, ht, hk, p⟩
theorem isi_new {ds : List Dt} {c : String} {b : Bool} (hk : kitB "list" c = some b) (p : Post (.val (.bl b)) Γ) : IsiP c (.new ds) Γ Post :=
  ⟨(fun j e => nomatch e), "list", b, rfl, hk, p⟩
theorem kb_tt : kitB "tuple" "tuple" = some true := by decide +kernel
theorem kb_ll : kitB "list" "list" = some true := by decide +kernel
theorem kb_ii : kitB "int" "int" = some true := by decide +kernel
theorem kb_ib : kitB "int" "bool" = some false := by decide +kernel
theorem kb_bb : kitB "bool" "bool" = some true := by decide +kernel
theorem kb_bi : kitB "bool" "int" = some true := by decide +kernel
theorem kb_ss : kitB "str" "str" = some true := by decide +kernel
theorem kb_sb : kitB "str" "bool" = some false := by decide +kernel
theorem kb_si : kitB "str" "int" = some false := by decide +kernel
theorem kb_tb : kitB "tuple" "bool" = some false := by decide +kernel
theorem kb_ti : kitB "tuple" "int" = some false := by decide +kernel
theorem kb_ts : kitB "tuple" "str" = some false := by decide +kernel
theorem kb_tl : kitB "tuple" "list" = some false := by decide +kernel
theorem kb_lb : kitB "list" "bool" = some false := by decide +kernel
theorem kb_li : kitB "list" "int" = some false := by decide +kernel
theorem kb_ls : kitB "list" "str" = some false := by decide +kernel
theorem kb_lt : kitB "list" "tuple" = some false := by decide +kernel
theorem kb_is : kitB "int" "str" = some false := by decide +kernel
theorem kb_it : kitB "int" "tuple" = some false := by decide +kernel
theorem kb_il : kitB "int" "list" = some false := by decide +kernel
theorem kb_st : kitB "str" "tuple" = some false := by decide +kernel
theorem kb_sl : kitB "str" "list" = some false := by decide +kernel
theorem kb_nb : kitB "NoneType" "bool" = some false := by decide +kernel
theorem kb_ni : kitB "NoneType" "int" = some false := by decide +kernel
theorem kb_ns : kitB "NoneType" "str" = some false := by decide +kernel
theorem kb_nt : kitB "NoneType" "tuple" = some false := by decide +kernel
theorem kb_nl : kitB "NoneType" "list" = some false := by decide +kernel
theorem kb_bs : kitB "bool" "str" = some false := by decide +kernel
theorem kb_bt : kitB "bool" "tuple" = some false := by decide +kernel
theorem kb_bl : kitB "bool" "list" = some false := by decide +kernel
end
inductive Hold (p : Prop) : Prop where
  | a (h : p)
  | b (h : p) (_ : True)
theorem Hold.get {p : Prop} (h : Hold p) : p := by
  cases h with
  | a h => exact h
  | b h _ => exact h
theorem ws_cut {K : PySem.W.Frag} {pin : List Nat} {Γ : List Sl} {P : Ps} {t u : TS} (M : List Sl → Prop) (h : WS K pin t Γ { P with nx := fun G => Hold (M G) }) (k : ∀ G, M G → WS K pin u G P) : WS K pin (tSeq t u) Γ P := ws_seq (ws_mono h (fun G hG => k G hG.get) (fun _ _ h => h) (fun _ h => h) (fun _ h => h))
section
variable {K : PySem.W.Frag} {pin : List Nat} {Γ : List Sl} {P : Ps} {te tl : TE} {tt : TT} {tb : TS} {g : TG} {j : Nat} {Post : Re → List Sl → Prop}
theorem for_range1 {t1 : TA} (n : Int) (Inv : Nat → List Sl → Prop) (h : WD K t1 Γ fun ds Γ1 => Hold (ds = [.int n] ∧ -(2 ^ 62) ≤ n ∧ n < 2 ^ 62 ∧ Inv 0 Γ1))
    (turn : ∀ (i : Nat) G, (i : Int) < n → Inv i G → WG K pin g (.int i) G fun G2 => WS K pin tb G2 ⟨fun G => Hold (Inv (i + 1) G), P.rt, P.nx, fun G => Hold (Inv (i + 1) G), P.ex⟩) (done : ∀ G, Inv n.toNat G → P.nx G) : WS K pin (tFor (iRng1 t1) g tb) Γ P :=
  ws_for1 fun σ B H E Q q => h σ B H E Q fun vs B' H' ds Γ' g k p => q vs B' H' ds Γ' g k (by
    obtain ⟨e, h1, h2, h3⟩ := p.get
    exact ⟨n, e, h1, h2, fun i G => Hold (Inv i G), .a h3, fun i G hi hG => turn i G hi hG.get, fun G hG => done G hG.get⟩)
theorem for_range2 {t1 : TA} (lo m : Int) (Inv : Nat → List Sl → Prop) (h : WD K t1 Γ fun ds Γ1 => Hold (ds = [.int lo, .int m] ∧ (-(2 ^ 62) ≤ lo ∧ lo < 2 ^ 62 ∧ -(2 ^ 62) ≤ m ∧ m < 2 ^ 62) ∧ Inv 0 Γ1))
    (turn : ∀ (i : Nat) G, lo + (i : Int) < m → Inv i G → WG K pin g (.int (lo + i)) G fun G2 => WS K pin tb G2 ⟨fun G => Hold (Inv (i + 1) G), P.rt, P.nx, fun G => Hold (Inv (i + 1) G), P.ex⟩) (done : ∀ G, Inv (m - lo).toNat G → P.nx G) : WS K pin (tFor (iRng2 t1) g tb) Γ P :=
  ws_for2 fun σ B H E Q q => h σ B H E Q fun vs B' H' ds Γ' g k p => q vs B' H' ds Γ' g k (by
    obtain ⟨e, h1, h3⟩ := p.get
    exact ⟨lo, m, e, h1, fun i G => Hold (Inv i G), .a h3, fun i G hi hG => turn i G hi hG.get, fun G hG => done G hG.get⟩)
theorem for_tuple (ds : List Dt) (Inv : Nat → List Sl → Prop) (h : WE K te Γ fun z Γ1 => Hold (z = .val (.tup ds) ∧ Inv 0 Γ1))
    (turn : ∀ (i : Nat) d G, ds[i]? = some d → Inv i G → WG K pin g d G fun G2 => WS K pin tb G2 ⟨fun G => Hold (Inv (i + 1) G), P.rt, P.nx, fun G => Hold (Inv (i + 1) G), P.ex⟩) (done : ∀ G, Inv ds.length G → P.nx G) : WS K pin (tFor (iTup K te) g tb) Γ P :=
  ws_forT (we_mono h fun z Γ1 p => by
    obtain ⟨e, h3⟩ := p.get
    exact ⟨ds, e, fun i G => Hold (Inv i G), .a h3, fun i d G hd hG => turn i d G hd hG.get, fun G hG => done G hG.get⟩)
theorem for_lst (ds : List Dt) (Inv : Nat → List Sl → Prop) (h : WE K te Γ fun z Γ1 => Hold (z.dt? = some (.lst ds) ∧ Inv 0 Γ1))
    (turn : ∀ (i : Nat) d G, ds[i]? = some d → Inv i G → WG K pin g d G fun G2 => WS K pin tb G2 ⟨fun G => Hold (Inv (i + 1) G), P.rt, P.nx, fun G => Hold (Inv (i + 1) G), P.ex⟩) (done : ∀ G, Inv ds.length G → P.nx G) : WS K pin (tFor (iList K te) g tb) Γ P :=
  ws_forL (we_mono h fun z Γ1 p => by
    obtain ⟨e, h3⟩ := p.get
    exact ⟨_, ds, e, rfl, fun i G => Hold (Inv i G), .a h3, fun i d G hd hG => turn i d G hd hG.get, fun G hG => done G hG.get⟩)
theorem for_acc {k : Nat} (ds : List Dt) (Inv : Nat → List Sl → Prop) (h0 : Γ[k]? = some (.acc ds)) (i0 : Inv 0 Γ) (hk : ∀ i G, Inv i G → G[k]? = some (.acc ds))
    (turn : ∀ (i : Nat) d G, ds[i]? = some d → Inv i G → WG K (k :: pin) g d G fun G2 => WS K (k :: pin) tb G2 ⟨fun G => Hold (Inv (i + 1) G), P.rt, P.nx, fun G => Hold (Inv (i + 1) G), P.ex⟩) (done : ∀ G, Inv ds.length G → P.nx G) : WS K pin (tFor (iList K (tVar k)) g tb) Γ P :=
  ws_forA h0 (fun i G => Hold (Inv i G)) (.a i0) (fun i G hG => hk i G hG.get) (fun i d G hd hG => turn i d G hd hG.get) fun G hG => done G hG.get
theorem while_ab (Inv : Nat → List Sl → Prop) (m0 : Nat) (i0 : Inv m0 Γ)
    (turn : ∀ m G, Inv m G → WT K tt G fun z G1 => (z = true → WS K pin tb G1 ⟨fun G => Hold (∃ m', m' < m ∧ Inv m' G), P.rt, P.nx, fun G => Hold (∃ m', m' < m ∧ Inv m' G), P.ex⟩) ∧ (z = false → P.nx G1)) : WS K pin (tWhile tt tb) Γ P :=
  ws_while Inv m0 i0 fun m G hG => wt_mono (turn m G hG) fun b G1 ⟨h1, h2⟩ => ⟨fun e => ws_mono (h1 e) (fun G h => h.get) (fun _ _ h => h) (fun _ h => h) (fun G h => h.get), h2⟩
theorem lc_range1 {t1 : TA} (n : Nat) (Inv : Nat → List Dt → List Sl → Prop) (h : WD K t1 Γ fun ds Γ1 => Hold (ds = [.int n] ∧ n ≤ 1000000 ∧ decide (j < Γ1.length) = true ∧ notAcc Γ1[j]? = true ∧ keepV Γ1[j]? = keepV Γ[j]? ∧ Inv 0 [] Γ1))
    (turn : ∀ i es G, i < n → Inv i es G → WT K tt (G.set j (.val (.int i))) fun b G2 => (b = true → WE K te G2 fun r G3 => ∃ d, r.dt? = some d ∧ Hold (Inv (i + 1) (es ++ [d]) (G3.set j (keepV Γ[j]?)))) ∧ (b = false → Hold (Inv (i + 1) es (G2.set j (keepV Γ[j]?)))))
    (done : ∀ es G, Inv n es G → Post (.new es) G) : WE K (tLc (iRng1 t1) (gName j) tt te [j]) Γ Post :=
  we_lc1 fun σ B H E Q q => h σ B H E Q fun vs B' H' ds Γ1 g k p => q vs B' H' ds Γ1 g k (by
    obtain ⟨e, h1, h2, h3, h4, h5⟩ := p.get
    refine ⟨n, e, h1, h2, h3, fun i es G => Hold (Inv i es G), .a h5, fun i es G hi hG => ?_, fun es G hG => done es G hG.get⟩
    rw [h4]
    exact turn i es G hi hG.get)
theorem lc_acc {k : Nat} (ds : List Dt) (Inv : Nat → List Dt → List Sl → Prop) (h0 : Γ[k]? = some (.acc ds)) (hn : ds.length ≤ 1000000) (hj : decide (j < Γ.length) = true) (hja : notAcc Γ[j]? = true) (i0 : Inv 0 [] Γ) (hk : ∀ i es G, Inv i es G → G[k]? = some (.acc ds))
    (turn : ∀ (i : Nat) d es G, ds[i]? = some d → Inv i es G → WT K tt (G.set j (.val d)) fun b G2 => (b = true → WE K te G2 fun r G3 => ∃ d, r.dt? = some d ∧ Hold (Inv (i + 1) (es ++ [d]) (G3.set j (keepV Γ[j]?)))) ∧ (b = false → Hold (Inv (i + 1) es (G2.set j (keepV Γ[j]?)))))
    (done : ∀ es G, Inv ds.length es G → Post (.new es) G) : WE K (tLc (iList K (tVar k)) (gName j) tt te [j]) Γ Post :=
  we_lcA h0 hn hj hja (fun i es G => Hold (Inv i es G)) (.a i0) (fun i es G hG => hk i es G hG.get) (fun i d es G hi hG => turn i d es G hi hG.get) fun es G hG => done es G hG.get
theorem for_lstH (h : WE K te Γ fun z Γ1 => Hold (∃ ds, z.dt? = some (.lst ds) ∧ ∃ Inv : Nat → List Sl → Prop, Inv 0 Γ1 ∧
      (∀ (i : Nat) d Γ', ds[i]? = some d → Inv i Γ' → WG K pin g d Γ' fun Γ2 => WS K pin tb Γ2 ⟨fun G => Hold (Inv (i + 1) G), P.rt, P.nx, fun G => Hold (Inv (i + 1) G), P.ex⟩) ∧ ∀ Γ', Inv ds.length Γ' → P.nx Γ')) : WS K pin (tFor (iList K te) g tb) Γ P :=
  ws_forL (we_mono h fun z Γ1 p => by
    obtain ⟨ds, e, Inv, i0, turn, done⟩ := p.get
    exact ⟨_, ds, e, rfl, fun i G => Hold (Inv i G), .a i0, fun i d G hi hG => turn i d G hi hG.get, fun G hG => done G hG.get⟩)
theorem wt_yes {Q : Bool → List Sl → Prop} (p : Q true Γ) : WT K tYes Γ Q := fun σ B H E R q => q true B H Γ (.refl E) p
end
theorem we_sum {K : PySem.W.Frag} {Γ : List Sl} {Post : Re → List Sl → Prop} {te : TE} (h : WE K te Γ fun r Γ1 => Hold (∃ ns : List Int, lstOf Γ1 r = some (ns.map Dt.int) ∧ Post (.val (.int ns.sum)) Γ1)) : WE K (tCB (rSum K) (tCons te tNil)) Γ Post :=
  we_cb1 (we_mono h fun r Γ1 hp => fun σ B H x E kx Q q => by
    obtain ⟨ns, hs, p⟩ := hp.get
    obtain ⟨a, vs, rfl, hq, ha⟩ := rv_lst E kx hs
    have e : vs = ns.map V.int := IsA.rawsI (xs := ns.map V.int) (by rw [List.map_map]; exact ha)
    subst e
    exact ⟨a, ns, rfl, hq, q _ B H _ Γ1 (.refl E) (.raw _) p⟩)
def NormP (Γ : List Sl) (Q : List Sl → Prop) : Prop := Q Γ
theorem norm_intro {Γ Γ' : List Sl} {Q : List Sl → Prop} (e : Γ = Γ') (h : Q Γ') : NormP Γ Q := by
  subst e
  exact h
theorem norm_cons {a a' : Sl} {Γ Γt Γt' : List Sl} (e : Γ = a :: Γt) (ea : a = a') (et : Γt = Γt') : Γ = a' :: Γt' := by
  subst ea et
  exact e
theorem norm_v {d : Dt} : slOf (.val d) = .val d := rfl
theorem norm_n {ds : List Dt} : slOf (.new ds) = .acc ds := rfl
theorem norm_o {i : Nat} : slOf (.own i) = .un := rfl
theorem ws_asgN {K : PySem.W.Frag} {pin : List Nat} {Γ : List Sl} {P : Ps} {te : TE} {i : Nat} (hp : pin.contains i = false) (hi : decide (i < Γ.length) = true) (h : WE K te Γ fun z Γ1 => NormP (Γ1.set i (slOf z)) P.nx) : WS K pin (tAsg te (gName i)) Γ P := ws_asg hp hi h
theorem wg_nameN {K : PySem.W.Frag} {pin : List Nat} {Γ : List Sl} {i : Nat} {d : Dt} {Q : List Sl → Prop} (hp : pin.contains i = false) (hi : decide (i < Γ.length) = true) (p : NormP (Γ.set i (.val d)) Q) : WG K pin (gName i) d Γ Q := wg_name hp hi p
theorem we_appendN {K : PySem.W.Frag} {Γ : List Sl} {te : TE} {i : Nat} {ds0 : List Dt} {Post : Re → List Sl → Prop} (h0 : Γ[i]? = some (.acc ds0)) (h : WE K te Γ fun z Γ1 => ∃ d ds, z.dt? = some d ∧ Γ1[i]? = some (.acc ds) ∧ ds.length < 1000000 ∧ NormP (Γ1.set i (.acc (ds ++ [d]))) (Post (.val .non))) :
    WE K (tBM K "list" rAppend (tVar i) (tCons te tNil)) Γ Post := we_append h0 h
theorem ws_setN {K : PySem.W.Frag} {pin : List Nat} {Γ : List Sl} {P : Ps} {te tj : TE} {i : Nat} (h : WE K te Γ fun z Γ1 => ∃ d, z = .val d ∧ (∃ ds1, Γ1[i]? = some (.acc ds1)) ∧ WE K tj Γ1 fun y Γ2 => ∃ ds k j, y = .val (.int k) ∧ Γ2[i]? = some (.acc ds) ∧ ixN ds.length k = some j ∧ NormP (Γ2.set i (.acc (ds.set j d))) P.nx) :
    WS K pin (tAsg te (gSub (tVar i) tj rSetL)) Γ P := ws_setA h
theorem we_reverseN {K : PySem.W.Frag} {Γ : List Sl} {i : Nat} {ds : List Dt} {Post : Re → List Sl → Prop} (h0 : Γ[i]? = some (.acc ds)) (p : NormP (Γ.set i (.acc ds.reverse)) (Post (.val .non))) : WE K (tBM0 K "list" rReverse (tVar i)) Γ Post := we_reverse h0 p
theorem ws_augN {K : PySem.W.Frag} {pin : List Nat} {Γ : List Sl} {P : Ps} {te : TE} {i : Nat} {f : Int → Int → Int} {a : Int} (hx : Γ[i]? = some (.val (.int a))) (hp : pin.contains i = false) (h : WE K te Γ fun z Γ1 => ∃ b, z = .val (.int b) ∧ NormP (Γ1.set i (.val (.int (f a b)))) P.nx) : WS K pin (tAug i te (ipI f)) Γ P := ws_aug hx hp h
theorem we_callH {K : PySem.W.Frag} {Γ : List Sl} {Post : Re → List Sl → Prop} {ap : AP} {E0 : XK} {ta : TA} (h : WA K ta Γ fun rs Γ1 => nodupB (ownsOf rs) = true ∧ Hold (ap (rs.map (argSl Γ1)) fun r as' => NormP (putBack rs as' Γ1) (Post r))) : WE K (tCall (toSp K ap) [] E0 ta) Γ Post :=
  we_call fun σ B H E Q q => h σ B H E Q fun vs B' H' rs Γ1 g k p => q vs B' H' rs Γ1 g k ⟨p.1, p.2.get⟩
theorem nd_t {c : Prop} [Decidable c] (h : (!decide c) = true) : ¬ c := by
  intro hc
  rw [decide_eq_true hc] at h
  cases h
theorem nd_f {c : Prop} [Decidable c] (h : (!decide c) = false) : c := by
  by_cases hc : c
  · exact hc
  · rw [decide_eq_false hc] at h; cases h
theorem len_map {α β : Type} (f : α → β) (xs : List α) : ((xs.map f).length : Int) = (xs.length : Int) := by rw [List.length_map]
theorem at_map {α β : Type} {f : α → β} {xs : List α} {k : Int} (h0 : 0 ≤ k) (h1 : k < xs.length) (d : α) : atI (xs.map f) k = some (f (xs.getD k.toNat d)) := by
  refine atI_of (j := k.toNat) (by omega) ?_
  rw [List.getElem?_map, List.getD_eq_getElem?_getD, List.getElem?_eq_getElem (by omega)]
  rfl
mutual
def plain : Dt → Bool
  | .raw .non => true
  | .raw (.int _) => true
  | .raw (.str s) => PyData.canLay0 (.str s)
  | .raw _ => false
  | .tup ds => plainAll ds
  | .lst ds => plainAll ds
  | .obj _ _ => false
  | .scr _ => false
  | .dK _ => false
  | .dT _ => false
  | .exn _ _ _ => false
  | .err _ _ => false
  | .dN _ _ => false
def plainAll : List Dt → Bool
  | [] => true
  | d :: ds => plain d && plainAll ds
end
theorem eqv_pair {a b c d : Int} : PyData.eqv (.tuple [.int a, .int b]) (.tuple [.int c, .int d]) = decide (a = c ∧ b = d) := by
  simp only [PyData.eqv, PyData.eqvAll, Bool.and_true]
  rw [Bool.eq_iff_iff]
  simp
theorem shaped_pair {a b : Int} : SeqAt.shaped (.tuple [.int a, .int b]) = true := by
  simp [SeqAt.shaped, PyData.canLay0, PyData.canLayAll0, PyData.depth, PyData.depthAll]
theorem py_pair {Γ : List Sl} {a b : Int} : Re.py Γ (.val (.tup [.int a, .int b])) = some (.tuple [.int a, .int b]) := by
  simp [Re.py, Dt.py, pyAll]
theorem eqp_pair {Γ : List Sl} {Post : Re → List Sl → Prop} {neg : Bool} {a b c d : Int} (k : Post (.val (.bl (neg ^^ decide (a = c ∧ b = d)))) Γ) : EqP neg (.val (.tup [.int a, .int b])) (.val (.tup [.int c, .int d])) Γ Post :=
  eqp_d py_pair py_pair shaped_pair shaped_pair (by rw [eqv_pair]; exact k)
end Ab

namespace Ab
open PySem L2
local macro_rules | `(tactic| walk_at "no") => `(tactic| first
  | exact fun h => Bool.noConfusion (show true = false from h)
  | exact fun h => Bool.noConfusion (show false = true from h)
  | exact fun h => absurd (of_decide_eq_true h) (by omega)
  | exact fun h => absurd (by omega) (of_decide_eq_false h)
  | exact fun h => absurd (by omega) (nd_t h)
  | exact fun h => absurd (nd_f h) (by omega)
  | fail "no")
local macro_rules | `(tactic| walk_at "kb") => `(tactic| first | exact kb_tt | exact kb_ll | exact kb_ii | exact kb_ib | exact kb_ss | exact kb_sb | exact kb_si | exact kb_tb | exact kb_ti | exact kb_ts | exact kb_tl | exact kb_lb | exact kb_li | exact kb_ls | exact kb_lt | exact kb_is | exact kb_it | exact kb_il | exact kb_st | exact kb_sl | exact kb_bb | exact kb_bi | exact kb_nb | exact kb_ni | exact kb_ns | exact kb_nt | exact kb_nl | exact kb_bs | exact kb_bt | exact kb_bl | fail "kb")
local macro_rules | `(tactic| walk_at "norm") => `(tactic| first
  | exact (rfl : _ = ([] : List Sl))
  | ((refine' norm_cons (rfl : _ = _ :: _) ?ea ?et); (case ea => first | exact norm_v | exact norm_n | exact norm_o | exact rfl | fail "norm"); (case et => walk_at "norm"))
  | fail "norm")
local macro_rules | `(tactic| walk_at "x") => `(tactic| first
  | ((with_reducible refine' norm_intro ?hn ?_); (case hn => walk_at "norm"))
  | ((with_reducible refine' we_var ?hh ?_); (case hh => exact rfl))
  | ((with_reducible refine' we_own ?hh ?_); (case hh => exact rfl))
  | with_reducible refine we_c ?_
  | with_reducible refine we_addG ?_
  | with_reducible refine addp_i ?_
  | with_reducible refine we_opI0 ?_
  | with_reducible refine we_opI ?_
  | with_reducible refine we_mulG ?_
  | ((with_reducible refine' mulp_r ?h1 ?_); (case h1 => first | decide | omega | fail "m"))
  | ((with_reducible refine' mulp_l ?h1 ?_); (case h1 => first | decide | omega | fail "m"))
  | with_reducible refine we_neg ?_
  | with_reducible refine we_ltG ?_
  | with_reducible refine ltp_i ?_
  | with_reducible refine we_eqG ?_
  | with_reducible refine we_neG ?_
  | with_reducible refine eqp_i ?_
  | with_reducible refine nep_i ?_
  | with_reducible refine we_ixG ?_
  | ((with_reducible refine' ixp ?h1 ?h2 ?_); (case h1 => exact rfl); (case h2 => exact rfl))
  | with_reducible refine we_lenG ?_
  | ((with_reducible refine' lenp ?hh ?_); (case hh => exact rfl))
  | with_reducible refine we_intG ?_
  | with_reducible refine intp_i ?_
  | with_reducible refine intp_b ?_
  | with_reducible refine we_abs ?_
  | with_reducible refine we_tup ?_
  | with_reducible refine we_lst ?_
  | with_reducible refine we_tuple ?_
  | with_reducible refine we_list ?_
  | with_reducible refine we_sum ?_
  | with_reducible refine we_max2 ?_
  | with_reducible refine we_min2 ?_
  | with_reducible refine wd_cons ?_
  | with_reducible refine wd_nil ?_
  | with_reducible refine wa_cons ?_
  | with_reducible refine wa_nil ?_
  | with_reducible refine we_callH ?_
  | with_reducible refine we_isiG ?_
  | ((with_reducible refine' isi_own ?h1 ?h2 ?_); (case h1 => exact rfl); (case h2 => walk_at "kb"))
  | ((with_reducible refine' isi_val ?h1 ?h2 ?_); (case h1 => exact rfl); (case h2 => walk_at "kb"))
  | ((with_reducible refine' isi_new ?h2 ?_); (case h2 => walk_at "kb"))
  | with_reducible refine we_chainI ?_
  | with_reducible refine we_andV ?_
  | with_reducible refine we_orV ?_
  | with_reducible refine we_notV ?_
  | with_reducible refine wt_test ?_
  | with_reducible refine wt_B ?_
  | with_reducible refine wt_yes ?_
  | with_reducible refine wt_and ?_
  | with_reducible refine wt_or ?_
  | with_reducible refine wt_not ?_
  | ((with_reducible refine' ws_retA ?hh ?_); (case hh => exact rfl))
  | with_reducible refine ws_ret ?_
  | with_reducible refine ws_if ?_
  | with_reducible refine ws_nil ?_
  | with_reducible refine ws_expr ?_
  | with_reducible refine ws_asgN rfl rfl ?_
  | with_reducible refine ws_setN ?_
  | with_reducible refine ws_asgG ?_
  | ((with_reducible refine' wg_tup ?hh ?_); (case hh => exact rfl))
  | with_reducible refine wgs_cons ?_
  | with_reducible refine wgs_nil ?_
  | with_reducible refine wg_nameN rfl rfl ?_
  | ((with_reducible refine' we_appendN ?hh ?_); (case hh => exact rfl))
  | ((with_reducible refine' we_reverseN ?hh ?_); (case hh => exact rfl))
  | ((with_reducible refine' ws_augN ?h1 ?h2 ?_); (case h1 => exact rfl); (case h2 => exact rfl))
  | (refine ⟨_, rfl, ⟨_, rfl⟩, ?_⟩)
  | (refine ⟨_, rfl, ?_⟩)
  | (refine ⟨_, _, _, rfl, rfl, rfl, ?_⟩)
  | (refine ⟨_, _, rfl, rfl, (Nat.le_of_ble_eq_true rfl : _ ≤ _), ?_⟩)
  | (refine ⟨_, _, rfl, rfl, ?_⟩)
  | (refine ⟨(Nat.le_of_ble_eq_true rfl : _ ≤ _), ?_⟩)
  | (refine ⟨(rfl : _ = true), ?_⟩)
  | ((refine' ⟨fun _ => ?_, fun hY => absurd hY ?k2⟩); (case k2 => walk_at "no"))
  | ((refine' ⟨fun hY => absurd hY ?k2, fun _ => ?_⟩); (case k2 => walk_at "no"))
  | (refine ⟨⟨(by omega), (by omega)⟩, ?_⟩)
  | (refine ⟨⟨(by decide), (by decide), (by decide)⟩, ?_⟩)
  | (refine ⟨(by first | decide | omega | fail "c"), ?_⟩)
  | fail "stop")
local macro_rules | `(tactic| walk_at "e") => `(tactic| first | with_reducible refine ws_seq ?_ | walk_at "x" | fail "stop")
local macro_rules | `(tactic| walk_at "xs") => `(tactic| repeat' walk_at "x")
local macro_rules | `(tactic| walk_at "es") => `(tactic| repeat' walk_at "e")
def PoolIs (c : Int) (ds : List Dt) : Prop := ∃ cell flag seed : Int, ds = [.int cell, .int c, .int flag, .int seed, .int 3] ∧ 0 ≤ cell ∧ 0 ≤ seed ∧ seed < 2147483647
def ap_pool : AP := fun as Post => ∃ (ns : List Int) (k : Int), as = [.val (.scr ns), .val (.int k)] ∧ 0 ≤ k ∧ k < 1000000 ∧ ∀ ds, PoolIs 0 ds → Post (.new ds) as
def ap_take : AP := fun as Post => ∃ ds c n, as = [.acc ds, .val (.int n)] ∧ PoolIs c ds ∧ 0 ≤ c ∧ c < 1000000000 ∧ 0 < n ∧ n < 18446744073709551616 ∧ ∀ ds' g, PoolIs (c + 1) ds' → 0 ≤ g → g < n → Post (.val (.int g)) [.acc ds', .val (.int n)]
def tPool (K : PySem.W.Frag) : TS :=
    (tSeq (tAsg (tC (.int 0)) (gName 2))
    (tSeq (tIfS (tTest (tOp (rLtG K) (tVar 1) (tCB (rLenV K) (tCons (tVar 0) tNil)))) (tAsg (tCB rAbs (tCons (tCB rInt1 (tCons (tOp (rIx K) (tVar 0) (tVar 1)) tNil)) tNil)) (gName 2)) tNext)
    (tRet (tLst (tCons (tVar 2) (tCons (tC (.int 0)) (tCons (tCB rInt1 (tCons (tOp rGeI (tVar 2) (tOp rPowI (tC (.int 10)) (tC (.int 18)))) tNil)) (tCons (tOp rModI (tCB rInt1 (tCons (tOp (rAddG K) (tVar 2) (tOp (rMulG K) (tVar 1) (tC (.int 7919)))) tNil)) (tC (.int 2147483647))) (tCons (tC (.int 3)) tNil)))))))))
def tTakeC (K : PySem.W.Frag) : TS :=
    (tSeq (tAsg (tOp (rAddG K) (tOp (rIx K) (tVar 0) (tC (.int 1))) (tC (.int 1))) (gSub (tVar 0) (tC (.int 1)) rSetL))
    (tSeq (tIfS (tTest (tOp (rEqG K) (tOp (rIx K) (tVar 0) (tC (.int 2))) (tC (.int 1)))) (tSeq (tAsg (tOp rModI (tCB rInt1 (tCons (tOp (rIx K) (tVar 0) (tC (.int 0))) tNil)) (tVar 1)) (gName 2))
    (tSeq (tAsg (tOp rDivI (tOp (rIx K) (tVar 0) (tC (.int 0))) (tVar 1)) (gSub (tVar 0) (tC (.int 0)) rSetL))
    (tRet (tVar 2)))) tNext)
    (tSeq (tAsg (tOp rModI (tCB rInt1 (tCons (tOp (rAddG K) (tOp (rAddG K) (tOp (rMulG K) (tOp (rIx K) (tVar 0) (tC (.int 3))) (tC (.int 48271))) (tOp (rMulG K) (tOp (rIx K) (tVar 0) (tC (.int 1))) (tC (.int 69621)))) (tC (.int 11))) tNil)) (tC (.int 2147483647))) (gName 3))
    (tSeq (tAsg (tOp rModI (tCB rInt1 (tCons (tOp (rAddG K) (tOp (rAddG K) (tOp (rMulG K) (tVar 3) (tC (.int 16807))) (tOp rDivI (tVar 3) (tC (.int 65536)))) (tOp (rMulG K) (tOp (rMulG K) (tOp (rIx K) (tVar 0) (tC (.int 1))) (tOp (rIx K) (tVar 0) (tC (.int 1)))) (tC (.int 40692)))) tNil)) (tC (.int 2147483399))) (gName 4))
    (tRet (tOp rModI (tCB rInt1 (tCons (tVar 4) tNil)) (tVar 1)))))))
theorem run_tPool {K : PySem.W.Frag} (as : List Sl) (Post : Re → List Sl → Prop) (h : ap_pool as Post) : WS K [] (tPool K) (as ++ List.replicate (3 - as.length) .un) ⟨fun G => Post (.val .non) (exitArgs [] G as), fun r G => Post r (exitArgs [] G as), fun _ => False, fun _ => False, .no⟩ := by
  obtain ⟨ns, k, rfl, h0, hk, p⟩ := h
  unfold tPool
  show WS K [] _ [.val (.scr ns), .val (.int k), .un] _
  walk_at "e"; walk_at "e"; walk_at "e"
  refine ws_cut (fun G => ∃ c : Int, 0 ≤ c ∧ G = [.val (.scr ns), .val (.int k), .val (.int c)]) ?_ ?_
  · walk_at "es"
    refine ⟨fun h1 => ?_, fun h1 => ?_⟩
    · have h1' := of_decide_eq_true h1
      rw [len_map] at h1'
      walk_at "es"
      refine ixp rfl (at_map h0 h1' 0) ?_
      walk_at "es"
      refine .a ⟨_, ?_, rfl⟩
      split <;> omega
    · walk_at "es"
      exact .a ⟨0, Int.le_refl _, rfl⟩
  · rintro G ⟨c, hc, rfl⟩
    walk_at "es"
    exact p _ ⟨_, _, _, rfl, hc, Int.emod_nonneg _ (by decide), Int.emod_lt_of_pos _ (by decide)⟩
theorem run_tTakeC {K : PySem.W.Frag} (as : List Sl) (Post : Re → List Sl → Prop) (h : ap_take as Post) : WS K [0] (tTakeC K) (as ++ List.replicate (5 - as.length) .un) ⟨fun G => Post (.val .non) (exitArgs [0] G as), fun r G => Post r (exitArgs [0] G as), fun _ => False, fun _ => False, .no⟩ := by
  obtain ⟨ds, c, n, rfl, ⟨cell, flag, seed, rfl, hc, hs, hs2⟩, hc0, hc1, hn, hn2, p⟩ := h
  unfold tTakeC
  show WS K [0] _ [.acc _, .val (.int n), .un, .un, .un] _
  walk_at "es"
  refine ⟨fun h1 => ?_, fun h1 => ?_⟩
  · walk_at "es"
    exact p _ _ ⟨_, _, _, rfl, Int.ediv_nonneg hc (by omega), hs, hs2⟩ (Int.emod_nonneg _ (by omega)) (Int.emod_lt_of_pos _ hn)
  · walk_at "es"
    exact p _ _ ⟨_, _, _, rfl, hc, hs, hs2⟩ (Int.emod_nonneg _ (by omega)) (Int.emod_lt_of_pos _ hn)
end Ab

namespace Ab
open PySem L2
def isNonR : Re → Bool
  | .val (.raw v) => decide (v = .non)
  | _ => false
theorem we_isN {K : PySem.W.Frag} {Γ : List Sl} {Post : Re → List Sl → Prop} {ta : TE} (h : WE K ta Γ fun r Γ1 => Post (.val (.bl (isNonR r))) Γ1) : WE K (tIsN ta) Γ Post := fun σ B H E Q q => by
  refine h σ B H E _ fun x B1 H1 r Γ1 g k p => ?_
  have e : decide (x = V.non) = isNonR r := by
    cases r with
    | val d =>
      cases d with
      | raw v => cases Is.rawI k; rfl
      | tup ds => obtain ⟨a, xs, rfl, _⟩ := Is.tupR k; rfl
      | lst ds => obtain ⟨a, xs, rfl, _⟩ := Is.lstR k; rfl
      | obj C fs => cases k; rfl
      | scr ns => cases k; rfl
      | dK es => cases k; rfl
      | dT es => cases k; rfl
      | exn a d fs => cases k <;> rfl
      | err C fs => cases k <;> rfl
      | dN w es => cases k; rfl
    | nw ds => obtain ⟨l, vs, rfl, _⟩ := k; rfl
    | own i => obtain ⟨l, rfl, _⟩ := k; rfl
  rw [e]
  exact q _ B1 H1 _ Γ1 g (.raw _) p
theorem we_notN {K : PySem.W.Frag} {Γ : List Sl} {Post : Re → List Sl → Prop} {ta : TE} (h : WE K ta Γ fun r Γ1 => Post (.val (.bl (!isNonR r))) Γ1) : WE K (tNotN ta) Γ Post := fun σ B H E Q q => by
  refine h σ B H E _ fun x B1 H1 r Γ1 g k p => ?_
  have e : decide (x = V.non) = isNonR r := by
    cases r with
    | val d =>
      cases d with
      | raw v => cases Is.rawI k; rfl
      | tup ds => obtain ⟨a, xs, rfl, _⟩ := Is.tupR k; rfl
      | lst ds => obtain ⟨a, xs, rfl, _⟩ := Is.lstR k; rfl
      | obj C fs => cases k; rfl
      | scr ns => cases k; rfl
      | dK es => cases k; rfl
      | dT es => cases k; rfl
      | exn a d fs => cases k <;> rfl
      | err C fs => cases k <;> rfl
      | dN w es => cases k; rfl
    | nw ds => obtain ⟨l, vs, rfl, _⟩ := k; rfl
    | own i => obtain ⟨l, rfl, _⟩ := k; rfl
  rw [e]
  exact q _ B1 H1 _ Γ1 g (.raw _) p
end Ab

set_option maxHeartbeats 2000000
namespace Ab
open PySem L2
def rJoin (K : PySem.W.Frag) : V → List V → Hp → VK → Prop := fun x xs H Q => ∃ a p, ∃ ys : List Str, x = .str a ∧ xs = [.ref p] ∧ (SqL K H p (ys.map V.str) ∨ SqT K H p (ys.map V.str)) ∧
  (ys.map (·.length)).sum + ys.length * a.length ≤ 16777216 ∧ Q (.str (Txt.join a ys)) H
theorem rawsI_str {K : PySem.W.Frag} {B : Hp} {vs : List V} {ys : List Str} (h : IsA K B vs (ys.map Dt.str)) : vs = ys.map V.str := by
  have : ys.map Dt.str = (ys.map V.str).map Dt.raw := by rw [List.map_map]; rfl
  rw [this] at h
  exact h.rawsI
theorem we_join {K : PySem.W.Frag} {Γ : List Sl} {Post : Re → List Sl → Prop} {to te : TE} (h : WE K to Γ fun r Γ1 => ∃ a : Str, r = .val (.str a) ∧ WE K te Γ1 fun z Γ2 => Hold (∃ ys : List Str, lstOf Γ2 z = some (ys.map Dt.str) ∧ (ys.map (·.length)).sum + ys.length * a.length ≤ 16777216 ∧ Post (.val (.str (Txt.join a ys))) Γ2)) :
    WE K (tM1 (rJoin K) to te) Γ Post := fun σ B H E Q q => by
  refine h σ B H E _ fun x B1 H1 r Γ1 g1 k1 p1 => ?_
  obtain ⟨a, rfl, p1⟩ := p1
  cases Is.rawI k1
  refine ⟨⟨a, rfl⟩, ?_⟩
  refine p1 σ B1 H1 g1.env _ fun y B2 H2 z Γ2 g2 k2 p2 => ?_
  obtain ⟨ys, hl, hz, p⟩ := p2.get
  obtain ⟨b, vs, rfl, hq, ha⟩ := rv_lst g2.env k2.rv hl
  rw [rawsI_str ha] at hq
  exact ⟨a, b, ys, rfl, rfl, .inl hq, hz, q _ B2 H2 _ Γ2 (g1.trans g2) (.raw _) p⟩
def rGtS : R2 := fun x y H Q => ∃ i j : Str, x = .str i ∧ y = .str j ∧ Q (.bl (decide (j.cps.toList < i.cps.toList))) H
theorem we_gtS {K : PySem.W.Frag} {Γ : List Sl} {Post : Re → List Sl → Prop} {ta tb : TE} (h : WE K ta Γ fun ra Γ1 => WE K tb Γ1 fun rb Γ2 => ∃ s t : Str, ra = .val (.str s) ∧ rb = .val (.str t) ∧ Post (.val (.bl (decide (t.cps.toList < s.cps.toList)))) Γ2) : WE K (tOp rGtS ta tb) Γ Post :=
  we_two' (we_mono h fun ra Γ1 h1 => we_mono h1 fun rb Γ2 hp => fun σ B H x y E kx ky Q q => by
    obtain ⟨s, t, rfl, rfl, p⟩ := hp
    cases Is.rawI kx; cases Is.rawI ky
    exact ⟨s, t, rfl, rfl, q _ B H _ Γ2 (.refl E) (.raw _) p⟩)
def KTup (K : PySem.W.Frag) (a : Addr) (xs : List V) : Prop := ∃ (o : Obj) (its : Array Value) (n : Nat), K.lookup a = some o ∧ o.cls = .type "tuple" ∧ o.data = .seq its n ∧ its.size ≤ sizeLine ∧ Vals xs its.toList
theorem we_ktup {K : PySem.W.Frag} {Γ : List Sl} {Post : Re → List Sl → Prop} {c : Addr} {xs : List V} (h : KTup K c xs) (p : Post (.val (.tup (xs.map Dt.raw))) Γ) : WE K (tC (.ref c)) Γ Post := fun σ B H E Q q => by
  have ha : IsA K B xs (xs.map Dt.raw) := IsA.raws
  exact q _ B H (.val _) Γ (.refl E) (Is.tup (.inr h) ha.len ha.at_) p
theorem we_extend {K : PySem.W.Frag} {Γ : List Sl} {te : TE} {i : Nat} {ds0 : List Dt} {Post : Re → List Sl → Prop} (h0 : Γ[i]? = some (.acc ds0)) (h : WE K te Γ fun z Γ1 => ∃ es ds, lstOf Γ1 z = some es ∧ z.isScr = false ∧ Γ1[i]? = some (.acc ds) ∧ ds.length + es.length ≤ 1000000 ∧ NormP (Γ1.set i (.acc (ds ++ es))) (Post (.val .non))) :
    WE K (tBM K "list" rExtend (tVar i) (tCons te tNil)) Γ Post := fun σ B H E Q q => by
  obtain ⟨l, vs, e0, e1, e2, k0⟩ := E.acc i ds0 h0
  refine ⟨.ref l, e0, .inl ⟨rfl, vs, .inl (.inl e1)⟩, ?_⟩
  refine h σ B H E _ fun y B1 H1 z Γ1 g k p => ?_
  obtain ⟨es, ds, hl, hs, hi, hz, p⟩ := p
  obtain ⟨l', us, f0, f1, f2, k1⟩ := g.env.acc i ds hi
  rw [e0] at f0; cases f0
  obtain ⟨b, zs, rfl, hb, kz⟩ := rv_lstH g.env k.rv hl hs
  refine ⟨l, b, us, zs, rfl, rfl, f1, hb, Nat.le_trans (by rw [k1.len, kz.len]; exact hz) (by decide), ?_⟩
  have g2 := Go.put g.env hi e0 (k1.append kz)
  exact q .non B1 _ (.val .non) _ (g.trans g2) (Is.raw _) p
end Ab

namespace Ab
open PySem L2
section
variable {K : PySem.W.Frag} {B H : Hp} {v : V} {C : Addr} {gs : List (Str × Dt)}
theorem Is.objR (h : Is K B v (.obj C gs)) : ∃ a dx fs, v = .ref a ∧ B a = some (.ins C dx fs) ∧ (∀ f : Str, (fs.lookup f).isSome = (gs.lookup f).isSome) ∧ ∀ (f : Str) w d, fs.lookup f = some w → gs.lookup f = some d → Is K B w d := by
  cases h with
  | obj h hk hi => exact ⟨_, _, _, rfl, h, hk, hi⟩
theorem lk_none {f : Str} {fs : List (Str × V)} (hk : (fs.lookup f).isSome = (gs.lookup f).isSome) (h : gs.lookup f = none) : fs.lookup f = none := by
  rw [h] at hk
  cases q : fs.lookup f with
  | none => rfl
  | some w => rw [q] at hk; cases hk
theorem lk_some {f : Str} {fs : List (Str × V)} {d : Dt} (hk : (fs.lookup f).isSome = (gs.lookup f).isSome) (h : gs.lookup f = some d) : ∃ w, fs.lookup f = some w := by
  rw [h] at hk
  cases q : fs.lookup f with
  | none => rw [q] at hk; cases hk
  | some w => exact ⟨w, rfl⟩
end
section
variable {K : PySem.W.Frag} {Γ : List Sl} {Post : Re → List Sl → Prop} {ta tb te : TE}
theorem asOk_val {σ : L2.St} {m m' : Addr → Prop} {B' H H' : Hp} {vs : List V} {ds : List Dt} (h : IsA K B' vs ds) : AsOk K σ m m' B' H H' vs (ds.map Re.val) := by
  refine ⟨by rw [h.len, List.length_map], fun i v r a b => ?_, fun i j es fs l a => ?_⟩
  · rw [List.getElem?_map] at b
    cases q : ds[i]? with
    | none => rw [q] at b; cases b
    | some d => rw [q] at b; cases b; exact h.at_ i v d a q
  · rw [List.getElem?_map] at a
    cases q : ds[i]? with
    | none => rw [q] at a; cases a
    | some d => rw [q] at a; cases a
theorem owns_vals : ∀ ds : List Dt, ownsOf (ds.map Re.val) = []
  | [] => rfl
  | d :: r => by show ownsOf (Re.val d :: r.map Re.val) = []; exact owns_vals r
theorem back_vals : ∀ (ds : List Dt) (as G : List Sl), putBack (ds.map Re.val) as G = G
  | [], as, G => by cases as <;> rfl
  | d :: r, [], G => rfl
  | d :: r, s :: t, G => back_vals r t G
theorem args_vals {Γ : List Sl} (ds : List Dt) : (ds.map Re.val).map (argSl Γ) = ds.map Sl.val := by rw [List.map_map]; rfl
theorem we_meth {m : Str} {C : Addr} {ap : AP} {E0 : XK} {t : TA} (h : WE K ta Γ fun r Γ1 => ∃ gs, r = .val (.obj C gs) ∧ gs.lookup m = none ∧ WD K t Γ1 fun ds Γ2 => Hold (ap (.val (.obj C gs) :: ds.map Sl.val) fun r as' => Post r Γ2)) : WE K (tMeth C m (toSp K ap) [] E0 ta t) Γ Post := fun σ B H E Q q => by
  refine h σ B H E _ fun x B1 H1 r Γ1 g1 k1 p1 => ?_
  obtain ⟨gs, rfl, hl, p1⟩ := p1
  obtain ⟨a, dx, fs, rfl, hb, hk, hi⟩ := Is.objR k1
  refine ⟨a, dx, fs, rfl, g1.env.bh _ _ hb, lk_none (hk m) hl, ?_⟩
  refine p1 σ B1 H1 g1.env _ fun vs B2 H2 ds Γ2 g2 k2 p2 => ?_
  rw [List.append_nil]
  have k3 : IsA K B2 (V.ref a :: vs) (.obj C gs :: ds) := .cons (Is.mono g2.mv.bb k1) k2
  refine call_core E (g1.trans g2) (asOk_val k3) (by rw [owns_vals]; rfl) (Post := Post) ?_ q
  rw [args_vals]
  simp only [back_vals]
  exact p2.get
def rOwn (C : Addr) (sp : Sp) (E : XK) : R2 := fun x y H Q => ∃ a b dx dy fs gs, x = .ref a ∧ y = .ref b ∧ H a = some (.ins C dx fs) ∧ H b = some (.ins C dy gs) ∧ sp [x, y] H Q E
theorem we_own2 {C : Addr} {ap : AP} {E0 : XK} (h : WE K ta Γ fun ra Γ1 => ∃ gs, ra = .val (.obj C gs) ∧ WE K tb Γ1 fun rb Γ2 => ∃ hs, rb = .val (.obj C hs) ∧ Hold (ap [.val (.obj C gs), .val (.obj C hs)] fun r as' => Post r Γ2)) : WE K (tOp (rOwn C (toSp K ap) E0) ta tb) Γ Post := fun σ B H E Q q => by
  refine h σ B H E _ fun x B1 H1 ra Γ1 g1 k1 p1 => ?_
  obtain ⟨gs, rfl, p1⟩ := p1
  refine p1 σ B1 H1 g1.env _ fun y B2 H2 rb Γ2 g2 k2 p2 => ?_
  obtain ⟨hs, rfl, p2⟩ := p2
  have k1' := Is.mono g2.mv.bb k1
  obtain ⟨a, dx, fs, rfl, hb, _, _⟩ := Is.objR k1'
  obtain ⟨b, dy, fs', rfl, hb', _, _⟩ := Is.objR k2
  refine ⟨a, b, dx, dy, fs, fs', rfl, rfl, g2.env.bh _ _ hb, g2.env.bh _ _ hb', ?_⟩
  have k3 : IsA K B2 [V.ref a, V.ref b] [.obj C gs, .obj C hs] := .cons k1' (.cons k2 .nil)
  refine call_core E (g1.trans g2) (asOk_val k3) rfl (Post := Post) ?_ q
  rw [args_vals]
  simp only [back_vals]
  exact p2.get
structure ClsOk (K : PySem.W.Frag) (C : Addr) : Prop where
  cl : Cls K C
  ha : PySem.W.findIn K (.ref C) "__class__" = some (some (.builtin "object.__class__"))
  hn : PySem.W.specialIn K (.builtin "object.__class__") "__get__" = some (some (.builtin "getset_descriptor.__get__"))
  ht : PySem.W.takesIn K (.builtin "object.__class__") = some true
  hm : PySem.W.mroIn K C (.type "object") = some true
end
structure FsIs (K : PySem.W.Frag) (B : Hp) (fs : List (Str × V)) (gs : List (Str × Dt)) : Prop where
  len : fs.length ≤ gs.length
  hk : ∀ f : Str, (fs.lookup f).isSome = (gs.lookup f).isSome
  hi : ∀ (f : Str) v d, fs.lookup f = some v → gs.lookup f = some d → Is K B v d
theorem putF_len (f : Str) (v : V) : ∀ fs : List (Str × V), (putF f v fs).length ≤ fs.length + 1
  | [] => by simp [putF]
  | (g, x) :: r => by
    unfold putF
    split
    · simp
    · have := putF_len f v r
      simp only [List.length_cons]
      omega
theorem FsIs.mono {K : PySem.W.Frag} {B B' : Hp} {fs : List (Str × V)} {gs : List (Str × Dt)} (e : Same B B') (h : FsIs K B fs gs) : FsIs K B' fs gs := ⟨h.len, h.hk, fun f v d a b => (h.hi f v d a b).mono e⟩
theorem FsIs.put {K : PySem.W.Frag} {B : Hp} {fs : List (Str × V)} {gs : List (Str × Dt)} {f : Str} {v : V} {d : Dt} (h : FsIs K B fs gs) (hn : gs.lookup f = none) (hv : Is K B v d) : FsIs K B (putF f v fs) (gs ++ [(f, d)]) := by
  have lk : ∀ g : Str, (gs ++ [(f, d)]).lookup g = if g = f then some d else gs.lookup g := fun g => by
    by_cases hg : g = f
    · subst hg
      rw [if_pos rfl]
      clear h
      induction gs with
      | nil => simp [List.lookup]
      | cons x r ih =>
        obtain ⟨k, y⟩ := x
        have hgk : (g == k) = false := by
          cases q : g == k with
          | false => rfl
          | true => simp only [List.lookup, q] at hn; cases hn
        simp only [List.lookup, hgk] at hn
        simp only [List.cons_append, List.lookup, hgk]
        exact ih hn
    · rw [if_neg hg]
      clear h hn
      have hb : (g == f) = false := beq_eq_false_iff_ne.mpr hg
      induction gs with
      | nil => simp [List.lookup, hb]
      | cons x r ih =>
        obtain ⟨k, y⟩ := x
        cases q : g == k with
        | false => simp only [List.cons_append, List.lookup, q]; exact ih
        | true => simp only [List.cons_append, List.lookup, q]
  refine ⟨?_, fun g => ?_, fun g w e a b => ?_⟩
  · have := putF_len f v fs
    have := h.len
    rw [List.length_append, List.length_singleton]
    omega
  · rw [lookup_putF, lk]
    split
    · rfl
    · exact h.hk g
  · rw [lookup_putF] at a
    rw [lk] at b
    split at a
    · rename_i hg
      rw [if_pos hg] at b
      cases a; cases b
      exact hv
    · rename_i hg
      rw [if_neg hg] at b
      exact h.hi g w e a b
abbrev AI := List Dt → (List (Str × Dt) → Prop) → Prop
def toSpI (K : PySem.W.Frag) (C : Addr) (ai : AI) : Sp := fun vs H Q _ => ∃ x dx ws B ds Post, vs = V.ref x :: ws ∧ H x = some (.ins C dx []) ∧ B x = none ∧ Same B H ∧ IsA K B ws ds ∧ ai ds Post ∧
  ∀ B' H' fs gs, Mv (fun a => a = x) B H B' H' → Same B' H' → H' x = some (.ins C dx fs) → B' x = none → FsIs K B' fs gs → Post gs → Q .non H'
structure Mg (K : PySem.W.Frag) (C x dx : Addr) (σ : L2.St) (B H : Hp) (Γ : List Sl) (gs : List (Str × Dt)) : Prop where
  env : Env K B H σ Γ
  sl : σ[0]? = some (some (.ref x))
  un : Γ[0]? = some .un
  no : ¬ Own σ Γ x
  hx : ∃ fs, H x = some (.ins C dx fs) ∧ FsIs K B fs gs
  bx : B x = none
structure GoI (K : PySem.W.Frag) (C x dx : Addr) (σ : L2.St) (B H : Hp) (Γ : List Sl) (σ' : L2.St) (B' H' : Hp) (Γ' : List Sl) (gs' : List (Str × Dt)) : Prop where
  mv : Mv (fun a => Own σ Γ a ∨ a = x) B H B' H'
  new : ∀ a, Own σ' Γ' a → Own σ Γ a ∨ H a = none
  mg : Mg K C x dx σ' B' H' Γ' gs'
theorem GoI.trans {K : PySem.W.Frag} {C x dx : Addr} {σ σ1 σ2 : L2.St} {B H B1 H1 B2 H2 : Hp} {Γ Γ1 Γ2 : List Sl} {gs1 gs2 : List (Str × Dt)} (a : GoI K C x dx σ B H Γ σ1 B1 H1 Γ1 gs1) (b : GoI K C x dx σ1 B1 H1 Γ1 σ2 B2 H2 Γ2 gs2) : GoI K C x dx σ B H Γ σ2 B2 H2 Γ2 gs2 :=
  ⟨a.mv.trans (fun c hc => hc.elim (fun h => (a.new c h).imp .inl id) fun h => .inl (.inr h)) b.mv, fun c h => (b.new c h).elim (fun z => a.new c z) fun z => (a.mv.back z).elim (fun q => q.elim .inl fun e => by
    subst e
    obtain ⟨fs, hf, _⟩ := a.mg.hx
    rw [hf] at z; cases z) .inr, b.mg⟩
section
variable {K : PySem.W.Frag} {C : Addr} {Γ : List Sl} {gs : List (Str × Dt)} {P : List (Str × Dt) → List Sl → Prop} {t u : TS} {te : TE}
variable {Pg : Program} {w : World} {mg : Str → Option Value} {base : Heap}
theorem we_make {Post : Re → List Sl → Prop} {ai : AI} {E0 : XK} {t : TA} (h : WD K t Γ fun ds Γ1 => Hold (ai ds fun gs => Post (.val (.obj C gs)) Γ1)) : WE K (tMake C (toSpI K C ai) [] E0 t) Γ Post := fun σ B H E Q q => by
  refine h σ B H E _ fun vs B1 H1 ds Γ1 g1 k1 p1 => ?_
  intro x dx hx hdx hne
  rw [List.append_nil]
  have hxx : upd (upd H1 dx (.own x)) x (.ins C dx []) x = some (.ins C dx []) := upd_same
  have b1x : B1 x = none := g1.env.base_none hx
  have s12 : ∀ a o, H1 a = some o → upd (upd H1 dx (.own x)) x (.ins C dx []) a = some o := fun a o e => by
    rw [upd_ne (ne_of_none e hx), upd_ne (ne_of_none e hdx)]; exact e
  refine ⟨x, dx, vs, B1, ds, _, rfl, hxx, b1x, fun a o e => s12 a o (g1.env.bh a o e), k1, p1.get, fun B' H' fs gs mv sb hx' bx' hf p => ⟨rfl, ?_⟩⟩
  have sBB : Same B' (upd B' x (.ins C dx fs)) := fun a o e => by rw [upd_ne (ne_of_none e bx')]; exact e
  have kept : ∀ a o, H1 a = some o → H' a = some o := fun a o e => mv.kp a o (fun z => by subst z; rw [hx] at e; cases e) (s12 a o e)
  have offB : ∀ a, H1 a ≠ none → B1 a = none → B' a = none := fun a ha hb => by
    have hne : a ≠ x := fun z => by subst z; exact ha hx
    refine mv.off a hne ?_ hb
    cases qq : H1 a with
    | none => exact absurd qq ha
    | some o => rw [s12 a o qq]; exact fun z => nomatch z
  have E2 : Env K (upd B' x (.ins C dx fs)) H' σ Γ1 := by
    refine ⟨g1.env.len, fun a o e => ?_, fun i d hi => ?_, fun i es hi => ?_, g1.env.sep⟩
    · by_cases ha : a = x
      · subst ha; rw [upd_same] at e; cases e; exact hx'
      · rw [upd_ne ha] at e; exact sb a o e
    · obtain ⟨v, e1, e2⟩ := g1.env.val i d hi
      exact ⟨v, e1, e2.mono (mv.bb.trans sBB)⟩
    · obtain ⟨l, us, e1, e2, e3, e4⟩ := g1.env.cel i es hi
      have hl : l ≠ x := fun z => by subst z; rw [hx] at e2; cases e2
      exact ⟨l, us, e1, kept l _ e2, by rw [upd_ne hl]; exact offB l (by rw [e2]; exact fun z => nomatch z) e3, e4.mono (mv.bb.trans sBB)⟩
  have g2 : Go K σ B1 H1 Γ1 (upd B' x (.ins C dx fs)) H' Γ1 := by
    refine ⟨⟨fun a o _ e => kept a o e, mv.bb.trans sBB, fun a na ha hb => ?_⟩, fun i es hi => ⟨es, hi⟩, E2⟩
    have hne : a ≠ x := fun z => by subst z; exact ha hx
    rw [upd_ne hne]; exact offB a ha hb
  have hf' := hf.mono sBB
  exact q (.ref x) _ H' (.val (.obj C gs)) Γ1 (g1.trans g2) (Is.obj upd_same hf'.hk hf'.hi) p
end
theorem lk_hit {f : Str} {d : Dt} {r : List (Str × Dt)} : List.lookup f ((f, d) :: r) = some d := by
  have hb : (f == f) = true := beq_iff_eq.mpr rfl
  simp only [List.lookup, hb]
theorem lk_miss {f g : Str} {d : Dt} {r : List (Str × Dt)} (h : ¬ f = g) : List.lookup f ((g, d) :: r) = List.lookup f r := by
  have hb : (f == g) = false := beq_eq_false_iff_ne.mpr h
  simp only [List.lookup, hb]
section
variable {K : PySem.W.Frag} {Γ : List Sl} {Post : Re → List Sl → Prop} {ta : TE}
def FldP (K : PySem.W.Frag) (f : Str) (r : Re) (Γ : List Sl) (Post : Re → List Sl → Prop) : Prop := ∃ C gs d, r = .val (.obj C gs) ∧ Cls K C ∧ NoAttr K C f ∧ gs.lookup f = some d ∧ Post (.val d) Γ
theorem we_fldG {f : Str} (h : WE K ta Γ fun r Γ1 => FldP K f r Γ1 Post) : WE K (tFld K ta f) Γ Post := fun σ B H E Q q => by
  refine h σ B H E _ fun x B1 H1 r Γ1 g1 k1 p1 => ?_
  obtain ⟨C, gs, d, rfl, cl, na, hl, p⟩ := p1
  obtain ⟨a, dx, fs, rfl, hb, hk, hi⟩ := Is.objR k1
  obtain ⟨w, hw⟩ := lk_some (hk f) hl
  exact ⟨a, C, dx, fs, w, rfl, g1.env.bh _ _ hb, cl, na, hw, q w B1 H1 (.val d) Γ1 g1 (hi f w d hw hl) p⟩
theorem fldp {f : Str} {C : Addr} {gs : List (Str × Dt)} {d : Dt} (cl : Cls K C) (na : NoAttr K C f) (hl : gs.lookup f = some d) (p : Post (.val d) Γ) : FldP K f (.val (.obj C gs)) Γ Post := ⟨C, gs, d, rfl, cl, na, hl, p⟩
def MetP (m : Str) (C : Addr) (ap : AP) (t : TA) (K : PySem.W.Frag) (r : Re) (Γ : List Sl) (Post : Re → List Sl → Prop) : Prop := ∃ gs, r = .val (.obj C gs) ∧ gs.lookup m = none ∧ WD K t Γ fun ds Γ2 => Hold (ap (.val (.obj C gs) :: ds.map Sl.val) fun r as' => Post r Γ2)
theorem we_methG {m : Str} {C : Addr} {ap : AP} {E0 : XK} {t : TA} (h : WE K ta Γ fun r Γ1 => MetP m C ap t K r Γ1 Post) : WE K (tMeth C m (toSp K ap) [] E0 ta t) Γ Post := we_meth h
theorem metp {m : Str} {C : Addr} {ap : AP} {t : TA} {gs : List (Str × Dt)} (hl : gs.lookup m = none) (h : WD K t Γ fun ds Γ2 => Hold (ap (.val (.obj C gs) :: ds.map Sl.val) fun r as' => Post r Γ2)) : MetP m C ap t K (.val (.obj C gs)) Γ Post := ⟨gs, rfl, hl, h⟩
theorem kit_self {C : Addr} : PySem.W.kitOne K (.ref C) (.ref C) = some true := by
  unfold PySem.W.kitOne
  rw [if_pos (beq_iff_eq.mpr rfl)]
def IsoP (K : PySem.W.Frag) (D : Addr) (r : Re) (Γ : List Sl) (Post : Re → List Sl → Prop) : Prop := ∃ C gs b, r = .val (.obj C gs) ∧ ClsOk K C ∧ PySem.W.kitOne K (.ref C) (.ref D) = some b ∧ Post (.val (.bl b)) Γ
theorem we_isoG {D : Addr} (h : WE K ta Γ fun r Γ1 => IsoP K D r Γ1 Post) : WE K (tCB (rIsi K) (tCons ta (tCons (tC (.ref D)) tNil))) Γ Post :=
  we_one' (r := fun x H Q => rIsi K [x, .ref D] H Q) (we_mono h fun r Γ1 ⟨C, gs, b, e, co, hk, p⟩ => fun σ B H x E kx Q q => by
    subst e
    obtain ⟨a, dx, fs, rfl, hb, _, _⟩ := Is.objR kx
    exact ⟨.ref a, .ref D, .ref C, .ref D, b, rfl, .own D, .base (.ins (E.bh _ _ hb) co.cl co.ha co.hn co.ht co.hm), hk, q _ B H _ Γ1 (.refl E) (.raw _) p⟩)
theorem isop {C : Addr} {gs : List (Str × Dt)} (co : ClsOk K C) (p : Post (.val (.bl true)) Γ) : IsoP K C (.val (.obj C gs)) Γ Post := ⟨C, gs, true, rfl, co, kit_self, p⟩
end
end Ab

namespace Ab
open PySem L2
abbrev RunOk (K : PySem.W.Frag) (pin : List Nat) (t : TS) (N : Nat) (ap : AP) : Prop := ∀ (as : List Sl) (Post : Re → List Sl → Prop), ap as Post → WS K pin t (as ++ List.replicate (N - as.length) .un) ⟨fun G => Post (.val .non) (exitArgs pin G as), fun r G => Post r (exitArgs pin G as), fun _ => False, fun _ => False, .no⟩
def rSumG (K : PySem.W.Frag) : List V → Hp → VK → Prop := fun vs H Q => ∃ (a : Addr) (ns : List Int), vs = [V.ref a] ∧ (SqL K H a (ns.map V.int) ∨ SqT K H a (ns.map V.int)) ∧ Q (.int ns.sum) H
theorem we_sumG {K : PySem.W.Frag} {Γ : List Sl} {Post : Re → List Sl → Prop} {te : TE} (h : WE K te Γ fun r Γ1 => Hold (∃ ns : List Int, seqOf Γ1 r = some (ns.map Dt.int) ∧ Post (.val (.int ns.sum)) Γ1)) : WE K (tCB (rSumG K) (tCons te tNil)) Γ Post :=
  we_cb1 (we_mono h fun r Γ1 hp => fun σ B H x E kx Q q => by
    obtain ⟨ns, hs, p⟩ := hp.get
    obtain ⟨a, vs, rfl, hq, ha⟩ := rv_seq E kx hs
    have e : vs = ns.map V.int := IsA.rawsI (xs := ns.map V.int) (by rw [List.map_map]; exact ha)
    subst e
    exact ⟨a, ns, rfl, hq, q _ B H _ Γ1 (.refl E) (.raw _) p⟩)
theorem normD_cons {a : Dt} {l t t' : List Dt} (e : l = a :: t) (et : t = t') : l = a :: t' := by
  subst et
  exact e
theorem slp_tE {Γ : List Sl} {Post : Re → List Sl → Prop} {ds es : List Dt} {lo hi : Option Int} (h : cutD ds lo hi = es) (p : Post (.val (.tup es)) Γ) : SlP (.val (.tup ds)) lo hi Γ Post := slp_t (by rw [h]; exact p)
theorem addp_tE {Γ : List Sl} {Post : Re → List Sl → Prop} {ds es fs : List Dt} (hz : ds.length + es.length ≤ 1000000) (h : ds ++ es = fs) (p : Post (.val (.tup fs)) Γ) : AddP (.val (.tup ds)) (.val (.tup es)) Γ Post := addp_t hz (by rw [h]; exact p)
theorem we_clearN {K : PySem.W.Frag} {Γ : List Sl} {i : Nat} {ds : List Dt} {Post : Re → List Sl → Prop} (h0 : Γ[i]? = some (.acc ds)) (p : NormP (Γ.set i (.acc [])) (Post (.val .non))) : WE K (tBM0 K "list" rClear (tVar i)) Γ Post := fun σ B H E Q q => by
  obtain ⟨l, vs, e0, e1, e2, k0⟩ := E.acc i ds h0
  exact ⟨.ref l, e0, .inl ⟨rfl, vs, .inl (.inl e1)⟩, l, vs, rfl, rfl, e1, q .non B _ (.val .non) _ (Go.put E h0 e0 .nil) (Is.raw _) p⟩
def PoolUp (b : Int) (ds : List Dt) : Prop := ∃ c, PoolIs c ds ∧ 0 ≤ c ∧ c ≤ b
theorem PoolIs.up {ds : List Dt} {c b : Int} (h : PoolIs c ds) (h0 : 0 ≤ c) (hb : c ≤ b) : PoolUp b ds := ⟨c, h, h0, hb⟩
theorem PoolUp.mono {ds : List Dt} {a b : Int} (h : PoolUp a ds) (hb : a ≤ b) : PoolUp b ds := by obtain ⟨c, h1, h2, h3⟩ := h; exact ⟨c, h1, h2, by omega⟩
theorem tk {ds : List Dt} {b n : Int} {Post : Re → List Sl → Prop} (h : PoolUp b ds) (hb : b < 900000000) (hn : 0 < n) (hn2 : n < 18446744073709551616) (k : ∀ ds' g, PoolUp (b + 1) ds' → 0 ≤ g → g < n → Post (.val (.int g)) [.acc ds', .val (.int n)]) : ap_take [.acc ds, .val (.int n)] Post := by
  obtain ⟨c, h1, h2, h3⟩ := h
  exact ⟨ds, c, n, rfl, h1, h2, by omega, hn, hn2, fun ds' g h' g0 g1 => k ds' g ⟨c + 1, h', by omega, by omega⟩ g0 g1⟩
theorem str_ne {a b : Str} (h : ¬ a = b) : ¬ (V.str a = V.str b) := fun e => h (by cases e; rfl)
theorem eqp_st {Γ : List Sl} {Post : Re → List Sl → Prop} {a : Str} (p : Post (.val (.bl true)) Γ) : EqP false (.val (.str a)) (.val (.str a)) Γ Post := eqp_s rfl (by rw [decide_eq_true rfl]; exact p)
theorem nep_st {Γ : List Sl} {Post : Re → List Sl → Prop} {a : Str} (p : Post (.val (.bl false)) Γ) : EqP true (.val (.str a)) (.val (.str a)) Γ Post := eqp_s rfl (by rw [decide_eq_true rfl]; exact p)
theorem eqp_sf {Γ : List Sl} {Post : Re → List Sl → Prop} {a b : Str} (h : ¬ a = b) (p : Post (.val (.bl false)) Γ) : EqP false (.val (.str a)) (.val (.str b)) Γ Post := eqp_s rfl (by rw [decide_eq_false (str_ne h)]; exact p)
theorem nep_sf {Γ : List Sl} {Post : Re → List Sl → Prop} {a b : Str} (h : ¬ a = b) (p : Post (.val (.bl true)) Γ) : EqP true (.val (.str a)) (.val (.str b)) Γ Post := eqp_s rfl (by rw [decide_eq_false (str_ne h)]; exact p)
def pick {α : Type} (o : List Nat) (xs : List α) : List α := o.filterMap fun i => xs[i]?
theorem pick_cons {α : Type} {i : Nat} {o : List Nat} {xs : List α} {x : α} (h : xs[i]? = some x) : pick (i :: o) xs = x :: pick o xs := by
  unfold pick
  rw [List.filterMap_cons_some h]
theorem pick_skip {α : Type} {i : Nat} {o : List Nat} {xs : List α} (h : xs[i]? = none) : pick (i :: o) xs = pick o xs := by
  unfold pick
  rw [List.filterMap_cons_none h]
theorem pick_isA {K : PySem.W.Frag} {B : Hp} {vs : List V} {ds : List Dt} (h : IsA K B vs ds) : ∀ o : List Nat, IsA K B (pick o vs) (pick o ds)
  | [] => .nil
  | i :: o => by
    cases q : ds[i]? with
    | none =>
      have : vs[i]? = none := by
        rw [List.getElem?_eq_none_iff] at q ⊢
        rw [h.len]; exact q
      rw [pick_skip q, pick_skip this]; exact pick_isA h o
    | some d =>
      obtain ⟨v, hv, iv⟩ := h.get q
      rw [pick_cons q, pick_cons hv]
      exact .cons iv (pick_isA h o)
def upO (o : List Nat) : List Nat := o.map (· + 1)
theorem pick_up {α : Type} (x : α) (xs : List α) : ∀ o : List Nat, pick (upO o) (x :: xs) = pick o xs
  | [] => rfl
  | i :: o => by
    show pick ((i + 1) :: upO o) (x :: xs) = _
    have e : (x :: xs)[i + 1]? = xs[i]? := List.getElem?_cons_succ
    cases q : xs[i]? with
    | none => rw [pick_skip (e.trans q), pick_skip q]; exact pick_up x xs o
    | some y => rw [pick_cons (e.trans q), pick_cons q, pick_up x xs o]
section
variable {K : PySem.W.Frag} {Γ : List Sl} {Post : Re → List Sl → Prop} {C : Addr}
theorem make_core {σ : L2.St} {B H B1 H1 : Hp} {Γ1 : List Sl} {vs : List V} {ds : List Dt} {ai : AI} {E0 : XK} {Q : VK} (g1 : Go K σ B H Γ B1 H1 Γ1) (k1 : IsA K B1 vs ds) (p1 : ai ds fun gs => Post (.val (.obj C gs)) Γ1)
    (q : ∀ v B' H' r Γ', Go K σ B H Γ B' H' Γ' → ReOk K σ (Own σ Γ) (Own σ Γ') B' H H' v r → Post r Γ' → Q v H') : ∀ x dx, H1 x = none → H1 dx = none → dx ≠ x → toSpI K C ai (.ref x :: vs) (upd (upd H1 dx (.own x)) x (.ins C dx [])) (fun v H3 => v = .non ∧ Q (.ref x) H3) E0 := by
  have t : WE K (tMake C (toSpI K C ai) [] E0 (fun _ H2 R => ∀ B2, Same B2 H2 → R vs H2)) Γ1 Post → True := fun _ => trivial
  intro x dx hx hdx hne
  have hxx : upd (upd H1 dx (.own x)) x (.ins C dx []) x = some (.ins C dx []) := upd_same
  have b1x : B1 x = none := g1.env.base_none hx
  have s12 : ∀ a o, H1 a = some o → upd (upd H1 dx (.own x)) x (.ins C dx []) a = some o := fun a o e => by
    rw [upd_ne (ne_of_none e hx), upd_ne (ne_of_none e hdx)]; exact e
  refine ⟨x, dx, vs, B1, ds, _, rfl, hxx, b1x, fun a o e => s12 a o (g1.env.bh a o e), k1, p1, fun B' H' fs gs mv sb hx' bx' hf p => ⟨rfl, ?_⟩⟩
  have sBB : Same B' (upd B' x (.ins C dx fs)) := fun a o e => by rw [upd_ne (ne_of_none e bx')]; exact e
  have kept : ∀ a o, H1 a = some o → H' a = some o := fun a o e => mv.kp a o (fun z => by subst z; rw [hx] at e; cases e) (s12 a o e)
  have offB : ∀ a, H1 a ≠ none → B1 a = none → B' a = none := fun a ha hb => by
    have hne : a ≠ x := fun z => by subst z; exact ha hx
    refine mv.off a hne ?_ hb
    cases qq : H1 a with
    | none => exact absurd qq ha
    | some o => rw [s12 a o qq]; exact fun z => nomatch z
  have E2 : Env K (upd B' x (.ins C dx fs)) H' σ Γ1 := by
    refine ⟨g1.env.len, fun a o e => ?_, fun i d hi => ?_, fun i es hi => ?_, g1.env.sep⟩
    · by_cases ha : a = x
      · subst ha; rw [upd_same] at e; cases e; exact hx'
      · rw [upd_ne ha] at e; exact sb a o e
    · obtain ⟨v, e1, e2⟩ := g1.env.val i d hi
      exact ⟨v, e1, e2.mono (mv.bb.trans sBB)⟩
    · obtain ⟨l, us, e1, e2, e3, e4⟩ := g1.env.cel i es hi
      have hl : l ≠ x := fun z => by subst z; rw [hx] at e2; cases e2
      exact ⟨l, us, e1, kept l _ e2, by rw [upd_ne hl]; exact offB l (by rw [e2]; exact fun z => nomatch z) e3, e4.mono (mv.bb.trans sBB)⟩
  have g2 : Go K σ B1 H1 Γ1 (upd B' x (.ins C dx fs)) H' Γ1 := by
    refine ⟨⟨fun a o _ e => kept a o e, mv.bb.trans sBB, fun a na ha hb => ?_⟩, fun i es hi => ⟨es, hi⟩, E2⟩
    have hne : a ≠ x := fun z => by subst z; exact ha hx
    rw [upd_ne hne]; exact offB a ha hb
  have hf' := hf.mono sBB
  exact q (.ref x) _ H' (.val (.obj C gs)) Γ1 (g1.trans g2) (Is.obj upd_same hf'.hk hf'.hi) p
theorem we_makeD {dvs : List V} {ai : AI} {E0 : XK} {t : TA} (h : WD K t Γ fun ds Γ1 => Hold (ai (ds ++ dvs.map Dt.raw) fun gs => Post (.val (.obj C gs)) Γ1)) : WE K (tMake C (toSpI K C ai) dvs E0 t) Γ Post := fun σ B H E Q q => by
  refine h σ B H E _ fun vs B1 H1 ds Γ1 g1 k1 p1 => ?_
  exact make_core g1 (k1.append .raws) p1.get q
theorem we_makeK {n m : Nat} {o : List Nat} {mz : List V} {ai : AI} {E0 : XK} {t tk : TA} (h : WD K t Γ fun ds Γ1 => WD K tk Γ1 fun es Γ2 => (ds.length == n && es.length == m) = true ∧ Hold (ai (pick o (ds ++ mz.map Dt.raw ++ es)) fun gs => Post (.val (.obj C gs)) Γ2)) :
    WE K (tMakeK C n m (toSpI K C ai) (fun vs zs => pick (0 :: upO o) (vs ++ mz ++ zs)) E0 t tk) Γ Post := fun σ B H E Q q => by
  refine h σ B H E _ fun vs B1 H1 ds Γ1 g1 k1 p1 => ?_
  refine p1 σ B1 H1 g1.env _ fun zs B2 H2 es Γ2 g2 k2 p2 => ?_
  obtain ⟨l0, p⟩ := p2
  rw [Bool.and_eq_true] at l0
  have l1 := beq_iff_eq.mp l0.1
  have l2 := beq_iff_eq.mp l0.2
  refine ⟨by rw [k1.len]; exact l1, by rw [k2.len]; exact l2, fun x dx hx hdx hne => ?_⟩
  have e : pick (0 :: upO o) ((V.ref x :: vs) ++ mz ++ zs) = .ref x :: pick o (vs ++ mz ++ zs) := by
    rw [pick_cons (x := V.ref x) rfl]
    show V.ref x :: pick (upO o) (V.ref x :: (vs ++ mz ++ zs)) = _
    rw [pick_up]
  show toSpI K C ai (pick (0 :: upO o) ((V.ref x :: vs) ++ mz ++ zs)) _ _ _
  rw [e]
  exact make_core (g1.trans g2) (pick_isA (((k1.mono g2.mv.bb).append .raws).append k2) o) p.get q x dx hx hdx hne
structure SMet (K : PySem.W.Frag) (C : Addr) (m : Str) (p f : Addr) : Prop where
  rd : PySem.W.readsIn K C (.type "type") = true
  ga : PySem.W.specialIn K (.ref C) "__getattribute__" = some (some (.builtin "type.__getattribute__"))
  at_ : PySem.W.findCls K (.ref C) (.type "type") m = some (.get (.builtin "staticmethod.__get__") (.ref p) .none (.ref C))
  rc : ∃ rest, PySem.W.recIn K p "staticmethod" = some (.ref f :: rest)
def tSMeth (C : Addr) (sp : Sp) (E : XK) (ta : TE) (t : TA) : TE := fun σ H Q => ta σ H fun x H1 => x = .ref C ∧ t σ H1 fun vs H2 => sp (vs ++ []) H2 Q E
theorem we_smeth {ap : AP} {E0 : XK} {ta : TA} (h : WA K ta Γ fun rs Γ1 => nodupB (ownsOf rs) = true ∧ Hold (ap (rs.map (argSl Γ1)) fun r as' => NormP (putBack rs as' Γ1) (Post r))) : WE K (tSMeth C (toSp K ap) E0 (tC (.ref C)) ta) Γ Post := fun σ B H E Q q => by
  refine ⟨rfl, ?_⟩
  exact we_callH (E0 := E0) h σ B H E Q q
end
end Ab

namespace Ab
open PySem L2
section
variable {κ : Type} [DecidableEq κ]
def valD (kvs : List (κ × Dt)) (k : κ) : Option Dt := (kvs.find? fun kv => decide (kv.1 = k)).map (·.2)
def putE (kvs : List (κ × Dt)) (k : κ) (v : Dt) : List (κ × Dt) :=
  if (kvs.any fun kv => decide (kv.1 = k)) = true then kvs.map (fun kv => if kv.1 = k then (kv.1, v) else kv) else kvs ++ [(k, v)]
variable {K : PySem.W.Frag} {B : Hp}
theorem IsKv.nil : IsKv K B ([] : List (κ × V)) [] := ⟨rfl, .nil⟩
theorem IsKv.cons {k : κ} {v : V} {d : Dt} {xs : List (κ × V)} {kvs : List (κ × Dt)} (h : Is K B v d) (r : IsKv K B xs kvs) : IsKv K B ((k, v) :: xs) ((k, d) :: kvs) :=
  ⟨by simp [r.ks], .cons h r.vs⟩
theorem IsKv.ind {M : List (κ × V) → List (κ × Dt) → Prop} (h0 : M [] []) (h1 : ∀ k v d xs kvs, Is K B v d → IsKv K B xs kvs → M xs kvs → M ((k, v) :: xs) ((k, d) :: kvs)) : ∀ {xs : List (κ × V)} {kvs : List (κ × Dt)}, IsKv K B xs kvs → M xs kvs
  | [], [], _ => h0
  | [], _ :: _, h => by have := h.ks; simp at this
  | _ :: _, [], h => by have := h.ks; simp at this
  | (k, v) :: xs, (k', d) :: kvs, h => by
    have e := h.ks
    simp only [List.map_cons, List.cons.injEq] at e
    obtain ⟨rfl, e⟩ := e
    have hv : Is K B v d := h.vs.at_ 0 v d (by simp) (by simp)
    have hr : IsKv K B xs kvs := ⟨e, by have := h.vs.drop 1; simpa using this⟩
    exact h1 k v d xs kvs hv hr (IsKv.ind h0 h1 hr)
theorem IsKv.len {xs : List (κ × V)} {kvs : List (κ × Dt)} (h : IsKv K B xs kvs) : xs.length = kvs.length := by
  have := congrArg List.length h.ks; simpa using this
theorem IsKv.val {xs : List (κ × V)} {kvs : List (κ × Dt)} (h : IsKv K B xs kvs) (k : κ) : (valV xs k = none ∧ valD kvs k = none) ∨ ∃ v d, valV xs k = some v ∧ valD kvs k = some d ∧ Is K B v d := by
  refine IsKv.ind (M := fun xs kvs => (valV xs k = none ∧ valD kvs k = none) ∨ ∃ v d, valV xs k = some v ∧ valD kvs k = some d ∧ Is K B v d) (.inl ⟨rfl, rfl⟩) (fun k' v d xs kvs hv _ ih => ?_) h
  by_cases e : k' = k
  · exact .inr ⟨v, d, by simp [valV, e], by simp [valD, e], hv⟩
  · simpa [valV, valD, e] using ih
theorem IsKv.valS {xs : List (κ × V)} {kvs : List (κ × Dt)} (h : IsKv K B xs kvs) {k : κ} {d : Dt} (e : valD kvs k = some d) : ∃ v, valV xs k = some v ∧ Is K B v d := by
  rcases h.val k with ⟨_, e2⟩ | ⟨v, d', e1, e2, hv⟩
  · rw [e] at e2; cases e2
  · rw [e] at e2; cases e2; exact ⟨v, e1, hv⟩
theorem IsKv.isS {xs : List (κ × V)} {kvs : List (κ × Dt)} (h : IsKv K B xs kvs) (k : κ) : (valV xs k).isSome = (valD kvs k).isSome := by
  rcases h.val k with ⟨e1, e2⟩ | ⟨v, d', e1, e2, hv⟩ <;> rw [e1, e2] <;> rfl
theorem IsKv.put {xs : List (κ × V)} {kvs : List (κ × Dt)} (h : IsKv K B xs kvs) (k : κ) {v : V} {d : Dt} (hv : Is K B v d) : IsKv K B (putK xs k v) (putE kvs k d) := by
  have ea : (xs.any fun kv => decide (kv.1 = k)) = (kvs.any fun kv => decide (kv.1 = k)) :=
    IsKv.ind (K := K) (B := B) (M := fun xs kvs => (xs.any fun kv => decide (kv.1 = k)) = (kvs.any fun kv => decide (kv.1 = k))) rfl (fun k' v d xs kvs _ _ ih => by simp only [List.any_cons, ih]) h
  have em : IsKv K B (xs.map (fun kv => if kv.1 = k then (kv.1, v) else kv)) (kvs.map (fun kv => if kv.1 = k then (kv.1, d) else kv)) :=
    IsKv.ind (K := K) (B := B) (M := fun xs kvs => IsKv K B (xs.map (fun kv => if kv.1 = k then (kv.1, v) else kv)) (kvs.map (fun kv => if kv.1 = k then (kv.1, d) else kv))) .nil (fun k' v' d' xs kvs hv' _ ih => by
      by_cases e : k' = k
      · simp only [List.map_cons, e, if_true]; exact .cons hv ih
      · simp only [List.map_cons, e, if_false]; exact .cons hv' ih) h
  have es : IsKv K B (xs ++ [(k, v)]) (kvs ++ [(k, d)]) := ⟨by simp [h.ks], by simpa using h.vs.snoc hv⟩
  unfold putK putE
  rw [ea]
  split
  · exact em
  · exact es
theorem putE_new {kvs : List (κ × Dt)} {k : κ} {d : Dt} (h : valD kvs k = none) : putE kvs k d = kvs ++ [(k, d)] := by
  have : (kvs.any fun kv => decide (kv.1 = k)) = false := by
    unfold valD at h
    rw [Option.map_eq_none_iff] at h
    rw [Bool.eq_false_iff]
    intro z
    obtain ⟨x, hx, e⟩ := List.any_eq_true.mp z
    exact (List.find?_eq_none.mp h x hx) e
  unfold putE
  rw [this]; rfl
end
def dkOf (Γ : List Sl) : Re → Option (List (Key × Dt))
  | .val (.dK kvs) => some kvs
  | .nw (.dK kvs) => some kvs
  | .own i => match Γ[i]? with
    | some (.cel (.dK kvs)) => some kvs
    | _ => none
  | _ => none
section
variable {K : PySem.W.Frag} {σ : L2.St} {B H : Hp} {Γ : List Sl} {v : V} {r : Re}
theorem rv_dK {kvs : List (Key × Dt)} (E : Env K B H σ Γ) (h : RvOk K σ B H Γ v r) (e : dkOf Γ r = some kvs) : ∃ a xs, v = .ref a ∧ H a = some (.dK xs) ∧ IsKv K B xs kvs := by
  cases r with
  | val d =>
    cases d <;> first | (cases e; done) | skip
    cases e
    cases h with
    | dK h1 hk hi => exact ⟨_, _, rfl, E.bh _ _ h1, hk, by have := congrArg List.length hk; simpa using this, hi⟩
  | nw c =>
    cases c with
    | dK es => cases e; obtain ⟨l, o, rfl, _, h1, _, xs, rfl, h2⟩ := h; exact ⟨l, xs, rfl, h1, h2⟩
    | lst es => cases e
    | dT es => cases e
    | dN w es => cases e
  | own i =>
    obtain ⟨l, rfl, hl⟩ := h
    have e' : (match Γ[i]? with
      | some (Sl.cel (.dK ds)) => some ds
      | _ => none) = some kvs := e
    split at e'
    · rename_i es hi
      cases e'
      obtain ⟨c, o, q1, q2, q3, us, rfl, q4⟩ := E.cel i _ hi
      rw [hl] at q1; cases q1
      exact ⟨l, us, rfl, q2, q4⟩
    · cases e'
end
section
variable {K : PySem.W.Frag} {pin : List Nat} {Γ : List Sl} {P : Ps} {Post : Re → List Sl → Prop} {td ty tv tx : TE}
theorem we_dgetK (h : WE K td Γ fun ra Γ1 => WE K ty Γ1 fun rb Γ2 => ∃ kvs k d, dkOf Γ2 ra = some kvs ∧ rb = .val (.raw (kV k)) ∧ valD kvs k = some d ∧ Post (.val d) Γ2) : WE K (tDGet td ty) Γ Post :=
  we_two' (r := fun x y H Q => ∃ a v, x = .ref a ∧ DGet H a y (some v) ∧ Q v H) (we_mono h fun ra Γ1 h1 => we_mono h1 fun rb Γ2 ⟨kvs, k, d, e1, e2, e3, p⟩ => fun σ B H x y E kx ky Q q => by
    subst e2
    cases Is.rawI ky
    obtain ⟨a, xs, rfl, ha, hk⟩ := rv_dK E kx e1
    obtain ⟨v, hv, hd⟩ := hk.valS e3
    exact ⟨a, v, rfl, by rw [← hv]; exact .k ha, q _ B H (.val d) Γ2 (.refl E) hd p⟩)
theorem we_dinK (h : WE K ty Γ fun rb Γ1 => WE K td Γ1 fun ra Γ2 => ∃ kvs k, dkOf Γ2 ra = some kvs ∧ rb = .val (.raw (kV k)) ∧ Post (.val (.bl (valD kvs k).isSome)) Γ2) : WE K (tDIn ty td) Γ Post :=
  we_two' (r := fun y x H Q => ∃ a o, x = .ref a ∧ DGet H a y o ∧ Q (.bl o.isSome) H) (we_mono h fun rb Γ1 h1 => we_mono h1 fun ra Γ2 ⟨kvs, k, e1, e2, p⟩ => fun σ B H y x E ky kx Q q => by
    subst e2
    cases Is.rawI ky
    obtain ⟨a, xs, rfl, ha, hk⟩ := rv_dK E kx e1
    refine ⟨a, _, rfl, .k ha, ?_⟩
    rw [hk.isS]
    exact q _ B H _ Γ2 (.refl E) (.raw _) p)
theorem we_dnotinK (h : WE K ty Γ fun rb Γ1 => WE K td Γ1 fun ra Γ2 => ∃ kvs k, dkOf Γ2 ra = some kvs ∧ rb = .val (.raw (kV k)) ∧ Post (.val (.bl (!(valD kvs k).isSome))) Γ2) : WE K (tDNotIn ty td) Γ Post :=
  we_two' (r := fun y x H Q => ∃ a o, x = .ref a ∧ DGet H a y o ∧ Q (.bl (!o.isSome)) H) (we_mono h fun rb Γ1 h1 => we_mono h1 fun ra Γ2 ⟨kvs, k, e1, e2, p⟩ => fun σ B H y x E ky kx Q q => by
    subst e2
    cases Is.rawI ky
    obtain ⟨a, xs, rfl, ha, hk⟩ := rv_dK E kx e1
    refine ⟨a, _, rfl, .k ha, ?_⟩
    rw [hk.isS]
    exact q _ B H _ Γ2 (.refl E) (.raw _) p)
theorem we_dnewK (p : Post (.nw (.dK [])) Γ) : WE K tDNewK Γ Post := fun σ B H E Q q => fun a ha =>
  q _ _ _ (.nw (.dK [])) Γ (Go.beside E ha) ⟨a, _, rfl, .inr ha, E.not_own ha, upd_same, E.base_none ha, [], rfl, .nil⟩ p
theorem ws_dputK {i : Nat} (h : WE K tv Γ fun z Γ1 => ∃ d, z.dt? = some d ∧ (∃ kvs1, Γ1[i]? = some (.cel kvs1)) ∧ WE K ty Γ1 fun y Γ2 => ∃ kvs k, y = .val (.raw (kV k)) ∧ Γ2[i]? = some (.cel (.dK kvs)) ∧ kvs.length < 1000000 ∧ P.nx (Γ2.set i (.cel (.dK (putE kvs k d))))) :
    WS K pin (sDPut (tVar i) ty tv) Γ P := fun σ B H D E n r b c xx => by
  have h' : WE K tv Γ fun z Γ1 => ∃ d, z = .val d ∧ (∃ kvs1, Γ1[i]? = some (.cel kvs1)) ∧ WE K ty Γ1 fun y Γ2 => ∃ kvs k, y = .val (.raw (kV k)) ∧ Γ2[i]? = some (.cel (.dK kvs)) ∧ kvs.length < 1000000 ∧ P.nx (Γ2.set i (.cel (.dK (putE kvs k d)))) := we_freeze (we_mono h fun z Γ1 ⟨d, hd, r⟩ => ⟨d, hd, d, rfl, r⟩)
  refine h' σ B H E _ fun v B1 H1 z Γ1 g1 k1 p1 => ?_
  obtain ⟨d, rfl, ⟨ds1, h1⟩, p1⟩ := p1
  obtain ⟨l, vs, e0, e1, e2, k0⟩ := g1.env.cel i ds1 h1
  refine ⟨.ref l, e0, p1 σ B1 H1 g1.env _ fun y B2 H2 w Γ2 g2 k2 p2 => ?_⟩
  obtain ⟨kvs, k, rfl, hi, hz, p⟩ := p2
  cases Is.rawI k2
  obtain ⟨l', o, f0, f1, f2, us, rfl, k3⟩ := g2.env.cel i _ hi
  rw [e0] at f0; cases f0
  refine ⟨l, _, rfl, .k f1 (Nat.lt_of_lt_of_le (by rw [k3.len]; exact hz) (by decide)), ?_⟩
  exact n _ B2 _ _ ((g1.trans g2).trans (Go.putC (es := .dK (putE kvs k d)) g2.env hi e0 ⟨_, rfl, k3.put k (Is.mono g2.mv.bb k1)⟩)).s p
end
section
variable {K : PySem.W.Frag} {Γ : List Sl} {Post : Re → List Sl → Prop}
theorem IsKv.mono {κ : Type} {B B' : Hp} {xs : List (κ × V)} {kvs : List (κ × Dt)} (s : Same B B') (h : IsKv K B xs kvs) : IsKv K B' xs kvs := ⟨h.ks, h.vs.mono s⟩
end
end Ab

namespace Ab
open PySem PySem.Spec L2 PyProof.Rows
set_option maxHeartbeats 8000000 in
theorem meets_enumerate_new1 {v : Value} {o : Obj} {H : Heap → Prop} (B : Begins v o H) :
    Meets (Builtin.«enumerate.__new__» ⟨[.type "enumerate", v], []⟩) (fun _ R s => H s.heap ∧
      R (.ok (.ret (.ref (s.heap.push o).objs.size))) { s with heap := (s.heap.push o).push { cls := .type "enumerate", data := .fields #[.none, .bool false, .ref s.heap.objs.size, rawInt 0, .none, .none] } }) :=
  .of_wp fun prog w A R s h => by
    obtain ⟨hp, g, d, tk, os⟩ := s; obtain ⟨h1, h⟩ := h
    have hsub := sub_enumerate
    have q1 : ∀ {A' : Around} {E : Value → Shared → Prop} {Q : Value → Shared → Prop}, Q (.ref hp.objs.size) ⟨hp.push o, g, d, tk, os⟩ → wpAny (model prog w) A' (pyIter v) Q E ⟨hp, g, d, tk, os⟩ :=
      fun q => B.iter prog w _ _ ⟨hp, g, d, tk, os⟩ _ h1 q
    wp_walk using q1
    refine wpAny_stack_any fun st => wpAny_pure ?_
    split
    · rename_i c _ _ _ _ _
      cases (c == Value.type "enumerate")
      · wp_walk using q1
        exact ⟨_, rfl, h⟩
      · wp_walk using q1
        exact ⟨_, rfl, h⟩
    · wp_walk using q1
      exact ⟨_, rfl, h⟩
theorem enum_begins1 {prog : Program} {w : World} {A : Around} {E : Value → Shared → Prop} {s : Shared} {v : Value} {o : Obj} {H : Heap → Prop} {Q : Value → Shared → Prop} (B : Begins v o H) (h1 : H s.heap)
    (h : ∀ h', IsEnum h' (s.heap.objs.size + 1) s.heap.objs.size 0 .none → h'.get? s.heap.objs.size = some o → h'.objs.size = s.heap.objs.size + 2 →
      (∀ b o, s.heap.get? b = some o → h'.get? b = some o) → Q (.ref (s.heap.objs.size + 1)) { s with heap := h' }) :
    wpAny (model prog w) A (call (.type "enumerate") [v]) Q E s := by
  refine callType_new F.called_enumerate (by decide) (F.typeCall_enumerate_1 _) (F.newCall_enumerate_1 _) (fun obj => F.args_object_init_2 obj _) F.entry_enumerate_new
    (meets_enumerate_new1 B) ⟨h1, ?_⟩
  have hz : (s.heap.push o).objs.size = s.heap.objs.size + 1 := Heap.size_push ..
  show _ ∧ _
  rw [hz]
  have he : IsEnum ((s.heap.push o).push { cls := .type "enumerate", data := .fields #[.none, .bool false, .ref s.heap.objs.size, rawInt 0, .none, .none] }) (s.heap.objs.size + 1) s.heap.objs.size 0 .none := by
    have := Heap.get?_push_size (s.heap.push o) (o := { cls := .type "enumerate", data := .fields #[.none, .bool false, .ref s.heap.objs.size, rawInt 0, .none, .none] }) rfl
    rw [hz] at this; exact this
  refine ⟨⟨_, he, rfl⟩, h _ he (Heap.get?_push_of_some _ (Heap.get?_push_size _ B.free)) (by rw [Heap.size_push, hz]) fun b o x => Heap.get?_push_of_some _ (Heap.get?_push_of_some _ x)⟩
def IteT (K : PySem.W.Frag) (a : Addr) (c : Int) : It :=
  ⟨fun i H => ∃ (xs : List V) (x : V), SqT K H a xs ∧ xs[i]? = some x, fun i H v H' => ∃ T x, v = .ref T ∧ H T = none ∧ H' = upd H T (.tup [.int (c + (i : Nat)), x]) ∧ ∀ xs, SqT K H a xs → xs[i]? = some x, fun i H => ∃ xs : List V, SqT K H a xs ∧ xs.length = i⟩
theorem turn_enumT {P : Program} {w : World} {K : PySem.W.Frag} {elts : List Expr} {kk : Nat} {tpos : Pos} (a e it : Addr) (c : Int) (hai : a ≠ it) (hae : a ≠ e) :
    Turn P w K (.Tuple elts kk tpos) (IteT K a c) [e, it] e (fun i h => (∃ old, IsEnum h e it (c + ((i : Nat) : Int)) old) ∧ h.IsTupleIter it a i ∧ e ≠ it) where
  mem := by simp
  obj := fun i h st b hb => by
    obtain ⟨⟨old, he⟩, ⟨o, ho, hc, hd⟩, _⟩ := st
    have e' : b = e ∨ b = it := by simpa using hb
    rcases e' with z | z
    · rw [z]; exact ⟨_, he, fun v q => nomatch q⟩
    · rw [z]; exact ⟨o, ho, fun v q => by rw [hd] at q; cases q⟩
  keep := fun i h h' st k => let ⟨⟨old, he⟩, hi, hne⟩ := st; ⟨⟨old, k e (by simp) _ he⟩, hi.at fun o q => k it (by simp) o q, hne⟩
  item := by
    intro X hP hw hK hc i pins s σ H E I hf st hg
    subst hP hw hK
    obtain ⟨⟨old, he⟩, hit, hne⟩ := st
    obtain ⟨xs, x, hq, hx⟩ := hg
    obtain ⟨its, rv, p, hz⟩ := I.tuple hq
    obtain ⟨u, hu, ru⟩ := rv.get hx
    have hel : e < s.heap.objs.size := Heap.lt_size he
    have hil : it < s.heap.objs.size := by obtain ⟨_, q, _⟩ := hit; exact Heap.lt_size q
    have D : Draws X.prog X.w X.A.in1 it [it, a] its.toArray.size (fun i v => its.toArray[i]? = some v) (fun i h => h.IsTupleIter it a i ∧ h.IsTuple a its.toArray) := Draws.tuple (A := X.A.in1) (show X.A.in1.handled = none from I.ok.hd hc) it a hai its.toArray
    have hlt : i < its.toArray.size := by
      have := (List.getElem?_eq_some_iff.mp hu).1
      simpa using this
    refine wpAny_pyNext_enum_itemC D he ⟨hit, p⟩ hlt hne (by simp; exact ⟨hne, fun z => hae z.symm⟩) fun x' h' tk hP ho hit' hT hsz hk => ?_
    have hxu : x' = u := by
      have : its[i]? = some x' := by simpa using hP
      rw [hu] at this; cases this; rfl
    subst hxu
    refine ⟨_, rfl, wpAny_letOwnedTupleGo_enum (s := { s with heap := h', toks := tk + 1 }) ho fun h'' he' sb => ?_⟩
    have hT2 : h''.get? s.heap.objs.size = some { cls := .type "tuple", data := .seq #[.int (c + (i : Nat)) tk, x'] } := (sb.2 _ (Nat.ne_of_gt hel)).trans hT
    have new : ObjOk X.prog X.w (upd H s.heap.objs.size (.tup [.int (c + (i : Nat)), x])) h'' s.heap.objs.size (.tup [.int (c + (i : Nat)), x]) :=
      ⟨by show 2 ≤ sizeLine; decide, [.int (c + (i : Nat)) tk, x'], .cons ⟨_, rfl⟩ (.cons ru .nil), ⟨_, hT2, rfl, _, rfl⟩⟩
    have I1 : Inv X pins σ (upd H s.heap.objs.size (.tup [.int (c + (i : Nat)), x])) { s with heap := h'', toks := tk + 1 } :=
      I.turnedNew (ch := [e, it]) (fun b ob hb q => (sb.2 b (fun z => hb (by simp [z]))).trans (hk b ob (fun z => hb (by simp [z])) (fun z => hb (by simp [z])) q)) hf (Nat.le_refl _) new
    refine ⟨.ref s.heap.objs.size, _, I1, rfl, ⟨_, x, rfl, I.hok.fresh (Nat.le_refl _), rfl, fun ys hy => by rw [I.tuple_inj hy hq]; exact hx⟩, ⟨⟨x', ?_⟩, hit'.1.at fun o q => (sb.2 it (Ne.symm hne)).trans q, hne⟩, fun b hb => ?_⟩
    · have e1 : c + ((i + 1 : Nat) : Int) = c + (i : Int) + 1 := by omega
      rw [e1]; exact he'
    · have hb' : b < s.heap.objs.size := by
        have e' : b = e ∨ b = it := by simpa using hb
        rcases e' with z | z
        · rw [z]; exact hel
        · rw [z]; exact hil
      rw [upd_ne (Nat.ne_of_lt hb')]
      exact (hf b hb).1
  done := by
    intro X hP hw hK hc i pins s σ H E I hf st hg
    subst hP hw hK
    obtain ⟨⟨old, he⟩, hit, hne⟩ := st
    obtain ⟨xs, hq, hx⟩ := hg
    obtain ⟨its, rv, p, hz⟩ := I.tuple hq
    obtain ⟨f0, f1, f2, f3, f4, f5⟩ := hf it (by simp)
    have hl := rv.length
    have D : Draws X.prog X.w X.A.in1 it [it, a] its.toArray.size (fun i v => its.toArray[i]? = some v) (fun i h => h.IsTupleIter it a i ∧ h.IsTuple a its.toArray) := Draws.tuple (A := X.A.in1) (show X.A.in1.handled = none from I.ok.hd hc) it a hai its.toArray
    have hn : i = its.toArray.size := by simp; omega
    subst hn
    exact wpAny_pyNext_enum_endD D he ⟨hit, p⟩ fun h' eb => ⟨rfl, I.turned (t' := s.toks) (fun b o hb q => eb b o hb q) f0 f1 f3 f4 f5⟩
  self := fun A i s Q E st h => let ⟨⟨_, he⟩, _⟩ := st; wpAny_pyIter_enum he h
def iEnumT (K : PySem.W.Frag) (ta : TA) : TI := fun σ H R => ta σ H fun vs H1 => ∃ a xs, vs = [.ref a] ∧ SqT K H1 a xs ∧ R (IteT K a 0) H1
theorem pi_enumT {X : Cx} {e : Expr} {ta : TA} {p pos tpos : Pos} {elts : List Expr} {kk : Nat} (hg : Gl X "enumerate") (hm : X.mg "enumerate" = none) (ha : PA X [e] ta) (hs : starEach [e] X.env = [(false, eval e X.env)] := by rfl) :
    PI X (.Tuple elts kk tpos) (.Call (.Name "enumerate" p) [e] [] pos) (iEnumT X.K ta) := by
  refine ⟨fun pins s σ H R I h => ?_⟩
  refine Call_ (ld_blt I hg hm boot_enumerate (PyProof.Rows.callWith_type1 (thn (ha.run pos pins s σ H _ I h) fun us s1 ⟨vs, H1, I1, r1, q1⟩ => ?_) hs rfl))
  obtain ⟨a, xs, ex, hq, q⟩ := q1
  subst ex
  cases r1 with
  | cons r rr =>
    cases rr
    cases r
    obtain ⟨its, rv, p', hz⟩ := I1.tuple hq
    have hal : a < s1.heap.objs.size := by obtain ⟨_, q, _⟩ := p'; exact Heap.lt_size q
    refine enum_begins1 (begins_tuple a its.toArray) p' fun h' he hit hsz hk => wpAny_pyIter_enum he ?_
    have I2 : Inv X pins σ H1 { s1 with heap := h' } := I1.kept (t' := s1.toks) hk
    refine ⟨s1.heap.objs.size + 1, [s1.heap.objs.size + 1, s1.heap.objs.size], _, _, H1, rfl, I2, turn_enumT a (s1.heap.objs.size + 1) s1.heap.objs.size 0 (Nat.ne_of_lt hal) (Nat.ne_of_lt (Nat.lt_succ_of_lt hal)), ⟨⟨.none, he⟩, ⟨_, hit, rfl, rfl⟩, Nat.succ_ne_self _⟩, fun b hb => ?_, q⟩
    have e' : b = s1.heap.objs.size + 1 ∨ b = s1.heap.objs.size := by simpa using hb
    have hle : s1.heap.objs.size ≤ b := by
      rcases e' with z | z
      · rw [z]; exact Nat.le_add_right _ _
      · rw [z]; exact Nat.le_refl _
    exact I1.fpOk hle (I1.hok.fresh hle)
section
variable {K : PySem.W.Frag} {σ : L2.St} {B H : Hp} {Γ : List Sl}
abbrev g2 (K : PySem.W.Frag) (j k : Nat) : TG := gTup K 2 (gCons (gName j) (gCons (gName k) gNil))
end
end Ab
namespace Ab
open PySem PySem.Spec L2 PyProof.Rows
theorem bi_sorted : bootBuiltins "sorted" = some (.builtin "sorted") := by decide +kernel
end Ab

namespace Ab
open PySem L2
def CS (z : Str) : Prop := ∀ c ∈ z.cps.toList, c < 1114112
theorem CS.app {a b : Str} (ha : CS a) (hb : CS b) : CS (a ++ b) := fun c hc => by
  have e : (a ++ b).cps.toList = a.cps.toList ++ b.cps.toList := by show (a.cps ++ b.cps).toList = _; simp
  rw [e] at hc
  rcases List.mem_append.mp hc with h | h
  · exact ha c h
  · exact hb c h
theorem CS.nil : CS "" := fun c hc => by
  have : (("" : Str)).cps.toList = [] := by decide +kernel
  rw [this] at hc
  cases hc
theorem CS.join : ∀ {ys : List Str}, (∀ y ∈ ys, CS y) → CS (Txt.join "" ys)
  | [], _ => by rw [TL.join_eq]; exact fun c hc => nomatch hc
  | [x], h => by rw [TL.join_eq]; exact h x List.mem_cons_self
  | x :: y :: r, h => by
    have ih := CS.join (ys := y :: r) fun z hz => h z (List.mem_cons_of_mem _ hz)
    rw [TL.join_eq] at ih ⊢
    show CS (x ++ "" ++ Str.join "" (y :: r))
    exact ((h x List.mem_cons_self).app CS.nil).app ih
theorem CS.one {c : Nat} (h : c < 1114112) : CS ⟨#[c]⟩ := fun d hd => by
  rw [List.mem_singleton.mp (show d ∈ [c] from hd)]
  exact h
def Az (z : Str) : Prop := ∀ c ∈ z.cps.toList, 97 ≤ c ∧ c ≤ 122
theorem Az.cs {z : Str} (h : Az z) : CS z := fun c hc => by have := h c hc; omega
theorem Az.app {a b : Str} (ha : Az a) (hb : Az b) : Az (a ++ b) := fun c hc => by
  have e : (a ++ b).cps.toList = a.cps.toList ++ b.cps.toList := by show (a.cps ++ b.cps).toList = _; simp
  rw [e] at hc
  rcases List.mem_append.mp hc with h | h
  · exact ha c h
  · exact hb c h
theorem Az.nil : Az "" := fun c hc => by
  have : (("" : Str)).cps.toList = [] := by decide +kernel
  rw [this] at hc
  cases hc
def signs : Str := " abcdefghijklmnopqrstuvwxyzABCDEFGHIJKLMNOPQRSTUVWXYZ0123456789.,;:!?'()|"
def Tx (z : Str) : Prop := ∀ c ∈ z.cps.toList, c ∈ signs.cps.toList
theorem signs_cs : ∀ c ∈ signs.cps.toList, c < 1114112 := by decide +kernel
theorem Tx.cs {z : Str} (h : Tx z) : CS z := fun c hc => signs_cs c (h c hc)
end Ab

namespace Ab
open PySem L2
abbrev Ty := Dt → Prop
inductive TIs (e : Dt) : Ty where
  | mk : TIs e e
inductive TInt (lo hi : Int) : Ty where
  | mk {i : Int} (h0 : lo ≤ i) (h1 : i ≤ hi) : TInt lo hi (.int i)
inductive TBl : Ty where
  | mk {b : Bool} : TBl (.bl b)
inductive TStr (n m : Nat) : Ty where
  | mk {z : Str} (h0 : n ≤ z.length) (h1 : z.length ≤ m) : TStr n m (.str z)
inductive TNm (n m : Nat) : Ty where
  | mk {z : Str} (h0 : n ≤ z.length) (h1 : z.length ≤ m) (ha : Az z) : TNm n m (.str z)
inductive T1 (A : Ty) : Ty where
  | mk {a : Dt} (ha : A a) : T1 A (.tup [a])
inductive T2 (A B : Ty) : Ty where
  | mk {a b : Dt} (ha : A a) (hb : B b) : T2 A B (.tup [a, b])
inductive T3 (A B C : Ty) : Ty where
  | mk {a b c : Dt} (ha : A a) (hb : B b) (hc : C c) : T3 A B C (.tup [a, b, c])
inductive T4 (A B C D : Ty) : Ty where
  | mk {a b c d : Dt} (ha : A a) (hb : B b) (hc : C c) (hd : D d) : T4 A B C D (.tup [a, b, c, d])
inductive TTs (A : Ty) (n m : Nat) : Ty where
  | mk {ds : List Dt} (h0 : n ≤ ds.length) (h1 : ds.length ≤ m) (h : ∀ d ∈ ds, A d) : TTs A n m (.tup ds)
inductive TLs (A : Ty) (n m : Nat) : Ty where
  | mk {ds : List Dt} (h0 : n ≤ ds.length) (h1 : ds.length ≤ m) (h : ∀ d ∈ ds, A d) : TLs A n m (.lst ds)
abbrev STy := Sl → Prop
inductive SAny : STy where
  | mk {s : Sl} : SAny s
inductive SIs (t : Sl) : STy where
  | mk : SIs t t
inductive SVal (A : Ty) : STy where
  | mk {d : Dt} (h : A d) : SVal A (.val d)
inductive SAcc (A : Ty) (n m : Nat) : STy where
  | mk {ds : List Dt} (h0 : n ≤ ds.length) (h1 : ds.length ≤ m) (h : ∀ d ∈ ds, A d) : SAcc A n m (.cel (.lst ds))
inductive SPool (b : Int) : STy where
  | mk {ds : List Dt} (h : PoolUp b ds) : SPool b (.cel (.lst ds))
inductive EnvT : List STy → List Sl → Prop where
  | nil : EnvT [] []
  | cons {S : STy} {s : Sl} {D : List STy} {G : List Sl} (h : S s) (t : EnvT D G) : EnvT (S :: D) (s :: G)
theorem EnvT.len : ∀ {D : List STy} {G : List Sl}, EnvT D G → G.length = D.length
  | _, _, .nil => rfl
  | _, _, .cons _ t => by rw [List.length_cons, List.length_cons, t.len]
inductive RVal (A : Ty) : Re → Prop where
  | mk {d : Dt} (h : A d) : RVal A (.val d)
inductive RNew (A : Ty) (n m : Nat) : Re → Prop where
  | mk {ds : List Dt} (h0 : n ≤ ds.length) (h1 : ds.length ≤ m) (h : ∀ d ∈ ds, A d) : RNew A n m (.nw (.lst ds))
section
variable {Γ : List Sl} {Post : Re → List Sl → Prop}
end
theorem Az.one {c : Nat} (h : 97 ≤ c ∧ c ≤ 122) : Az ⟨#[c]⟩ := fun d hd => by
  rw [List.mem_singleton.mp (show d ∈ [c] from hd)]
  exact h
end Ab

namespace Ab
open PySem L2
section
variable {K : PySem.W.Frag} {pin : List Nat} {Γ : List Sl} {P : Ps} {te tl : TE} {tt : TT} {tb : TS} {g : TG} {j : Nat} {Post : Re → List Sl → Prop}
theorem take_step {α β : Type} {xs : List α} {i : Nat} {x : α} (p : α → Bool) (f : α → β) (h : xs[i]? = some x) : ((xs.take (i + 1)).filter p).map f = ((xs.take i).filter p).map f ++ (if p x = true then [f x] else []) := by
  rw [List.take_succ, h, List.filter_append, List.map_append]
  by_cases hp : p x = true
  · simp [hp]
  · simp [hp]
theorem lc_accP {α : Type} {k : Nat} (xs : List α) (c f : α → Dt) (p : α → Bool) (h0 : Γ[k]? = some (.acc (xs.map c))) (hn : xs.length ≤ 1000000) (hj : decide (j < Γ.length) = true) (hja : notAcc Γ[j]? = true)
    (turn : ∀ x ∈ xs, WT K tt (Γ.set j (.val (c x))) fun b G2 => (b = true → WE K te G2 fun r G3 => ∃ d, r.dt? = some d ∧ Hold (p x = true ∧ d = f x ∧ G3.set j (keepV Γ[j]?) = Γ)) ∧ (b = false → Hold (p x = false ∧ G2.set j (keepV Γ[j]?) = Γ)))
    (done : Post (.new ((xs.filter p).map f)) Γ) : WE K (tLc (iList K (tVar k)) (gName j) tt te [j]) Γ Post := by
  refine lc_acc (xs.map c) (fun i es G => G = Γ ∧ es = ((xs.take i).filter p).map f) h0 (by rw [List.length_map]; exact hn) hj hja ⟨rfl, rfl⟩ (fun i es G h => by rw [h.1]; exact h0) ?_ ?_
  · rintro i d es G hd ⟨rfl, rfl⟩
    rw [List.getElem?_map] at hd
    obtain ⟨x, hx, rfl⟩ := Option.map_eq_some_iff.mp hd
    refine wt_mono (turn x (List.mem_of_getElem? hx)) fun b G2 hb => ⟨fun e => ?_, fun e => ?_⟩
    · refine we_mono (hb.1 e) fun r G3 hr => ?_
      obtain ⟨d, h1, h2⟩ := hr
      obtain ⟨h3, rfl, h5⟩ := h2.get
      exact ⟨_, h1, .a ⟨h5, by rw [take_step p f hx, if_pos h3]⟩⟩
    · obtain ⟨h3, h5⟩ := (hb.2 e).get
      exact .a ⟨h5, by rw [take_step p f hx, if_neg (by rw [h3]; exact Bool.false_ne_true), List.append_nil]⟩
  · rintro es G ⟨rfl, rfl⟩
    rw [List.length_map, List.take_length]
    exact done
theorem for_tupT {α : Type} (xs : List α) (c : α → Dt) (Inv : Nat → List Sl → Prop) (h : WE K te Γ fun z Γ1 => Hold (z = .val (.tup (xs.map c)) ∧ Inv 0 Γ1))
    (turn : ∀ (i : Nat) x G, xs[i]? = some x → Inv i G → WG K pin g (c x) G fun G2 => WS K pin tb G2 ⟨fun G => Hold (Inv (i + 1) G), P.rt, P.nx, fun G => Hold (Inv (i + 1) G), P.ex⟩) (done : ∀ G, Inv xs.length G → P.nx G) : WS K pin (tFor (iTup K te) g tb) Γ P :=
  for_tuple (xs.map c) Inv h (fun i d G hd hG => by
    rw [List.getElem?_map] at hd
    obtain ⟨x, hx, rfl⟩ := Option.map_eq_some_iff.mp hd
    exact turn i x G hx hG) (fun G hG => done G (by rwa [List.length_map] at hG))
theorem for_lstT {α : Type} (xs : List α) (c : α → Dt) (Inv : Nat → List Sl → Prop) (h : WE K te Γ fun z Γ1 => Hold (z.dt? = some (.lst (xs.map c)) ∧ Inv 0 Γ1))
    (turn : ∀ (i : Nat) x G, xs[i]? = some x → Inv i G → WG K pin g (c x) G fun G2 => WS K pin tb G2 ⟨fun G => Hold (Inv (i + 1) G), P.rt, P.nx, fun G => Hold (Inv (i + 1) G), P.ex⟩) (done : ∀ G, Inv xs.length G → P.nx G) : WS K pin (tFor (iList K te) g tb) Γ P :=
  for_lst (xs.map c) Inv h (fun i d G hd hG => by
    rw [List.getElem?_map] at hd
    obtain ⟨x, hx, rfl⟩ := Option.map_eq_some_iff.mp hd
    exact turn i x G hx hG) (fun G hG => done G (by rwa [List.length_map] at hG))
theorem for_accT {α : Type} {k : Nat} (xs : List α) (c : α → Dt) (Inv : Nat → List Sl → Prop) (h0 : Γ[k]? = some (.acc (xs.map c))) (i0 : Inv 0 Γ) (hk : ∀ i G, Inv i G → G[k]? = some (.acc (xs.map c)))
    (turn : ∀ (i : Nat) x G, xs[i]? = some x → Inv i G → WG K (k :: pin) g (c x) G fun G2 => WS K (k :: pin) tb G2 ⟨fun G => Hold (Inv (i + 1) G), P.rt, P.nx, fun G => Hold (Inv (i + 1) G), P.ex⟩) (done : ∀ G, Inv xs.length G → P.nx G) : WS K pin (tFor (iList K (tVar k)) g tb) Γ P :=
  for_acc (xs.map c) Inv h0 i0 hk (fun i d G hd hG => by
    rw [List.getElem?_map] at hd
    obtain ⟨x, hx, rfl⟩ := Option.map_eq_some_iff.mp hd
    exact turn i x G hx hG) (fun G hG => done G (by rwa [List.length_map] at hG))
theorem at_mapI {α : Type} {c : α → Dt} {xs : List α} {k : Int} {i : Nat} {x : α} (e : k = (i : Int)) (h : xs[i]? = some x) : atI (xs.map c) k = some (c x) := atI_of (j := i) e (by rw [List.getElem?_map, h]; rfl)
end
end Ab

namespace Ab
open PySem L2
abbrev APX := List Sl → (Re → List Sl → Prop) → (Value → List (Str × Dt) → List Sl → Prop) → Prop
def toSpX (K : PySem.W.Frag) (ap : APX) : Sp := fun vs H Q E => ∃ B as Post XP, Env K B H (vs.map some) as ∧ ap as Post XP ∧
  (∀ v B' H' r as', Go K (vs.map some) B H as B' H' as' → ReOk K [] (Own (vs.map some) as) (Own (vs.map some) as') B' H H' v r → Post r as' → Q v H') ∧
  ∀ cls d fs B' H' as', Go K (vs.map some) B H as B' H' as' → ExB K B' d fs → XP cls fs as' → E cls d H'
abbrev RunOkX (K : PySem.W.Frag) (pin : List Nat) (t : WX → TS) (N : Nat) (ap : APX) : Prop := ∀ (W : WX) (as : List Sl) (Post : Re → List Sl → Prop) (XP : Value → List (Str × Dt) → List Sl → Prop), ap as Post XP →
  WS K pin (t W) (as ++ List.replicate (N - as.length) .un) ⟨fun G => Post (.val .non) (exitArgs pin G as), fun r G => Post r (exitArgs pin G as), fun _ => False, fun _ => False, ⟨W, fun cls fs G => XP cls fs (exitArgs pin G as)⟩⟩
section
variable {P : Program} {w : World} {K : PySem.W.Frag} {mg : Str → Option Value} {base : Heap}
theorem fn_abX {x qual : Str} {st : Stmt} {f : Addr} {fd : FuncData} {N ps : List Str} {k : Nat} {ap : APX} (pin : List Nat) (F : Fun K x qual st f fd) (S : FnScope N ps (defScope st))
    (hlen : ∀ as Post XP, ap as Post XP → as.length = ps.length) (hN : decide (ps.length ≤ N.length) = true) (t : WX → TS)
    (body : ∀ (cdv : Value) (A : Around) (outer : List PySem.Env) (s : Shared) (H : Hp) (E : XK), Room k (A.deeper (PyProof.Rows.envOfC qual (defScope st) s.heap.objs.size f cdv)) →
      PSs (cxOf (L2.CX P w) P w K mg base N qual (defScope st) f cdv A outer s H E) (defBody st) (t fun cls d _ H' => E cls d H'))
    (run : RunOkX K pin t N.length ap) :
    FnOk P w K mg base (L2.CX P w) (k + 1) f fd ps (toSpX K ap) := by
  refine F.okX S (fun vs H Q E h => ?_) (fun cdv A outer s H vs Q E hr h => ?_)
  · obtain ⟨B, as, Post, XP, E1, ha, _⟩ := h
    have := E1.len
    rw [List.length_map] at this
    rw [this]; exact hlen as Post XP ha
  · obtain ⟨B, as, Post, XP, E1, ha, q, qx⟩ := h
    refine ⟨_, body cdv A outer s H E hr, ?_⟩
    have hl : vs.length = as.length := by have := E1.len; simpa using this
    have hps : as.length ≤ N.length := by rw [hlen as Post XP ha]; exact of_decide_eq_true hN
    have E0 := env_start E1 hps
    have fin : ∀ v σ' B' H' r Γ', GoS K pin (L2.start N vs) B H (as ++ List.replicate (N.length - as.length) .un) σ' B' H' Γ' → ReOk K [] (Own (L2.start N vs) (as ++ List.replicate (N.length - as.length) .un)) (Own σ' Γ') B' H H' v r → Post r (exitArgs pin Γ' as) → Q v H' := by
      intro v σ' B' H' r Γ' g kk p
      obtain ⟨g', kr⟩ := exit_go E1 hl g
      exact q v B' H' r _ g' (kr v r kk) p
    exact run _ as Post XP ha (L2.start N vs) B H _ E0 (fun σ' B' H' Γ' g p => fin .non σ' B' H' (.val .non) Γ' g (Is.raw _) p) (fun v σ' B' H' r Γ' g kk p => fin v σ' B' H' r Γ' g kk p) (fun _ _ _ _ _ p => p.elim) (fun _ _ _ _ _ p => p.elim)
      (fun cls d fs σ' B' H' Γ' g hx p => qx cls d fs B' H' _ (exit_go E1 hl g).1 hx p)
end
section
variable {K : PySem.W.Frag} {pin : List Nat} {Γ : List Sl} {P : Ps} {Post : Re → List Sl → Prop} {te : TE} {ta : TA}
def tCallX (K : PySem.W.Frag) (ap : APX) (W : WX) (ta : TA) : TE := fun σ H Q => ta σ H fun vs H1 => toSpX K ap vs H1 Q (fun cls d H' => W cls d σ H')
def WX' (K : PySem.W.Frag) (X : Ex) (te : TE) (Γ : List Sl) (Post : Re → List Sl → Prop) : Prop := ∀ σ B H, Env K B H σ Γ → ∀ Q : VK,
  (∀ v B' H' r Γ', Go K σ B H Γ B' H' Γ' → ReOk K σ (Own σ Γ) (Own σ Γ') B' H H' v r → Post r Γ' → Q v H') →
  (∀ cls d fs B' H' Γ', Go K σ B H Γ B' H' Γ' → ExB K B' d fs → X.q cls fs Γ' → X.W cls d σ H') → te σ H Q
theorem wx_call {X : Ex} {W : WX} {ap : APX} (hW : X.W = W) (h : WA K ta Γ fun rs Γ1 => nodupB (ownsOf rs) = true ∧ Hold (ap (rs.map (argSl Γ1)) (fun r as' => NormP (putBack rs as' Γ1) (Post r)) fun cls fs as' => NormP (putBack rs as' Γ1) (X.q cls fs))) : WX' K X (tCallX K ap W ta) Γ Post := fun σ B H E Q q qx => by
  subst hW
  refine h σ B H E _ fun vs B1 H1 rs Γ1 g1 k1 p1 => ?_
  obtain ⟨E2, kk⟩ := call_go E g1 k1 p1.1
  exact ⟨B1, rs.map (argSl Γ1), _, _, E2, p1.2.get, fun v B2 H2 r as' g2 k2 p => q v B2 H2 r _ (kk B2 H2 as' g2).1 ((kk B2 H2 as' g2).2 v r k2) p,
    fun cls d fs B2 H2 as' g2 hx p => qx cls d fs B2 H2 _ (kk B2 H2 as' g2).1 hx p⟩
theorem ws_asgX {i : Nat} (hp : pin.contains i = false) (hi : decide (i < Γ.length) = true) (h : WX' K P.ex te Γ fun z Γ1 => NormP (Γ1.set i (slOf z)) P.nx) : WS K pin (tAsg te (gName i)) Γ P := fun σ B H D E n r b c xx =>
  h σ B H E _ (fun v B1 H1 z Γ1 g k p => n _ B1 H1 _ (goS_set g k hp (by rw [← g.env.len, E.len]; exact of_decide_eq_true hi)) p) fun cls d fs B1 H1 Γ1 g hx p => xx cls d fs σ B1 H1 Γ1 g.s hx p
theorem we_callN {ap : APX} {E0 : XK} (h : WA K ta Γ fun rs Γ1 => nodupB (ownsOf rs) = true ∧ Hold (ap (rs.map (argSl Γ1)) (fun r as' => NormP (putBack rs as' Γ1) (Post r)) fun cls fs as' => False)) : WE K (tCall (toSpX K ap) [] E0 ta) Γ Post := fun σ B H E Q q => by
  refine h σ B H E _ fun vs B1 H1 rs Γ1 g1 k1 p1 => ?_
  rw [List.append_nil]
  obtain ⟨E2, kk⟩ := call_go E g1 k1 p1.1
  exact ⟨B1, rs.map (argSl Γ1), _, _, E2, p1.2.get, fun v B2 H2 r as' g2 k2 p => q v B2 H2 r _ (kk B2 H2 as' g2).1 ((kk B2 H2 as' g2).2 v r k2) p, fun cls d fs B2 H2 as' g2 hx p => p.elim⟩
end
end Ab

namespace Ab
open PySem L2
section
variable {K : PySem.W.Frag} {B H B' H' : Hp} {σ τ σ' : L2.St} {Γ Δ Γ' : List Sl} {pin : List Nat}
theorem pre_get {α : Type} {a b : List α} {i : Nat} {x : α} (h : a[i]? = some x) : (a ++ b)[i]? = some x := by
  rw [List.getElem?_append_left (List.getElem?_eq_some_iff.mp h).1]; exact h
theorem app_get {α : Type} {a b : List α} {i : Nat} {x : α} (h : (a ++ b)[i]? = some x) : a[i]? = some x ∨ (a.length ≤ i ∧ b[i - a.length]? = some x) := by
  by_cases hi : i < a.length
  · rw [List.getElem?_append_left hi] at h; exact .inl h
  · rw [List.getElem?_append_right (by omega)] at h; exact .inr ⟨by omega, h⟩
theorem own_pre {a : Addr} (h : Own σ Γ a) : Own (σ ++ τ) (Γ ++ Δ) a := by
  obtain ⟨i, c, h1, h2⟩ := h
  exact ⟨i, c, pre_get h1, pre_get h2⟩
theorem env_ext (E : Env K B H (σ ++ τ) (Γ ++ Δ)) (hl : σ.length = Γ.length) (g : GoS K pin σ B H Γ σ' B' H' Γ') : Env K B' H' (σ' ++ τ) (Γ' ++ Δ) := by
  have hl' := g.env.len
  have hL : τ.length = Δ.length := by have := E.len; rw [List.length_append, List.length_append] at this; omega
  -- a cell of a field
  have cell : ∀ {i : Nat} {c : Cn}, Δ[i]? = some (.cel c) → ∃ l o, τ[i]? = some (some (.ref l)) ∧ H l = some o ∧ B l = none ∧ CnIs K B l o c ∧ ¬ Own σ Γ l := fun {i c} h => by
    have h1 : (Γ ++ Δ)[Γ.length + i]? = some (.cel c) := by rw [List.getElem?_append_right (by omega), Nat.add_sub_cancel_left]; exact h
    obtain ⟨l, o, e1, e2, e3, e4⟩ := E.cel _ c h1
    have e1' : τ[i]? = some (some (.ref l)) := by rw [List.getElem?_append_right (by omega)] at e1; rw [← e1]; congr 1; omega
    refine ⟨l, o, e1', e2, e3, e4, fun ⟨j, d, q1, q2⟩ => ?_⟩
    have hj := (List.getElem?_eq_some_iff.mp q1).1
    have := E.sep j (Γ.length + i) d c l (pre_get q1) h1 (pre_get q2) e1
    omega
  refine ⟨by rw [List.length_append, List.length_append, hl', hL], g.env.bh, fun i d h => ?_, fun i c h => ?_, fun i j c d l h1 h2 h3 h4 => ?_⟩
  · rcases app_get h with h | ⟨hi, h⟩
    · obtain ⟨v, e1, e2⟩ := g.env.val i d h
      exact ⟨v, pre_get e1, e2⟩
    · have h1 : (Γ ++ Δ)[Γ.length + (i - Γ'.length)]? = some (.val d) := by rw [List.getElem?_append_right (by omega), Nat.add_sub_cancel_left]; exact h
      obtain ⟨v, e1, e2⟩ := E.val _ d h1
      refine ⟨v, ?_, e2.mono g.mv.bb⟩
      rw [List.getElem?_append_right (by omega)] at e1
      rw [List.getElem?_append_right (by omega), ← e1]; congr 1; omega
  · rcases app_get h with h | ⟨hi, h⟩
    · obtain ⟨l, o, e1, e2⟩ := g.env.cel i c h
      exact ⟨l, o, pre_get e1, e2⟩
    · obtain ⟨l, o, e1, e2, e3, e4, e5⟩ := cell h
      refine ⟨l, o, ?_, g.mv.kp l o e5 e2, g.mv.off l e5 (by rw [e2]; exact fun z => nomatch z) e3, e4.mono g.mv.bb⟩
      rw [List.getElem?_append_right (by omega), hl']; exact e1
  · have mix : ∀ {i j : Nat} {c d : Cn}, Γ'[i]? = some (.cel c) → Δ[j - Γ'.length]? = some (.cel d) → Γ'.length ≤ j → (σ' ++ τ)[i]? = some (some (.ref l)) → (σ' ++ τ)[j]? = some (some (.ref l)) → False := fun {i j c d} h1 h2 hj h3 h4 => by
      have hi := (List.getElem?_eq_some_iff.mp h1).1
      rw [List.getElem?_append_left (by omega)] at h3
      rw [List.getElem?_append_right (by omega), hl'] at h4
      obtain ⟨l', o, e1, e2, e3, e4, e5⟩ := cell h2
      rw [h4] at e1; cases e1
      rcases g.new l ⟨i, c, h1, h3⟩ with z | z
      · exact e5 z
      · rw [z] at e2; cases e2
    rcases app_get h1 with a1 | ⟨i1, a1⟩
    · rcases app_get h2 with a2 | ⟨i2, a2⟩
      · have b1 := (List.getElem?_eq_some_iff.mp a1).1
        have b2 := (List.getElem?_eq_some_iff.mp a2).1
        rw [List.getElem?_append_left (by omega)] at h3 h4
        exact g.env.sep i j c d l a1 a2 h3 h4
      · exact (mix a1 a2 i2 h3 h4).elim
    · rcases app_get h2 with a2 | ⟨i2, a2⟩
      · exact (mix a2 a1 i1 h4 h3).elim
      · have c1 : (Γ ++ Δ)[Γ.length + (i - Γ'.length)]? = some (.cel c) := by rw [List.getElem?_append_right (by omega), Nat.add_sub_cancel_left]; exact a1
        have c2 : (Γ ++ Δ)[Γ.length + (j - Γ'.length)]? = some (.cel d) := by rw [List.getElem?_append_right (by omega), Nat.add_sub_cancel_left]; exact a2
        rw [List.getElem?_append_right (by omega)] at h3 h4
        have d1 : (σ ++ τ)[Γ.length + (i - Γ'.length)]? = some (some (.ref l)) := by rw [List.getElem?_append_right (by omega), ← h3]; congr 1; omega
        have d2 : (σ ++ τ)[Γ.length + (j - Γ'.length)]? = some (some (.ref l)) := by rw [List.getElem?_append_right (by omega), ← h4]; congr 1; omega
        have := E.sep _ _ c d l c1 c2 d1 d2
        omega
end
structure Mj (K : PySem.W.Frag) (C x dx : Addr) (σ τ : L2.St) (B H : Hp) (Γ Δ : List Sl) (ns : List Str) : Prop where
  len : σ.length = Γ.length
  env : Env K B H (σ ++ τ) (Γ ++ Δ)
  sl : σ[0]? = some (some (.ref x))
  un : Γ[0]? = some .un
  no : ¬ Own (σ ++ τ) (Γ ++ Δ) x
  fs : ∃ vs : List V, τ = vs.map some ∧ H x = some (.ins C dx (ns.zip vs)) ∧ vs.length = ns.length
  bx : B x = none
structure GoJ (K : PySem.W.Frag) (C x dx : Addr) (σ τ : L2.St) (B H : Hp) (Γ Δ : List Sl) (σ' τ' : L2.St) (B' H' : Hp) (Γ' Δ' : List Sl) (ns' : List Str) : Prop where
  mv : Mv (fun a => Own (σ ++ τ) (Γ ++ Δ) a ∨ a = x) B H B' H'
  new : ∀ a, Own (σ' ++ τ') (Γ' ++ Δ') a → Own (σ ++ τ) (Γ ++ Δ) a ∨ H a = none
  mg : Mj K C x dx σ' τ' B' H' Γ' Δ' ns'
section
variable {K : PySem.W.Frag} {C x dx : Addr} {σ τ σ1 τ1 σ2 τ2 : L2.St} {B H B1 H1 B2 H2 : Hp} {Γ Δ Γ1 Δ1 Γ2 Δ2 : List Sl} {ns ns1 ns2 : List Str} {pin : List Nat}
theorem Mj.hx (M : Mj K C x dx σ τ B H Γ Δ ns) : H x ≠ none := by
  obtain ⟨vs, _, h, _⟩ := M.fs
  rw [h]; exact fun z => nomatch z
theorem GoJ.trans (a : GoJ K C x dx σ τ B H Γ Δ σ1 τ1 B1 H1 Γ1 Δ1 ns1) (b : GoJ K C x dx σ1 τ1 B1 H1 Γ1 Δ1 σ2 τ2 B2 H2 Γ2 Δ2 ns2) : GoJ K C x dx σ τ B H Γ Δ σ2 τ2 B2 H2 Γ2 Δ2 ns2 :=
  ⟨a.mv.trans (fun c hc => hc.elim (fun h => (a.new c h).imp .inl id) fun h => .inl (.inr h)) b.mv, fun c h => (b.new c h).elim (fun z => a.new c z) fun z => (a.mv.back z).elim (fun q => q.elim .inl fun e => by
    subst e
    exact absurd z a.mg.hx) .inr, b.mg⟩
theorem GoJ.refl (M : Mj K C x dx σ τ B H Γ Δ ns) : GoJ K C x dx σ τ B H Γ Δ σ τ B H Γ Δ ns := ⟨Mv.refl _ _ _, fun _ h => .inl h, M⟩
theorem GoJ.of (M : Mj K C x dx σ τ B H Γ Δ ns) (g : GoS K pin σ B H Γ σ1 B1 H1 Γ1) (hp : 0 ∈ pin) (hu : Γ1[0]? = some .un) : GoJ K C x dx σ τ B H Γ Δ σ1 τ B1 H1 Γ1 Δ ns := by
  have no : ¬ Own σ Γ x := fun z => M.no (own_pre z)
  have hL : τ.length = Δ.length := by have := M.env.len; rw [List.length_append, List.length_append] at this; have := M.len; omega
  have new : ∀ a, Own (σ1 ++ τ) (Γ1 ++ Δ) a → Own (σ ++ τ) (Γ ++ Δ) a ∨ H a = none := fun a ⟨i, c, h1, h2⟩ => by
    have hl1 := g.env.len
    rcases app_get h1 with h1 | ⟨hi, h1⟩
    · have := (List.getElem?_eq_some_iff.mp h1).1
      rw [List.getElem?_append_left (by omega)] at h2
      exact (g.new a ⟨i, c, h1, h2⟩).imp own_pre id
    · rw [List.getElem?_append_right (by omega), hl1] at h2
      refine .inl ⟨Γ.length + (i - Γ1.length), c, ?_, ?_⟩
      · rw [List.getElem?_append_right (by omega), Nat.add_sub_cancel_left]; exact h1
      · rw [List.getElem?_append_right (by have := M.len; omega), ← h2]; congr 1; have := M.len; omega
  obtain ⟨vs, e1, e2, e3⟩ := M.fs
  refine ⟨⟨fun a o na e => g.mv.kp a o (fun z => na (.inl (own_pre z))) e, g.mv.bb, fun a na ha hb => g.mv.off a (fun z => na (.inl (own_pre z))) ha hb⟩, new, ⟨g.env.len, env_ext M.env M.len g, ?_, hu, fun z => ?_, ⟨vs, e1, g.mv.kp x _ no e2, e3⟩, g.mv.off x no M.hx M.bx⟩⟩
  · rw [g.pin 0 hp]; exact M.sl
  · rcases new x z with z | z
    · exact M.no z
    · exact M.hx z
theorem GoJ.put (M : Mj K C x dx σ τ B H Γ Δ ns) {j : Nat} {ds es : List Dt} {l : Addr} {ys : List V} (h : Δ[j]? = some (.acc ds)) (hl : τ[j]? = some (some (.ref l))) (ha : IsA K B ys es) :
    GoJ K C x dx σ τ B H Γ Δ σ τ B (upd H l (.lst ys)) Γ (Δ.set j (.acc es)) ns := by
  have h' : (Γ ++ Δ)[Γ.length + j]? = some (.acc ds) := by rw [List.getElem?_append_right (by omega), Nat.add_sub_cancel_left]; exact h
  have hl' : (σ ++ τ)[Γ.length + j]? = some (some (.ref l)) := by rw [List.getElem?_append_right (by have := M.len; omega), M.len, Nat.add_sub_cancel_left]; exact hl
  have g := Go.put M.env h' hl' ha
  have es' : (Γ ++ Δ).set (Γ.length + j) (.acc es) = Γ ++ Δ.set j (.acc es) := by
    rw [List.set_append_right _ _ (by omega), Nat.add_sub_cancel_left]
  rw [es'] at g
  have own : Own (σ ++ τ) (Γ ++ Δ) l := ⟨_, _, h', hl'⟩
  have nx : x ≠ l := fun z => by subst z; exact M.no own
  obtain ⟨vs, e1, e2, e3⟩ := M.fs
  exact ⟨⟨fun a o na e => g.mv.kp a o (fun z => na (.inl z)) e, g.mv.bb, fun a na ha hb => g.mv.off a (fun z => na (.inl z)) ha hb⟩, fun a z => .inl (g.sub a z), ⟨M.len, g.env, M.sl, M.un, fun z => M.no (g.sub x z), ⟨vs, e1, by rw [upd_ne nx]; exact e2, e3⟩, M.bx⟩⟩
theorem zip_get {ns : List Str} {vs : List V} {f : Str} {j : Nat} {v : V} (hj : ns[j]? = some f) (hn : ∀ i, i < j → ∀ g, ns[i]? = some g → ¬ f = g) (hv : vs[j]? = some v) : (ns.zip vs).lookup f = some v := by
  induction ns generalizing vs j with
  | nil => simp at hj
  | cons n r ih =>
    cases vs with
    | nil => simp at hv
    | cons u us =>
      cases j with
      | zero =>
        simp at hj hv; subst hj hv
        have hb : (n == n) = true := beq_iff_eq.mpr rfl
        simp only [List.zip_cons_cons, List.lookup, hb]
      | succ j =>
        have hne := hn 0 (by omega) n rfl
        have hb : (f == n) = false := beq_eq_false_iff_ne.mpr hne
        simp only [List.zip_cons_cons, List.lookup, hb]
        exact ih (by simpa using hj) (fun i hi g hg => hn (i + 1) (by omega) g (by simpa using hg)) (by simpa using hv)
end
section
variable {K : PySem.W.Frag} {C : Addr} {Γ Δ : List Sl} {ns : List Str} {P : List Sl → List Sl → List Str → Prop} {t u tb : TS} {te : TE} {g : TG}
end
section
variable {K : PySem.W.Frag} {C : Addr} {Γ Δ : List Sl} {ns : List Str} {P : List Sl → List Sl → List Str → Prop} {Post : Dt → List Sl → Prop} {t u tb : TS} {te ta tb' : TE} {g : TG} {f : Str} {j : Nat}
theorem Mj.cell {x dx : Addr} {σ τ : L2.St} {B H : Hp} {ds : List Dt} (M : Mj K C x dx σ τ B H Γ Δ ns) (hf : ns[j]? = some f) (hn : ∀ i, i < j → ∀ g, ns[i]? = some g → ¬ f = g) (h : Δ[j]? = some (.acc ds)) :
    ∃ l vs fs, τ[j]? = some (some (.ref l)) ∧ H l = some (.lst vs) ∧ IsA K B vs ds ∧ H x = some (.ins C dx fs) ∧ fs.lookup f = some (.ref l) := by
  have h' : (Γ ++ Δ)[Γ.length + j]? = some (.acc ds) := by rw [List.getElem?_append_right (by omega), Nat.add_sub_cancel_left]; exact h
  obtain ⟨l, vs, e1, e2, e3, e4⟩ := M.env.acc _ _ h'
  rw [List.getElem?_append_right (by have := M.len; omega), M.len, Nat.add_sub_cancel_left] at e1
  obtain ⟨us, f1, f2, f3⟩ := M.fs
  have hu : us[j]? = some (.ref l) := by
    rw [f1, List.getElem?_map] at e1
    cases q : us[j]? with
    | none => rw [q] at e1; cases e1
    | some u => rw [q] at e1; cases e1; rfl
  exact ⟨l, vs, _, e1, e2, e4, f2, zip_get hf hn hu⟩
end
end Ab

namespace Ab
open PySem L2 PySem.Spec PyProof.Rows
def atN {β : Type} (xs : List (NestedKey × Addr × β)) (k : NestedKey) : Option β := (xs.find? fun x => decide (x.1 = k)).map (·.2.2)
def putN (xs : List (NestedKey × Addr × V)) (k : NestedKey) (b : Addr) (v : V) : List (NestedKey × Addr × V) :=
  if (atN xs k).isSome then xs.map (fun x => if x.1 = k then (x.1, x.2.1, v) else x) else xs ++ [(k, b, v)]
theorem length_putN (xs : List (NestedKey × Addr × V)) (k : NestedKey) (b : Addr) (v : V) : (putN xs k b v).length ≤ xs.length + 1 := by
  unfold putN; split <;> simp
abbrev KN : List (NestedKey × Addr × V) → List (NestedKey × Addr × Value) → Prop := Paired fun p q => p.1 = q.1 ∧ p.2.1 = q.2.1 ∧ RelV p.2.2 q.2.2
theorem KN.val {xs : List (NestedKey × Addr × V)} {ys : List (NestedKey × Addr × Value)} (r : KN xs ys) (k : NestedKey) : RelO (atN xs k) ((atKey ys k).map (·.2)) := by
  induction r with
  | nil => exact True.intro
  | @cons p q ps qs h t ih =>
    obtain ⟨h1, _, h2⟩ := h
    by_cases e : p.1 = k
    · have e' : q.1 = k := h1.symm.trans e
      have b : atKey (q :: qs) k = some q.2 := by simp [atKey, List.find?_cons, e']
      have a : atN (p :: ps) k = some p.2.2 := by simp [atN, List.find?_cons, e]
      rw [a, b]; exact h2
    · have e' : ¬ q.1 = k := fun z => e (h1.trans z)
      have b : atKey (q :: qs) k = atKey qs k := by simp [atKey, List.find?_cons, e']
      have a : atN (p :: ps) k = atN ps k := by simp [atN, List.find?_cons, e]
      rw [a, b]; exact ih
theorem KN.repl {xs : List (NestedKey × Addr × V)} {ys : List (NestedKey × Addr × Value)} (r : KN xs ys) (k : NestedKey) {y : V} {u : Value} (ry : RelV y u) :
    KN (xs.map fun x => if x.1 = k then (x.1, x.2.1, y) else x) (ys.map (putAt k u)) := by
  induction r with
  | nil => exact .nil
  | @cons p q ps qs h t ih =>
    rw [List.map_cons, List.map_cons]
    refine .cons ?_ ih
    obtain ⟨h1, h2, h3⟩ := h
    unfold putAt
    by_cases e : p.1 = k
    · rw [if_pos e, if_pos (h1.symm.trans e)]; exact ⟨h1, h2, ry⟩
    · rw [if_neg e, if_neg (fun z => e (h1.trans z))]; exact ⟨h1, h2, h3⟩
theorem KN.put {xs : List (NestedKey × Addr × V)} {ys : List (NestedKey × Addr × Value)} (r : KN xs ys) (k : NestedKey) (b : Addr) {y : V} {u : Value} (ry : RelV y u) : KN (putN xs k b y) (storedH ys k b u) := by
  have e : (atN xs k).isSome = (atKey ys k).isSome := by rw [(r.val k).isSome_eq, Option.isSome_map]
  unfold putN storedH
  rw [e]
  by_cases q : (atKey ys k).isSome = true
  · rw [if_pos q, if_pos q]; exact r.repl k ry
  · rw [if_neg q, if_neg q]; exact Paired.snoc r ⟨rfl, rfl, ry⟩
def KeysOk (K : PySem.W.Frag) (H : Hp) (xs : List (NestedKey × Addr × V)) : Prop := ∀ (i : Nat) x, xs[i]? = some x → Is K H (.ref x.2.1) (dtN x.1)
theorem KeysOk.mono {K : PySem.W.Frag} {H H' : Hp} {xs : List (NestedKey × Addr × V)} (e : Same H H') (h : KeysOk K H xs) : KeysOk K H' xs := fun i x q => (h i x q).mono e
theorem KeysOk.put {K : PySem.W.Frag} {H : Hp} {xs : List (NestedKey × Addr × V)} {k : NestedKey} {b : Addr} {v : V} (h : KeysOk K H xs) (hb : Is K H (.ref b) (dtN k)) : KeysOk K H (putN xs k b v) := fun i x q => by
  unfold putN at q
  split at q
  · rw [List.getElem?_map] at q
    obtain ⟨y, hy, rfl⟩ := Option.map_eq_some_iff.mp q
    have := h i y hy
    split <;> exact this
  · by_cases hi : i < xs.length
    · rw [List.getElem?_append_left hi] at q; exact h i x q
    · rw [List.getElem?_append_right (by omega)] at q
      generalize i - xs.length = j at q
      cases j with
      | zero => simp at q; subst q; exact hb
      | succ j => simp at q
section
variable {X : Cx} {pins : List (Addr × Obj)} {σ : L2.St} {H : Hp} {s : Shared}
mutual
theorem nk_of (I : Inv X pins σ H s) : ∀ (k : NestedKey) (v : V) (u : Value), Is X.K H v (dtN k) → RelV v u → NestedIs s.heap k u
  | .none, v, u, h, r => by
    rw [dtN] at h
    cases h.rawI
    cases (show u = Value.none from r)
    exact .none
  | .num i, v, u, h, r => by
    rw [dtN] at h
    cases h.rawI
    obtain ⟨t, rfl⟩ := (show ∃ t, u = Value.int i t from r)
    exact .int i t
  | .text x, v, u, h, r => by
    rw [dtN] at h
    cases h.rawI
    obtain ⟨t, rfl⟩ := (show ∃ t, u = Value.str x t from r)
    exact .text x t
  | .tup ks, v, u, h, r => by
    rw [dtN] at h
    obtain ⟨a, xs, rfl, hs, ha⟩ := h.tupR
    cases (show u = Value.ref a from r)
    obtain ⟨its, rv, ⟨o, ho, hc, n, hd⟩, _⟩ := I.tuple hs
    exact .tup ho hc hd (nks_of I ks xs its.toArray.toList ha (by simpa using rv))
theorem nks_of (I : Inv X pins σ H s) : ∀ (ks : List NestedKey) (vs : List V) (us : List Value), IsA X.K H vs (dtNs ks) → Vals vs us → NestedAll s.heap ks us
  | [], vs, us, h, r => by
    have := h.len
    rw [dtNs] at this
    cases vs with
    | nil => cases r; exact .nil
    | cons v vs => simp at this
  | k :: ks, vs, us, h, r => by
    rw [dtNs] at h
    cases vs with
    | nil => have := h.len; simp at this
    | cons v vs =>
      cases r with
      | cons r0 r1 => exact .cons (nk_of I k v _ (h.at_ 0 v _ rfl rfl) r0) (nks_of I ks vs _ (by have := h.drop 1; simpa using this) r1)
end
theorem dn_of {w : World} {a : Addr} {xs : List (NestedKey × Addr × V)} (hw : w = X.w) (I : Inv X pins σ H s) (e : H a = some (dNO w a xs)) (hq : KeysOk X.K H xs) :
    xs.length ≤ sizeLine ∧ (a == sysModules) = false ∧ (∀ x ∈ xs, x.1.depth ≤ 8) ∧ ∃ ys, KN xs ys ∧ s.heap.DictOfH (nestedKind X.prog X.w) a ys := by
  subst hw
  obtain ⟨⟨z, y, dp, ys, r, o, es, ep, h1, h2, h3, h4, h5⟩, _⟩ := (show ObjOk X.prog X.w H s.heap a (.ext (DNOk X.w a xs)) from I.hok a _ e)
  refine ⟨z, y, dp, ys, r, o, es, ep, h1, h2, h3, h4, fun x hx => ?_, h5⟩
  have all : ∀ {l : List (NestedKey × Addr × V)} {m : List (NestedKey × Addr × Value)}, KN l m → (∀ x ∈ l, x.1.depth ≤ 8) → KeysOk X.K H l → ∀ x ∈ m, (nestedKind X.prog X.w).is s.heap x.1 x.2.1 := by
    intro l m q
    induction q with
    | nil => intro _ _ x hx; exact nomatch hx
    | @cons p q ps qs hq t ih =>
      intro dl kl x hx
      rcases List.mem_cons.mp hx with e | hx
      · subst e
        refine ⟨?_, by rw [← hq.1]; exact dl p (by simp)⟩
        rw [← hq.1, ← hq.2.1]
        exact nk_of I p.1 (.ref p.2.1) _ (kl 0 p rfl) rfl
      · exact ih (fun y hy => dl y (by simp [hy])) (fun i y hy => kl (i + 1) y (by simpa using hy)) x hx
  exact all r dp hq x hx
theorem dNO_ok {P : Program} {w : World} {H : Hp} {h : Heap} {a : Addr} {xs : List (NestedKey × Addr × V)} (e : DNOk w a xs h) : ObjOk P w H h a (dNO w a xs) := by
  obtain ⟨z, y, dp, ys, r, o, es, ep, h1, h2, h3, h4, h5⟩ := e
  refine ⟨⟨z, y, dp, ys, r, o, es, ep, h1, h2, h3, h4, h5⟩, ⟨o, h1⟩, fun g1 g2 q k => ?_⟩
  obtain ⟨z, y, dp, ys, r, o, es, ep, h1, h2, h3, h4, h5⟩ := q
  exact ⟨z, y, dp, ys, r, o, es, ep, k o h1, h2, h3, h4, h5⟩
end
def NGet (K : PySem.W.Frag) (w : World) (H : Hp) (a : Addr) (y : V) (o : Option V) : Prop := ∃ xs k b, H a = some (dNO w a xs) ∧ KeysOk K H xs ∧ y = .ref b ∧ Is K H y (dtN k) ∧ k.depth ≤ 8 ∧ o = atN xs k
def NPut (K : PySem.W.Frag) (w : World) (H : Hp) (a : Addr) (y v : V) (H' : Hp) : Prop := ∃ xs k b, H a = some (dNO w a xs) ∧ KeysOk K H xs ∧ y = .ref b ∧ Is K H y (dtN k) ∧ k.depth ≤ 8 ∧ xs.length < sizeLine ∧ H' = upd H a (dNO w a (putN xs k b v))
section
variable {X : Cx} {pins : List (Addr × Obj)} {σ : L2.St} {H : Hp} {s : Shared} {a : Addr} {y v : V} {u r : Value} {o : Option V} {A : Around} {E : Value → Shared → Prop}
theorem n_getItem {Q : Value → Shared → Prop} (hu : A.units + 9 < cLine) (I : Inv X pins σ H s) (g : NGet X.K X.w H a y (some v)) (ry : RelV y u) (h : ∀ w' s', Inv X pins σ H s' → RelV v w' → Q w' s') :
    wpAny (model X.prog X.w) A (getItem (.ref a) u) Q E s := by
  obtain ⟨xs, k, b, e, hq, rfl, ey, hd, l⟩ := g
  cases (show u = Value.ref b from ry)
  obtain ⟨z, hsy, dp, ys, rel, dd⟩ := dn_of rfl I e hq
  obtain ⟨w', hw, rw'⟩ := RelO.some_of (v := v) (o := (atKey ys k).map (·.2)) (by rw [l]; exact rel.val k)
  obtain ⟨p, hp, hp2⟩ := Option.map_eq_some_iff.mp hw
  refine wpAny_getItem_heap (knd := nestedKind X.prog X.w) (show A.in1.units + 8 < cLine by rw [Around.in1_units]; omega) ⟨nk_of I k _ _ ey ry, hd⟩ dd hp ?_
  rw [hp2]
  exact h w' _ (I.tok _) rw'
theorem n_in {Q : Value → Shared → Prop} (hu : A.units + 9 < cLine) (I : Inv X pins σ H s) (g : NGet X.K X.w H a y o) (ry : RelV y u) (h : ∀ s', Inv X pins σ H s' → Q (.bool o.isSome) s') :
    wpAny (model X.prog X.w) A (compareOp .In u (.ref a)) Q E s := by
  obtain ⟨xs, k, b, e, hq, rfl, ey, hd, l⟩ := g
  cases (show u = Value.ref b from ry)
  obtain ⟨z, hsy, dp, ys, rel, dd⟩ := dn_of rfl I e hq
  refine wpAny_in_heap (knd := nestedKind X.prog X.w) (show A.in1.units + 8 < cLine by rw [Around.in1_units]; omega) ⟨nk_of I k _ _ ey ry, hd⟩ hsy dd ?_
  have q := (rel.val k).isSome_eq
  rw [Option.isSome_map] at q
  rw [← q, ← l]
  exact h _ (I.tok _)
theorem n_notIn {Q : Value → Shared → Prop} (hu : A.units + 9 < cLine) (I : Inv X pins σ H s) (g : NGet X.K X.w H a y o) (ry : RelV y u) (h : ∀ s', Inv X pins σ H s' → Q (.bool (!o.isSome)) s') :
    wpAny (model X.prog X.w) A (compareOp .NotIn u (.ref a)) Q E s := by
  obtain ⟨xs, k, b, e, hq, rfl, ey, hd, l⟩ := g
  cases (show u = Value.ref b from ry)
  obtain ⟨z, hsy, dp, ys, rel, dd⟩ := dn_of rfl I e hq
  refine wpAny_notIn_heap (knd := nestedKind X.prog X.w) (show A.in1.units + 8 < cLine by rw [Around.in1_units]; omega) ⟨nk_of I k _ _ ey ry, hd⟩ hsy dd ?_
  have q := (rel.val k).isSome_eq
  rw [Option.isSome_map] at q
  rw [← q, ← l]
  exact h _ (I.tok _)
theorem n_setItem {H' : Hp} {Q : Unit → Shared → Prop} (hu : A.units + 9 < cLine) (I : Inv X pins σ H s) (g : NPut X.K X.w H a y v H') (ry : RelV y u) (rv : RelV v r) (h : ∀ s', Inv X pins σ H' s' → Q () s') :
    wpAny (model X.prog X.w) A (setItem (.ref a) u r) Q E s := by
  obtain ⟨xs, k, b, e, hq, rfl, ey, hd, l, rfl⟩ := g
  cases (show u = Value.ref b from ry)
  obtain ⟨z, hsy, dp, ys, rel, dd⟩ := dn_of rfl I e hq
  have hz : ys.length ≤ sizeLine := by rw [← Paired.length rel]; exact z
  have hl : (putN xs k b v).length ≤ sizeLine := by have := length_putN xs k b v; omega
  refine wpAny_setItem_heap (knd := nestedKind X.prog X.w) (hsz := hz) (show A.in1.units + 8 < cLine by rw [Around.in1_units]; omega) ⟨nk_of I k _ _ ey ry, hd⟩ dd fun h' dd' hs => h _ ?_
  obtain ⟨q, es, ep, hqq, h2, h3, h4, _, h5⟩ := dd'
  refine d_write I (by rw [e]; exact True.intro) hs ⟨q, hqq⟩ (dNO_ok ⟨hl, hsy, fun x hx => ?_, _, rel.put k b rv, q, es, ep, hqq, h2, h3, h4, h5⟩)
  unfold putN at hx
  split at hx
  · obtain ⟨y, hy, rfl⟩ := List.mem_map.mp hx
    have := dp y hy
    split <;> exact this
  · rcases List.mem_append.mp hx with hx | hx
    · exact dp x hx
    · simp at hx; subst hx; exact hd
theorem ndict_typeIs (I : Inv X pins σ H s) (g : NGet X.K X.w H a y o) : s.TypeIs (.ref a) "dict" := by
  obtain ⟨xs, k, b, e, hq, rfl, ey, hd, l⟩ := g
  obtain ⟨z, hsy, dp, ys, rel, dd⟩ := dn_of rfl I e hq
  exact dd.typeIs
end
def tNGet (K : PySem.W.Frag) (w : World) (td ty : TE) : TE := fun σ H Q => td σ H fun x H1 => ty σ H1 fun y H2 => ∃ a v, x = .ref a ∧ NGet K w H2 a y (some v) ∧ Q v H2
def tNIn (K : PySem.W.Frag) (w : World) (ty td : TE) : TE := fun σ H Q => ty σ H fun y H1 => td σ H1 fun x H2 => ∃ a o, x = .ref a ∧ NGet K w H2 a y o ∧ Q (.bl o.isSome) H2
def tNNotIn (K : PySem.W.Frag) (w : World) (ty td : TE) : TE := fun σ H Q => ty σ H fun y H1 => td σ H1 fun x H2 => ∃ a o, x = .ref a ∧ NGet K w H2 a y o ∧ Q (.bl (!o.isSome)) H2
def sNPut (K : PySem.W.Frag) (w : World) (td ty tv : TE) : TS := fun D σ H => tv σ H fun v H1 => td σ H1 fun x H2 => ty σ H2 fun y H3 => ∃ a H4, x = .ref a ∧ NPut K w H3 a y v H4 ∧ D.nx σ H4
def tNNew (w : World) : TE := fun _ H Q => ∀ p, H p = none → Q (.ref p) (upd H p (dNO w p []))
section
variable {X : Cx} {o i e value : Expr} {pos pos' tpos : Pos} {td ty tv : TE} {w : World} {K : PySem.W.Frag}
theorem pe_nget (hw : w = X.w) (hk : K = X.K) (hu : X.A.units + 9 < cLine) (ho : PE X o td) (hi : PE X i ty) (hs : NoSl i) : PE X (.Subscript o i pos) (tNGet K w td ty) := by
  subst hw hk
  refine ⟨fun pins s σ H Q I h => ?_⟩
  refine subD_of PySem.F.slot_dict_getitem.lookup hs (thn (ho.run pins s σ H _ I h) fun u s1 ⟨x, H1, I1, rx, q1⟩ => thn (hi.run pins s1 σ H1 _ I1 q1) fun iv s2 ⟨y, H2, I2, ry, a, v, ex, g, q2⟩ => ?_)
  subst ex
  obtain rfl : u = Value.ref a := rx
  exact ⟨ndict_typeIs I2 g, n_getItem hu I2 g ry fun w' s3 I3 rw' => ⟨v, H2, I3, rw', q2⟩⟩
theorem pc_nin (hw : w = X.w) (hk : K = X.K) (hu : X.A.units + 9 < cLine) (hi : PE X i ty) (ho : PE X o td) : PC X .In i o (tNIn K w ty td) := by
  subst hw hk
  refine ⟨fun pins s σ H Q I h => ?_⟩
  refine thn (hi.run pins s σ H _ I h) fun iv s1 ⟨y, H1, I1, ry, q1⟩ => thn (ho.run pins s1 σ H1 _ I1 q1) fun u s2 ⟨x, H2, I2, rx, a, ov, ex, g, q2⟩ => ?_
  subst ex
  obtain rfl : u = Value.ref a := rx
  exact n_in hu I2 g ry fun s3 I3 => ⟨.bl ov.isSome, H2, I3, rfl, q2⟩
theorem pc_nnotin (hw : w = X.w) (hk : K = X.K) (hu : X.A.units + 9 < cLine) (hi : PE X i ty) (ho : PE X o td) : PC X .NotIn i o (tNNotIn K w ty td) := by
  subst hw hk
  refine ⟨fun pins s σ H Q I h => ?_⟩
  refine thn (hi.run pins s σ H _ I h) fun iv s1 ⟨y, H1, I1, ry, q1⟩ => thn (ho.run pins s1 σ H1 _ I1 q1) fun u s2 ⟨x, H2, I2, rx, a, ov, ex, g, q2⟩ => ?_
  subst ex
  obtain rfl : u = Value.ref a := rx
  exact n_notIn hu I2 g ry fun s3 I3 => ⟨.bl (!ov.isSome), H2, I3, rfl, q2⟩
theorem ps_nput (hw : w = X.w) (hk : K = X.K) (hu : X.A.units + 9 < cLine) (ho : PE X o td) (hi : PE X i ty) (hv : PE X value tv) (hs : swapsWith value (some (.Subscript o i pos')) pos.line X.env = pure false) :
    PS X (.Assign [.Subscript o i pos'] value pos) (sNPut K w td ty tv) := by
  subst hw hk
  refine ⟨fun pins s σ H D I h => ?_⟩
  refine wpAny_Assign_Subscript (thn (hv.run pins s σ H _ I h) fun r s1 ⟨v, H1, I1, rv, q1⟩ => thn (ho.run pins s1 σ H1 _ I1 q1) fun u s2 ⟨x, H2, I2, rx, q2⟩ => thn (hi.run pins s2 σ H2 _ I2 q2) fun iv s3 ⟨y, H3, I3, ry, a, H4, ex, g, q3⟩ => ?_) hs
  subst ex
  obtain rfl : u = Value.ref a := rx
  exact n_setItem hu I3 g ry rv fun s4 I4 => ⟨σ, H4, I4, q3⟩
theorem dn_empty {P : Program} {w : World} {H : Hp} (h : Heap) (hb : sysModules < h.objs.size) : ObjOk P w H (h.push { cls := .type "dict", data := .dict #[] }) h.objs.size (dNO w h.objs.size []) :=
  dNO_ok ⟨Nat.zero_le _, beq_eq_false_iff_ne.mpr (Ne.symm (Nat.ne_of_lt hb)), (fun x hx => by simp at hx), [], .nil, _, #[], 0, Heap.get?_push_size _ rfl, ⟨rfl, rfl, rfl⟩, rfl, rfl, List.nodup_nil⟩
theorem pe_nnew (hw : w = X.w) : PE X (.Dict [] [] pos) (tNNew w) := by
  subst hw
  exact ⟨fun pins s σ H Q I h =>
    wpAny_Dict_empty ⟨.ref s.heap.objs.size, _, I.laid (a := s.heap.objs.size) (o := dNO X.w s.heap.objs.size []) (t' := s.toks) (fun _ _ q => Heap.get?_push_of_some _ q) (Nat.le_refl _) (dn_empty s.heap I.big), rfl, h _ (I.hok.fresh (Nat.le_refl _))⟩⟩
end
theorem kn_keys {w : World} {xs : List (NestedKey × Addr × V)} {ys : List (NestedKey × Addr × Value)} (r : KN xs ys) : ys.map (fun y => Value.ref y.2.1) = (xs.map fun x => x.2.1).map Value.ref := by
  induction r with
  | nil => rfl
  | cons h t ih => rw [List.map_cons, List.map_cons, List.map_cons, ih, h.2.1]
def rListN (w : World) : List V → Hp → VK → Prop := fun xs H Q => ∃ d es, xs = [V.ref d] ∧ H d = some (dNO w d es) ∧ ∀ p, H p = none → Q (.ref p) (upd H p (.lst (es.map fun e => V.ref e.2.1)))
theorem call_list_dN {X : Cx} {w : World} (hc : X.calm = true) : CallR X (.type "list") (rListN w) := by
  intro pins s σ H xs us Q I r h
  obtain ⟨d, es0, rfl, hd, q⟩ := h
  obtain ⟨u, rfl, rx⟩ := r.one
  cases rx
  obtain ⟨⟨z, hs, dp, ks, pr, o, es, ep, ho, hx, hdt, he, hn⟩, _⟩ := (show ObjOk X.prog X.w H s.heap d (.ext (DNOk w d es0)) from I.hok d _ hd)
  have l1 : es.size = ks.length := by rw [← Array.length_toList, he, List.length_map]
  have l2 : es0.length = ks.length := Paired.length pr
  refine PySem.W.kdl_call (kdl_raw hs hx hdt) (I.ok.hd hc) ho (by omega) fun h' tk acc' c' kp e it => ?_
  have ea : acc'.toList = ks.map fun x => Value.ref x.2.1 := by
    have hl : acc'.toList.length = ks.length := by rw [Array.length_toList, it.1]; exact l1
    apply List.ext_getElem?
    intro j
    rw [List.getElem?_map]
    cases hj : acc'.toList[j]? with
    | none =>
      have h1 := List.getElem?_eq_none_iff.mp hj
      rw [List.getElem?_eq_none (by omega)]
      all_goals rfl
    | some v =>
      obtain ⟨en, hen, hv⟩ := it.2 j v (by rw [← Array.getElem?_toList]; exact hj)
      have qe : es.toList[j]? = some en := by rw [Array.getElem?_toList]; exact hen
      rw [he, List.getElem?_map] at qe
      obtain ⟨b, hb, e2⟩ := Option.map_eq_some_iff.mp qe
      rw [hb, hv, ← e2]
      all_goals rfl
  have eb : acc'.toList = (es0.map fun x => x.2.1).map Value.ref := by rw [ea]; exact kn_keys (w := w) pr
  have rv : Vals ((es0.map fun x => x.2.1).map V.ref) acc'.toList := by rw [eb]; exact vals_refs _
  have em : (es0.map fun e => V.ref e.2.1) = (es0.map fun x => x.2.1).map V.ref := by rw [List.map_map]; rfl
  have hz : ((es0.map fun x => x.2.1).map V.ref).length ≤ sizeLine := by rw [List.length_map, List.length_map]; omega
  refine ⟨.ref s.heap.objs.size, _, I.laid (t' := tk) (o := .lst ((es0.map fun x => x.2.1).map V.ref)) kp (Nat.le_refl _) ?_, rfl, by rw [← em]; exact q _ (I.hok.fresh (Nat.le_refl _))⟩
  exact ⟨hz, acc'.toList, c', rv, by rw [Array.toArray_toList]; exact e⟩
theorem inv_frzN {X : Cx} {pins : List (Addr × Obj)} {σ : L2.St} {H : Hp} {s : Shared} {d : Addr} {o : Obj} {w : World} {xs : List (NestedKey × Addr × V)} (I : Inv X pins σ H s) (h : H d = some (.frz o (dNO w d xs))) :
    (d == sysModules) = false ∧ s.heap.get? d = some o ∧ o.ExactDict ∧ ∃ (es : Array DictEntry) (ep : Nat), o.data = .dict es ep ∧ es.size = xs.length ∧
      ∀ (i : Nat) x, xs[i]? = some x → ∃ en : DictEntry, es[i]? = some en ∧ en.key = .ref x.2.1 := by
  obtain ⟨hd, ⟨z, hs, dp, ys, pr, o', es, ep, ho, hx, hdt, he, _⟩, _⟩ := (show ObjOk X.prog X.w H s.heap d (.frz o (.ext (DNOk w d xs))) from I.hok d _ h)
  rw [hd] at ho
  cases ho
  have l1 : es.size = ys.length := by rw [← Array.length_toList, he, List.length_map]
  have l2 : xs.length = ys.length := Paired.length pr
  refine ⟨hs, hd, hx, es, ep, hdt, by omega, fun i x e => ?_⟩
  obtain ⟨b, hb, e1, e2, _⟩ := paired_get pr e
  have qe : es.toList[i]? = some ⟨b.1.hash w, .ref b.2.1, b.2.2⟩ := by rw [he, List.getElem?_map, hb]; rfl
  rw [Array.getElem?_toList] at qe
  exact ⟨_, qe, by rw [e2]⟩
def Itkn (w : World) (d : Addr) (o : Obj) (xs : List (NestedKey × Addr × V)) : It :=
  ⟨fun i H => H d = some (.frz o (dNO w d xs)) ∧ i < xs.length, fun i H x H' => H' = H ∧ ∃ e, xs[i]? = some e ∧ x = .ref e.2.1, fun i H => H d = some (.frz o (dNO w d xs)) ∧ xs.length ≤ i⟩
theorem turn_keysN {P : Program} {w w' : World} {K : PySem.W.Frag} {tg : Expr} {d : Addr} {o : Obj} {es : Array DictEntry} {ep : Nat} {xs : List (NestedKey × Addr × V)} (it : Addr) (hod : o.data = .dict es ep) : Turn P w K tg (Itkn w' d o xs) [it] it (fun i h => h.IsKeyIter it d i xs.length ep) where
  mem := by simp
  obj := fun i h st b hb => by
    have e : b = it := by simpa using hb
    subst e
    obtain ⟨oi, e, c, dd⟩ := st
    exact ⟨oi, e, fun v z => by rw [dd] at z; cases z⟩
  keep := fun i h h' st k => st.at fun oi e => k it (by simp) oi e
  item := by
    intro X hP hw hK hc i pins s σ H E I hf st hg
    subst hP hw hK
    obtain ⟨hd, hi⟩ := hg
    obtain ⟨f0, f1, f2, f3, f4, f5⟩ := hf it (by simp)
    obtain ⟨hs, hgd, hx, es', ep', hdt, hsz, ent⟩ := inv_frzN I hd
    obtain ⟨rfl, rfl⟩ := dict_ep hod hdt
    obtain ⟨e0, hkv⟩ : ∃ p, xs[i]? = some p := ⟨xs[i], List.getElem?_eq_getElem hi⟩
    obtain ⟨en, hen, hkey⟩ := ent i e0 hkv
    refine next_key_item st hgd hdt hsz hen fun h' st' sb => ?_
    have I1 : Inv X pins σ H { s with heap := h' } := I.turned (t' := s.toks) (fun b ob hb e => (sb.2 b hb).trans e) f0 f1 f3 f4 f5
    obtain ⟨oi, e, c, dd⟩ := id st'
    exact ⟨en.key, rfl, go_of (s := { s with heap := h' }) e c dd (by decide) ⟨.ref e0.2.1, H, I1, hkey, ⟨rfl, e0, hkv, rfl⟩, st', fun b hb => (hf b hb).1⟩⟩
  done := by
    intro X hP hw hK hc i pins s σ H E I hf st hg
    subst hP hw hK
    obtain ⟨hd, hi⟩ := hg
    obtain ⟨f0, f1, f2, f3, f4, f5⟩ := hf it (by simp)
    obtain ⟨hs, hgd, hx, es', ep', hdt, hsz, ent⟩ := inv_frzN I hd
    obtain ⟨rfl, rfl⟩ := dict_ep hod hdt
    exact next_key_end (I.ok.hd hc) st hgd hdt hsz hi fun h' eb => ⟨rfl, I.turned (t' := s.toks) (fun b ob hb e => eb b ob hb e) f0 f1 f3 f4 f5⟩
  self := fun A i s Q E st h => by
    refine wpAny_pyIter_slot st.typeIs F.slot_dict_keyiterator_iter (wpAny_call_entry F.slot_dict_keyiterator_iter st.typeIs F.entry_dict_keyiterator_iter ?_ (F.args_dict_keyiterator_iter_1 _))
    show wpAny _ A.in1 (ret (.ref it)) _ _ s
    exact wpAny_pure ⟨_, rfl, "dict_keyiterator", _, st.typeIs, F.slot_dict_keyiterator_next.lookup, h⟩
def iKeysN (w : World) (td : TE) : TI := fun σ H R => td σ H fun x H1 => ∃ d o xs, x = .ref d ∧ H1 d = some (.frz o (dNO w d xs)) ∧ R (Itkn w d o xs) H1
theorem pi_keysN {X : Cx} {tg e : Expr} {td : TE} {w : World} (he : PE X e td) : PI X tg e (iKeysN w td) := by
  refine ⟨fun pins s σ H R I h => ?_⟩
  refine thn (he.run pins s σ H _ I h) fun u s1 ⟨x, H1, I1, rx, d, o, xs, ex, hd, q⟩ => ?_
  subst ex
  obtain rfl : u = Value.ref d := rx
  obtain ⟨hs, hgd, hx, es, ep, hdt, hsz, ent⟩ := inv_frzN I1 hd
  refine iter_keys hs hgd hx hdt (pi_one (tk := s1.toks) I1 _ (turn_keysN _ hdt) ⟨_, Heap.get?_push_size _ rfl, rfl, ?_⟩ q)
  rw [hsz] <;> rfl
def tNDisp1 (K : PySem.W.Frag) (w : World) (tk tv : TE) : TE := fun σ H Q => ∀ p, H p = none → tk σ (upd H p (dNO w p [])) fun x H1 => tv σ H1 fun y H2 => H2 p = some (dNO w p []) ∧ ∃ b k, x = .ref b ∧ Is K H2 x (dtN k) ∧ k.depth ≤ 8 ∧ Q (.ref p) (upd H2 p (dNO w p [(k, b, y)]))
end Ab

namespace Ab
open PySem L2 PySem.Spec PyProof.Rows PySem.W
section
variable {X : Cx} {pins : List (Addr × Obj)} {σ : L2.St} {H : Hp} {s : Shared}
theorem each_zip {β : Type} : ∀ {xs : List V} {us : List Value} {bs : List β}, Vals xs us → xs.length = bs.length → EachIs (fun u b => ∃ x, RelV x u ∧ (x, b) ∈ xs.zip bs) us bs
  | _, _, [], .nil, _ => .nil
  | _, _, _ :: _, .nil, h => by simp at h
  | _, _, [], .cons _ _, h => by simp at h
  | x :: xs, u :: us, b :: bs, .cons r t, h => by
    refine .cons ⟨x, r, by simp⟩ ((each_zip t (by simpa using h)).mono fun u b ⟨y, hy, hm⟩ => ⟨y, hy, by simp [hm]⟩)
theorem each_unzip {β : Type} {R : V → β → Prop} : ∀ {us : List Value} {bs : List β}, EachIs (fun u b => ∃ x, RelV x u ∧ R x b) us bs → ∃ zs : List (V × β), zs.map (·.2) = bs ∧ Vals (zs.map (·.1)) us ∧ ∀ z ∈ zs, R z.1 z.2
  | _, _, .nil => ⟨[], rfl, .nil, fun z h => by simp at h⟩
  | _, b :: _, .cons ⟨x, r, m⟩ t => by
    obtain ⟨zs, e1, e2, e3⟩ := each_unzip t
    refine ⟨(x, b) :: zs, by simp [e1], .cons r e2, fun z h => ?_⟩
    rcases List.mem_cons.mp h with h | h
    · subst h; exact m
    · exact e3 z h
theorem dpAll_len {K : PySem.W.Frag} {H : Hp} : ∀ {xs : List V} {ps : List PyData}, DpAll K H xs ps → xs.length = ps.length
  | [], [], .nil => rfl
  | _ :: _, _ :: _, .cons _ t => by simp [dpAll_len t]
def SortsD {β : Type} (K : PySem.W.Frag) (b : Bool) (a : Addr) (H : Hp) (Q : VK) (xs : List V) (bs : List β) (enc : β → PyData) : Prop :=
  SqL K H a xs ∧ DpAll K H xs (bs.map enc) ∧ AllAlike (bs.map enc) ∧ Sortable (bs.map enc) ∧ (∀ x ∈ bs, (enc x).depth ≤ 8) ∧
  ∀ (zs : List (V × β)) q, zs.map (·.2) = bs.mergeSort (dataLe b enc) → (∀ z ∈ zs, z ∈ xs.zip bs) → H q = none → Q (.ref q) (upd H q (.lst (zs.map (·.1))))
def rSortD0 (K : PySem.W.Frag) : List V → Hp → VK → Prop := fun vs H Q => ∃ (β : Type) (a : Addr) (xs : List V) (bs : List β) (enc : β → PyData), vs = [V.ref a] ∧ SortsD K false a H Q xs bs enc
theorem cr_sortD0 (hu : X.A.units + 12 < cLine) : CallR X (.builtin "sorted") (rSortD0 X.K) := by
  intro pins s σ H vs us Q I r h
  obtain ⟨β, a, xs, bs, enc, rfl, hs, hd, hal, hk, dep, q⟩ := h
  obtain rfl := Vals.ref1 r
  obtain ⟨its, rv, hl, hz⟩ := I.list hs
  obtain ⟨as, ra⟩ := Dp.readsAll I _ _ _ hd rv
  have hlen : xs.length = bs.length := by have := dpAll_len hd; simpa using this
  refine sorted_data hl.isList (each_zip rv hlen) (readsAll_each enc ra) hal hk (by omega) (fun x hx => by have := dep x hx; omega) fun out hol eo => ?_
  obtain ⟨zs, e1, e2, e3⟩ := each_unzip (R := fun x b => (x, b) ∈ xs.zip bs) eo
  obtain ⟨ep, he'⟩ := sortedAll_at s.heap its out.toArray
  have hz2 : (zs.map (·.1)).length ≤ sizeLine := by
    have := e2.length
    rw [this, hol, ← hlen]; exact hz
  exact ⟨.ref _, upd H (s.heap.objs.size + 1) (.lst (zs.map (·.1))), I.laid (t' := s.toks) (fun _ _ => sortedAll_old) (Nat.le_succ _) ⟨hz2, out, ep, e2, he'⟩, rfl, q zs _ e1 (fun z h => e3 z h) (I.hok.fresh (Nat.le_succ _))⟩
def rLeD (K : PySem.W.Frag) : R2 := fun x y H Q => ∃ p q, Dp K H x p ∧ Dp K H y q ∧ alike p q = true ∧ p ≠ .none ∧ p.depth ≤ 8 ∧ Q (.bl (!dataLt q p)) H
theorem op_leD (hu : X.A.units + 12 < cLine) : OpR X (compareOp .LtE) (rLeD X.K) := by
  intro pins s σ H x y v u Q I rx ry h
  obtain ⟨p, q, hp, hq, ha, hn, hd, k⟩ := h
  obtain ⟨as, ra⟩ := Dp.reads I p x v hp rx
  obtain ⟨bs, rb⟩ := Dp.reads I q y u hq ry
  exact rcLe_alike p q X.A s v u as bs ra rb ha hn (by have := Nat.min_le_left p.depth q.depth; omega) X.prog X.w X.xe (EP X pins σ Q) ⟨.bl _, H, I, rfl, k⟩
end
end Ab

namespace Ab
open PySem L2 PySem.W
def dnOf (Γ : List Sl) : Re → Option (World × List (NestedKey × Dt))
  | .val (.dN w kvs) => some (w, kvs)
  | .nw (.dN w kvs) => some (w, kvs)
  | .own i => match Γ[i]? with
    | some (.cel (.dN w kvs)) => some (w, kvs)
    | _ => none
  | _ => none
section
variable {K : PySem.W.Frag} {σ : L2.St} {B H : Hp} {Γ : List Sl} {v : V} {r : Re}
theorem rv_dN {w : World} {kvs : List (NestedKey × Dt)} (E : Env K B H σ Γ) (h : RvOk K σ B H Γ v r) (e : dnOf Γ r = some (w, kvs)) : ∃ a xs, v = .ref a ∧ H a = some (dNO w a xs) ∧ IsNv K B xs kvs := by
  cases r with
  | val d =>
    cases d <;> first | (cases e; done) | skip
    cases e
    cases h with
    | dN h1 hk hq hi => exact ⟨_, _, rfl, E.bh _ _ h1, hk, hq, by have := congrArg List.length hk; simpa using this, hi⟩
  | nw c =>
    cases c with
    | dN w es => cases e; obtain ⟨l, o, rfl, _, h1, _, xs, rfl, h2⟩ := h; exact ⟨l, xs, rfl, h1, h2⟩
    | lst es => cases e
    | dK es => cases e
    | dT es => cases e
  | own i =>
    obtain ⟨l, rfl, hl⟩ := h
    have e' : (match Γ[i]? with
      | some (Sl.cel (.dN w ds)) => some (w, ds)
      | _ => none) = some (w, kvs) := e
    split at e'
    · rename_i es hi
      cases e'
      obtain ⟨c, o, q1, q2, q3, us, rfl, q4⟩ := E.cel i _ hi
      rw [hl] at q1; cases q1
      exact ⟨l, us, rfl, q2, q4⟩
    · cases e'
theorem IsNv.nil : IsNv K B [] [] := ⟨rfl, fun i x h => by simp at h, .nil⟩
theorem IsNv.len {xs : List (NestedKey × Addr × V)} {kvs : List (NestedKey × Dt)} (h : IsNv K B xs kvs) : xs.length = kvs.length := by
  have := congrArg List.length h.ks; simpa using this
theorem IsNv.tail {x : NestedKey × Addr × V} {xs : List (NestedKey × Addr × V)} {kv : NestedKey × Dt} {kvs : List (NestedKey × Dt)} (h : IsNv K B (x :: xs) (kv :: kvs)) : x.1 = kv.1 ∧ Is K B x.2.2 kv.2 ∧ Is K B (.ref x.2.1) (dtN x.1) ∧ IsNv K B xs kvs := by
  have e := h.ks
  simp only [List.map_cons, List.cons.injEq] at e
  exact ⟨e.1, h.vs.at_ 0 _ _ (by simp) (by simp), h.qs 0 x rfl, e.2, fun i y q => h.qs (i + 1) y (by simpa using q), by have := h.vs.drop 1; simpa using this⟩
theorem IsNv.cons {x : NestedKey × Addr × V} {xs : List (NestedKey × Addr × V)} {kv : NestedKey × Dt} {kvs : List (NestedKey × Dt)} (h1 : x.1 = kv.1) (h2 : Is K B x.2.2 kv.2) (h3 : Is K B (.ref x.2.1) (dtN x.1)) (h : IsNv K B xs kvs) : IsNv K B (x :: xs) (kv :: kvs) :=
  ⟨by simp [h1, h.ks], fun i y q => by
    cases i with
    | zero => simp at q; subst q; exact h3
    | succ i => exact h.qs i y (by simpa using q), by simpa using IsA.cons h2 h.vs⟩
theorem IsNv.val (k : NestedKey) : ∀ {xs : List (NestedKey × Addr × V)} {kvs : List (NestedKey × Dt)}, IsNv K B xs kvs → (atN xs k = none ∧ valD kvs k = none) ∨ ∃ v d, atN xs k = some v ∧ valD kvs k = some d ∧ Is K B v d
  | [], [], _ => .inl ⟨rfl, rfl⟩
  | [], _ :: _, h => by have := h.len; simp at this
  | _ :: _, [], h => by have := h.len; simp at this
  | x :: xs, kv :: kvs, h => by
    obtain ⟨h1, h2, h3, h4⟩ := h.tail
    by_cases e : x.1 = k
    · exact .inr ⟨x.2.2, kv.2, by simp [atN, e], by simp [valD, ← h1, e], h2⟩
    · have e' : ¬ kv.1 = k := by rw [← h1]; exact e
      have := IsNv.val k h4
      simpa [atN, valD, e, e'] using this
theorem IsNv.valS {xs : List (NestedKey × Addr × V)} {kvs : List (NestedKey × Dt)} (h : IsNv K B xs kvs) {k : NestedKey} {d : Dt} (e : valD kvs k = some d) : ∃ v, atN xs k = some v ∧ Is K B v d := by
  rcases h.val k with ⟨_, e2⟩ | ⟨v, d', e1, e2, hv⟩
  · rw [e] at e2; cases e2
  · rw [e] at e2; cases e2; exact ⟨v, e1, hv⟩
theorem IsNv.isS {xs : List (NestedKey × Addr × V)} {kvs : List (NestedKey × Dt)} (h : IsNv K B xs kvs) (k : NestedKey) : (atN xs k).isSome = (valD kvs k).isSome := by
  rcases h.val k with ⟨e1, e2⟩ | ⟨v, d', e1, e2, hv⟩ <;> rw [e1, e2] <;> rfl
theorem IsNv.repl {k : NestedKey} {v : V} {d : Dt} (hv : Is K B v d) : ∀ {xs : List (NestedKey × Addr × V)} {kvs : List (NestedKey × Dt)}, IsNv K B xs kvs → IsNv K B (xs.map fun x => if x.1 = k then (x.1, x.2.1, v) else x) (kvs.map fun kv => if kv.1 = k then (kv.1, d) else kv)
  | [], [], _ => .nil
  | [], _ :: _, h => by have := h.len; simp at this
  | _ :: _, [], h => by have := h.len; simp at this
  | x :: xs, kv :: kvs, h => by
    obtain ⟨h1, h2, h3, h4⟩ := h.tail
    rw [List.map_cons, List.map_cons]
    by_cases e : x.1 = k
    · have e' : kv.1 = k := by rw [← h1]; exact e
      rw [if_pos e, if_pos e']
      exact .cons h1 hv h3 (IsNv.repl hv h4)
    · have e' : ¬ kv.1 = k := by rw [← h1]; exact e
      rw [if_neg e, if_neg e']
      exact .cons h1 h2 h3 (IsNv.repl hv h4)
theorem any_valD {kvs : List (NestedKey × Dt)} (k : NestedKey) : (kvs.any fun kv => decide (kv.1 = k)) = (valD kvs k).isSome := by
  induction kvs with
  | nil => rfl
  | cons kv r ih =>
    by_cases e : kv.1 = k
    · simp [valD, e]
    · have : valD (kv :: r) k = valD r k := by simp [valD, e]
      rw [this, List.any_cons, ih]; simp [e]
theorem IsNv.put {xs : List (NestedKey × Addr × V)} {kvs : List (NestedKey × Dt)} (h : IsNv K B xs kvs) {k : NestedKey} {b : Addr} {v : V} {d : Dt} (hb : Is K B (.ref b) (dtN k)) (hv : Is K B v d) : IsNv K B (putN xs k b v) (putE kvs k d) := by
  unfold putN putE
  rw [any_valD, h.isS]
  split
  · exact h.repl hv
  · refine ⟨by simp [h.ks], fun i x q => ?_, by simpa using h.vs.snoc hv⟩
    by_cases hi : i < xs.length
    · rw [List.getElem?_append_left hi] at q; exact h.qs i x q
    · rw [List.getElem?_append_right (by omega)] at q
      generalize i - xs.length = j at q
      cases j with
      | zero => simp at q; subst q; exact hb
      | succ j => simp at q
theorem dtN_ref {v : V} {ks : List NestedKey} (h : Is K B v (dtN (.tup ks))) : ∃ b, v = .ref b := by
  rw [dtN] at h
  obtain ⟨a, xs, rfl, _⟩ := h.tupR
  exact ⟨a, rfl⟩
theorem IsNv.keysOk {xs : List (NestedKey × Addr × V)} {kvs : List (NestedKey × Dt)} (s : Same B H) (h : IsNv K B xs kvs) : KeysOk K H xs := fun i x q => (h.qs i x q).mono s
end
section
variable {K : PySem.W.Frag} {pin : List Nat} {Γ : List Sl} {P : Ps} {Post : Re → List Sl → Prop} {td ty tv tx te : TE} {w : World}
theorem we_nget (h : WE K td Γ fun ra Γ1 => WE K ty Γ1 fun rb Γ2 => Hold (∃ kvs k d, dnOf Γ2 ra = some (w, kvs) ∧ rb = .val (dtN k) ∧ (∃ ks, k = .tup ks) ∧ k.depth ≤ 8 ∧ valD kvs k = some d ∧ Post (.val d) Γ2)) : WE K (tNGet K w td ty) Γ Post :=
  we_two' (r := fun x y H Q => ∃ a v, x = .ref a ∧ NGet K w H a y (some v) ∧ Q v H) (we_mono h fun ra Γ1 h1 => we_mono h1 fun rb Γ2 hp => fun σ B H x y E kx ky Q q => by
    obtain ⟨kvs, k, d, e1, rfl, ⟨ks, rfl⟩, dp, e3, p⟩ := hp.get
    obtain ⟨a, xs, rfl, ha, hk⟩ := rv_dN E kx e1
    obtain ⟨v, hv, hd⟩ := hk.valS e3
    have ky' : Is K B y (dtN (.tup ks)) := ky
    obtain ⟨b, rfl⟩ := dtN_ref ky'
    exact ⟨a, v, rfl, ⟨xs, _, b, ha, hk.keysOk E.bh, rfl, ky'.mono E.bh, dp, hv.symm⟩, q _ B H (.val d) Γ2 (.refl E) hd p⟩)
theorem we_nin (h : WE K ty Γ fun rb Γ1 => WE K td Γ1 fun ra Γ2 => Hold (∃ kvs k, dnOf Γ2 ra = some (w, kvs) ∧ rb = .val (dtN k) ∧ (∃ ks, k = .tup ks) ∧ k.depth ≤ 8 ∧ Post (.val (.bl (valD kvs k).isSome)) Γ2)) : WE K (tNIn K w ty td) Γ Post :=
  we_two' (r := fun y x H Q => ∃ a o, x = .ref a ∧ NGet K w H a y o ∧ Q (.bl o.isSome) H) (we_mono h fun rb Γ1 h1 => we_mono h1 fun ra Γ2 hp => fun σ B H y x E ky kx Q q => by
    obtain ⟨kvs, k, e1, rfl, ⟨ks, rfl⟩, dp, p⟩ := hp.get
    obtain ⟨a, xs, rfl, ha, hk⟩ := rv_dN E kx e1
    have ky' : Is K B y (dtN (.tup ks)) := ky
    obtain ⟨b, rfl⟩ := dtN_ref ky'
    refine ⟨a, _, rfl, ⟨xs, _, b, ha, hk.keysOk E.bh, rfl, ky'.mono E.bh, dp, rfl⟩, ?_⟩
    rw [hk.isS]
    exact q _ B H _ Γ2 (.refl E) (.raw _) p)
theorem we_nnotin (h : WE K ty Γ fun rb Γ1 => WE K td Γ1 fun ra Γ2 => Hold (∃ kvs k, dnOf Γ2 ra = some (w, kvs) ∧ rb = .val (dtN k) ∧ (∃ ks, k = .tup ks) ∧ k.depth ≤ 8 ∧ Post (.val (.bl (!(valD kvs k).isSome))) Γ2)) : WE K (tNNotIn K w ty td) Γ Post :=
  we_two' (r := fun y x H Q => ∃ a o, x = .ref a ∧ NGet K w H a y o ∧ Q (.bl (!o.isSome)) H) (we_mono h fun rb Γ1 h1 => we_mono h1 fun ra Γ2 hp => fun σ B H y x E ky kx Q q => by
    obtain ⟨kvs, k, e1, rfl, ⟨ks, rfl⟩, dp, p⟩ := hp.get
    obtain ⟨a, xs, rfl, ha, hk⟩ := rv_dN E kx e1
    have ky' : Is K B y (dtN (.tup ks)) := ky
    obtain ⟨b, rfl⟩ := dtN_ref ky'
    refine ⟨a, _, rfl, ⟨xs, _, b, ha, hk.keysOk E.bh, rfl, ky'.mono E.bh, dp, rfl⟩, ?_⟩
    rw [hk.isS]
    exact q _ B H _ Γ2 (.refl E) (.raw _) p)
theorem we_nnew (p : Post (.nw (.dN w [])) Γ) : WE K (tNNew w) Γ Post := fun σ B H E Q q => fun a ha =>
  q _ _ _ (.nw (.dN w [])) Γ (Go.beside E ha) ⟨a, _, rfl, .inr ha, E.not_own ha, upd_same, E.base_none ha, [], rfl, .nil⟩ p
theorem ws_nput {i : Nat} (h : WE K tv Γ fun z Γ1 => ∃ d, z.dt? = some d ∧ (∃ c, Γ1[i]? = some (.cel c)) ∧ WE K ty Γ1 fun y Γ2 => Hold (∃ kvs k, y = .val (dtN k) ∧ (∃ ks, k = .tup ks) ∧ k.depth ≤ 8 ∧ Γ2[i]? = some (.cel (.dN w kvs)) ∧ kvs.length < 10000000 ∧ P.nx (Γ2.set i (.cel (.dN w (putE kvs k d)))))) :
    WS K pin (sNPut K w (tVar i) ty tv) Γ P := fun σ B H D E n r b c xx => by
  have h' : WE K tv Γ fun z Γ1 => ∃ d, z = .val d ∧ (∃ c, Γ1[i]? = some (.cel c)) ∧ WE K ty Γ1 fun y Γ2 => Hold (∃ kvs k, y = .val (dtN k) ∧ (∃ ks, k = .tup ks) ∧ k.depth ≤ 8 ∧ Γ2[i]? = some (.cel (.dN w kvs)) ∧ kvs.length < 10000000 ∧ P.nx (Γ2.set i (.cel (.dN w (putE kvs k d))))) := we_freeze (we_mono h fun z Γ1 ⟨d, hd, r⟩ => ⟨d, hd, d, rfl, r⟩)
  refine h' σ B H E _ fun v B1 H1 z Γ1 g1 k1 p1 => ?_
  obtain ⟨d, rfl, ⟨ds1, h1⟩, p1⟩ := p1
  obtain ⟨l, vs, e0, e1, e2, k0⟩ := g1.env.cel i ds1 h1
  refine ⟨.ref l, e0, p1 σ B1 H1 g1.env _ fun y B2 H2 w2 Γ2 g2 k2 p2 => ?_⟩
  obtain ⟨kvs, k, rfl, ⟨ks, rfl⟩, dp, hi, hz, p⟩ := p2.get
  have ky' : Is K B2 y (dtN (.tup ks)) := k2
  obtain ⟨kb, rfl⟩ := dtN_ref ky'
  obtain ⟨l', o, f0, f1, f2, us, rfl, k3⟩ := g2.env.cel i _ hi
  rw [e0] at f0; cases f0
  refine ⟨l, _, rfl, ⟨us, _, kb, f1, k3.keysOk g2.env.bh, rfl, ky'.mono g2.env.bh, dp, Nat.lt_of_lt_of_le (by rw [k3.len]; exact hz) (by decide), rfl⟩, ?_⟩
  exact n _ B2 _ _ ((g1.trans g2).trans (Go.putC (es := .dN w (putE kvs (.tup ks) d)) g2.env hi e0 ⟨_, rfl, k3.put ky' (Is.mono g2.mv.bb k1)⟩)).s p
theorem we_ndisp1 (h : WE K ty Γ fun rk Γ1 => Hold (∃ k, rk = .val (dtN k) ∧ (∃ ks, k = .tup ks) ∧ k.depth ≤ 8 ∧ WE K tv Γ1 fun rv Γ2 => ∃ d, rv.dt? = some d ∧ Post (.nw (.dN w [(k, d)])) Γ2)) : WE K (tNDisp1 K w ty tv) Γ Post := fun σ B H E Q q p hp => by
  have g0 : Go K σ B H Γ B (upd H p (dNO w p [])) Γ := Go.beside E hp
  have no : ¬ Own σ Γ p := E.not_own hp
  refine h σ B _ g0.env _ fun x B1 H1 rk Γ1 g1 k1 p1 => ?_
  obtain ⟨k, rfl, ⟨ks, rfl⟩, dp, p1⟩ := p1.get
  have p1' : WE K tv Γ1 fun rv Γ2 => ∃ d, rv = .val d ∧ Post (.nw (.dN w [(.tup ks, d)])) Γ2 := we_freeze (we_mono p1 fun z Γ1 ⟨d, hd, r⟩ => ⟨d, hd, d, rfl, r⟩)
  refine p1' σ B1 H1 g1.env _ fun y B2 H2 rv Γ2 g2 k2 p2 => ?_
  obtain ⟨d, rfl, p2⟩ := p2
  have g12 := g1.trans g2
  have hx : Is K B2 x (dtN (.tup ks)) := Is.mono g2.mv.bb k1
  obtain ⟨b, rfl⟩ := dtN_ref hx
  have h1 : H2 p = some (dNO w p []) := g12.mv.kp p _ no upd_same
  have b1 : B2 p = none := g12.mv.off p no (by rw [upd_same]; exact fun z => nomatch z) (E.base_none hp)
  have no1 : ¬ Own σ Γ2 p := fun z => no (g12.sub p z)
  refine ⟨h1, b, .tup ks, rfl, hx.mono g2.env.bh, dp, ?_⟩
  have g01 := g0.trans g12
  refine q (.ref p) B2 _ (.nw (.dN w [(.tup ks, d)])) Γ2 ⟨⟨fun a o na e => ?_, g01.mv.bb, g01.mv.off⟩, g01.ac, g01.env.updOff b1 no1⟩ ⟨p, _, rfl, .inr hp, no1, upd_same, b1, _, rfl, .cons rfl k2 hx .nil⟩ p2
  rw [upd_ne (ne_of_none e hp)]
  exact g01.mv.kp a o na e
theorem we_nlist (h : WE K te Γ fun r Γ1 => Hold (∃ kvs, dnOf Γ1 r = some (w, kvs) ∧ Post (.new (kvs.map fun kv => dtN kv.1)) Γ1)) : WE K (tCB (rListN w) (tCons te tNil)) Γ Post :=
  we_cb1 (we_mono h fun r Γ1 hp => fun σ B H x E kx Q q => by
    obtain ⟨kvs, e, p⟩ := hp.get
    obtain ⟨a, xs, rfl, ha, hk⟩ := rv_dN E kx e
    refine ⟨a, xs, rfl, ha, fun l hl => q _ _ _ (.new (kvs.map fun kv => dtN kv.1)) Γ1 (Go.beside E hl) (re_newL E ⟨by simp [hk.len], fun i v d h1 h2 => ?_⟩ hl) p⟩
    rw [List.getElem?_map] at h1 h2
    obtain ⟨x, hx, rfl⟩ := Option.map_eq_some_iff.mp h1
    obtain ⟨kv, hkv, rfl⟩ := Option.map_eq_some_iff.mp h2
    have e1 : (xs.map (·.1))[i]? = some x.1 := by rw [List.getElem?_map, hx]; rfl
    rw [hk.ks, List.getElem?_map, hkv] at e1
    have e2 : kv.1 = x.1 := Option.some.inj e1
    rw [e2]
    exact hk.qs i x hx)
theorem dpAll_of {β : Type} {B H : Hp} {c : β → Dt} {enc : β → PyData} (s : Same B H) : ∀ {bs : List β} {vs : List V}, (∀ b ∈ bs, (c b).py = some (enc b)) → IsA K B vs (bs.map c) → DpAll K H vs (bs.map enc)
  | [], vs, _, h => by
    have : vs = [] := List.eq_nil_of_length_eq_zero (by rw [h.len]; rfl)
    subst this; exact .nil
  | b :: bs, [], _, h => by have := h.len; simp at this
  | b :: bs, v :: vs, he, h => .cons (dp_mono s (is_dp (h.at_ 0 v (c b) rfl rfl) (he b (List.mem_cons_self)))) (dpAll_of s (fun x hx => he x (List.mem_cons_of_mem _ hx)) (by have := h.drop 1; simpa using this))
theorem zip_is {β : Type} {B : Hp} {c : β → Dt} : ∀ {bs : List β} {vs : List V}, IsA K B vs (bs.map c) → ∀ z ∈ vs.zip bs, Is K B z.1 (c z.2)
  | [], [], _, z, hz => by simp at hz
  | [], _ :: _, _, z, hz => by simp at hz
  | _ :: _, [], _, z, hz => by simp at hz
  | b :: bs, v :: vs, h, z, hz => by
    rw [List.zip_cons_cons] at hz
    rcases List.mem_cons.mp hz with hz | hz
    · subst hz; exact h.at_ 0 v (c b) rfl rfl
    · exact zip_is (by have := h.drop 1; simpa using this) z hz
theorem zs_is {β : Type} {B : Hp} {c : β → Dt} : ∀ (zs : List (V × β)), (∀ z ∈ zs, Is K B z.1 (c z.2)) → IsA K B (zs.map (·.1)) ((zs.map (·.2)).map c)
  | [], _ => .nil
  | z :: zs, h => by
    rw [List.map_cons, List.map_cons, List.map_cons]
    exact .cons (h z (List.mem_cons_self)) (zs_is zs fun y hy => h y (List.mem_cons_of_mem _ hy))
theorem we_sortD0 {β : Type} (c : β → Dt) (enc : β → PyData) (h : WE K te Γ fun r Γ1 => Hold (∃ bs : List β, lstOf Γ1 r = some (bs.map c) ∧ (∀ b ∈ bs, (c b).py = some (enc b) ∧ (enc b).depth ≤ 8) ∧ AllAlike (bs.map enc) ∧ Sortable (bs.map enc) ∧ Post (.new ((bs.mergeSort (dataLe false enc)).map c)) Γ1)) : WE K (tCB (rSortD0 K) (tCons te tNil)) Γ Post :=
  we_cb1 (we_mono h fun r Γ1 hp => fun σ B H x E kx Q q => by
    obtain ⟨bs, hs, he, hal, hk, p⟩ := hp.get
    obtain ⟨a, vs, rfl, hq, ha⟩ := rv_lst E kx hs
    refine ⟨β, a, vs, bs, enc, rfl, hq, dpAll_of E.bh (fun b hb => (he b hb).1) ha, hal, hk, fun b hb => (he b hb).2, fun zs l e1 e2 hl => ?_⟩
    refine q _ _ _ (.new ((bs.mergeSort (dataLe false enc)).map c)) Γ1 (Go.beside E hl) (re_newL E ?_ hl) p
    rw [← e1]
    exact zs_is zs fun z hz => zip_is ha z (e2 z hz))
theorem we_leD {ta tb : TE} (h : WE K ta Γ fun ra Γ1 => ∃ d, ra.dt? = some d ∧ WE K tb Γ1 fun rb Γ2 => Hold (∃ e p q, rb.dt? = some e ∧ d.py = some p ∧ e.py = some q ∧ alike p q = true ∧ p ≠ .none ∧ p.depth ≤ 8 ∧ Post (.val (.bl (!dataLt q p))) Γ2)) : WE K (tOp (rLeD K) ta tb) Γ Post := fun σ B H E Q k => by
  have h' : WE K ta Γ fun ra Γ1 => ∃ d, ra = .val d ∧ WE K tb Γ1 fun rb Γ2 => ∃ e, rb = .val e ∧ ∃ p q, d.py = some p ∧ e.py = some q ∧ alike p q = true ∧ p ≠ .none ∧ p.depth ≤ 8 ∧ Post (.val (.bl (!dataLt q p))) Γ2 :=
    we_freeze (we_mono h fun z Γ1 ⟨d, hd, r⟩ => ⟨d, hd, d, rfl, we_freeze (we_mono r fun y Γ2 hp => by obtain ⟨e, p, q, he, rest⟩ := hp.get; exact ⟨e, he, e, rfl, p, q, rest⟩)⟩)
  refine h' σ B H E _ fun x B1 H1 ra Γ1 g1 k1 p1 => ?_
  obtain ⟨d, rfl, p1⟩ := p1
  refine p1 σ B1 H1 g1.env _ fun y B2 H2 rb Γ2 g2 k2 p2 => ?_
  obtain ⟨e, rfl, p, q, e1, e2, r1, r2, r3, r4⟩ := p2
  have k1' : Is K B2 x d := Is.mono g2.mv.bb k1
  exact ⟨p, q, dp_mono g2.env.bh (is_dp k1' e1), dp_mono g2.env.bh (is_dp (show Is K B2 y e from k2) e2), r1, r2, r3, k _ B2 H2 _ Γ2 (g1.trans g2) (.raw _) r4⟩
end
theorem ws_retDN {K : PySem.W.Frag} {pin : List Nat} {Γ : List Sl} {P : Ps} {i : Nat} {w : World} {kvs : List (NestedKey × Dt)} (h : Γ[i]? = some (.cel (.dN w kvs))) (p : P.rt (.nw (.dN w kvs)) (Γ.set i .un)) : WS K pin (tRet (tVar i)) Γ P := ws_ret (we_move h ⟨rfl, p⟩)
end Ab

namespace Ab
open PySem L2 PySem.W
def tNGet1 (K : PySem.W.Frag) (w : World) (td ty : TE) : TE := fun σ H Q => td σ H fun x H1 => ∃ a, x = .ref a ∧ (∃ xs, H1 a = some (dNO w a xs) ∧ KeysOk K H1 xs) ∧ ty σ H1 fun y H2 => ∃ o, NGet K w H2 a y o ∧ Q (o.getD .non) H2
section
variable {X : Cx} {w : World} {K : PySem.W.Frag} {o e : Expr} {td ty : TE} {apos cpos : Pos}
end
section
variable {w : World} {K : PySem.W.Frag} {Γ : List Sl} {td ty : TE} {Post : Re → List Sl → Prop}
theorem we_nget1 (h : WE K td Γ fun ra Γ1 => (∃ kvs0, dnOf Γ1 ra = some (w, kvs0)) ∧ WE K ty Γ1 fun rb Γ2 => Hold (∃ kvs k, dnOf Γ2 ra = some (w, kvs) ∧ rb = .val (dtN k) ∧ (∃ ks, k = .tup ks) ∧ k.depth ≤ 8 ∧ (∀ d, valD kvs k = some d → Post (.val d) Γ2) ∧ (valD kvs k = none → Post (.val .non) Γ2))) : WE K (tNGet1 K w td ty) Γ Post := fun σ B H E Q q => by
  refine h σ B H E _ fun x B1 H1 ra Γ1 g1 k1 p1 => ?_
  obtain ⟨⟨kv0, hs⟩, p1⟩ := p1
  obtain ⟨a, xs, rfl, ha, hk⟩ := rv_dN g1.env k1.rv hs
  refine ⟨a, rfl, ⟨xs, ha, hk.keysOk g1.env.bh⟩, ?_⟩
  refine p1 σ B1 H1 g1.env _ fun y B2 H2 rb Γ2 g2 k2 p2 => ?_
  obtain ⟨kvs, k, e1, rfl, ⟨ks, rfl⟩, dp, p3, p4⟩ := p2.get
  obtain ⟨a2, xs2, ea2, ha2, hk2⟩ := rv_dN g2.env (ReOk.rv (ReOk.step k1 g2.mv g2.sub)) e1
  cases ea2
  have ky' : Is K B2 y (dtN (.tup ks)) := k2
  obtain ⟨b, rfl⟩ := dtN_ref ky'
  have E := g2.env
  refine ⟨_, ⟨xs2, _, b, ha2, hk2.keysOk E.bh, rfl, ky'.mono E.bh, dp, rfl⟩, ?_⟩
  rcases hk2.val (.tup ks) with ⟨f1, f2⟩ | ⟨v, d, f1, f2, hv⟩
  · rw [f1]
    exact q .non B2 H2 (.val .non) Γ2 (g1.trans g2) (Is.raw _) (p4 f2)
  · rw [f1]
    exact q v B2 H2 (.val d) Γ2 (g1.trans g2) hv (p3 d f2)
end
end Ab

namespace Ab
open PySem L2 PySem.W
def rLenN (K : PySem.W.Frag) (w : World) : List V → Hp → VK → Prop := fun xs H Q => ∃ (a : Addr) (es : List (NestedKey × Addr × V)), xs = [V.ref a] ∧ H a = some (dNO w a es) ∧ KeysOk K H es ∧ Q (.int ((es.length : Nat) : Int)) H
theorem call_len_dN {X : Cx} {K : PySem.W.Frag} {w : World} (hw : w = X.w) (hk : K = X.K) : CallR X (.builtin "len") (rLenN K w) := by
  subst hk
  intro pins s σ H xs us Q I r h
  obtain ⟨a, es, rfl, ha, hq, q⟩ := h
  obtain ⟨u, rfl, rx⟩ := vals1 r
  obtain rfl : u = .ref a := rx
  obtain ⟨z, hd, dp, ys, rel, dd⟩ := dn_of hw I ha hq
  have hl : es.length = ys.length := Paired.length rel
  refine call_len_dictH hd dd (by rw [← hl]; rw [sizeLine_eq] at z; omega) ?_
  rw [← hl]
  exact ⟨.int ((es.length : Nat) : Int), H, I.tok _, ⟨_, rfl⟩, q⟩
section
variable {w : World} {K : PySem.W.Frag} {Γ : List Sl} {te : TE} {Post : Re → List Sl → Prop}
theorem we_lenN (h : WE K te Γ fun r Γ1 => Hold (∃ kvs, dnOf Γ1 r = some (w, kvs) ∧ Post (.val (.int kvs.length)) Γ1)) : WE K (tCB (rLenN K w) (tCons te tNil)) Γ Post :=
  we_cb1 (we_mono h fun r Γ1 hp => fun σ B H x E kx Q q => by
    obtain ⟨kvs, e, p⟩ := hp.get
    obtain ⟨a, xs, rfl, ha, hk⟩ := rv_dN E kx e
    refine ⟨a, xs, rfl, ha, hk.keysOk E.bh, ?_⟩
    rw [hk.len]
    exact q _ B H _ Γ1 (.refl E) (.raw _) p)
end
end Ab

namespace Ab
open PySem L2
section
variable {X : Cx} {d : Addr} {es : Array DictEntry} {n : Nat}
end

inductive KV (K : PySem.W.Frag) : V → Dt → Prop where
  | raw (v : V) : KV K v (.raw v)
  | tup {a : Addr} {xs : List V} (h : KTup K a xs) : KV K (.ref a) (.tup (xs.map Dt.raw))
theorem KV.is {K : PySem.W.Frag} {B : Hp} {v : V} {d : Dt} (h : KV K v d) : Is K B v d := by
  cases h with
  | raw => exact .raw _
  | @tup a xs h =>
    have ha : IsA K B xs (xs.map Dt.raw) := IsA.raws
    exact Is.tup (.inr h) ha.len ha.at_
def KEnts (K : PySem.W.Frag) : List DictEntry → List (Str × Dt) → Prop
  | [], [] => True
  | e :: es, kv :: kvs => (∃ t, e.key = .str kv.1 t) ∧ (∃ v, RelV v e.val ∧ KV K v kv.2) ∧ KEnts K es kvs
  | _, _ => False
def valS (kvs : List (Str × Dt)) (z : Str) : Option Dt := (kvs.find? fun kv => decide (kv.1 = z)).map (·.2)
structure KDic (K : PySem.W.Frag) (w : World) (c : Addr) (kvs : List (Str × Dt)) : Prop where
  ex : ∃ es n, KDict K w c es n ∧ KEnts K es.toList kvs
theorem KEnts.val {K : PySem.W.Frag} : ∀ {es : List DictEntry} {kvs : List (Str × Dt)}, KEnts K es kvs → ∀ z, (es.any fun e => e.refKey) = false ∧ ((valS kvs z = none ∧ es.find? (fun e => e.key.isStr z) = none) ∨ ∃ e d v, valS kvs z = some d ∧ es.find? (fun e => e.key.isStr z) = some e ∧ RelV v e.val ∧ KV K v d)
  | [], [], _, z => ⟨rfl, .inl ⟨rfl, rfl⟩⟩
  | [], _ :: _, h, _ => h.elim
  | _ :: _, [], h, _ => h.elim
  | e :: es, kv :: kvs, h, z => by
    obtain ⟨⟨t, hk⟩, ⟨v, hv, hd⟩, hr⟩ := h
    obtain ⟨i1, i2⟩ := KEnts.val hr z
    refine ⟨?_, ?_⟩
    · rw [List.any_cons, i1, Bool.or_false]
      unfold DictEntry.refKey
      rw [hk]
    · unfold valS at *
      rw [List.find?_cons, List.find?_cons]
      have e1 : e.key.isStr z = decide (kv.1 = z) := by
        rw [hk]
        show (kv.1 == z) = decide (kv.1 = z)
        rw [Bool.eq_iff_iff]; simp
      rw [e1]
      by_cases c : kv.1 = z
      · rw [decide_eq_true c]
        exact .inr ⟨e, kv.2, v, rfl, rfl, hv, hd⟩
      · rw [decide_eq_false c]
        exact i2
theorem KDic.val {K : PySem.W.Frag} {w : World} {c : Addr} {kvs : List (Str × Dt)} (h : KDic K w c kvs) (z : Str) : (valS kvs z = none ∧ PySem.W.nsIn K c z = some none) ∨ ∃ u d v, valS kvs z = some d ∧ PySem.W.nsIn K c z = some (some u) ∧ RelV v u ∧ KV K v d := by
  obtain ⟨es, n, D, E⟩ := h.ex
  have hn : PySem.W.nsIn K c z = match es.toList.find? (fun x => x.key.isStr z) with
    | some e => some (some e.val)
    | none => if (es.toList.any fun x => x.refKey) = true then none else some none := by
    unfold PySem.W.nsIn; rw [D.at_]
    rfl
  obtain ⟨i1, i2⟩ := E.val z
  rw [hn, i1]
  rcases i2 with ⟨a, b⟩ | ⟨e, d, v, a, b, c1, c2⟩
  · rw [b]; exact .inl ⟨a, rfl⟩
  · rw [b]; exact .inr ⟨e.val, d, v, a, rfl, c1, c2⟩
section
variable {K : PySem.W.Frag} {w : World} {c : Addr} {kvs : List (Str × Dt)} {Γ : List Sl} {Post : Re → List Sl → Prop} {tk tx : TE}
end
section
variable {K : PySem.W.Frag} {pin : List Nat} {Γ : List Sl} {P : Ps} {Post : Re → List Sl → Prop} {te ta tb : TE} {g : TG} {tb' : TS}
end
section
variable {K : PySem.W.Frag} {pin : List Nat} {Γ : List Sl} {P : Ps} {Post : Re → List Sl → Prop} {td ty tv tx : TE}
end
def look {α κ : Type} [DecidableEq κ] (xs : List (κ × α)) (z : κ) : Option α := (xs.find? fun kv => decide (kv.1 = z)).map (·.2)
section
variable {K : PySem.W.Frag} {pin : List Nat} {Γ : List Sl} {P : Ps} {te : TE} {g : TG} {tb' : TS}
end
end Ab

namespace Ab
open PySem L2
section
variable {K : PySem.W.Frag} {w : World} {c : Addr} {kvs : List (Str × Dt)} {pin : List Nat} {Γ : List Sl} {P : Ps} {Post : Re → List Sl → Prop} {te : TE}
theorem we_listD (h : WE K te Γ fun r Γ1 => ∃ kvs, dkOf Γ1 r = some kvs ∧ Post (.new (kvs.map fun kv => .raw (kV kv.1))) Γ1) : WE K (tCB rListD (tCons te tNil)) Γ Post := fun σ B H E Q q => by
  refine h σ B H E _ fun x B1 H1 r Γ1 g1 k1 p1 => ?_
  obtain ⟨kvs, e, p⟩ := p1
  obtain ⟨a, xs, rfl, ha, hk⟩ := rv_dK g1.env k1.rv e
  refine ⟨a, xs, rfl, ha, fun q' hq' => ?_⟩
  have hx : (xs.map fun kv => kV kv.1).map Dt.raw = kvs.map fun kv => Dt.raw (kV kv.1) := by
    have := congrArg (List.map fun k => Dt.raw (kV k)) hk.ks
    rw [List.map_map, List.map_map] at this
    rw [List.map_map]; exact this
  have ia : IsA K B1 (xs.map fun kv => kV kv.1) (kvs.map fun kv => Dt.raw (kV kv.1)) := by rw [← hx]; exact IsA.raws
  have kk : ReOk K σ (Own σ Γ1) (Own σ Γ1) B1 H1 (upd H1 q' (.lst (xs.map fun kv => kV kv.1))) (.ref q') (.new (kvs.map fun kv => .raw (kV kv.1))) := ⟨q', _, rfl, .inr hq', g1.env.not_own hq', upd_same, g1.env.base_none hq', _, rfl, ia⟩
  exact q _ _ _ (.new _) Γ1 (g1.trans (Go.beside g1.env hq')) (ReOk.earlier kk g1.mv fun a h => .inl (g1.sub a h)) p
end
theorem ws_retK {K : PySem.W.Frag} {pin : List Nat} {Γ : List Sl} {P : Ps} {i : Nat} {kvs : List (Key × Dt)} (h : Γ[i]? = some (.cel (.dK kvs))) (p : P.rt (.nw (.dK kvs)) (Γ.set i .un)) : WS K pin (tRet (tVar i)) Γ P := ws_ret (we_move h ⟨rfl, p⟩)
end Ab

namespace Ab
open PySem L2
section
variable {K : PySem.W.Frag} {pin : List Nat} {Γ : List Sl} {P : Ps}
end
section
variable {K : PySem.W.Frag} {Γ : List Sl} {Post : Re → List Sl → Prop} {te tk tv : TE}
theorem putE_len {κ : Type} [DecidableEq κ] (l : List (κ × Dt)) (k : κ) (d : Dt) : (putE l k d).length ≤ l.length + 1 := by
  unfold putE
  split
  · rw [List.length_map]; omega
  · rw [List.length_append]; exact Nat.le_refl _
end
end Ab

namespace Ab
open PySem L2
inductive PD where
  | int (i : Int)
  | str (s : Str)
  | tup (l : List PD)
mutual
def PD.dt : PD → Dt
  | .int i => .int i
  | .str s => .str s
  | .tup l => .tup (PD.dts l)
def PD.dts : List PD → List Dt
  | [] => []
  | x :: r => x.dt :: PD.dts r
end
mutual
def PD.py : PD → PyData
  | .int i => .int i
  | .str s => .str s
  | .tup l => .tuple (PD.pys l)
def PD.pys : List PD → List PyData
  | [] => []
  | x :: r => x.py :: PD.pys r
end
mutual
def PD.dep : PD → Nat
  | .int _ => 0
  | .str _ => 0
  | .tup l => PD.deps l + 1
def PD.deps : List PD → Nat
  | [] => 0
  | x :: r => max x.dep (PD.deps r)
end
mutual
def PD.ok : PD → Prop
  | .int _ => True
  | .str s => CS s
  | .tup l => l.length ≤ 1000000 ∧ PD.oks l
def PD.oks : List PD → Prop
  | [] => True
  | x :: r => x.ok ∧ PD.oks r
end
theorem PD.dts_map : ∀ l : List PD, PD.dts l = l.map PD.dt
  | [] => by rw [PD.dts]; rfl
  | x :: r => by rw [PD.dts, PD.dts_map r]; rfl
theorem PD.pys_map : ∀ l : List PD, PD.pys l = l.map PD.py
  | [] => by rw [PD.pys]; rfl
  | x :: r => by rw [PD.pys, PD.pys_map r]; rfl
theorem PD.deps_le {n : Nat} : ∀ {l : List PD}, PD.deps l ≤ n ↔ ∀ x ∈ l, x.dep ≤ n
  | [] => by simp [PD.deps]
  | x :: r => by
    rw [PD.deps, Nat.max_le, PD.deps_le (l := r)]
    simp
theorem PD.oks_iff : ∀ {l : List PD}, PD.oks l ↔ ∀ x ∈ l, x.ok
  | [] => by simp [PD.oks]
  | x :: r => by
    rw [PD.oks, PD.oks_iff (l := r)]
    simp
def PD.eq (a b : PD) : Bool := PyData.eqv a.py b.py
def PD.eqs (a b : List PD) : Bool := PyData.eqvAll (PD.pys a) (PD.pys b)
mutual
theorem PD.eq_iff : ∀ (a b : PD), PD.eq a b = true ↔ a = b
  | .int i, .int j => by simp [PD.eq, PD.py, PyData.eqv]
  | .int i, .str t => by simp [PD.eq, PD.py, PyData.eqv]
  | .int i, .tup m => by simp [PD.eq, PD.py, PyData.eqv]
  | .str s, .int j => by simp [PD.eq, PD.py, PyData.eqv]
  | .str s, .str t => by simp [PD.eq, PD.py, PyData.eqv]
  | .str s, .tup m => by simp [PD.eq, PD.py, PyData.eqv]
  | .tup l, .int j => by simp [PD.eq, PD.py, PyData.eqv]
  | .tup l, .str t => by simp [PD.eq, PD.py, PyData.eqv]
  | .tup l, .tup m => by
    have h := PD.eqs_iff l m
    unfold PD.eqs at h
    simp only [PD.eq, PD.py, PyData.eqv, PD.tup.injEq]
    exact h
theorem PD.eqs_iff : ∀ (a b : List PD), PD.eqs a b = true ↔ a = b
  | [], [] => by simp [PD.eqs, PD.pys, PyData.eqvAll]
  | [], y :: s => by simp [PD.eqs, PD.pys, PyData.eqvAll]
  | x :: r, [] => by simp [PD.eqs, PD.pys, PyData.eqvAll]
  | x :: r, y :: s => by
    have h1 := PD.eq_iff x y
    have h2 := PD.eqs_iff r s
    unfold PD.eqs at h2
    unfold PD.eq at h1
    simp only [PD.eqs, PD.pys, PyData.eqvAll, Bool.and_eq_true, List.cons.injEq]
    rw [h1, h2]
end
mutual
theorem PD.py_dt : ∀ a : PD, Dt.py a.dt = some a.py
  | .int i => by rw [PD.dt, PD.py]; rfl
  | .str s => by rw [PD.dt, PD.py]; rfl
  | .tup l => by rw [PD.dt, PD.py, Dt.py, PD.pys_dts l]; rfl
theorem PD.pys_dts : ∀ l : List PD, pyAll (PD.dts l) = some (PD.pys l)
  | [] => by rw [PD.dts, PD.pys, pyAll]
  | x :: r => by rw [PD.dts, PD.pys, pyAll, PD.py_dt x, PD.pys_dts r]
end
mutual
theorem PD.py_ok : ∀ a : PD, a.ok → a.py.canLay0 = true ∧ a.py.depth ≤ a.dep
  | .int i, _ => by rw [PD.py, PD.dep]; exact ⟨by simp [PyData.canLay0], by simp [PyData.depth]⟩
  | .str s, h => by
    rw [PD.ok] at h
    rw [PD.py, PD.dep]
    refine ⟨?_, by simp [PyData.depth]⟩
    rw [PyData.canLay0]
    show s.cps.all (fun c => decide (c < 1114112)) = true
    rw [← Array.all_toList, List.all_eq_true]
    exact fun c hc => decide_eq_true (h c hc)
  | .tup l, h => by
    rw [PD.ok] at h
    obtain ⟨h1, h2⟩ := PD.pys_ok l h.2
    rw [PD.py, PD.dep, PyData.canLay0, PyData.depth, h1]
    exact ⟨rfl, by omega⟩
theorem PD.pys_ok : ∀ l : List PD, PD.oks l → PyData.canLayAll0 (PD.pys l) = true ∧ PyData.depthAll (PD.pys l) ≤ PD.deps l
  | [], _ => by rw [PD.pys, PD.deps, PyData.canLayAll0, PyData.depthAll]; exact ⟨rfl, by omega⟩
  | x :: r, h => by
    rw [PD.oks] at h
    obtain ⟨a1, a2⟩ := PD.py_ok x h.1
    obtain ⟨b1, b2⟩ := PD.pys_ok r h.2
    rw [PD.pys, PD.deps, PyData.canLayAll0, PyData.depthAll, a1, b1]
    exact ⟨rfl, by omega⟩
end
theorem eqp_pd {Γ : List Sl} {Post : Re → List Sl → Prop} {neg : Bool} {a b : PD} (ha : a.ok) (hb : b.ok) (da : a.dep ≤ 64) (db : b.dep ≤ 64) (k : Post (.val (.bl (neg ^^ PD.eq a b))) Γ) : EqP neg (.val a.dt) (.val b.dt) Γ Post := by
  obtain ⟨a1, a2⟩ := PD.py_ok a ha
  obtain ⟨b1, b2⟩ := PD.py_ok b hb
  refine eqp_d (PD.py_dt a) (PD.py_dt b) ?_ ?_ k
  · unfold SeqAt.shaped; rw [a1, decide_eq_true (by omega)]; rfl
  · unfold SeqAt.shaped; rw [b1, decide_eq_true (by omega)]; rfl
inductive SmP : List Sl → Bool → Nat → Prop
  | dat (a b : PD) (ha : a.ok) (hb : b.ok) : SmP [.val a.dt, .val b.dt] (PD.eq a b) (max a.dep b.dep)
  | lst (a b : List PD) (ha : PD.oks a) (hb : PD.oks b) (la : a.length ≤ 1000000) (lb : b.length ≤ 1000000) : SmP [.acc (PD.dts a), .acc (PD.dts b)] (PD.eqs a b) (max (PD.deps a) (PD.deps b) + 1)
end Ab

namespace Ab
open PySem L2
structure Yp where
  nx : List Dt → List Sl → Prop
  bk : List Dt → List Sl → Prop := fun _ _ => False
  ct : List Dt → List Sl → Prop := fun _ _ => False
section
variable {K : PySem.W.Frag} {pin : List Nat} {Γ : List Sl} {ys : List Dt} {P : Yp} {te : TE} {t u tb : TGn}
end
section
variable {K : PySem.W.Frag} {Γ : List Sl} {ta : TA} {Post : Re → List Sl → Prop}
end
section
variable {K : PySem.W.Frag} {pin : List Nat} {Γ : List Sl} {P : Ps} {g : TG} {tb' : TS}
theorem passL0 {X : Cx} : Passes (L2.CX X.prog X.w) X E0 := fun _ _ _ _ _ _ _ h => by
  obtain ⟨_, _, _, _, _, _, _, _, _, _, _, _, z⟩ := h
  exact z.elim
end
end Ab

namespace Ab
open PySem L2
theorem ExB.nil {K : PySem.W.Frag} {B : Hp} {d : Option Addr} (h : ExB K B d []) : d = Option.none := by
  cases h with
  | none => rfl
  | some _ _ _ hne => exact absurd rfl hne
section
variable {K : PySem.W.Frag} {pin : List Nat} {Γ : List Sl} {P : Ps}
theorem GoS.un {σ σ1 : L2.St} {B H B1 H1 : Hp} {Γ1 : List Sl} (g : GoS K pin σ B H Γ σ1 B1 H1 Γ1) {i : Nat} (hp : pin.contains i = false) : GoS K pin σ B H Γ (σ1.set i none) B1 H1 (Γ1.set i .un) := by
  by_cases hi : i < Γ1.length
  · refine g.trans ⟨Mv.refl _ _ _, fun a h => .inl (h.set_ne fun ds z => nomatch z), g.env.setU none hi, pin_set hp⟩
  · rw [List.set_eq_of_length_le (l := σ1) (by rw [g.env.len]; omega), List.set_eq_of_length_le (l := Γ1) (by omega)]
    exact g
end
end Ab

namespace Ab
open PySem L2
def XD (d : Option Addr) (H : Hp) : Prop := d = none ∨ ∃ (dd : Addr) (fs : List (Str × V)), d = some dd ∧ H dd = some (.xd fs)
theorem ExB.is {K : PySem.W.Frag} {B : Hp} {a : Addr} {d : Option Addr} {gs : List (Str × Dt)} (h : ExB K B d gs) : Is K B (.ref a) (.exn a d gs) := by
  cases h with
  | none => exact .exn0
  | some h hk hi _ => exact .exnD h hk hi
theorem XD.mono {d : Option Addr} {B H : Hp} (e : Same B H) (h : XD d B) : XD d H := by
  rcases h with h | ⟨dd, fs, h1, h2⟩
  · exact .inl h
  · exact .inr ⟨dd, fs, h1, e _ _ h2⟩
section
variable {K : PySem.W.Frag} {pin : List Nat} {Γ : List Sl} {P : Ps}
end
end Ab

namespace Ab
open PySem L2
section
variable {K : PySem.W.Frag} {pin : List Nat} {Γ : List Sl} {P : Ps} {ta : TA}
theorem ws_par {i j : Nat} (hp : pin.contains i = false) (hq : pin.contains j = false) (hi : decide (i < Γ.length) = true) (hj : decide (j < Γ.length) = true)
    (h : WD K ta Γ fun ds Γ1 => ∃ d e, ds = [d, e] ∧ NormP ((Γ1.set i (.val d)).set j (.val e)) P.nx) : WS K pin (tPar i j ta) Γ P := fun σ B H D E n r b c xx =>
  h σ B H E _ fun vs B1 H1 ds Γ1 g k p => by
    obtain ⟨d, e, rfl, p⟩ := p
    obtain ⟨x, y, rfl⟩ : ∃ x y, vs = [x, y] := by
      match vs, k.len with
      | [x, y], _ => exact ⟨x, y, rfl⟩
    refine ⟨x, y, rfl, ?_⟩
    have hl : Γ1.length = Γ.length := by rw [← g.env.len, E.len]
    have g1 := goS_set (pin := pin) (r := .val d) g (k.at_ 0 x d rfl rfl) hp (by rw [hl]; exact of_decide_eq_true hi)
    have g2 := goS_set (pin := pin) (r := .val e) (Go.refl g1.env) (k.at_ 1 y e rfl rfl) hq (by rw [List.length_set, hl]; exact of_decide_eq_true hj)
    exact n _ B1 H1 _ (g1.trans g2) p
theorem ws_par3 {i j l : Nat} (hp : pin.contains i = false) (hq : pin.contains j = false) (hs : pin.contains l = false) (hi : decide (i < Γ.length) = true) (hj : decide (j < Γ.length) = true) (hl : decide (l < Γ.length) = true)
    (h : WD K ta Γ fun ds Γ1 => ∃ d e f, ds = [d, e, f] ∧ NormP (((Γ1.set i (.val d)).set j (.val e)).set l (.val f)) P.nx) : WS K pin (tPar3 i j l ta) Γ P := fun σ B H D E n r b c xx =>
  h σ B H E _ fun vs B1 H1 ds Γ1 g k p => by
    obtain ⟨d, e, f, rfl, p⟩ := p
    obtain ⟨x, y, z, rfl⟩ : ∃ x y z, vs = [x, y, z] := by
      match vs, k.len with
      | [x, y, z], _ => exact ⟨x, y, z, rfl⟩
    refine ⟨x, y, z, rfl, ?_⟩
    have hL : Γ1.length = Γ.length := by rw [← g.env.len, E.len]
    have g1 := goS_set (pin := pin) (r := .val d) g (k.at_ 0 x d rfl rfl) hp (by rw [hL]; exact of_decide_eq_true hi)
    have g2 := goS_set (pin := pin) (r := .val e) (Go.refl g1.env) (k.at_ 1 y e rfl rfl) hq (by rw [List.length_set, hL]; exact of_decide_eq_true hj)
    have g3 := goS_set (pin := pin) (r := .val f) (Go.refl g2.env) (k.at_ 2 z f rfl rfl) hs (by rw [List.length_set, List.length_set, hL]; exact of_decide_eq_true hl)
    exact n _ B1 H1 _ ((g1.trans g2).trans g3) p
end
end Ab

namespace L2
open PySem PySem.Spec PyProof.Rows PySem.W PySem.Calls
theorem mro_has {K : Frag} {C : Addr} {cd : ClassData} {bm : List Value} (hcd : clsIn K C = some cd) (hm : cd.mro = .ref C :: bm) (b : Value) (hb : b = .ref C ∨ bm.contains b = true) : mroIn K C b = some true := by
  unfold mroIn
  rw [hcd, Option.bind_some, hm, if_neg (show ¬ (List.isEmpty (Value.ref C :: bm) = true) from Bool.false_ne_true)]
  rcases hb with rfl | hb
  · simp
  · rw [List.contains_cons, hb, Bool.or_true]
theorem sup_callWith {i : String} {u x : Addr} {M : Model} {A : Around} {E : Value → Shared → Prop} {s : Shared} {pos : Pos} {env : Env} {e : Expr} {rest : List Expr} {Q : Value → Shared → Prop}
    (h : wpAny M A (spliced (backTo pos (starEach (e :: rest) env))) (fun vs s₁ => KxsAt i u x s₁.heap ∧ wpAny M A (call (.ref u) vs) Q E s₁) E s)
    (he : starEach (e :: rest) env = (false, eval e env) :: starEach rest env) (hplain : (backTo pos (starEach rest env)).any (·.1) = false) :
    wpAny M A (callWith pos (.ref u) [] (backTo pos (starEach (e :: rest) env)) []) Q E s := by
  rw [he] at h ⊢
  refine kxs_callWith (i := i) (x := x) (by show (false || (backTo pos (starEach rest env)).any (·.1)) = false; rw [hplain]; rfl) ?_
  exact evalArgs_plain h
def tSup (C : Addr) (ta : TA) (t : TS) : TS := fun D σ H => ∃ a : Addr, σ[0]? = some (some (.ref a)) ∧ H a = some (exo a C none) ∧ ta σ H fun vs H1 => vs.length ≤ 1000 ∧ H1 a = some (exo a C none) ∧ t D σ H1
section
variable {X : Cx} {pins : List (Addr × Obj)} {σ : St} {H : Hp} {s : Shared} {D : Ends} {C f cda cc : Addr} {fd : FuncData} {body rest : List Stmt} {e : Expr} {es : List Expr} {p0 p1 p2 p3 p4 : Pos} {ta : TA} {t : TS}
  {oc ccl cl : Value} {od cdd cld : Option Addr} {osl ccs csl : Array (Option Value)} {ar : Arg} {vs : Array Value} {file : Str} {tf : Tok}
theorem sup_line (hks : X.env.kindOf "super" = some .globalImplicit) (hkc : X.env.kindOf "__class__" = some .free) (hfu : X.env.func = some f) (hco : X.env.code = .ref cda) (hcl : X.env.cells.lookup ("__class__" : Str) = some cc)
    (lk : X.K.lookup f = some ⟨oc, od, .func fd, osl⟩) (hp : (fd.params.posonlyargs ++ fd.params.args).head? = some ar) (hN : X.N[0]? = some ar.arg) (hv : X.env.kindOf ar.arg = some .local) (hvis : Vis X.env.scope ar.arg)
    (hcode : X.K.lookup cda = some ⟨ccl, cdd, .fields vs, ccs⟩) (hvs : vs[2]? = some (.str file tf)) (hfile : ((X.prog.main.file : Str) == file) = true) (htop : (X.prog.main.scope.names.lookup ("super" : Str)).isSome = false)
    (hcell : X.K.lookup cc = some ⟨cl, cld, .cell (some (.ref C)), csl⟩) (hsup : X.mg "super" = none) (T : OexC X.K C) (hm : ks_superIn X.K C C "__init__" = some (some (.builtin "ValueError.__init__")))
    (ho : nsIn X.K cStatics "thirdparty.any" = some none) (I : Inv X pins σ H s) (h : tSup C ta t D σ H) (ha : PA X (e :: es) ta) (hr : PSs X rest t) {pl : Sem Bool}
    (hc : eval (.Call (.Attribute (.Call (.Name "super" p0) [] [] p1) "__init__" p2) (e :: es) [] p3) X.env = (do
      let ov ← attributeBase (.Call (.Name "super" p0) [] [] p1) "__init__" X.env (eval (.Call (.Name "super" p0) [] [] p1) X.env)
      standAt p2.atName
      let (f, first) ← holding [ov] (getMethod ov "__init__" pl)
      callWith p3 f first (backTo p3 (starEach (e :: es) X.env)) []) := by rfl)
    (he : starEach (e :: es) X.env = (false, eval e X.env) :: starEach es X.env := by rfl) (hpl : (backTo p3 (starEach es X.env)).any (·.1) = false := by rfl) (hi : interactive X.env = false := by rfl) :
    _root_.PySem.wpAt (model X.prog X.w) X.A (.func body X.env) (execs (.Expr (.Call (.Attribute (.Call (.Name "super" p0) [] [] p1) "__init__" p2) (e :: es) [] p3) p4 :: rest) X.env) (SP X pins D) X.xe s := by
  obtain ⟨a, hσ, hH, h⟩ := h
  obtain ⟨nm, q, N, bs, bm, sn, sub, ab, col, dd, k0, k1, k2, k3, k5, hC, hbm⟩ := T.cls
  have hcd : clsIn X.K C = some { name := nm, bases := bs, mro := .ref C :: bm, ns := N, qualname := q, hasDict := true, slotNames := sn, subclasses := sub, abstract := ab, collection := col, hasDel := false } := by unfold clsIn; rw [hC] <;> rfl
  have KX := I.kIn
  obtain ⟨t1, hx⟩ := exo_at I.hok hH
  have hne : X.mg "super" = none := hsup
  obtain ⟨m, hns, hloc⟩ := id I.loc
  obtain ⟨ua, rua, hlook⟩ := hloc 0 ar.arg _ hN hσ hvis
  obtain rfl : ua = Value.ref a := rua
  have hma : m ar.arg = some (.ref a) := by
    rcases hlook with ⟨_, z⟩ | ⟨z, _⟩
    · exact z
    · rw [hv] at z; rcases z with z | z <;> cases z
  have IA : InstAt s.heap a (HandSPX.excO C t1) C none := ⟨hx, rfl, rfl, trivial⟩
  refine ks_wpAt_execs_cons (ks_wpAt_Expr_any (ks_wpAt_MethodCall ?_ hc) hi)
  refine ks_wpAt_super_base hks hkc (by decide) hfu (KX _ _ lk) rfl hp hco (KX _ _ hcode) rfl hvs hfile htop ?_
  refine ks_loadName_global I.ok.kind hks ?_
  obtain ⟨mb, hb1, hb2⟩ := I.mod.blt
  refine Calls.loadGlobal_builtin (by rw [I.ok.glob]; exact I.mod.glob.keeps I.bk) hne (by rw [I.ok.blt]; exact hb1.keeps I.bk) ((hb2 "super" (by decide)).trans (show bootBuiltins "super" = some (.type "super") from PyProof.Rows.Boot.«super»)) ⟨rfl, ?_⟩
  refine wpAny_loadName_free I.ok.kind hkc hcl ⟨_, KX _ _ hcell, rfl⟩ ?_
  refine wpAny_loadName_local I.ok.kind hv hns hma ?_
  have hDC := KX _ _ hC
  refine ks_wpAny_isType_cls hDC rfl ⟨rfl, ?_⟩
  obtain ⟨hp0, g, d, tk, os⟩ := s
  refine ks_wpAny_call_super hDC rfl hx rfl (fun c e => by cases e) (looks_mroIn KX (mro_has hcd rfl _ (.inl rfl))) (fun h1 e1 k1 => ?_)
  have I1 : Inv X pins σ H ⟨h1, g, d, tk, os⟩ := I.kept k1
  have hI : Looks (model X.prog X.w) h1 (isInstance (.ref a) (.type "ValueError")) true := (InstAt.type (⟨k1 _ _ hx, rfl, rfl, trivial⟩ : InstAt h1 a (HandSPX.excO C t1) C none)).andThen (looks_mroIn (KX.keeps k1) (mro_has hcd rfl _ (.inr ((HandSPX.refsVE_contains "ValueError" _ hbm).trans (by decide +kernel)))))
  have hm' : alongIn X.K "__init__" ((( .ref C :: bm : List Value).dropWhile (· != .ref C)).drop 1) = some (some (.builtin "ValueError.__init__")) := by
    unfold ks_superIn at hm
    rw [hcd] at hm
    exact hm
  refine kxs_getMethod kxs_ValueError e1 (looks_opaque (KX.keeps k1) ho) (l₀ := .ref C :: bm) (fun A Q E s k q => wpAny_bind ((looks_clsIn (KX.keeps k1) hcd) A _ E s k (wpAny_pure q))) rfl (KX.keeps k1) hm' hI (ks_ne KX IA hcd) (by decide) ?_
  have k2 : ∀ b o, h1.get? b = some o → (h1.push (kxs_mw "ValueError.__init__" a)).get? b = some o := fun b o e => Heap.get?_push_of_some _ e
  have hu2 : (h1.push (kxs_mw "ValueError.__init__" a)).get? h1.objs.size = some (kxs_mw "ValueError.__init__" a) := Heap.get?_push_at rfl rfl
  have I2 : Inv X pins σ H ⟨h1.push (kxs_mw "ValueError.__init__" a), g, d, tk + 1, os⟩ := I1.kept (t' := tk + 1) k2
  have hnu : H h1.objs.size = none := I1.hok.fresh (Nat.le_refl _)
  have I3 : Inv X ((h1.objs.size, kxs_mw "ValueError.__init__" a) :: pins) σ H ⟨h1.push (kxs_mw "ValueError.__init__" a), g, d, tk + 1, os⟩ := I2.pins_of fun p hp => by
    rcases List.mem_cons.mp hp with rfl | hp
    · refine ⟨hu2, hnu, fun z => ?_, fun z => ?_, fun v z => by cases z⟩
      · obtain ⟨m1, ⟨oL, _, _, hL, _⟩, _⟩ := I1.loc
        have := Heap.lt_size hL
        rw [← show h1.objs.size = X.env.locals from z] at this
        exact absurd this (Nat.lt_irrefl _)
      · exact I1.nofs (Nat.le_refl _) z
    · exact I2.pin p (List.mem_append_right _ hp)
  refine sup_callWith (i := "ValueError.__init__") (x := a) (thn (ha.run p3 _ _ σ H _ I3 h) fun us s3 ⟨vs3, H3, I4, r3, hz, hH3, q3⟩ => ⟨(I4.pin _ (List.mem_append_right _ List.mem_cons_self)).1, ?_⟩) he hpl
  have hu3 := (I4.pin _ (List.mem_append_right _ List.mem_cons_self)).1
  have I5 : Inv X pins σ H3 s3 := I4.pins_of fun p hp => I4.pin p (List.mem_append_right _ (List.mem_cons_of_mem _ hp))
  obtain ⟨t3, hx3⟩ := exo_at I5.hok hH3
  obtain ⟨h3, g3, d3, tk3, os3⟩ := s3
  have hlen : us.length ≤ sizeLine := by
    rw [← Paired.length r3, sizeLine_eq]
    omega
  show wpAny _ _ (call (.ref h1.objs.size) us) _ _ _
  refine wpAny_call (codeAny_of_tree ?_)
  show wpAny _ X.A.in1 (callAny (.ref h1.objs.size) ⟨us, []⟩) _ _ _
  simp only [callAny]
  refine wpAny_bind (wpAny_load hu3 ?_)
  simp only [kxs_mw, show (Value.type "method-wrapper" == Value.type "method" || Value.type "method-wrapper" == Value.type "builtin_function_or_method" || Value.type "method-wrapper" == Value.type "method-wrapper") = true by decide, if_true]
  refine KFB.if_so (by decide) ?_
  refine wpAny_bind (check_bound_init F.excBase_ValueError.toExcCallFacts (I5.kIn _ _ hC) hx3 rfl ?_)
  refine wpAny_bind (wpAny_pure (wpAny_pure ?_))
  refine ⟨plainId_quiet F.excBase_ValueError.init.plain _, codeAny_builtin F.excBase_ValueError.initEntry ?_⟩
  refine exc_init_tree (cls := .ref C) (t0 := t3) (dv := none) (c2 := .none) (c3 := .none) (b4 := .bool false) hx3 hlen fun h' kp he' ht' => ?_
  have J := I5.write (t' := tk3) (x := a) (e := a) (o := exo a C none) (by rw [hH3]; exact True.intro) (.inl rfl) kp ⟨_, he'⟩ (exo_ok he')
  have eu : upd H3 a (exo a C none) = H3 := by
    funext b
    by_cases hb : b = a
    · rw [hb, upd_same, hH3]
    · rw [upd_ne hb]
  rw [eu] at J
  exact wpAt_of_wpAny (hr.run pins _ σ H3 D J q3)
end
structure SupF (P : Program) (K : Frag) (C f : Addr) (F : NdefX.NF) (fd : FuncData) (x0 : Str) : Prop where
  lk : ∃ oc od dV kV doc pm an ct osl, fd = fnX F.name F.qual F.params F.body F.scope F.cl dV kV doc pm an (.ref F.c) ct ∧ K.lookup f = some ⟨oc, od, .func fd, osl⟩
  cd : codeIn K (.ref F.c) F.qual = true
  code : ∃ ccl cdd vs ccs file tf, K.lookup F.c = some ⟨ccl, cdd, .fields vs, ccs⟩ ∧ vs[2]? = some (.str file tf) ∧ ((P.main.file : Str) == file) = true
  top : (P.main.scope.names.lookup ("super" : Str)).isSome = false
  cell : ∃ cc cl cld csl, F.cl = [(("__class__" : Str), cc)] ∧ K.lookup cc = some ⟨cl, cld, .cell (some (.ref C)), csl⟩
  arg : ∃ ar, (F.params.posonlyargs ++ F.params.args).head? = some ar ∧ ar.arg = x0
  sup : ks_superIn K C C "__init__" = some (some (.builtin "ValueError.__init__"))
  opq : nsIn K cStatics "thirdparty.any" = some none
theorem fn_sup {CX : CXT} {P : Program} {w : World} {K : Frag} {mg : Str → Option Value} {base : Heap} {k : Nat} {f C : Addr} {F : NdefX.NF} {fd : FuncData} {N ps : List Str} {x0 : Str} {sp : Sp} {e : Expr} {es : List Expr} {rest : List Stmt} {p0 p1 p2 p3 p4 : Pos}
    (B : SupF P K C f F fd x0) (T : OexC K C) (hsup : mg "super" = none) (hbd : F.body = .Expr (.Call (.Attribute (.Call (.Name "super" p0) [] [] p1) "__init__" p2) (e :: es) [] p3) p4 :: rest)
    (S : NdefX.NScope N (x0 :: ps) ["__class__"] F.scope) (hks : F.scope.names.lookup ("super" : Str) = some .globalImplicit)
    (len : ∀ vs H Q E, sp vs H Q E → vs.length = (x0 :: ps).length)
    (hbody : ∀ (A : Around) (outer : List Env) (s : Shared) (H : Hp) (vs : List V) (Q : VK) (E : XK), Room k (A.deeper (NdefX.envF F f s.heap.objs.size)) → sp vs H Q E →
      ∃ ta t, PA (NdefX.ncx CX P w K mg base N F f A outer s H E) (e :: es) ta ∧ PSs (NdefX.ncx CX P w K mg base N F f A outer s H E) rest t ∧ tSup C ta t { nx := fun _ H' => Q .non H', rt := Q } (NdefX.startF N vs [some (.ref C)]) H)
    (hc : ∀ env : Env, ∃ pl : Sem Bool, eval (.Call (.Attribute (.Call (.Name "super" p0) [] [] p1) "__init__" p2) (e :: es) [] p3) env = (do
      let ov ← attributeBase (.Call (.Name "super" p0) [] [] p1) "__init__" env (eval (.Call (.Name "super" p0) [] [] p1) env)
      standAt p2.atName
      let (f, first) ← holding [ov] (getMethod ov "__init__" pl)
      callWith p3 f first (backTo p3 (starEach (e :: es) env)) []))
    (he : ∀ env : Env, starEach (e :: es) env = (false, eval e env) :: starEach es env) (hpl : ∀ env : Env, (backTo p3 (starEach es env)).any (·.1) = false) :
    FnOk P w K mg base CX (k + 1) f fd (x0 :: ps) sp := by
  obtain ⟨⟨oc, od, dV, kV, doc, pm, an, ct, osl, rfl, lk⟩, hcd, ⟨ccl, cdd, vsc, ccs, file, tf, hcode, hvs, hfile⟩, htop, ⟨cc, cl, cld, csl, hcl, hcell⟩, ⟨ar, har, rfl⟩, hm, hop⟩ := B
  refine ⟨len, fun A outer s H args us vs Q E hr e0 hb r hsp => ?_⟩
  have hl := len _ _ _ _ hsp
  have KX : K.In s.heap := e0.mod.kin.keeps fun b o e => (e0.bs b o e).1
  have lim : s.heap.NoLimit := e0.mod.nolimit.keeps fun b o e => (e0.bs b o e).1
  have h00 : N[0]? = some ar.arg := by
    have q := S.pre
    have q1 := congrArg (fun l => l[0]?) q
    simp only [List.length_cons, List.cons_append, List.getElem?_cons_zero] at q1
    rw [List.getElem?_take_of_lt (by omega)] at q1
    exact q1
  refine ks_codeAny_call_defAt (fd := fnX F.name F.qual F.params F.body F.scope F.cl dV kV doc pm an (.ref F.c) ct) (body := F.body) (binds := (ar.arg :: ps).zip us) hr.depth (KX _ _ lk) rfl lim (codeRec_of KX hcd) rfl hb S.nocell (fun ⟨n, v⟩ hy => S.par n (List.of_mem_zip hy).1) (fun h₁ hns kp => ?_) S.co S.gen S.kind
  have Cs : NdefX.CellsAt F.cl ["__class__"] [some (.ref C)] s.heap H := by
    have lkc : ∀ {y : Str} {c : Addr}, F.cl.lookup y = some c → y = "__class__" ∧ c = cc := fun {y c} q => by
      rw [hcl] at q
      by_cases hy : y = "__class__"
      · subst hy
        exact ⟨rfl, (Option.some.inj q).symm⟩
      · have z : (y == ("__class__" : Str)) = false := by simpa using hy
        simp [List.lookup, z] at q
    refine ⟨rfl, fun y c q => ?_, fun x y c q1 q2 => ?_, fun i y hi => ?_⟩
    · obtain ⟨_, rfl⟩ := lkc q
      exact ⟨(e0.bs _ _ (e0.mod.kin _ _ hcell)).2, _, _, KX _ _ hcell, rfl⟩
    · rw [(lkc q1).1, (lkc q2).1]
    · cases i with
      | zero =>
        cases hi
        refine ⟨cc, by rw [hcl]; rfl, fun v hv => ?_⟩
        cases hv
        exact ⟨_, rfl, _, KX _ _ hcell, rfl⟩
      | succ i => simp at hi
  have I : Inv (NdefX.ncx CX P w K mg base N F f A outer s H E) [] (NdefX.startF N vs [some (.ref C)]) H { s with heap := h₁, toks := s.toks + ((ar.arg :: ps).zip us).length } := NdefX.inv_startN S hr.hd e0 hl r Cs hns kp
  obtain ⟨ta, t, ha, ht, hq⟩ := hbody A outer s H vs Q E (hr.deeper _) hsp
  obtain ⟨pl, hc⟩ := hc (NdefX.ncx CX P w K mg base N F f A outer s H E).env
  have kc : (NdefX.ncx CX P w K mg base N F f A outer s H E).env.kindOf "__class__" = some .free := S.frk _ List.mem_cons_self
  have go := sup_line (X := NdefX.ncx CX P w K mg base N F f A outer s H E) (body := F.body) (p4 := p4) (D := { nx := fun _ H' => Q .non H', rt := Q }) hks kc rfl rfl (by show F.cl.lookup _ = _; rw [hcl]; rfl) lk har h00 (S.par _ List.mem_cons_self) (.inl (S.par _ List.mem_cons_self)) hcode hvs hfile htop hcell hsup T hm hop I hq ha ht hc (he _) (hpl _) (by unfold interactive; show ((F.scope.kind == .module) && _) = false; rw [S.kind]; rfl)
  rw [← hbd] at go
  refine ks_wpAt_mono go (fun fl s' hs => ?_) fun e s' hs => hs
  have fin : ∀ {σ' : L2.St} {H' : Hp} {v : V} {u : Value}, Inv (NdefX.ncx CX P w K mg base N F f A outer s H E) [] σ' H' s' → L2.RelV v u → Q v H' → CE outer P w H s Q u s' :=
    fun {σ' H' v u} J rv q => ⟨v, H', J.os, J.bare, J.base, J.hok, rv, q⟩
  cases fl with
  | ret u =>
    obtain ⟨v, σ', H', J, rv, q⟩ := hs
    exact fin J rv q
  | next =>
    obtain ⟨σ', H', J, q⟩ := hs
    exact fin (v := V.non) (u := Value.none) J rfl q
  | brk =>
    obtain ⟨_, _, _, q⟩ := hs
    exact False.elim q
  | cont =>
    obtain ⟨_, _, _, q⟩ := hs
    exact False.elim q
def spE1 (C : Addr) (f : Str) (R : V → Prop) : Sp := fun vs H Q _ => ∃ (a : Addr) (u : V), vs = [.ref a, u] ∧ R u ∧ H a = some (exo a C none) ∧ ∀ d, H d = none → d ≠ a → Q .non (upd (upd H d (exd d [(f, u)])) a (exo a C (some d)))
section
variable {CX : CXT} {P : Program} {w : World} {K : Frag} {mg : Str → Option Value} {base : Heap} {fI C : Addr} {F : NdefX.NF} {fd : FuncData} {x y f g msg : Str} {j : Nat} {p0 p1 p2 p3 p4 p5 p6 p7 q0 q1 q2 q3 q4 q5 q6 q7 : Pos}
theorem ok_e1 (B : SupF P K C fI F fd "self") (T : OexC K C) (hsup : mg "super" = none)
    (hbd : F.body = .Expr (.Call (.Attribute (.Call (.Name "super" p0) [] [] p1) "__init__" p2) [.Constant (.str msg) j p5] [] p3) p4 :: [.Assign [.Attribute (.Name "self" q0) f q1] (.Name x q2) q3])
    (S : NdefX.NScope ["self", x, "__class__"] ["self", x] ["__class__"] F.scope) (hks : F.scope.names.lookup ("super" : Str) = some .globalImplicit) (hno : findIn K (.ref C) f = some none) (hd : (x == ("__debug__" : Str)) = false) (hcd : (x == ("__classdict__" : Str)) = false) (hs : ∀ env : Env, swapsWith (.Name x q2) (some (.Attribute (.Name "self" q0) f q1)) q3.line env = pure false)
    (hc : ∀ env : Env, ∃ pl : Sem Bool, eval (.Call (.Attribute (.Call (.Name "super" p0) [] [] p1) "__init__" p2) [.Constant (.str msg) j p5] [] p3) env = (do
      let ov ← attributeBase (.Call (.Name "super" p0) [] [] p1) "__init__" env (eval (.Call (.Name "super" p0) [] [] p1) env)
      standAt p2.atName
      let (f, first) ← holding [ov] (getMethod ov "__init__" pl)
      callWith p3 f first (backTo p3 (starEach [.Constant (.str msg) j p5] env)) [])) (he : ∀ env : Env, starEach [.Constant (.str msg) j p5] env = (false, eval (.Constant (.str msg) j p5) env) :: starEach [] env) :
    FnOk P w K mg base CX 1 fI fd ["self", x] (spE1 C f fun _ => True) := by
  refine fn_sup B T hsup hbd S hks (fun vs H Q E h => ?_) (fun A outer s H vs Q E hr h => ?_) hc he (fun env => rfl)
  · obtain ⟨a, u, rfl, _⟩ := h
    rfl
  · obtain ⟨a, u, rfl, _, hH, q⟩ := h
    refine ⟨_, _, pa_cons pe_str pa_nil, pss_one (ps_ost (pe_var (i := 0) rfl (.inl (S.par _ List.mem_cons_self))) (pe_var (i := 1) rfl (.inl (S.par _ (List.mem_cons_of_mem _ List.mem_cons_self))) hd hcd) (hs _)), a, rfl, hH, ?_⟩
    refine ⟨by show 1 ≤ 1000; decide, hH, ?_⟩
    exact ⟨u, rfl, .ref a, rfl, a, C, rfl, T, hno, .inl ⟨hH, fun d h1 h2 => q d h1 h2⟩⟩
end
end L2

namespace Ab
open PySem L2
def tRaiseO (W : WX) (C : Addr) (sp : Sp) (ta : TA) : TS := fun _ σ H => tMkO C sp [] ta σ H fun cls d H' => W cls d σ H'
theorem del_laid {H : Hp} {a d : Addr} {x y z o : HO} (ha : H a = none) (hn : d ≠ a) : upd (del (upd (upd (upd H a x) d y) a z) a) d o = upd H d o := by
  funext b
  by_cases hd : b = d
  · rw [hd, upd_same, upd_same]
  · rw [upd_ne hd, upd_ne hd]
    by_cases hb : b = a
    · rw [hb, del_same, ha]
    · rw [del_ne hb, upd_ne hb, upd_ne hd, upd_ne hb]
section
variable {K : PySem.W.Frag} {pin : List Nat} {Γ : List Sl} {P : Ps} {C : Addr} {ta : TA}
theorem ws_raise1 {W : WX} {f : Str} {R : V → Prop} (hW : P.ex.W = W) (h : WD K ta Γ fun ds Γ1 => ∃ d, ds = [d] ∧ (∀ v B, Is K B v d → R v) ∧ P.ex.q (.ref C) [(f, d)] Γ1) : WS K pin (tRaiseO W C (spE1 C f R) ta) Γ P := fun σ B H D E n r b c xx => by
  subst hW
  refine h σ B H E _ fun vs B1 H1 ds Γ1 g k p => ?_
  obtain ⟨d, rfl, hR, p⟩ := p
  obtain ⟨u, rfl⟩ : ∃ u, vs = [u] := by
    match vs, k.len with
    | [u], _ => exact ⟨u, rfl⟩
  have hu : Is K B1 u d := k.at_ 0 u d rfl rfl
  refine ⟨by show 1 ≤ 1000; decide, fun a hn => ⟨a, u, rfl, hR u B1 hu, upd_same, fun dd hd hne => ⟨rfl, dd, [(f, u)], upd_same, by rw [upd_ne hne, upd_same], by rw [upd_ne hne] at hd; exact hd, ?_⟩⟩⟩
  rw [upd_ne hne] at hd
  rw [del_laid hn hne]
  have g2 := Go.laid (o := .xd [(f, u)]) g.env hd
  refine xx (.ref C) (some dd) [(f, d)] σ _ _ Γ1 (g.trans g2).s (.some upd_same (fun x => ?_) (fun x v e h1 h2 => ?_) (by simp)) p
  · by_cases hx : x = f
    · subst hx; simp [List.lookup]
    · have : (x == f) = false := by simpa using hx
      simp [List.lookup, this]
  · by_cases hx : x = f
    · subst hx
      simp [List.lookup] at h1 h2
      subst h1 h2
      exact hu.mono g2.mv.bb
    · have : (x == f) = false := by simpa using hx
      simp [List.lookup, this] at h1
end
end Ab

namespace Ab
open PySem L2
def subTab (K : PySem.W.Frag) (cs : List Addr) : Bool := cs.zipIdx.all fun c => cs.zipIdx.all fun d => decide (PySem.W.subIn K (.ref c.1) (.ref d.1) = some (decide (c.2 = d.2)))
end Ab

namespace PySem.W
open Lean Elab Tactic Meta PySem PySem.Calls PyProof.Rows PyProof.V PySem.Spec
section
variable {M : Model} {A : Around} {E : Value → Shared → Prop} {s : Shared} {K : Frag} {x C f : Addr} {ox : Obj} {od : Option Obj} {v : Value}
theorem contains_own {Q : Bool → Shared → Prop} (X : K.In s.heap) (I : InstAt s.heap x ox C od) (hs : findIn K (.ref C) "__contains__" = some (some (.ref f))) (hf : isFn K (.ref f) = true)
    (h : wpAny M A (call (.ref f) [.ref x, v]) (fun r s' => ∃ b, r = .bool b ∧ Q b s') E s) : wpAny M A (contains (.ref x) v) Q E s := by
  unfold contains
  refine wpAny_holding ?_
  have e : stdlibNamesSay? (.ref x) v = none := rfl
  simp only [e]
  refine wpAny_bind (wpAny_bind (I.type.here ((looks_findIn X hs).here ?_)))
  refine KFB.if_not rfl ?_
  unfold callSpecialUnlessNone?
  refine wpAny_bind (wpAny_bind (wpAny_bind (I.type.here ((looks_findIn X hs).here ?_))))
  refine wpAny_holding (wpAny_bind ((bind_fn X _ (beq_iff_eq.mp hf)).here ?_))
  refine KFB.if_not rfl ?_
  refine wpAny_bind (wpAny_mono h (fun r s' hr => wpAny_pure ?_) fun _ _ z => z)
  obtain ⟨b, rfl, q⟩ := hr
  exact wpAny_truthy_bool q
end
end PySem.W
namespace L2
open PySem PySem.Spec PyProof.Rows
structure FnIt (P : Program) (w : World) (K : PySem.W.Frag) (mg : Str → Option Value) (base : Heap) (k : Nat) (f C : Addr) (fld : Str) : Prop where
  run : ∀ (A : Around) (outer : List PySem.Env) (s : Shared) (H : Hp) (a dx l : Addr) (fs : List (Str × V)) (zs : List V), Room k A → Env0 P w K mg base A outer s H → H a = some (.ins C dx fs) → fs.lookup fld = some (.ref l) → SqL K H l zs →
    codeAny (model P w) A (.call (.ref f) ⟨[.ref a], []⟩) (CR CX0 outer P w H s (fun v H' => ∃ it, v = .ref it ∧ s.heap.objs.size ≤ it ∧ H it = none ∧ H' = upd H it (ItO l it 0)) E0) s
section
variable {P : Program} {w : World} {K : PySem.W.Frag} {mg : Str → Option Value} {base : Heap} {C f : Addr} {x qual : Str} {st : Stmt} {fd : FuncData} {k : Nat} {fld : Str}
end

def tIt (C : Addr) (te : TE) (fld : Str) : TE := fun σ H Q => te σ H fun x H1 => ∃ a dx fs v, x = .ref a ∧ H1 a = some (.ins C dx fs) ∧ fs.lookup fld = some v ∧ Q v H1
section
variable {X : Cx} {C fi fl : Addr} {fld : Str} {k kl : Nat} {fdl : FuncData} {psl : List Str}
structure BoxC (K : PySem.W.Frag) (C fi fl : Addr) : Prop where
  it : PySem.W.findIn K (.ref C) "__iter__" = some (some (.ref fi))
  itF : PySem.W.isFn K (.ref fi) = true
  ln : PySem.W.findIn K (.ref C) "__len__" = some (some (.ref fl))
  lnF : PySem.W.isFn K (.ref fl) = true
section
variable {pins : List (Addr × Obj)} {σ : L2.St} {H : Hp} {s : Shared} {a dx l : Addr} {fs : List (Str × V)} {zs : List V} {A1 : Around}
end
def rBoxLen (K : PySem.W.Frag) (C : Addr) (fld : Str) : List V → Hp → VK → Prop := fun xs H Q => ∃ a dx fs l zs, xs = [.ref a] ∧ H a = some (.ins C dx fs) ∧ fs.lookup fld = some (.ref l) ∧ SqL K H l zs ∧ Q (.int zs.length) H
def rBoxList (K : PySem.W.Frag) (C : Addr) (fld : Str) : List V → Hp → VK → Prop := fun xs H Q => ∃ a dx fs l zs, xs = [.ref a] ∧ H a = some (.ins C dx fs) ∧ fs.lookup fld = some (.ref l) ∧ SqL K H l zs ∧ ∀ q, H q = none → Q (.ref q) (upd H q (.lst zs))
end
end L2

namespace Ab
open PySem L2
abbrev AIP := List Sl → (List (Str × Dt) → List Sl → Prop) → Prop
def toSpIP (K : PySem.W.Frag) (C : Addr) (ai : AIP) : Sp := fun vs H Q _ => ∃ x dx ws B as Post, vs = V.ref x :: ws ∧ H x = some (.ins C dx []) ∧ B x = none ∧ ¬ Own (ws.map some) as x ∧ Env K B H (ws.map some) as ∧ ai as Post ∧
  ∀ B' H' fs gs as', Mv (fun a => a = x ∨ Own (ws.map some) as a) B H B' H' → (∀ (i : Nat) c, as'[i]? = some (.cel c) → ∃ d, as[i]? = some (.cel d)) → Env K B' H' (ws.map some) as' → H' x = some (.ins C dx fs) → B' x = none → FsIs K B' fs gs → Post gs as' → Q .non H'
def WIP (K : PySem.W.Frag) (C : Addr) (pin : List Nat) (t : TS) (Γ : List Sl) (gs : List (Str × Dt)) (P : List (Str × Dt) → List Sl → Prop) : Prop := ∀ σ B H (D : Ends) x dx, Mg K C x dx σ B H Γ gs →
  (∀ σ' B' H' Γ' gs', GoI K C x dx σ B H Γ σ' B' H' Γ' gs' → (∀ i, i ∈ pin → σ'[i]? = σ[i]?) → P gs' Γ' → D.nx σ' H') → t D σ H
section
variable {K : PySem.W.Frag} {C : Addr} {pin : List Nat} {Γ : List Sl} {gs : List (Str × Dt)} {P : List (Str × Dt) → List Sl → Prop} {t u : TS} {te : TE}
theorem wip_seq (h : WIP K C pin t Γ gs fun gs1 Γ1 => WIP K C pin u Γ1 gs1 P) : WIP K C pin (tSeq t u) Γ gs P := fun σ B H D x dx M n =>
  h σ B H { D with nx := u D } x dx M fun σ1 B1 H1 Γ1 gs1 g pn p => p σ1 B1 H1 D x dx g.mg fun σ2 B2 H2 Γ2 gs2 g2 pn2 p2 => n σ2 B2 H2 Γ2 gs2 (g.trans g2) (fun i hi => (pn2 i hi).trans (pn i hi)) p2
theorem wip_set {f : Str} (cl : Cls K C) (na : NoAttr K C f) (hl : gs.lookup f = none) (hz : gs.length < 900) (h : WE K te Γ fun r Γ1 => ∃ d, r.dt? = some d ∧ Γ1[0]? = some .un ∧ P (gs ++ [(f, d)]) Γ1) : WIP K C pin (sFld K (tVar 0) te f) Γ gs P := fun σ B H D x dx M n => by
  have h' : WE K te Γ fun r Γ1 => ∃ d, r = .val d ∧ Γ1[0]? = some .un ∧ P (gs ++ [(f, d)]) Γ1 := we_freeze (we_mono h fun r Γ1 ⟨d, hd, r2⟩ => ⟨d, hd, d, rfl, r2⟩)
  refine h' σ B H M.env _ fun y B1 H1 r Γ1 g k p => ?_
  obtain ⟨d, rfl, h0, p⟩ := p
  obtain ⟨fs, hx, hf⟩ := M.hx
  have hx1 : H1 x = some (.ins C dx fs) := g.mv.kp x _ M.no hx
  have bx1 : B1 x = none := g.mv.off x M.no (by rw [hx]; exact fun z => nomatch z) M.bx
  have no1 : ¬ Own σ Γ1 x := fun z => M.no (g.sub x z)
  refine ⟨.ref x, M.sl, x, C, dx, fs, rfl, hx1, cl, na, Nat.lt_of_le_of_lt hf.len (by omega), ?_⟩
  have hd : Is K B1 y d := k
  have E2 : Env K B1 (upd H1 x (.ins C dx (putF f y fs))) σ Γ1 := by
    refine ⟨g.env.len, fun a o e => ?_, g.env.val, fun i es hi => ?_, g.env.sep⟩
    · have : a ≠ x := fun z => by subst z; rw [bx1] at e; cases e
      rw [upd_ne this]; exact g.env.bh a o e
    · obtain ⟨l, vs, e1, e2, e3, e4⟩ := g.env.cel i es hi
      have : l ≠ x := fun z => by subst z; rw [hx1] at e2; cases e2; cases es <;> (obtain ⟨_, z, _⟩ := e4; cases z)
      exact ⟨l, vs, e1, by rw [upd_ne this]; exact e2, e3, e4⟩
  refine n σ B1 _ Γ1 (gs ++ [(f, d)]) ⟨⟨fun a o na' e => ?_, g.mv.bb, fun a na' ha hb => ?_⟩, fun a h => .inl (g.sub a h), ⟨E2, M.sl, h0, no1, ⟨_, upd_same, (hf.mono g.mv.bb).put hl hd⟩, bx1⟩⟩ (fun _ _ => rfl) p
  · have h1 : ¬ Own σ Γ a := fun z => na' (.inl z)
    have h2 : a ≠ x := fun z => na' (.inr z)
    rw [upd_ne h2]; exact g.mv.kp a o h1 e
  · exact g.mv.off a (fun z => na' (.inl z)) ha hb
theorem wip_ws (h : WS K (0 :: pin) t Γ ⟨fun G => G[0]? = some .un ∧ P gs G, fun _ _ => False, fun _ => False, fun _ => False, .no⟩) : WIP K C pin t Γ gs P := fun σ B H D x dx M n => by
  obtain ⟨fs, hx, hf⟩ := M.hx
  refine h σ B H D M.env (fun σ' B' H' Γ' g p => ?_) (fun _ _ _ _ _ _ _ _ p => p.elim) (fun _ _ _ _ _ p => p.elim) (fun _ _ _ _ _ p => p.elim) (fun _ _ _ _ _ _ _ _ _ p => (show False from p).elim)
  refine n σ' B' H' Γ' gs ⟨⟨fun a o na e => g.mv.kp a o (fun z => na (.inl z)) e, g.mv.bb, fun a na ha hb => g.mv.off a (fun z => na (.inl z)) ha hb⟩, g.new, ⟨g.env, by rw [g.pin 0 List.mem_cons_self]; exact M.sl, p.1, fun z => ?_, ⟨fs, g.mv.kp x _ M.no hx, hf.mono g.mv.bb⟩, g.mv.off x M.no (by rw [hx]; exact fun z => nomatch z) M.bx⟩⟩ (fun i hi => g.pin i (List.mem_cons_of_mem _ hi)) p.2
  rcases g.new x z with h1 | h1
  · exact M.no h1
  · rw [hx] at h1; cases h1
variable {Pg : Program} {w : World} {mg : Str → Option Value} {base : Heap}
theorem fn_initP (pin : List Nat) {x qual : Str} {st : Stmt} {f : Addr} {fd : FuncData} {N ps : List Str} {k : Nat} {ai : AIP} (F : Fun K x qual st f fd) (S : FnScope N ps (defScope st))
    (hlen : ∀ as Post, ai as Post → as.length + 1 = ps.length) (hN : decide (ps.length ≤ N.length) = true)
    (body : ∀ (cdv : Value) (A : Around) (outer : List PySem.Env) (s : Shared) (H : Hp) (E : XK), Room k (A.deeper (PyProof.Rows.envOfC qual (defScope st) s.heap.objs.size f cdv)) →
      ∃ t, PSs (cxOf CX0 Pg w K mg base N qual (defScope st) f cdv A outer s H E).nox (defBody st) t ∧
        ∀ as Post, ai as Post → WIP K C pin t ((.un :: as) ++ List.replicate (N.length - (as.length + 1)) .un) [] (fun gs G => Post gs (exitFrom pin G 1 as))) :
    FnOk Pg w K mg base CX0 (k + 1) f fd ps (toSpIP K C ai) := by
  refine F.ok S (fun vs H Q E h => ?_) (fun cdv A outer s H vs Q E hr h => ?_)
  · obtain ⟨x, dx, ws, B, as, Post, rfl, _, _, _, e, hai, _⟩ := h
    have := e.len
    rw [List.length_map] at this
    rw [List.length_cons, this]; exact hlen as Post hai
  · obtain ⟨x, dx, ws, B, as, Post, rfl, hx, bx, nox, e, hai, q⟩ := h
    obtain ⟨t, ht, hw⟩ := body cdv A outer s H E hr
    refine ⟨t, ht, ?_⟩
    have hlw : ws.length = as.length := by have := e.len; rw [List.length_map] at this; exact this
    have E1 : Env K B H ((V.ref x :: ws).map some) (.un :: as) := by
      refine ⟨by simp [hlw], e.bh, fun i d h => ?_, fun i es h => ?_, fun i j es fs l h1 h2 h3 h4 => ?_⟩
      · cases i with
        | zero => cases h
        | succ i => exact e.val i d (by simpa using h)
      · cases i with
        | zero => cases h
        | succ i => exact e.cel i es (by simpa using h)
      · cases i with
        | zero => cases h1
        | succ i =>
          cases j with
          | zero => cases h2
          | succ j => exact congrArg Nat.succ (e.sep i j es fs l (by simpa using h1) (by simpa using h2) (by simpa using h3) (by simpa using h4))
    have hps : (Sl.un :: as).length ≤ N.length := by
      rw [List.length_cons, hlen as Post hai]; exact of_decide_eq_true hN
    have hl1 : (V.ref x :: ws).length = (Sl.un :: as).length := by simp [hlw]
    have E0 := env_start E1 hps
    have ow : ∀ a, Own (L2.start N (V.ref x :: ws)) ((Sl.un :: as) ++ List.replicate (N.length - (Sl.un :: as).length) .un) a ↔ Own (ws.map some) as a := fun a => by
      refine (own_start (N := N) (vs := V.ref x :: ws) (as := Sl.un :: as) hl1).trans ⟨?_, ?_⟩
      · rintro ⟨i, es, h1, h2⟩
        cases i with
        | zero => cases h1
        | succ i => exact ⟨i, es, by simpa using h1, by simpa using h2⟩
      · rintro ⟨i, es, h1, h2⟩
        exact ⟨i + 1, es, by simpa using h1, by simpa using h2⟩
    have hlN : (Sl.un :: as).length = as.length + 1 := by rw [List.length_cons]
    rw [hlN] at E0 ow
    refine hw as Post hai (L2.start N (V.ref x :: ws)) B H _ x dx ⟨E0, rfl, rfl, fun z => nox ((ow x).mp z), ⟨[], hx, ⟨Nat.le_refl _, fun _ => rfl, fun _ _ _ z => by cases z⟩⟩, bx⟩ fun σ' B' H' Γ' gs' g pn p => ?_
    obtain ⟨fs, e1, e2⟩ := g.mg.hx
    have hpinv : ∀ i, i < ws.length → i + 1 ∈ pin → σ'[i + 1]? = (ws.map some)[i]? := fun i hi hp => by
      rw [pn (i + 1) hp, start_get (by rw [List.length_cons]; omega)]
      simp
    have slot : ∀ {i : Nat} {s : Sl}, (exitFrom pin Γ' 1 as)[i]? = some s → ∃ s0, as[i]? = some s0 ∧ s = exitSl pin Γ' (1 + i) s0 := fun {i s} h => by
      rw [exitFrom_get] at h
      cases q : as[i]? with
      | none => rw [q] at h; cases h
      | some s0 =>
        rw [q] at h
        simp at h
        exact ⟨s0, rfl, h.symm⟩
    have acc : ∀ {i : Nat} {ds : Cn}, (exitFrom pin Γ' 1 as)[i]? = some (.cel ds) → i + 1 ∈ pin ∧ Γ'[i + 1]? = some (.cel ds) ∧ ∃ ds0, as[i]? = some (.cel ds0) := fun {i ds} h => by
      obtain ⟨s0, h0, e⟩ := slot h
      rw [Nat.add_comm] at e
      cases s0 with
      | un => cases e
      | val d => cases e
      | cel es =>
        unfold exitSl at e
        simp only at e
        split at e
        · rename_i hc
          refine ⟨List.contains_iff_mem.mp hc, ?_, es, h0⟩
          cases q : Γ'[i + 1]? with
          | none => rw [q] at e; cases e
          | some s => rw [q] at e; simp at e; rw [← e]
        · cases e
    have E' : Env K B' H' (ws.map some) (exitFrom pin Γ' 1 as) := by
      refine ⟨by rw [exitFrom_len, List.length_map, hlw], g.mg.env.bh, fun i d h => ?_, fun i ds h => ?_, fun i j ds es l h1 h2 h3 h4 => ?_⟩
      · obtain ⟨s0, h0, e0⟩ := slot h
        rw [Nat.add_comm] at e0
        cases s0 with
        | un => cases e0
        | val d' =>
          cases e0
          obtain ⟨v, f1, f2⟩ := e.val i d h0
          exact ⟨v, f1, f2.mono g.mv.bb⟩
        | cel es =>
          unfold exitSl at e0
          simp only at e0
          split at e0
          · rename_i hc
            have hp := List.contains_iff_mem.mp hc
            have hi : i < ws.length := by rw [hlw]; exact (List.getElem?_eq_some_iff.mp h0).1
            cases q : Γ'[i + 1]? with
            | none => rw [q] at e0; cases e0
            | some s =>
              rw [q] at e0
              simp at e0
              subst e0
              rw [← hpinv i hi hp]
              exact g.mg.env.val (i + 1) d q
          · cases e0
      · obtain ⟨hp, h3, _, h4⟩ := acc h
        have hi : i < ws.length := by rw [hlw]; exact (List.getElem?_eq_some_iff.mp h4).1
        rw [← hpinv i hi hp]
        exact g.mg.env.cel (i + 1) ds h3
      · obtain ⟨hp, g1, _, _⟩ := acc h1
        obtain ⟨hp2, g2, _, _⟩ := acc h2
        have hi : i < ws.length := by have := (List.getElem?_eq_some_iff.mp h3).1; simpa using this
        have hj : j < ws.length := by have := (List.getElem?_eq_some_iff.mp h4).1; simpa using this
        exact Nat.succ.inj (g.mg.env.sep (i + 1) (j + 1) ds es l g1 g2 (by rw [hpinv i hi hp]; exact h3) (by rw [hpinv j hj hp2]; exact h4))
    refine q B' H' fs gs' _ ⟨fun a o na e => g.mv.kp a o (fun z => z.elim (fun z => na (.inr ((ow a).mp z))) fun z => na (.inl z)) e, g.mv.bb, fun a na ha hb => g.mv.off a (fun z => z.elim (fun z => na (.inr ((ow a).mp z))) fun z => na (.inl z)) ha hb⟩ (fun i c h => (acc h).2.2) E' e1 g.mg.bx e2 p
theorem we_makeP {Post : Re → List Sl → Prop} {ai : AIP} {E0 : XK} {ta : TA} (h : WA K ta Γ fun rs Γ1 => nodupB (ownsOf rs) = true ∧ Hold (ai (rs.map (argSl Γ1)) fun gs as' => Post (.val (.obj C gs)) (putBack rs as' Γ1))) : WE K (tMake C (toSpIP K C ai) [] E0 ta) Γ Post := fun σ B H E Q q => by
  refine h σ B H E _ fun vs B1 H1 rs Γ1 g1 k1 p1 => ?_
  intro x dx hx hdx hne
  rw [List.append_nil]
  obtain ⟨E2, kk⟩ := call_go E g1 k1 p1.1
  have hxx : upd (upd H1 dx (.own x)) x (.ins C dx []) x = some (.ins C dx []) := upd_same
  have b1x : B1 x = none := g1.env.base_none hx
  have s12 : ∀ a o, H1 a = some o → upd (upd H1 dx (.own x)) x (.ins C dx []) a = some o := fun a o e => by
    rw [upd_ne (ne_of_none e hx), upd_ne (ne_of_none e hdx)]; exact e
  have nox : ¬ Own (vs.map some) (rs.map (argSl Γ1)) x := fun z => by
    obtain ⟨o, e, _⟩ := E2.tracked z
    rw [hx] at e; cases e
  have E3 : Env K B1 (upd (upd H1 dx (.own x)) x (.ins C dx [])) (vs.map some) (rs.map (argSl Γ1)) := by
    refine ⟨E2.len, fun a o e => s12 a o (E2.bh a o e), E2.val, fun i es hi => ?_, E2.sep⟩
    obtain ⟨l, o, e1, e2, e3, e4⟩ := E2.cel i es hi
    exact ⟨l, o, e1, s12 l o e2, e3, e4⟩
  refine ⟨x, dx, vs, B1, _, _, rfl, hxx, b1x, nox, E3, p1.2.get, fun B' H' fs gs as' mv sub E' hx' bx' hf p => ⟨rfl, ?_⟩⟩
  have sBB : Same B' (upd B' x (.ins C dx fs)) := fun a o e => by rw [upd_ne (ne_of_none e bx')]; exact e
  have kept : ∀ a o, ¬ Own (vs.map some) (rs.map (argSl Γ1)) a → H1 a = some o → H' a = some o := fun a o na e => mv.kp a o (fun z => z.elim (fun z => by subst z; rw [hx] at e; cases e) na) (s12 a o e)
  have offB : ∀ a, ¬ Own (vs.map some) (rs.map (argSl Γ1)) a → H1 a ≠ none → B1 a = none → B' a = none := fun a na ha hb => by
    have hne : a ≠ x := fun z => by subst z; exact ha hx
    refine mv.off a (fun z => z.elim hne na) ?_ hb
    cases qq : H1 a with
    | none => exact absurd qq ha
    | some o => rw [s12 a o qq]; exact fun z => nomatch z
  have E4 : Env K (upd B' x (.ins C dx fs)) H' (vs.map some) as' := by
    refine ⟨E'.len, fun a o e => ?_, fun i d hi => ?_, fun i es hi => ?_, E'.sep⟩
    · by_cases ha : a = x
      · subst ha; rw [upd_same] at e; cases e; exact hx'
      · rw [upd_ne ha] at e; exact E'.bh a o e
    · obtain ⟨v, e1, e2⟩ := E'.val i d hi
      exact ⟨v, e1, e2.mono sBB⟩
    · obtain ⟨l, us, e1, e2, e3, e4⟩ := E'.cel i es hi
      have hl : l ≠ x := fun z => by subst z; rw [hx'] at e2; cases e2; cases es <;> (obtain ⟨_, z, _⟩ := e4; cases z)
      exact ⟨l, us, e1, e2, by rw [upd_ne hl]; exact e3, e4.mono sBB⟩
  have g2 : Go K (vs.map some) B1 H1 (rs.map (argSl Γ1)) (upd B' x (.ins C dx fs)) H' as' := by
    refine ⟨⟨fun a o na e => kept a o na e, mv.bb.trans sBB, fun a na ha hb => ?_⟩, sub, E4⟩
    have hne : a ≠ x := fun z => by subst z; exact ha hx
    rw [upd_ne hne]; exact offB a na ha hb
  obtain ⟨g3, _⟩ := kk _ _ _ g2
  have hf' := hf.mono sBB
  exact q (.ref x) _ H' (.val (.obj C gs)) _ g3 (Is.obj upd_same hf'.hk hf'.hi) p
end
end Ab

namespace L2
open PySem PySem.Spec PyProof.Rows
section
variable {P : Program} {w : World} {K : PySem.W.Frag} {mg : Str → Option Value} {base : Heap} {C f : Addr} {x qual : Str} {st : Stmt} {fd : FuncData} {k : Nat} {fld : Str}
end
section
variable {X : Cx} {CX : CXT} {k : Nat} {f C : Addr} {fd : FuncData} {ps : List Str} {sp : Sp} {E : XK}
def rInO (C : Addr) (sp : Sp) (E : XK) (b0 : Bool) : R2 := fun x y H Q => ∃ a dx fs, y = .ref a ∧ H a = some (.ins C dx fs) ∧ sp [y, x] H (fun v H' => ∃ b, v = .bl b ∧ Q (.bl (b != b0)) H') E
theorem in_run (F : FnOk X.prog X.w X.K X.mg X.base CX k f fd ps sp) (hr : Room k X.A) (hs : PySem.W.findIn X.K (.ref C) "__contains__" = some (some (.ref f))) (hf : PySem.W.isFn X.K (.ref f) = true) (hb : Binds X.K fd ps []) (hx : Passes CX X E)
    {pins : List (Addr × Obj)} {s : Shared} {σ : L2.St} {H : Hp} {x : V} {v : Value} {a dx : Addr} {fs : List (Str × V)} {Q : Bool → Hp → Prop} (I : Inv X pins σ H s) (rx : RelV x v) (ha : H a = some (.ins C dx fs))
    (h : sp [.ref a, x] H (fun v H' => ∃ b, v = .bl b ∧ Q b H') E) : wpAny (model X.prog X.w) X.A (contains (.ref a) v) (fun b s' => ∃ H', Inv X pins σ H' s' ∧ Q b H') X.xe s := by
  obtain ⟨mA, J, _⟩ := ins_get I.hok ha
  obtain ⟨od, J, _⟩ := J.look
  refine PySem.W.contains_own I.kIn J hs hf ?_
  refine wpAny_mono (run_fn (us := [.ref a, v]) (vs := [.ref a, x]) F hr hb .nil hx I (.cons rfl (.cons rx .nil)) h) (fun w s' hw => ?_) fun _ _ z => z
  obtain ⟨z, H', I', rz, b, rfl, q⟩ := hw
  exact ⟨b, rz, H', I', q⟩
theorem op_notinO (F : FnOk X.prog X.w X.K X.mg X.base CX k f fd ps sp) (hr : Room k X.A) (hs : PySem.W.findIn X.K (.ref C) "__contains__" = some (some (.ref f))) (hf : PySem.W.isFn X.K (.ref f) = true) (hb : Binds X.K fd ps []) (hx : Passes CX X E) : OpR X (compareOp .NotIn) (rInO C sp E true) := by
  intro pins s σ H x y v u Q I rx ry hq
  obtain ⟨a, dx, fs, rfl, ha, h⟩ := hq
  cases ry
  show wpAny _ _ (contains (.ref a) v >>= fun r => pure (Value.bool (!r))) _ _ _
  refine wpAny_bind (wpAny_mono (in_run F hr hs hf hb hx I rx ha h) (fun b s' hb => wpAny_pure ?_) fun _ _ z => z)
  obtain ⟨H', I', q⟩ := hb
  exact ⟨.bl (!b), H', I', rfl, by simpa using q⟩
end
end L2
namespace Ab
open PySem L2
section
variable {K : PySem.W.Frag} {Γ : List Sl} {Post : Re → List Sl → Prop} {ta tb te : TE} {C : Addr} {fld : Str}
theorem we_inO {b0 : Bool} {ap : AP} {E0 : XK} (h : WE K ta Γ fun ra Γ1 => ∃ d, ra = .val d ∧ WE K tb Γ1 fun rb Γ2 => ∃ gs, rb = .val (.obj C gs) ∧ Hold (ap [.val (.obj C gs), .val d] fun r as' => ∃ b, r = .val (.bl b) ∧ Post (.val (.bl (b != b0))) Γ2)) : WE K (tOp (rInO C (toSp K ap) E0 b0) ta tb) Γ Post := fun σ B H E Q q => by
  refine h σ B H E _ fun x B1 H1 ra Γ1 g1 k1 p1 => ?_
  obtain ⟨d, rfl, p1⟩ := p1
  refine p1 σ B1 H1 g1.env _ fun y B2 H2 rb Γ2 g2 k2 p2 => ?_
  obtain ⟨gs, rfl, p2⟩ := p2
  have k1' : Is K B2 x d := Is.mono g2.mv.bb k1
  have k2' : Is K B2 y (.obj C gs) := k2
  obtain ⟨a, dx, fs, rfl, hb, _, _⟩ := Is.objR k2'
  refine ⟨a, dx, fs, rfl, g2.env.bh _ _ hb, ?_⟩
  have k3 : IsA K B2 [V.ref a, x] [.obj C gs, d] := .cons k2' (.cons k1' .nil)
  refine call_core E (g1.trans g2) (asOk_val k3) rfl (Post := fun r G => ∃ b, r = .val (.bl b) ∧ Post (.val (.bl (b != b0))) G) ?_ (fun v B' H' r Γ' g k p => ?_)
  · rw [args_vals]
    simp only [back_vals]
    exact p2.get
  · obtain ⟨b, rfl, p⟩ := p
    cases Is.rawI k
    exact ⟨b, rfl, q _ B' H' (.val (.bl (b != b0))) Γ' g (Is.raw _) p⟩
theorem we_it (h : WE K ta Γ fun r Γ1 => ∃ gs d, r = .val (.obj C gs) ∧ gs.lookup fld = some d ∧ Post (.val d) Γ1) : WE K (tIt C ta fld) Γ Post := fun σ B H E Q q => by
  refine h σ B H E _ fun x B1 H1 r Γ1 g1 k1 p1 => ?_
  obtain ⟨gs, d, rfl, hl, p⟩ := p1
  obtain ⟨a, dx, fs, rfl, hb, hk, hi⟩ := Is.objR k1
  obtain ⟨w, hw⟩ := lk_some (hk fld) hl
  exact ⟨a, dx, fs, w, rfl, g1.env.bh _ _ hb, hw, q w B1 H1 (.val d) Γ1 g1 (hi fld w d hw hl) p⟩
theorem box_get {B H : Hp} {x : V} {gs : List (Str × Dt)} {ds : List Dt} (k1 : Is K B x (.obj C gs)) (hl : gs.lookup fld = some (.lst ds)) (hb : Same B H) : ∃ a dx fs l zs, x = .ref a ∧ H a = some (.ins C dx fs) ∧ fs.lookup fld = some (.ref l) ∧ SqL K H l zs ∧ IsA K B zs ds := by
  obtain ⟨a, dx, fs, rfl, ha, hk, hi⟩ := Is.objR k1
  obtain ⟨w, hw⟩ := lk_some (hk fld) hl
  obtain ⟨l, zs, rfl, h1, h2⟩ := Is.lstR (hi fld w _ hw hl)
  exact ⟨a, dx, fs, l, zs, rfl, hb _ _ ha, hw, .inl (.inl (hb _ _ h1)), h2⟩
theorem we_boxLen (h : WE K te Γ fun r Γ1 => ∃ gs ds, r = .val (.obj C gs) ∧ gs.lookup fld = some (.lst ds) ∧ Post (.val (.int ds.length)) Γ1) : WE K (tCB (rBoxLen K C fld) (tCons te tNil)) Γ Post := fun σ B H E Q q => by
  refine h σ B H E _ fun x B1 H1 r Γ1 g1 k1 p1 => ?_
  obtain ⟨gs, ds, rfl, hl, p⟩ := p1
  obtain ⟨a, dx, fs, l, zs, rfl, ha, hw, hz, hi⟩ := box_get k1 hl g1.env.bh
  exact ⟨a, dx, fs, l, zs, rfl, ha, hw, hz, q _ B1 H1 _ Γ1 g1 (by rw [hi.len]; exact Is.raw _) p⟩
theorem we_boxList (h : WE K te Γ fun r Γ1 => ∃ gs ds, r = .val (.obj C gs) ∧ gs.lookup fld = some (.lst ds) ∧ Post (.new ds) Γ1) : WE K (tCB (rBoxList K C fld) (tCons te tNil)) Γ Post := fun σ B H E Q q => by
  refine h σ B H E _ fun x B1 H1 r Γ1 g1 k1 p1 => ?_
  obtain ⟨gs, ds, rfl, hl, p⟩ := p1
  obtain ⟨a, dx, fs, l, zs, rfl, ha, hw, hz, hi⟩ := box_get k1 hl g1.env.bh
  refine ⟨a, dx, fs, l, zs, rfl, ha, hw, hz, fun b hb => ?_⟩
  exact q _ _ _ (.new ds) Γ1 (g1.trans (Go.beside (o := .lst zs) g1.env hb)) ⟨b, _, rfl, g1.mv.back hb, g1.env.not_own hb, upd_same, g1.env.base_none hb, zs, rfl, hi⟩ p
end
end Ab

namespace Ab
open PySem L2
theorem wipe2 {σ : L2.St} {a b : Nat} (h : a ≠ b) : wipe σ [a, b] = (σ.set a none).set b none := by
  first | rfl | (show (σ.set b none).set a none = _; exact List.set_comm _ _ (Ne.symm h))
theorem env_wipe {K : PySem.W.Frag} {B H : Hp} {σ : L2.St} {Γ : List Sl} {a b : Nat} (E : Env K B H σ Γ) : Env K B H ((σ.set a none).set b none) ((Γ.set a .un).set b .un) := by
  have up : ∀ {i : Nat} {s : Sl}, ((Γ.set a .un).set b .un)[i]? = some s → s ≠ .un → i ≠ a ∧ i ≠ b ∧ Γ[i]? = some s := fun {i s} h hs => by
    by_cases h1 : i = b
    · subst h1
      by_cases hl : i < (Γ.set a .un).length
      · rw [List.getElem?_set_self hl] at h; cases h; exact absurd rfl hs
      · rw [List.getElem?_eq_none (by rw [List.length_set]; omega)] at h; cases h
    · rw [List.getElem?_set_ne (Ne.symm h1)] at h
      by_cases h2 : i = a
      · subst h2
        by_cases hl : i < Γ.length
        · rw [List.getElem?_set_self hl] at h; cases h; exact absurd rfl hs
        · rw [List.getElem?_eq_none (by rw [List.length_set]; omega)] at h; cases h
      · rw [List.getElem?_set_ne (Ne.symm h2)] at h
        exact ⟨h2, h1, h⟩
  have sg : ∀ {i : Nat}, i ≠ a → i ≠ b → ((σ.set a none).set b none)[i]? = σ[i]? := fun {i} h1 h2 => by rw [List.getElem?_set_ne (Ne.symm h2), List.getElem?_set_ne (Ne.symm h1)]
  refine ⟨by rw [List.length_set, List.length_set, List.length_set, List.length_set, E.len], E.bh, fun i d h => ?_, fun i c h => ?_, fun i j c d l h1 h2 h3 h4 => ?_⟩
  · obtain ⟨n1, n2, h⟩ := up h (fun z => nomatch z)
    rw [sg n1 n2]; exact E.val i d h
  · obtain ⟨n1, n2, h⟩ := up h (fun z => nomatch z)
    rw [sg n1 n2]; exact E.cel i c h
  · obtain ⟨n1, n2, h1⟩ := up h1 (fun z => nomatch z)
    obtain ⟨m1, m2, h2⟩ := up h2 (fun z => nomatch z)
    rw [sg n1 n2] at h3
    rw [sg m1 m2] at h4
    exact E.sep i j c d l h1 h2 h3 h4
theorem lc_two {K : PySem.W.Frag} {Γ : List Sl} {tl te : TE} {g : TG} {a b : Nat} {Post : Re → List Sl → Prop} {α : Type} (xs : List α) (c f : α → Dt) (pin : List Nat) (hab : a ≠ b) (hp : ∀ i, i < Γ.length → i ≠ a → i ≠ b → i ∈ pin) (ha : a < Γ.length) (hb : b < Γ.length) (hca : ∀ c, Γ[a]? ≠ some (.cel c)) (hcb : ∀ c, Γ[b]? ≠ some (.cel c))
    (h : WE K tl Γ fun z Γ1 => Hold (z.dt? = some (.lst (xs.map c)) ∧ xs.length ≤ 1000000 ∧ Γ1 = Γ))
    (tgt : ∀ x ∈ xs, WG K pin g (c x) ((Γ.set a .un).set b .un) fun G2 => (∃ d1 d2, G2 = (Γ.set a (.val d1)).set b (.val d2)) ∧ WE K te G2 fun r G3 => ∃ d, r.dt? = some d ∧ d = f x ∧ G3 = G2)
    (done : Post (.new (xs.map f)) Γ) : WE K (tLc (iList K tl) g tYes te [a, b]) Γ Post := fun σ B H E Q q => by
  have h' : WE K tl Γ fun z Γ1 => ∃ ds, z = .val (.lst ds) ∧ ds = xs.map c ∧ xs.length ≤ 1000000 ∧ Γ1 = Γ := we_freeze (we_mono h fun z Γ1 p => by
    obtain ⟨h1, h2, h3⟩ := p.get
    exact ⟨_, h1, _, rfl, rfl, h2, h3⟩)
  refine h' σ B H E _ fun v B1 H1 z Γ1 g1 k1 p1 => ?_
  obtain ⟨ds, rfl, rfl, hn, eG⟩ := p1
  have eG := eG.symm
  subst eG
  obtain ⟨l, vs, rfl, hl, hx⟩ := Is.lstR k1
  refine ⟨l, rfl, ⟨vs, .inl (.inl (g1.env.bh _ _ hl))⟩, fun D hD => ?_⟩
  have E1 := g1.env
  have hvl : vs.length = xs.length := by rw [hx.len, List.length_map]
  have nD := E1.not_own hD
  have bD := E1.base_none hD
  -- what holds at each turn
  let I : Nat → Hp → Prop := fun i H' => ∃ B' acc, Mv (Own σ Γ) B1 H1 B' H' ∧ Env K B' H' σ Γ ∧ H' D = some (.lst acc) ∧ B' D = none ∧ IsA K B' acc ((xs.take i).map f)
  refine ⟨fun i m H' => m = xs.length - i ∧ i ≤ xs.length ∧ I i H', ⟨xs.length, by simp, Nat.zero_le _, B1, [], (Go.beside E1 hD).mv, E1.beside hD, upd_same, bD, .nil⟩, ?_⟩
  rintro i m H' ⟨rfl, hi, B', acc, mv, Ei, hDi, bDi, ia⟩
  have hli : SqL K H' l vs := .inl (.inl (Ei.bh _ _ (mv.bb _ _ hl)))
  by_cases hlt : i < xs.length
  · refine .inr ⟨⟨vs, vs[i], hli, List.getElem?_eq_getElem (by omega)⟩, fun H2 => I (i + 1) H2, fun H2 h2 => ⟨_, by omega, rfl, hlt, h2⟩, fun y H2 hy => ?_⟩
    obtain ⟨e1, e2⟩ := hy
    subst e1
    have hy : vs[i]? = some y := e2 vs hli
    have hxi : xs[i]? = some xs[i] := List.getElem?_eq_getElem hlt
    have iy : Is K B' y (c xs[i]) := (hx.at_ i y _ hy (by rw [List.getElem?_map, hxi]; rfl)).mono mv.bb
    rw [wipe2 hab]
    refine tgt xs[i] (List.getElem_mem _) _ B' _ y (env_wipe Ei) iy _ fun σ2 G2 gs p => ?_
    obtain ⟨⟨d1, d2, rfl⟩, p⟩ := p
    have sg : ∀ {j : Nat}, j < Γ.length → j ≠ a → j ≠ b → σ2[j]? = σ[j]? := fun {j} hj h1 h2 => by
      rw [gs.pin j (hp j hj h1 h2), List.getElem?_set_ne (Ne.symm h2), List.getElem?_set_ne (Ne.symm h1)]
    have hlen2 : σ2.length = Γ.length := by rw [gs.env.len, List.length_set, List.length_set]
    have hlen : σ.length = Γ.length := Ei.len
    refine ⟨?_, ?_⟩
    · rw [wipe2 hab]
      refine List.ext_getElem? fun j => ?_
      by_cases hjl : j < Γ.length
      · by_cases h2 : j = b
        · subst h2
          rw [List.getElem?_set_self (by rw [List.length_set]; omega), List.getElem?_set_self (by rw [List.length_set]; omega)]
        · rw [List.getElem?_set_ne (Ne.symm h2), List.getElem?_set_ne (Ne.symm h2)]
          by_cases h1 : j = a
          · subst h1
            rw [List.getElem?_set_self (by omega), List.getElem?_set_self (by omega)]
          · rw [List.getElem?_set_ne (Ne.symm h1), List.getElem?_set_ne (Ne.symm h1)]
            exact sg hjl h1 h2
      · rw [List.getElem?_eq_none (by rw [List.length_set, List.length_set]; omega), List.getElem?_eq_none (by rw [List.length_set, List.length_set]; omega)]
    · have gi : ∀ {j : Nat} {cc : Cn}, ((Γ.set a (.val d1)).set b (.val d2))[j]? = some (.cel cc) → j ≠ a ∧ j ≠ b ∧ Γ[j]? = some (.cel cc) := fun {j cc} hj => by
        by_cases h2 : j = b
        · subst h2; rw [List.getElem?_set_self (by rw [List.length_set]; omega)] at hj; cases hj
        · rw [List.getElem?_set_ne (Ne.symm h2)] at hj
          by_cases h1 : j = a
          · subst h1; rw [List.getElem?_set_self ha] at hj; cases hj
          · rw [List.getElem?_set_ne (Ne.symm h1)] at hj; exact ⟨h1, h2, hj⟩
      have own2 : ∀ x, Own σ2 ((Γ.set a (.val d1)).set b (.val d2)) x → Own σ Γ x := fun x ⟨j, cc, h1, h2⟩ => by
        obtain ⟨n1, n2, h1⟩ := gi h1
        rw [sg (List.getElem?_eq_some_iff.mp h1).1 n1 n2] at h2
        exact ⟨j, cc, h1, h2⟩
      have p' : WE K te ((Γ.set a (.val d1)).set b (.val d2)) fun r G3 => ∃ d, r = .val d ∧ d = f xs[i] ∧ G3 = (Γ.set a (.val d1)).set b (.val d2) := we_freeze (we_mono p fun r G3 ⟨d, hd, e, e3⟩ => ⟨d, hd, d, rfl, e, e3⟩)
      refine p' σ2 B' _ gs.env _ fun w B3 H3 r G3 g3 k3 p3 => ?_
      obtain ⟨d, rfl, rfl, rfl⟩ := p3
      have nD2 : ¬ Own σ2 ((Γ.set a (.val d1)).set b (.val d2)) D := fun z => nD (own2 D z)
      have hD3 : H3 D = some (.lst acc) := g3.mv.kp D _ nD2 hDi
      have bD3 : B3 D = none := g3.mv.off D nD2 (by rw [hDi]; exact fun z => nomatch z) bDi
      refine ⟨acc, hD3, by rw [ia.len, List.length_map, List.length_take, sizeLine_eq]; omega, ?_⟩
      have mv3 : Mv (Own σ Γ) B1 H1 B3 H3 := mv.trans (fun x hx => .inl (own2 x hx)) g3.mv
      have E3 : Env K B3 H3 σ Γ := by
        refine ⟨hlen, g3.env.bh, fun j d hd => ?_, fun j cc hc => ?_, Ei.sep⟩
        · obtain ⟨u, q1, q2⟩ := Ei.val j d hd
          exact ⟨u, q1, q2.mono g3.mv.bb⟩
        · have n1 : j ≠ a := fun z => by subst z; exact hca _ hc
          have n2 : j ≠ b := fun z => by subst z; exact hcb _ hc
          obtain ⟨l', o, q1, q2, q3, q4⟩ := g3.env.cel j cc (by rw [List.getElem?_set_ne (Ne.symm n2), List.getElem?_set_ne (Ne.symm n1)]; exact hc)
          rw [sg (List.getElem?_eq_some_iff.mp hc).1 n1 n2] at q1
          exact ⟨l', o, q1, q2, q3, q4⟩
      refine ⟨B3, acc ++ [w], ?_, E3.updOff bD3 nD, upd_same, bD3, ?_⟩
      · exact ⟨fun x o nx e => by
          rw [upd_ne (fun z => by subst z; rw [hD] at e; cases e)]
          exact mv3.kp x o nx e, mv3.bb, mv3.off⟩
      · rw [List.take_add_one, hxi, List.map_append]
        exact (ia.mono g3.mv.bb).snoc k3
  · have : i = xs.length := by omega
    subst this
    rw [List.take_length] at ia
    refine .inl ⟨⟨vs, hli, by omega⟩, ?_⟩
    have g2 : Go K σ B1 H1 Γ B' H' Γ := ⟨mv, fun _ cc h => ⟨cc, h⟩, Ei⟩
    exact q (.ref D) B' H' (.new (xs.map f)) Γ (g1.trans g2) ⟨D, _, rfl, .inr (by
      cases hq : H D with
      | none => rfl
      | some o => rw [g1.mv.kp D o (fun z => nD z) hq] at hD; cases hD), nD, hDi, bDi, acc, rfl, ia⟩ done
end Ab

namespace Ab
open PySem L2 PySem.W
section
variable {X : Cx} {pins : List (Addr × Obj)} {σ : L2.St} {H : Hp} {s : Shared} {A : Around} {E : Value → Shared → Prop} {a : Addr} {y d : V} {u r : Value} {o : Option V}
theorem n_get2 {Q : Value → Shared → Prop} (hu : A.units + 9 < cLine) (I : Inv X pins σ H s) (g : NGet X.K X.w H a y o) (ry : RelV y u) (rd : RelV d r) (h : ∀ w' s', Inv X pins σ H s' → RelV (o.getD d) w' → Q w' s') :
    wpAny (model X.prog X.w) A (call (.builtin "dict.get") [.ref a, u, r]) Q E s := by
  obtain ⟨xs, k, b, e, hq, rfl, ey, hd, l⟩ := g
  cases (show u = Value.ref b from ry)
  obtain ⟨z, hsy, dp, ys, rel, dd⟩ := dn_of rfl I e hq
  refine getOr_keyed (knd := nestedKind X.prog X.w) (kvs := pairsH ys) (show A.in1.units + 8 < cLine by rw [Around.in1_units]; omega) ⟨nk_of I k _ _ ey ry, hd⟩ hsy ⟨ys, dd, rfl⟩ ?_
  refine h _ _ (I.tok _) ?_
  rw [valueAt_pairsH, l]
  exact (rel.val k).getD rd
end
def tNGet2 (K : PySem.W.Frag) (w : World) (td ty tx : TE) : TE := fun σ H Q => td σ H fun x H1 => ∃ a, x = .ref a ∧ (∃ xs, H1 a = some (dNO w a xs) ∧ KeysOk K H1 xs) ∧ ty σ H1 fun y H2 => tx σ H2 fun z H3 => ∃ o, NGet K w H3 a y o ∧ Q (o.getD z) H3
section
variable {X : Cx} {w : World} {K : PySem.W.Frag} {o e f : Expr} {td ty tx : TE} {apos cpos : Pos}
theorem pe_nget2 (hw : w = X.w) (hk : K = X.K) (hu : X.A.units + 9 < cLine) (ho : PE X o td) (he : PE X e ty) (hf : PE X f tx) (m : M2 X o "get" apos e f cpos) : PE X (.Call (.Attribute o "get" apos) [e, f] [] cpos) (tNGet2 K w td ty tx) := by
  subst hw hk
  refine ⟨fun pins s σ H Q I h => ?_⟩
  refine wpAny_Call_method m.base m.few m.line PySem.F.plainAttrs_dict PySem.F.slot_dict_get PySem.F.type_dict_get (thn (ho.run pins s σ H _ I h) fun u s1 ⟨x, H1, I1, rx, a, ex, ⟨xs, ea, hq⟩, q1⟩ => ?_)
  subst ex
  obtain rfl : u = Value.ref a := rx
  obtain ⟨z, hsy, dp, ys, rel, dd⟩ := dn_of rfl I1 ea hq
  refine ⟨dd.typeIs, fun b q => ?_, ?_⟩
  · cases q
    obtain ⟨ob, _, _, h1, h2, _⟩ := dd
    exact ⟨ob, h1, h2.2.1⟩
  rw [m.trees]
  refine Calls.callWith_builtin rfl (Calls.evalArgs_plain (Calls.spliced_cons (thn (he.run pins s1 σ H1 _ I1 q1) fun iv s2 ⟨y, H2, I2, ry, q2⟩ =>
    Calls.spliced_cons (thn (hf.run pins s2 σ H2 _ I2 q2) fun fv s3 ⟨z, H3, I3, rz, ov, g, q3⟩ => Calls.spliced_nil ?_))))
  exact n_get2 hu I3 g ry rz fun w' s4 I4 rw' => ⟨_, H3, I4, rw', q3⟩
end
section
variable {w : World} {K : PySem.W.Frag} {Γ : List Sl} {td ty tx : TE} {Post : Re → List Sl → Prop}
theorem we_nget2 (h : WE K td Γ fun ra Γ1 => (∃ kvs0, dnOf Γ1 ra = some (w, kvs0)) ∧ WE K ty Γ1 fun rb Γ2 => WE K tx Γ2 fun rc Γ3 => Hold (∃ kvs k d0, dnOf Γ3 ra = some (w, kvs) ∧ rb = .val (dtN k) ∧ (∃ ks, k = .tup ks) ∧ k.depth ≤ 8 ∧ rc = .val d0 ∧ Post (.val ((valD kvs k).getD d0)) Γ3)) : WE K (tNGet2 K w td ty tx) Γ Post := fun σ B H E Q q => by
  refine h σ B H E _ fun x B1 H1 ra Γ1 g1 k1 p1 => ?_
  obtain ⟨⟨kv0, hs⟩, p1⟩ := p1
  obtain ⟨a, xs, rfl, ha, hk⟩ := rv_dN g1.env k1.rv hs
  refine ⟨a, rfl, ⟨xs, ha, hk.keysOk g1.env.bh⟩, ?_⟩
  refine p1 σ B1 H1 g1.env _ fun y B2 H2 rb Γ2 g2 k2 p2 => ?_
  refine p2 σ B2 H2 g2.env _ fun z B3 H3 rc Γ3 g3 k3 p3 => ?_
  obtain ⟨kvs, k, d0, e1, rfl, ⟨ks, rfl⟩, dp, rfl, p4⟩ := p3.get
  clear p3
  obtain ⟨a2, xs2, ea2, ha2, hk2⟩ := rv_dN g3.env (ReOk.rv (ReOk.step (ReOk.step k1 g2.mv g2.sub) g3.mv g3.sub)) e1
  cases ea2
  have ky' : Is K B2 y (dtN (.tup ks)) := k2
  obtain ⟨b, rfl⟩ := dtN_ref ky'
  have E := g3.env
  refine ⟨_, ⟨xs2, _, b, ha2, hk2.keysOk E.bh, rfl, (ky'.mono g3.mv.bb).mono E.bh, dp, rfl⟩, ?_⟩
  have kz : Is K B3 z d0 := k3
  rcases hk2.val (.tup ks) with ⟨f1, f2⟩ | ⟨v, d, f1, f2, hv⟩
  · rw [f1]
    rw [f2] at p4
    exact q z B3 H3 (.val d0) Γ3 ((g1.trans g2).trans g3) kz p4
  · rw [f1]
    rw [f2] at p4
    exact q v B3 H3 (.val d) Γ3 ((g1.trans g2).trans g3) hv p4
end
end Ab

namespace Ab
open PySem L2
abbrev G4 := Option ((Addr × Addr) × List Dt × List Dt)
def Gh (K : PySem.W.Frag) (B H : Hp) (m : Addr → Prop) : G4 → Prop
  | none => True
  | some ((w, b), bs, ls) => ∃ vb vl : List V, H w = some (.lst (vb ++ [.ref b])) ∧ IsA K B vb bs ∧ H b = some (.lst vl) ∧ IsA K B vl ls ∧ w ≠ b ∧ B w = none ∧ B b = none ∧ ¬ m w ∧ ¬ m b
structure StN (K : PySem.W.Frag) (m0 : Addr → Prop) (B0 H0 : Hp) (σ : L2.St) (B H : Hp) (Γ : List Sl) (g : G4) : Prop where
  env : Env K B H σ Γ
  mv : Mv m0 B0 H0 B H
  own : ∀ a, Own σ Γ a → m0 a ∨ H0 a = none
  gh : Gh K B H (Own σ Γ) g
  fr : ∀ w b bs ls, g = some ((w, b), bs, ls) → (m0 w ∨ H0 w = none) ∧ (m0 b ∨ H0 b = none)
structure Pn where
  nx : List Sl → G4 → Prop
  ct : List Sl → G4 → Prop := fun _ _ => False
section
variable {K : PySem.W.Frag} {m0 : Addr → Prop} {B0 H0 : Hp} {σ σ' : L2.St} {B B' H H' : Hp} {Γ Γ' : List Sl} {g : G4} {P : Pn} {t u : TS}
theorem Gh.step (h : Gh K B H (Own σ Γ) g) (x : GoS K [] σ B H Γ σ' B' H' Γ') : Gh K B' H' (Own σ' Γ') g := by
  match g, h with
  | none, _ => exact trivial
  | some ((w, b), bs, ls), h =>
    obtain ⟨vb, vl, hw, ib, hb, il, ne, bw, bb, nw, nb⟩ := h
    have tw : H w ≠ none := by rw [hw]; exact fun z => nomatch z
    have tb : H b ≠ none := by rw [hb]; exact fun z => nomatch z
    exact ⟨vb, vl, x.mv.kp w _ nw hw, ib.mono x.mv.bb, x.mv.kp b _ nb hb, il.mono x.mv.bb, ne, x.mv.off w nw tw bw, x.mv.off b nb tb bb, fun z => (x.new w z).elim nw tw, fun z => (x.new b z).elim nb tb⟩
theorem StN.step (s : StN K m0 B0 H0 σ B H Γ g) (x : GoS K [] σ B H Γ σ' B' H' Γ') : StN K m0 B0 H0 σ' B' H' Γ' g :=
  ⟨x.env, s.mv.trans s.own x.mv, fun a h => (x.new a h).elim (s.own a) fun h => s.mv.back h, s.gh.step x, s.fr⟩
theorem Env.free_upd (E : Env K B H σ Γ) {b : Addr} {o : HO} (nb : ¬ Own σ Γ b) (bb : B b = none) : Env K B (upd H b o) σ Γ := by
  refine ⟨E.len, fun a u e => ?_, E.val, fun i c h => ?_, E.sep⟩
  · rw [upd_ne (fun z => by rw [z, bb] at e; cases e)]
    exact E.bh a u e
  · obtain ⟨l, v, e, e1, e2, q⟩ := E.cel i c h
    exact ⟨l, v, e, by rw [upd_ne (fun z => nb (by rw [← z]; exact ⟨i, c, h, e⟩))]; exact e1, e2, q⟩
theorem Mv.free_upd (x : Mv m0 B0 H0 B H) {b : Addr} {o : HO} (hb : m0 b ∨ H0 b = none) : Mv m0 B0 H0 B (upd H b o) :=
  ⟨fun a u na e => by
    rw [upd_ne (fun z => by subst z; exact hb.elim na (fun q => by rw [q] at e; cases e))]
    exact x.kp a u na e, x.bb, x.off⟩
theorem own_set {i : Nat} {c c' : Cn} (hi : Γ[i]? = some (.cel c)) (a : Addr) : Own σ (Γ.set i (.cel c')) a ↔ Own σ Γ a := by
  have hlen : i < Γ.length := (List.getElem?_eq_some_iff.mp hi).1
  constructor
  · rintro ⟨j, cc, h1, h2⟩
    by_cases hj : j = i
    · subst hj; exact ⟨j, _, hi, h2⟩
    · rw [List.getElem?_set_ne (Ne.symm hj)] at h1; exact ⟨j, cc, h1, h2⟩
  · rintro ⟨j, cc, h1, h2⟩
    by_cases hj : j = i
    · subst hj; exact ⟨j, _, List.getElem?_set_self hlen, h2⟩
    · exact ⟨j, cc, by rw [List.getElem?_set_ne (Ne.symm hj)]; exact h1, h2⟩
theorem for_iteT {a : Addr} {xs : List V} {e0 : Int} {gt : TG} {tb : TS} {D : Ends} {σ : L2.St} {H : Hp} (Pv : Nat → L2.St → Hp → Prop) (h0 : Pv 0 σ H) (hl : ∀ i σ H, i ≤ xs.length → Pv i σ H → SqT K H a xs)
    (hs : ∀ (i : Nat) x σ H T, xs[i]? = some x → Pv i σ H → H T = none → gt (.ref T) σ (upd H T (.tup [.int (e0 + (i : Nat)), x])) fun σ2 H2 => tb { D with nx := Pv (i + 1), ct := Pv (i + 1), bk := D.nx } σ2 H2) (hd : ∀ σ H, Pv xs.length σ H → D.nx σ H) :
    ∃ W : Nat → Nat → L2.St → Hp → Prop, (∃ m, W 0 m σ H) ∧ ∀ i m σ H, W i m σ H →
      ((IteT K a e0).stop i H ∧ D.nx σ H) ∨ ((IteT K a e0).go i H ∧ ∃ N : L2.St → Hp → Prop, (∀ σ' H', N σ' H' → ∃ m', m' < m ∧ W (i + 1) m' σ' H') ∧ ∀ v H', (IteT K a e0).yld i H v H' → gt v σ H' fun σ2 H2 => tb { D with nx := N, ct := N, bk := D.nx } σ2 H2) := by
  refine ⟨fun i m σ H => m = xs.length - i ∧ i ≤ xs.length ∧ Pv i σ H, ⟨xs.length, by simp, Nat.zero_le _, h0⟩, ?_⟩
  rintro i m σ H ⟨rfl, hi, p⟩
  have q := hl i σ H hi p
  by_cases hlt : i < xs.length
  · refine .inr ⟨⟨xs, xs[i], q, List.getElem?_eq_getElem hlt⟩, Pv (i + 1), fun σ' H' p' => ⟨_, by omega, rfl, by omega, p'⟩, ?_⟩
    rintro v H' ⟨T, x, rfl, hT, rfl, hx⟩
    exact hs i x σ H T (hx xs q) p hT
  · have e : i = xs.length := by omega
    subst e
    exact .inl ⟨⟨xs, q, rfl⟩, hd σ H p⟩
end
end Ab

namespace Ab
open PySem L2
abbrev Gs := List (Addr × List Dt)
def GhL (K : PySem.W.Frag) (B H : Hp) (m : Addr → Prop) (g : Gs) : Prop := (g.map (·.1)).Nodup ∧ ∀ a ds, (a, ds) ∈ g → ∃ vs, H a = some (.lst vs) ∧ IsA K B vs ds ∧ B a = none ∧ ¬ m a
structure StG (K : PySem.W.Frag) (m0 : Addr → Prop) (B0 H0 : Hp) (σ : L2.St) (B H : Hp) (Γ : List Sl) (g : Gs) : Prop where
  env : Env K B H σ Γ
  mv : Mv m0 B0 H0 B H
  own : ∀ a, Own σ Γ a → m0 a ∨ H0 a = none
  gh : GhL K B H (Own σ Γ) g
  fr : ∀ a ds, (a, ds) ∈ g → m0 a ∨ H0 a = none
structure Pg where
  nx : List Sl → Gs → Prop
  ct : List Sl → Gs → Prop := fun _ _ => False
  ex : Ex := .no
def WH (K : PySem.W.Frag) (m0 : Addr → Prop) (B0 H0 : Hp) (t : TS) (Γ : List Sl) (g : Gs) (P : Pg) : Prop := ∀ σ B H (D : Ends), StG K m0 B0 H0 σ B H Γ g →
  (∀ σ' B' H' Γ' g', Same B B' → StG K m0 B0 H0 σ' B' H' Γ' g' → P.nx Γ' g' → D.nx σ' H') → (∀ σ' B' H' Γ' g', Same B B' → StG K m0 B0 H0 σ' B' H' Γ' g' → P.ct Γ' g' → D.ct σ' H') →
  (∀ cls d fs σ' B' H' Γ' g', Same B B' → StG K m0 B0 H0 σ' B' H' Γ' g' → ExB K B' d fs → P.ex.q cls fs Γ' → P.ex.W cls d σ' H') → t D σ H
section
variable {K : PySem.W.Frag} {m0 : Addr → Prop} {B0 H0 : Hp} {σ σ' : L2.St} {B B' H H' : Hp} {Γ Γ' : List Sl} {g : Gs} {P : Pg} {t u : TS} {pin : List Nat}
theorem GhL.step (h : GhL K B H (Own σ Γ) g) (x : GoS K pin σ B H Γ σ' B' H' Γ') : GhL K B' H' (Own σ' Γ') g := ⟨h.1, fun a ds ha => by
  obtain ⟨vs, e, ia, ba, na⟩ := h.2 a ds ha
  have tw : H a ≠ none := by rw [e]; exact fun z => nomatch z
  exact ⟨vs, x.mv.kp a _ na e, ia.mono x.mv.bb, x.mv.off a na tw ba, fun z => (x.new a z).elim na tw⟩⟩
theorem StG.step (s : StG K m0 B0 H0 σ B H Γ g) (x : GoS K pin σ B H Γ σ' B' H' Γ') : StG K m0 B0 H0 σ' B' H' Γ' g :=
  ⟨x.env, s.mv.trans s.own x.mv, fun a h => (x.new a h).elim (s.own a) fun h => s.mv.back h, s.gh.step x, s.fr⟩
theorem wh_ws (h : WS K pin t Γ ⟨fun G => P.nx G g, fun _ _ => False, fun _ => False, fun G => P.ct G g, P.ex⟩) : WH K m0 B0 H0 t Γ g P := fun σ B H D s n c xx =>
  h σ B H D s.env (fun σ' B' H' Γ' x p => n σ' B' H' Γ' g x.mv.bb (s.step x) p) (fun _ _ _ _ _ _ _ _ p => p.elim) (fun _ _ _ _ _ p => p.elim) (fun σ' B' H' Γ' x p => c σ' B' H' Γ' g x.mv.bb (s.step x) p) fun cls d fs σ' B' H' Γ' x e p => xx cls d fs σ' B' H' Γ' g x.mv.bb (s.step x) e p
theorem wh_seq (h : WH K m0 B0 H0 t Γ g ⟨fun G g' => WH K m0 B0 H0 u G g' P, P.ct, P.ex⟩) : WH K m0 B0 H0 (tSeq t u) Γ g P := fun σ B H D s n c xx =>
  h σ B H { D with nx := u D } s (fun σ' B' H' Γ' g' sb s' w => w σ' B' H' D s' (fun σ2 B2 H2 Γ2 g2 sb2 => n σ2 B2 H2 Γ2 g2 (sb.trans sb2)) (fun σ2 B2 H2 Γ2 g2 sb2 => c σ2 B2 H2 Γ2 g2 (sb.trans sb2)) fun cls d fs σ2 B2 H2 Γ2 g2 sb2 => xx cls d fs σ2 B2 H2 Γ2 g2 (sb.trans sb2)) c xx
theorem wh_if {tc : TT} (h : WT K tc Γ fun b G => (b = true → WH K m0 B0 H0 t G g P) ∧ (b = false → WH K m0 B0 H0 u G g P)) : WH K m0 B0 H0 (tIfS tc t u) Γ g P := fun σ B H D s n c xx => by
  refine h σ B H s.env _ fun b B1 H1 G x p => ?_
  have s1 := s.step (pin := []) x.s
  cases b with
  | true =>
    show t D σ H1
    exact p.1 rfl σ B1 H1 D s1 (fun σ2 B2 H2 Γ2 g2 sb2 => n σ2 B2 H2 Γ2 g2 (x.mv.bb.trans sb2)) (fun σ2 B2 H2 Γ2 g2 sb2 => c σ2 B2 H2 Γ2 g2 (x.mv.bb.trans sb2)) fun cls d fs σ2 B2 H2 Γ2 g2 sb2 => xx cls d fs σ2 B2 H2 Γ2 g2 (x.mv.bb.trans sb2)
  | false =>
    show u D σ H1
    exact p.2 rfl σ B1 H1 D s1 (fun σ2 B2 H2 Γ2 g2 sb2 => n σ2 B2 H2 Γ2 g2 (x.mv.bb.trans sb2)) (fun σ2 B2 H2 Γ2 g2 sb2 => c σ2 B2 H2 Γ2 g2 (x.mv.bb.trans sb2)) fun cls d fs σ2 B2 H2 Γ2 g2 sb2 => xx cls d fs σ2 B2 H2 Γ2 g2 (x.mv.bb.trans sb2)
theorem wh_next (p : P.nx Γ g) : WH K m0 B0 H0 tNext Γ g P := wh_ws (pin := []) (ws_nil p)
theorem wh_mono {P' : Pg} (h : WH K m0 B0 H0 t Γ g P) (hn : ∀ G g', P.nx G g' → P'.nx G g') (hc : ∀ G g', P.ct G g' → P'.ct G g') (he : P.ex = P'.ex := by rfl) : WH K m0 B0 H0 t Γ g P' := fun σ B H D s n c xx =>
  h σ B H D s (fun σ' B' H' Γ' g' sb s' p => n σ' B' H' Γ' g' sb s' (hn _ _ p)) (fun σ' B' H' Γ' g' sb s' p => c σ' B' H' Γ' g' sb s' (hc _ _ p)) (he ▸ xx)
theorem StG.born (s : StG K m0 B0 H0 σ B H Γ g) {a : Addr} (ha : H a = none) : StG K m0 B0 H0 σ B (upd H a (.lst [])) Γ ((a, []) :: g) := by
  have na : ¬ Own σ Γ a := s.env.not_own ha
  have ba : B a = none := s.env.base_none ha
  refine ⟨s.env.beside ha, s.mv.free_upd (s.mv.back ha), s.own, ⟨?_, fun b ds hb => ?_⟩, fun b ds hb => ?_⟩
  · refine List.nodup_cons.mpr ⟨fun z => ?_, s.gh.1⟩
    obtain ⟨⟨b, ds⟩, hb, e⟩ := List.mem_map.mp z
    obtain ⟨vs, e1, _⟩ := s.gh.2 b ds hb
    simp only at e
    rw [e, ha] at e1; cases e1
  · rcases List.mem_cons.mp hb with e | hb
    · cases e
      exact ⟨[], upd_same, .nil, ba, na⟩
    · obtain ⟨vs, e1, e2, e3, e4⟩ := s.gh.2 b ds hb
      exact ⟨vs, by rw [upd_ne (ne_of_none e1 ha)]; exact e1, e2, e3, e4⟩
  · rcases List.mem_cons.mp hb with e | hb
    · cases e
      exact s.mv.back ha
    · exact s.fr b ds hb
theorem wh_new {F : TE → TS} (R : V → Hp → Ends → L2.St → Prop) (hF : ∀ te D σ H, F te D σ H = te σ H fun y H1 => R y H1 D σ) (h : ∀ a, WH K m0 B0 H0 (F (tC (.ref a))) Γ ((a, []) :: g) P) : WH K m0 B0 H0 (F (tLst tNil)) Γ g P := fun σ B H D s n c xx => by
  rw [hF]
  refine ⟨Nat.zero_le _, fun a ha => ?_⟩
  have q := h a σ B (upd H a (.lst [])) D (s.born ha) n c xx
  rw [hF] at q
  exact q
theorem split_nodup {g1 g2 : Gs} {a : Addr} {ds : List Dt} (h : ((g1 ++ (a, ds) :: g2).map (·.1)).Nodup) : (∀ b es, (b, es) ∈ g1 → b ≠ a) ∧ ∀ b es, (b, es) ∈ g2 → b ≠ a := by
  rw [List.map_append, List.map_cons, List.nodup_append] at h
  obtain ⟨_, h2, h3⟩ := h
  refine ⟨fun b es hb e => ?_, fun b es hb e => ?_⟩
  · exact h3 b (List.mem_map.mpr ⟨_, hb, rfl⟩) a List.mem_cons_self e
  · subst e
    exact (List.nodup_cons.mp h2).1 (List.mem_map.mpr ⟨_, hb, rfl⟩)
theorem nodup_swap {g1 g2 : Gs} {a : Addr} {ds es : List Dt} (h : ((g1 ++ (a, ds) :: g2).map (·.1)).Nodup) : ((g1 ++ (a, es) :: g2).map (·.1)).Nodup := by
  simpa using h
theorem mem_swap {g1 g2 : Gs} {a b : Addr} {ds es fs : List Dt} (h : (b, fs) ∈ g1 ++ (a, es) :: g2) : (b = a ∧ fs = es) ∨ (b, fs) ∈ g1 ∨ (b, fs) ∈ g2 := by
  rcases List.mem_append.mp h with h | h
  · exact .inr (.inl h)
  · rcases List.mem_cons.mp h with h | h
    · cases h; exact .inl ⟨rfl, rfl⟩
    · exact .inr (.inr h)
theorem StG.upd {g1 g2 : Gs} {a : Addr} {ds : List Dt} (s : StG K m0 B0 H0 σ B H Γ (g1 ++ (a, ds) :: g2)) {vs : List V} {es : List Dt} (k : IsA K B vs es) : StG K m0 B0 H0 σ B (upd H a (.lst vs)) Γ (g1 ++ (a, es) :: g2) := by
  have ma : (a, ds) ∈ g1 ++ (a, ds) :: g2 := List.mem_append_right _ List.mem_cons_self
  obtain ⟨us, e1, e2, e3, e4⟩ := s.gh.2 a ds ma
  obtain ⟨n1, n2⟩ := split_nodup s.gh.1
  refine ⟨s.env.free_upd e4 e3, s.mv.free_upd (s.fr a ds ma), s.own, ⟨nodup_swap s.gh.1, fun b fs hb => ?_⟩, fun b fs hb => ?_⟩
  · rcases mem_swap (ds := ds) hb with ⟨rfl, rfl⟩ | hb | hb
    · exact ⟨vs, upd_same, k, e3, e4⟩
    · obtain ⟨ws, f1, f2, f3, f4⟩ := s.gh.2 b fs (List.mem_append_left _ hb)
      exact ⟨ws, by rw [upd_ne (n1 b fs hb)]; exact f1, f2, f3, f4⟩
    · obtain ⟨ws, f1, f2, f3, f4⟩ := s.gh.2 b fs (List.mem_append_right _ (List.mem_cons_of_mem _ hb))
      exact ⟨ws, by rw [upd_ne (n2 b fs hb)]; exact f1, f2, f3, f4⟩
  · rcases mem_swap (ds := ds) hb with ⟨rfl, rfl⟩ | hb | hb
    · exact s.fr b ds ma
    · exact s.fr b fs (List.mem_append_left _ hb)
    · exact s.fr b fs (List.mem_append_right _ (List.mem_cons_of_mem _ hb))
theorem wh_app {te tv : TE} (h : WE K te Γ fun r Γ1 => ∃ a ds g1 g2, r = .val (.raw (.ref a)) ∧ g = g1 ++ (a, ds) :: g2 ∧ ds.length < 1000000 ∧ WE K tv Γ1 fun z Γ2 => ∃ d, z.dt? = some d ∧ P.nx Γ2 (g1 ++ (a, ds ++ [d]) :: g2)) :
    WH K m0 B0 H0 (tDrop (tBM K "list" rAppend te (tCons tv tNil))) Γ g P := fun σ B H D s n c xx => by
  refine h σ B H s.env _ fun x B1 H1 r Γ1 x1 k1 p1 => ?_
  obtain ⟨a, ds, g1, g2, rfl, rfl, hz, p1⟩ := p1
  have k1' : x = .ref a := Is.rawI k1
  subst k1'
  have s1 := s.step (pin := []) x1.s
  have ma : (a, ds) ∈ g1 ++ (a, ds) :: g2 := List.mem_append_right _ List.mem_cons_self
  obtain ⟨vs, e1, _⟩ := s1.gh.2 a ds ma
  refine ⟨.inl ⟨rfl, vs, .inl (.inl e1)⟩, ?_⟩
  have p1' : WE K tv Γ1 fun z Γ2 => ∃ d, z = .val d ∧ P.nx Γ2 (g1 ++ (a, ds ++ [d]) :: g2) := we_freeze (we_mono p1 fun z Γ2 ⟨d, hd, q⟩ => ⟨d, hd, d, rfl, q⟩)
  refine p1' σ B1 H1 s1.env _ fun y B2 H2 z Γ2 x2 k2 p2 => ?_
  obtain ⟨d, rfl, p2⟩ := p2
  have s2 := s1.step (pin := []) x2.s
  obtain ⟨vs2, f1, f2, _⟩ := s2.gh.2 a ds ma
  refine ⟨a, vs2, y, rfl, rfl, f1, by rw [f2.len, sizeLine_eq]; omega, ?_⟩
  exact n σ B2 _ Γ2 _ (x1.mv.bb.trans x2.mv.bb) (s2.upd (f2.snoc k2)) p2
theorem wh_forL {α : Type} {te : TE} {gt : TG} {tb : TS} (xs : List α) (c : α → Dt) (Inv : Nat → List Sl → Gs → Prop) (h : WE K te Γ fun z Γ1 => Hold (z.dt? = some (.lst (xs.map c)) ∧ Inv 0 Γ1 g))
    (turn : ∀ (i : Nat) x G g', xs[i]? = some x → Inv i G g' → WG K [] gt (c x) G fun G2 => WH K m0 B0 H0 tb G2 g' ⟨fun G g2 => Inv (i + 1) G g2, fun G g2 => Inv (i + 1) G g2, P.ex⟩) (done : ∀ G g', Inv xs.length G g' → P.nx G g') : WH K m0 B0 H0 (tFor (iList K te) gt tb) Γ g P := fun σ B H D s n cc xx => by
  have h' : WE K te Γ fun z Γ1 => z = .val (.lst (xs.map c)) ∧ Inv 0 Γ1 g := we_freeze (we_mono h fun z Γ1 p => ⟨_, p.get.1, rfl, p.get.2⟩)
  refine h' σ B H s.env _ fun v B1 H1 z Γ1 x1 k p => ?_
  obtain ⟨rfl, i0⟩ := p
  obtain ⟨a, vs, rfl, ha, hx⟩ := Is.lstR k
  have hvl : vs.length = xs.length := by rw [hx.len, List.length_map]
  refine ⟨a, rfl, ⟨vs, .inl (.inl (x1.env.bh _ _ ha))⟩, for_list (xs := vs) (fun i σ' H' => ∃ B' Γ' g', Same B1 B' ∧ StG K m0 B0 H0 σ' B' H' Γ' g' ∧ Inv i Γ' g') ⟨B1, Γ1, g, Same.refl _, s.step (pin := []) x1.s, i0⟩ ?_ ?_ ?_⟩
  · rintro i σ' H' _ ⟨B', Γ', g', sb, s2, _⟩
    exact .inl (.inl (s2.env.bh _ _ (sb _ _ ha)))
  · rintro i y σ' H' hi ⟨B', Γ', g', sb, s2, inv⟩
    have hlt : i < xs.length := by rw [← hvl]; exact (List.getElem?_eq_some_iff.mp hi).1
    have hxi : Is K B' y (c xs[i]) := (hx.at_ i y _ hi (by rw [List.getElem?_map, List.getElem?_eq_getElem hlt]; rfl)).mono sb
    refine turn i xs[i] Γ' g' (List.getElem?_eq_getElem hlt) inv σ' B' H' _ s2.env hxi _ fun σ2 Γ2 g3 w => ?_
    exact w σ2 _ _ _ (s2.step g3) (fun σ3 B3 H3 Γ3 g4 sb3 s4 p => ⟨B3, Γ3, g4, sb.trans sb3, s4, p⟩) (fun σ3 B3 H3 Γ3 g4 sb3 s4 p => ⟨B3, Γ3, g4, sb.trans sb3, s4, p⟩) fun cls d fs σ3 B3 H3 Γ3 g4 sb3 s4 e p => xx cls d fs σ3 B3 H3 Γ3 g4 ((x1.mv.bb.trans sb).trans sb3) s4 e p
  · rintro σ' H' ⟨B', Γ', g', sb, s2, inv⟩
    rw [hvl] at inv
    exact n σ' B' H' Γ' g' (x1.mv.bb.trans sb) s2 (done Γ' g' inv)
theorem wh_forE {ta : TA} {gt : TG} {tb : TS} (ds : List Dt) (Inv : Nat → List Sl → Gs → Prop) (h : WD K ta Γ fun es Γ1 => Hold (es = [.tup ds] ∧ Inv 0 Γ1 g))
    (turn : ∀ (i : Nat) d G g', ds[i]? = some d → Inv i G g' → WG K [] gt (.tup [.int (i : Int), d]) G fun G2 => WH K m0 B0 H0 tb G2 g' ⟨fun G g2 => Inv (i + 1) G g2, fun G g2 => Inv (i + 1) G g2, P.ex⟩) (done : ∀ G g', Inv ds.length G g' → P.nx G g') : WH K m0 B0 H0 (tFor (iEnumT K ta) gt tb) Γ g P := fun σ B H D s n c xx => by
  refine h σ B H s.env _ fun vs B1 H1 es Γ1 g1 k p => ?_
  obtain ⟨rfl, i0⟩ := p.get
  obtain ⟨v, rfl⟩ : ∃ v, vs = [v] := by
    match vs, k.len with
    | [v], _ => exact ⟨v, rfl⟩
  have hv : Is K B1 v (.tup ds) := k.at_ 0 v _ rfl rfl
  obtain ⟨a, xs, rfl, ha, hx⟩ := Is.tupR hv
  refine ⟨a, xs, rfl, sqT_mono g1.env.bh ha, for_iteT (xs := xs) (fun i σ' H' => ∃ B' Γ' g', Same B1 B' ∧ StG K m0 B0 H0 σ' B' H' Γ' g' ∧ Inv i Γ' g') ⟨B1, Γ1, g, Same.refl _, s.step (pin := []) g1.s, i0⟩ ?_ ?_ ?_⟩
  · rintro i σ' H' _ ⟨B', Γ', g', sb, s2, _⟩
    exact sqT_mono (sb.trans s2.env.bh) ha
  · rintro i x σ' H' T hi ⟨B', Γ', g', sb, s2, inv⟩ hT
    have hlt : i < ds.length := by rw [← hx.len]; exact (List.getElem?_eq_some_iff.mp hi).1
    have gl := Go.laid (o := .tup [.int ((0 : Int) + (i : Nat)), x]) s2.env hT
    have sT := s2.step (pin := []) gl.s
    have hxi := ((hx.at_ i x _ hi (List.getElem?_eq_getElem hlt)).mono sb).mono gl.mv.bb
    have iT : Is K (upd B' T (.tup [.int ((0 : Int) + (i : Nat)), x])) (.ref T) (.tup [.int (i : Int), ds[i]]) := by
      have e0 : (0 : Int) + ((i : Nat) : Int) = (i : Int) := Int.zero_add _
      have ia : IsA K (upd B' T (.tup [.int ((0 : Int) + (i : Nat)), x])) [.int ((0 : Int) + (i : Nat)), x] [.int (i : Int), ds[i]] := .cons (by rw [e0]; exact .raw _) (.cons hxi .nil)
      exact .tup (.inl (.inl upd_same)) ia.len ia.at_
    refine turn i ds[i] Γ' g' (List.getElem?_eq_getElem hlt) inv σ' _ _ _ sT.env iT _ fun σ2 Γ2 g3 w => ?_
    exact w σ2 _ _ _ (sT.step g3) (fun σ3 B3 H3 Γ3 g4 sb3 s4 p => ⟨B3, Γ3, g4, (sb.trans gl.mv.bb).trans sb3, s4, p⟩) (fun σ3 B3 H3 Γ3 g4 sb3 s4 p => ⟨B3, Γ3, g4, (sb.trans gl.mv.bb).trans sb3, s4, p⟩) fun cls d fs σ3 B3 H3 Γ3 g4 sb3 s4 e p => xx cls d fs σ3 B3 H3 Γ3 g4 ((g1.mv.bb.trans (sb.trans gl.mv.bb)).trans sb3) s4 e p
  · rintro σ' H' ⟨B', Γ', g', sb, s2, inv⟩
    rw [hx.len] at inv
    exact n σ' B' H' Γ' g' (g1.mv.bb.trans sb) s2 (done Γ' g' inv)
theorem wh_for2 {t1 : TA} {gt : TG} {tb : TS} (lo m : Int) (Inv : Nat → List Sl → Gs → Prop) (h : WD K t1 Γ fun ds Γ1 => Hold (ds = [.int lo, .int m] ∧ (-(2 ^ 62) ≤ lo ∧ lo < 2 ^ 62 ∧ -(2 ^ 62) ≤ m ∧ m < 2 ^ 62) ∧ Inv 0 Γ1 g))
    (turn : ∀ (i : Nat) G g', lo + (i : Int) < m → Inv i G g' → WG K [] gt (.int (lo + i)) G fun G2 => WH K m0 B0 H0 tb G2 g' ⟨fun G g2 => Inv (i + 1) G g2, fun G g2 => Inv (i + 1) G g2, P.ex⟩) (done : ∀ G g', Inv (m - lo).toNat G g' → P.nx G g') : WH K m0 B0 H0 (tFor (iRng2 t1) gt tb) Γ g P := fun σ B H D s n c xx => by
  refine h σ B H s.env _ fun vs B1 H1 ds Γ1 g1 k p => ?_
  obtain ⟨rfl, hb, i0⟩ := p.get
  have ev : vs = [.int lo, .int m] := IsA.rawsI (xs := [.int lo, .int m]) k
  refine ⟨lo, m, ev, hb, ?_⟩
  refine for_range (lo := lo) (n := (m - lo).toNat) (fun i σ' H' => ∃ B' Γ' g', Same B1 B' ∧ StG K m0 B0 H0 σ' B' H' Γ' g' ∧ Inv i Γ' g') ⟨B1, Γ1, g, Same.refl _, s.step (pin := []) g1.s, i0⟩ ?_ ?_
  · rintro i σ' H' hi ⟨B', Γ', g', sb, s2, inv⟩
    refine turn i Γ' g' (by omega) inv σ' B' H' _ s2.env (.raw _) _ fun σ2 Γ2 g3 w => ?_
    exact w σ2 _ _ _ (s2.step g3) (fun σ3 B3 H3 Γ3 g4 sb3 s4 p => ⟨B3, Γ3, g4, sb.trans sb3, s4, p⟩) (fun σ3 B3 H3 Γ3 g4 sb3 s4 p => ⟨B3, Γ3, g4, sb.trans sb3, s4, p⟩) fun cls d fs σ3 B3 H3 Γ3 g4 sb3 s4 e p => xx cls d fs σ3 B3 H3 Γ3 g4 ((g1.mv.bb.trans sb).trans sb3) s4 e p
  · rintro σ' H' ⟨B', Γ', g', sb, s2, inv⟩
    exact n σ' B' H' Γ' g' (g1.mv.bb.trans sb) s2 (done Γ' g' inv)
def Th1 (g : Gs) (d d' : Dt) : Prop := d' = d ∨ ∃ a ds, d = .raw (.ref a) ∧ (a, ds) ∈ g ∧ d' = .lst ds
def Thaw (g : Gs) (d d' : Dt) : Prop := Th1 g d d' ∨ ∃ xs ys : List Dt, d = .tup xs ∧ d' = .tup ys ∧ xs.length = ys.length ∧ ∀ (i : Nat) x y, xs[i]? = some x → ys[i]? = some y → Th1 g x y
def ThawA (g : Gs) (xs ys : List Dt) : Prop := xs.length = ys.length ∧ ∀ (i : Nat) x y, xs[i]? = some x → ys[i]? = some y → Thaw g x y
def ThawC (g : Gs) : Cn → Cn → Prop
  | .lst xs, .lst ys => ThawA g xs ys
  | .dK kx, .dK ky => kx.map (·.1) = ky.map (·.1) ∧ ThawA g (kx.map (·.2)) (ky.map (·.2))
  | .dN w kx, .dN w' ky => w = w' ∧ kx.map (·.1) = ky.map (·.1) ∧ ThawA g (kx.map (·.2)) (ky.map (·.2))
  | _, _ => False
theorem th1_is {B1 : Hp} (hg : ∀ a ds, (a, ds) ∈ g → Is K B1 (.ref a) (.lst ds)) {v : V} {d d' : Dt} (h : Is K B1 v d) (t : Th1 g d d') : Is K B1 v d' := by
  rcases t with rfl | ⟨a, ds, rfl, ha, rfl⟩
  · exact h
  · cases h
    exact hg a ds ha
theorem thaw_is {B1 : Hp} (hg : ∀ a ds, (a, ds) ∈ g → Is K B1 (.ref a) (.lst ds)) {v : V} {d d' : Dt} (h : Is K B1 v d) (t : Thaw g d d') : Is K B1 v d' := by
  rcases t with t | ⟨xs, ys, rfl, rfl, hl, ht⟩
  · exact th1_is hg h t
  · obtain ⟨a, vs, rfl, h1, h2⟩ := Is.tupR h
    refine .tup h1 (h2.len.trans hl) fun i v y q1 q2 => ?_
    have hi : i < xs.length := by rw [hl]; exact (List.getElem?_eq_some_iff.mp q2).1
    exact th1_is hg (h2.at_ i v _ q1 (List.getElem?_eq_getElem hi)) (ht i _ y (List.getElem?_eq_getElem hi) q2)
theorem thawA_is {B1 : Hp} (hg : ∀ a ds, (a, ds) ∈ g → Is K B1 (.ref a) (.lst ds)) {vs : List V} {xs ys : List Dt} (h : IsA K B1 vs xs) (t : ThawA g xs ys) : IsA K B1 vs ys :=
  ⟨h.len.trans t.1, fun i v y q1 q2 => by
    have hi : i < xs.length := by rw [t.1]; exact (List.getElem?_eq_some_iff.mp q2).1
    exact thaw_is hg (h.at_ i v _ q1 (List.getElem?_eq_getElem hi)) (t.2 i _ y (List.getElem?_eq_getElem hi) q2)⟩
theorem wh_thaw {i : Nat} {c c' : Cn} (hi : Γ[i]? = some (.cel c)) (ht : ThawC g c c') (h : WH K m0 B0 H0 t (Γ.set i (.cel c')) [] P) : WH K m0 B0 H0 t Γ g P := fun σ B H D s n cc xx => by
  let B1 : Hp := fun b => if (g.map (·.1)).contains b then H b else B b
  have gh_in : ∀ b, (g.map (·.1)).contains b = true → ∃ ds, (b, ds) ∈ g := fun b hb => by
    obtain ⟨⟨b', ds⟩, hm, e⟩ := List.mem_map.mp (List.contains_iff_mem.mp hb)
    simp only at e
    subst e
    exact ⟨ds, hm⟩
  have b1g : ∀ a ds, (a, ds) ∈ g → B1 a = H a := fun a ds ha => if_pos (List.contains_iff_mem.mpr (List.mem_map.mpr ⟨_, ha, rfl⟩))
  have b1n : ∀ b, (¬ ∃ ds, (b, ds) ∈ g) → B1 b = B b := fun b hb => if_neg (fun z => hb (gh_in b z))
  have sB : Same B B1 := fun b o e => by
    rw [b1n b fun ⟨ds, hm⟩ => by
      obtain ⟨_, _, _, q, _⟩ := s.gh.2 b ds hm
      rw [q] at e; cases e]
    exact e
  have bh : Same B1 H := fun b o e => by
    by_cases hb : ∃ ds, (b, ds) ∈ g
    · obtain ⟨ds, hm⟩ := hb
      rw [b1g b ds hm] at e; exact e
    · rw [b1n b hb] at e; exact s.env.bh b o e
  have hg : ∀ a ds, (a, ds) ∈ g → Is K B1 (.ref a) (.lst ds) := fun a ds ha => by
    obtain ⟨vs, e, ia, _, _⟩ := s.gh.2 a ds ha
    have ia' := ia.mono sB
    exact .lst (by rw [b1g a ds ha]; exact e) ia'.len ia'.at_
  have hlen : i < Γ.length := (List.getElem?_eq_some_iff.mp hi).1
  have off : ∀ b, Own σ Γ b → ¬ ∃ ds, (b, ds) ∈ g := fun b hb ⟨ds, hm⟩ => by
    obtain ⟨_, _, _, _, q⟩ := s.gh.2 b ds hm
    exact q hb
  have ow := own_set (σ := σ) (c := c) (c' := c') hi
  obtain ⟨l, o, q1, q2, q3, q4⟩ := s.env.cel i c hi
  have q4' : CnIs K B1 l o c' := by
    have q5 := q4.mono sB
    cases c with
    | lst xs =>
      cases c' with
      | lst ys => obtain ⟨vs, rfl, ia⟩ := q5; exact ⟨vs, rfl, thawA_is hg ia ht⟩
      | _ => exact ht.elim
    | dK kx =>
      cases c' with
      | dK ky => obtain ⟨vs, rfl, ks, ia⟩ := q5; exact ⟨vs, rfl, ks.trans ht.1, thawA_is hg ia ht.2⟩
      | _ => exact ht.elim
    | dT kx => exact ht.elim
    | dN w kx =>
      cases c' with
      | dN w' ky =>
        obtain ⟨e, hk, ha⟩ := ht
        subst e
        obtain ⟨vs, rfl, ks, qs, ia⟩ := q5
        exact ⟨vs, rfl, ks.trans hk, qs, thawA_is hg ia ha⟩
      | _ => exact ht.elim
  refine h σ B1 H D ⟨⟨by rw [List.length_set]; exact s.env.len, bh, fun j d hd => ?_, fun j cc hc => ?_, fun j k cc dd l h1 h2 h3 h4 => ?_⟩, ⟨s.mv.kp, s.mv.bb.trans sB, fun a na ha hb => ?_⟩, fun a ha => s.own a ((ow a).mp ha), ⟨List.nodup_nil, fun _ _ z => nomatch z⟩, fun _ _ z => nomatch z⟩ (fun σ' B' H' Γ' g' sb => n σ' B' H' Γ' g' (sB.trans sb)) (fun σ' B' H' Γ' g' sb => cc σ' B' H' Γ' g' (sB.trans sb)) fun cls d fs σ' B' H' Γ' g' sb => xx cls d fs σ' B' H' Γ' g' (sB.trans sb)
  · have hj : j ≠ i := fun z => by subst z; rw [List.getElem?_set_self hlen] at hd; cases hd
    rw [List.getElem?_set_ne (Ne.symm hj)] at hd
    obtain ⟨v, e1, e2⟩ := s.env.val j d hd
    exact ⟨v, e1, e2.mono sB⟩
  · by_cases hj : j = i
    · subst hj
      rw [List.getElem?_set_self hlen] at hc
      cases hc
      exact ⟨l, o, q1, q2, by rw [b1n l (off l ⟨_, _, hi, q1⟩)]; exact q3, q4'⟩
    · rw [List.getElem?_set_ne (Ne.symm hj)] at hc
      obtain ⟨l', o', e1, e2, e3, e4⟩ := s.env.cel j cc hc
      exact ⟨l', o', e1, e2, by rw [b1n l' (off l' ⟨_, _, hc, e1⟩)]; exact e3, e4.mono sB⟩
  · have f : ∀ (j : Nat) (cc : Cn), (Γ.set i (.cel c'))[j]? = some (Sl.cel cc) → ∃ c2 : Cn, Γ[j]? = some (Sl.cel c2) := fun j cc q => by
      by_cases hj : j = i
      · subst hj; exact ⟨_, hi⟩
      · rw [List.getElem?_set_ne (Ne.symm hj)] at q; exact ⟨cc, q⟩
    obtain ⟨c2, r1⟩ := f j cc h1
    obtain ⟨d2, r2⟩ := f k dd h2
    exact s.env.sep j k c2 d2 l r1 r2 h3 h4
  · by_cases hm : ∃ ds, (a, ds) ∈ g
    · obtain ⟨ds, hm⟩ := hm
      exact ((s.fr a ds hm).elim na ha).elim
    · rw [b1n a hm]; exact s.mv.off a na ha hb
theorem ws_wh {P : Ps} (h : ∀ m0 B0 H0, WH K m0 B0 H0 t Γ [] ⟨fun G g => ∃ i c c', G[i]? = some (.cel c) ∧ ThawC g c c' ∧ P.nx (G.set i (.cel c')), fun _ _ => False, P.ex⟩) : WS K [] t Γ P := fun σ B H D E n r b c xx => by
  have st0 : StG K (Own σ Γ) B H σ B H Γ [] := ⟨E, Mv.refl _ _ _, fun a h => .inl h, ⟨List.nodup_nil, fun _ _ z => nomatch z⟩, fun _ _ z => nomatch z⟩
  have gs : ∀ {σ' B' H' Γ' g'}, StG K (Own σ Γ) B H σ' B' H' Γ' g' → GoS K [] σ B H Γ σ' B' H' Γ' := fun st => ⟨st.mv, st.own, st.env, fun _ h => nomatch h⟩
  refine h (Own σ Γ) B H σ B H D st0 (fun σ' B' H' Γ' g' sb st p => ?_) (fun _ _ _ _ _ _ _ p => p.elim) fun cls d fs σ' B' H' Γ' g' sb st e p => xx cls d fs σ' B' H' Γ' (gs st) e p
  obtain ⟨i, cc, c', hi, ht, p⟩ := p
  have q : WH K (Own σ Γ) B H tNext Γ' g' ⟨fun G g => P.nx G, fun _ _ => False, .no⟩ := wh_thaw hi ht (wh_next p)
  exact q σ' B' H' D st (fun σ2 B2 H2 Γ2 g2 sb2 st2 p2 => n σ2 B2 H2 Γ2 (gs st2) p2) (fun _ _ _ _ _ _ _ p => p.elim) fun _ _ _ _ _ _ _ _ _ _ _ p => (show False from p).elim
end
end Ab

namespace Strokes
open PySem L2 Ab
local macro_rules | `(tactic| walk_at "no") => `(tactic| first
  | with_reducible exact fun h => Bool.noConfusion (show true = false from h)
  | with_reducible exact fun h => Bool.noConfusion (show false = true from h)
  | exact fun h => absurd h (by decide)
  | exact fun h => absurd (of_decide_eq_true h) (by omega)
  | exact fun h => absurd (by omega) (of_decide_eq_false h)
  | exact fun h => absurd (by omega) (nd_t h)
  | exact fun h => absurd (nd_f h) (by omega)
  | fail "no")
local macro_rules | `(tactic| walk_at "kb") => `(tactic| first | exact kb_tt | exact kb_ll | exact kb_ii | exact kb_ib | exact kb_ss | exact kb_sb | exact kb_si | exact kb_tb | exact kb_ti | exact kb_ts | exact kb_tl | exact kb_lb | exact kb_li | exact kb_ls | exact kb_lt | exact kb_is | exact kb_it | exact kb_il | exact kb_st | exact kb_sl | exact kb_bb | exact kb_bi | exact kb_nb | exact kb_ni | exact kb_ns | exact kb_nt | exact kb_nl | exact kb_bs | exact kb_bt | exact kb_bl | fail "kb")
local macro_rules | `(tactic| walk_at "norm") => `(tactic| first
  | ((refine' norm_cons (rfl : _ = _ :: _) ?ea ?et); (case ea => first | with_reducible exact (rfl : Sl.val _ = _) | with_reducible exact (rfl : Sl.cel _ = _) | with_reducible exact (rfl : Sl.un = _) | with_reducible exact norm_v | with_reducible exact norm_n | with_reducible exact norm_o | exact norm_v | exact norm_n | exact norm_o | exact rfl | fail "norm"); (case et => walk_at "norm"))
  | exact (rfl : _ = ([] : List Sl))
  | fail "norm")
local macro_rules | `(tactic| walk_at "nd") => `(tactic| first
  | exact (rfl : _ = ([] : List Dt))
  | ((refine' normD_cons (rfl : _ = _ :: _) ?et); (case et => walk_at "nd"))
  | fail "nd")
local macro_rules | `(tactic| walk_at "yO") => `(tactic| first
  | with_reducible refine we_ixG ?_
  | with_reducible refine we_opI0 ?_
  | with_reducible refine we_addG ?_
  | with_reducible refine we_eqG ?_
  | with_reducible refine we_neG ?_
  | with_reducible refine we_ltG ?_
  | with_reducible refine we_mulG ?_
  | with_reducible refine we_opI ?_
  | with_reducible refine we_inG ?_
  | with_reducible refine we_notInG ?_
  | with_reducible refine we_gtS ?_
  | fail "yO")
local macro_rules | `(tactic| walk_at "yB") => `(tactic| first
  | with_reducible refine we_lenG ?_
  | with_reducible refine we_isiG ?_
  | with_reducible refine we_intG ?_
  | with_reducible refine we_tuple ?_
  | with_reducible refine we_list ?_
  | with_reducible refine we_sumG ?_
  | with_reducible refine we_sum ?_
  | with_reducible refine we_max2 ?_
  | with_reducible refine we_min2 ?_
  | with_reducible refine we_abs ?_
  | with_reducible refine we_isoG ?_
  | with_reducible refine we_join ?_
  | with_reducible refine we_nlist ?_
  | fail "yB")
local macro_rules | `(tactic| walk_at "yV") => `(tactic| first
  | ((with_reducible refine' we_var ?hh ?_); (case hh => exact rfl))
  | ((with_reducible refine' we_own ?hh ?_); (case hh => exact rfl))
  | fail "yV")
local macro_rules | `(tactic| walk_at "yC") => `(tactic| first
  | ((with_reducible refine' we_kst ?h1 ?_); (case h1 => assumption))
  | with_reducible refine we_c ?_
  | fail "yC")
local macro_rules | `(tactic| walk_at "yE") => `(tactic| first
  | ((with_reducible show Ab.WE _ (L2.tVar _) _ _); walk_at "yV")
  | ((with_reducible show Ab.WE _ (L2.tOp _ _ _) _ _); walk_at "yO")
  | ((with_reducible show Ab.WE _ (L2.tC _) _ _); walk_at "yC")
  | ((with_reducible show Ab.WE _ (L2.tCB _ _) _ _); walk_at "yB")
  | with_reducible refine we_callH ?_
  | with_reducible refine we_fldG ?_
  | with_reducible refine we_tup ?_
  | with_reducible refine we_lst ?_
  | with_reducible refine we_nget ?_
  | with_reducible refine we_nin ?_
  | with_reducible refine we_notN ?_
  | with_reducible refine we_isN ?_
  | with_reducible refine we_if ?_
  | with_reducible refine we_methG ?_
  | ((with_reducible refine' we_appendN ?hh ?_); (case hh => exact rfl))
  | with_reducible refine we_slG ?_
  | with_reducible refine we_nnotin ?_
  | with_reducible refine we_nnew ?_
  | with_reducible refine we_ndisp1 ?_
  | with_reducible refine we_nget1 ?_
  | with_reducible refine we_neg ?_
  | with_reducible refine we_make ?_
  | with_reducible refine we_own2 ?_
  | with_reducible refine we_smeth ?_
  | with_reducible refine we_makeD ?_
  | with_reducible refine we_makeK ?_
  | ((with_reducible refine' we_clearN ?hh ?_); (case hh => exact rfl))
  | with_reducible refine we_chainI ?_
  | with_reducible refine we_andV ?_
  | with_reducible refine we_orV ?_
  | with_reducible refine we_notV ?_
  | ((with_reducible refine' we_reverseN ?hh ?_); (case hh => exact rfl))
  | ((with_reducible refine' we_ktup ?h1 ?_); (case h1 => assumption))
  | fail "yE")
local macro_rules | `(tactic| walk_at "yS") => `(tactic| first
  | with_reducible refine ws_if ?_
  | with_reducible refine ws_expr ?_
  | with_reducible refine ws_asgN rfl rfl ?_
  | with_reducible refine ws_asgG ?_
  | with_reducible refine ws_nil ?_
  | ((with_reducible refine' ws_retDN ?hh ?_); (case hh => exact rfl))
  | ((with_reducible refine' ws_retA ?hh ?_); (case hh => exact rfl))
  | with_reducible refine ws_ret ?_
  | with_reducible refine ws_nput ?_
  | with_reducible refine ws_setN ?_
  | ((with_reducible refine' ws_augN ?h1 ?h2 ?_); (case h1 => exact rfl); (case h2 => exact rfl))
  | with_reducible refine ws_par rfl rfl rfl rfl ?_
  | with_reducible refine ws_par3 rfl rfl rfl rfl rfl rfl ?_
  | fail "yS")
local macro_rules | `(tactic| walk_at "yT") => `(tactic| first
  | with_reducible refine wt_test ?_
  | with_reducible refine wt_B ?_
  | with_reducible refine wt_not ?_
  | with_reducible refine wt_and ?_
  | with_reducible refine wt_or ?_
  | with_reducible refine wt_yes ?_
  | fail "yT")
local macro_rules | `(tactic| walk_at "yG") => `(tactic| first
  | with_reducible refine wg_nameN rfl rfl ?_
  | ((with_reducible refine' wg_tup ?hh ?_); (case hh => exact rfl))
  | fail "yG")
local macro_rules | `(tactic| walk_at "yD") => `(tactic| first
  | with_reducible refine wd_cons ?_
  | with_reducible refine wd_nil ?_
  | fail "yD")
local macro_rules | `(tactic| walk_at "yW") => `(tactic| first
  | with_reducible refine wa_cons ?_
  | with_reducible refine wa_nil ?_
  | fail "yW")
local macro_rules | `(tactic| walk_at "yR") => `(tactic| first
  | with_reducible refine wo_none ?_
  | with_reducible refine wo_some ?_
  | fail "yR")
local macro_rules | `(tactic| walk_at "yP") => `(tactic| first
  | ((with_reducible refine' fldp ?h1 ?h2 ?h3 ?_); (case h1 => assumption); (case h2 => assumption); (case h3 => walk_at "lk"))
  | ((with_reducible refine' ixp ?h1 ?h2 ?_); (case h1 => exact rfl); (case h2 => assumption))
  | ((with_reducible refine' ixp ?h1 ?h2 ?_); (case h1 => exact rfl); (case h2 => exact rfl))
  | with_reducible refine eqp_st ?_
  | with_reducible refine nep_st ?_
  | ((with_reducible refine' eqp_sf ?h1 ?_); (case h1 => first | assumption | decide +kernel))
  | ((with_reducible refine' nep_sf ?h1 ?_); (case h1 => first | assumption | decide +kernel))
  | with_reducible refine eqp_i ?_
  | with_reducible refine nep_i ?_
  | with_reducible refine addp_i ?_
  | with_reducible refine ltp_i ?_
  | ((with_reducible refine' lenp ?hh ?_); (case hh => exact rfl))
  | ((with_reducible refine' metp ?h3 ?_); (case h3 => walk_at "lk"))
  | ((with_reducible refine' addp_tE ?hz ?h ?_); (case h => walk_at "nd"); (case hz => exact Nat.le_of_ble_eq_true rfl))
  | ((with_reducible refine' slp_tE ?h ?_); (case h => walk_at "nd"))
  | ((with_reducible refine' mulp_r ?h1 ?_); (case h1 => first | decide | omega | fail "m"))
  | ((with_reducible refine' mulp_l ?h1 ?_); (case h1 => first | decide | omega | fail "m"))
  | with_reducible refine intp_i ?_
  | with_reducible refine intp_b ?_
  | ((with_reducible refine' isi_own ?h1 ?h2 ?_); (case h1 => exact rfl); (case h2 => walk_at "kb"))
  | ((with_reducible refine' isi_val ?h1 ?h2 ?_); (case h1 => exact rfl); (case h2 => walk_at "kb"))
  | ((with_reducible refine' isi_new ?h2 ?_); (case h2 => walk_at "kb"))
  | ((with_reducible refine' isop ?h1 ?_); (case h1 => assumption))
  | ((with_reducible refine' lenp_s ?h1 ?_); (case h1 => assumption))
  | ((with_reducible refine' slp_s ?h1 ?_); (case h1 => assumption))
  | ((with_reducible refine' ixp_s ?h1 ?h2 ?_); (case h1 => assumption); (case h2 => assumption))
  | with_reducible refine wgs_cons ?_
  | with_reducible refine wgs_nil ?_
  | fail "yP")
local macro_rules | `(tactic| walk_at "yA") => `(tactic| first
  | (refine ⟨_, rfl, ⟨_, rfl⟩, ?_⟩)
  | (refine ⟨_, rfl, ?_⟩)
  | (refine ⟨_, _, _, rfl, rfl, rfl, ?_⟩)
  | (refine ⟨_, _, rfl, rfl, (Nat.le_of_ble_eq_true rfl : _ ≤ _), ?_⟩)
  | (refine ⟨_, _, rfl, rfl, ?_⟩)
  | (refine ⟨(Nat.le_of_ble_eq_true rfl : _ ≤ _), ?_⟩)
  | (refine ⟨(rfl : _ = true), ?_⟩)
  | ((refine' ⟨fun _ => ?_, fun hY => absurd hY ?k2⟩); (case k2 => walk_at "no"))
  | ((refine' ⟨fun hY => absurd hY ?k2, fun _ => ?_⟩); (case k2 => walk_at "no"))
  | (refine ⟨⟨(by omega), (by omega)⟩, ?_⟩)
  | (refine ⟨⟨(by decide), (by decide), (by decide)⟩, ?_⟩)
  | (refine ⟨(show (_ : Prop) from by first | decide | omega | fail "c"), ?_⟩)
  | fail "yA")
local macro_rules | `(tactic| walk_at "x") => `(tactic| first
  | ((with_reducible refine' norm_intro ?hn ?_); (case hn => walk_at "norm"))
  | ((with_reducible show Ab.WE _ _ _ _); walk_at "yE")
  | ((with_reducible show Ab.WS _ _ _ _ _); walk_at "yS")
  | ((with_reducible show Ab.WD _ _ _ _); walk_at "yD")
  | ((with_reducible show Ab.WT _ _ _ _); walk_at "yT")
  | ((with_reducible show Ab.WG _ _ _ _ _ _); walk_at "yG")
  | ((with_reducible show Ab.WA _ _ _ _); walk_at "yW")
  | ((with_reducible show Ab.WO _ _ _ _); walk_at "yR")
  | ((fail_if_success with_reducible show Ab.Hold _); (first | walk_at "yP" | walk_at "yA" | fail "p"))
  | fail "x")
local macro_rules | `(tactic| walk_at "e") => `(tactic| first | with_reducible refine ws_seq ?_ | walk_at "x" | fail "stop")
local macro_rules | `(tactic| walk_at "xs") => `(tactic| repeat' walk_at "x")
local macro_rules | `(tactic| walk_at "es") => `(tactic| repeat' walk_at "e")
local macro_rules | `(tactic| walk_at "len") => `(tactic| ((intro as Post h); (repeat (first | (obtain ⟨e, _⟩ := h; exact (congrArg List.length e).trans rfl) | (obtain ⟨_, h⟩ := h)))))
local macro_rules | `(tactic| walk_at "tk") => `(tactic| refine .a (tk (by assumption) (by omega) (by omega) (by omega) fun _ _ _ _ _ => ?_))
def sgn (n : Int) : Int := if 0 < n then 1 else if n < 0 then -1 else 0
def ab (n : Int) : Int := if n < 0 then -n else n
theorem ab_nonneg (n : Int) : 0 ≤ ab n := by unfold ab; split <;> omega
theorem ab_lt {n b : Int} (h : -b < n) (h2 : n < b) : ab n < b := by unfold ab; split <;> omega
def pr (x y : Int) : Dt := .tup [.int x, .int y]
def prD (p : Int × Int) : Dt := pr p.1 p.2
def lv (dx dy : Int) (k : Nat) : Int := (k : Int) * ab dx / (ab dx + ab dy)
def stepI (dx dy : Int) (k : Nat) : Int × Int := if lv dx dy k < lv dx dy (k + 1) then (sgn dx, 0) else (0, sgn dy)
def lineI (dx dy : Int) : List (Int × Int) := (List.range (ab dx + ab dy).toNat).map (stepI dx dy)
def Fair (dx dy : Int) : Prop := -10000 < dx ∧ dx < 10000 ∧ -10000 < dy ∧ dy < 10000 ∧ (dx ≠ 0 ∨ dy ≠ 0)
def tf (r a b : Int) : Bool := if a = 0 then true else if b = r then false else decide (ab (a * a + (b + 1) * (b + 1) - r * r) ≤ ab ((a - 1) * (a - 1) + b * b - r * r))
def stA (r : Int) : Nat → Int × Int
  | 0 => (r, 0)
  | i + 1 => if tf r (stA r i).1 (stA r i).2 then ((stA r i).1, (stA r i).2 + 1) else ((stA r i).1 - 1, (stA r i).2)
def mvA (r : Int) (i : Nat) : Bool := tf r (stA r i).1 (stA r i).2
theorem st_ok {r : Int} (hr : 0 ≤ r) : ∀ i : Nat, (i : Int) ≤ 2 * r → 0 ≤ (stA r i).1 ∧ (stA r i).1 ≤ r ∧ 0 ≤ (stA r i).2 ∧ (stA r i).2 ≤ r ∧ r - (stA r i).1 + (stA r i).2 = i
  | 0, _ => by simp [stA]; omega
  | i + 1, h => by
    have ih := st_ok hr i (by omega)
    rw [stA]
    cases ht : tf r (stA r i).1 (stA r i).2 with
    | true =>
      simp only [if_true]
      have : (stA r i).2 ≠ r ∨ (stA r i).1 = 0 := by
        by_cases h1 : (stA r i).1 = 0
        · exact .inr h1
        · refine .inl fun h2 => ?_
          unfold tf at ht
          rw [if_neg h1, if_pos h2] at ht
          cases ht
      omega
    | false =>
      simp only [Bool.false_eq_true, if_false]
      have : (stA r i).1 ≠ 0 := fun h1 => by
        unfold tf at ht
        rw [if_pos h1] at ht
        cases ht
      omega
def offB : Bool := (List.range 13).all fun r => (List.range (2 * r + 1)).all fun i => r == 0 || decide (ab ((stA r i).1 * (stA r i).1 + (stA r i).2 * (stA r i).2 - (r : Int) * r) < 2 * (r : Int))
def sortS (s : Int) : Str := if s = 0 then "flat" else "steep"
def fst0 (s dx dy : Int) : Int × Int := if s = 0 then (sgn dx, 0) else (0, sgn dy)
def snd0 (s dx dy : Int) : Int × Int := if s = 0 then (0, sgn dy) else (sgn dx, 0)
def pickI (s dx dy : Int) (b : Bool) : Int × Int := if b then fst0 s dx dy else snd0 s dx dy
def arcI (s dx dy r : Int) : List (Int × Int) := (List.range (2 * r).toNat).map fun i => pickI s dx dy (mvA r i)
structure Arc (s dx dy r : Int) : Prop where
  hs : s = 0 ∨ s = 1
  r0 : 0 < r
  r1 : r ≤ 12
  hx : dx = r ∨ dx = -r
  hy : dy = r ∨ dy = -r
theorem sort_cases {s : Int} (h : s = 0 ∨ s = 1) : (s = 0 ∧ sortS s = "flat") ∨ (s = 1 ∧ sortS s = "steep") := by
  rcases h with rfl | rfl
  · exact .inl ⟨rfl, rfl⟩
  · exact .inr ⟨rfl, rfl⟩
theorem ab_arc {s dx dy r : Int} (h : Arc s dx dy r) : ab dx = r ∧ ab dy = r := by
  obtain ⟨_, r0, r1, hx, hy⟩ := h
  unfold ab
  constructor
  · rcases hx with rfl | rfl <;> split <;> omega
  · rcases hy with rfl | rfl <;> split <;> omega
inductive Stk where
  | line (dx dy : Int)
  | arc (s dx dy r : Int)
def Stk.ok : Stk → Prop
  | .line dx dy => Fair dx dy
  | .arc s dx dy r => Arc s dx dy r
def Stk.dt : Stk → Dt
  | .line dx dy => .tup [.str "line", .int dx, .int dy]
  | .arc s dx dy _ => .tup [.str (sortS s), .int dx, .int dy]
def Stk.steps : Stk → List (Int × Int)
  | .line dx dy => lineI dx dy
  | .arc s dx dy r => arcI s dx dy r
def ap_sign : AP := fun as Post => ∃ n, as = [.val (.int n)] ∧ Post (.val (.int (sgn n))) [.val (.int n)]
def ap_line : AP := fun as Post => ∃ dx dy, as = [.val (.int dx), .val (.int dy)] ∧ Fair dx dy ∧ Post (.new ((lineI dx dy).map prD)) [.val (.int dx), .val (.int dy)]
def ap_tf : AP := fun as Post => ∃ a b r, as = [.val (.int a), .val (.int b), .val (.int r)] ∧ 0 ≤ a ∧ a ≤ 12 ∧ 0 ≤ b ∧ b ≤ 12 ∧ 0 ≤ r ∧ r ≤ 12 ∧ Post (.val (.bl (tf r a b))) [.val (.int a), .val (.int b), .val (.int r)]
def ap_arc : AP := fun as Post => ∃ (x y : Int × Int) (r : Int), as = [.val (prD x), .val (prD y), .val (.int r)] ∧ 0 < r ∧ r ≤ 12 ∧ Post (.new ((List.range (2 * r).toNat).map fun i => prD (if mvA r i then x else y))) [.val (prD x), .val (prD y), .val (.int r)]
def ap_unit : AP := fun as Post => ∃ st : Stk, as = [.val st.dt] ∧ st.ok ∧ Post (.new (st.steps.map prD)) [.val st.dt]
def tSign (K : PySem.W.Frag) : TS :=
    (tSeq (tIfS (tTest (tOp rGtI (tVar 0) (tC (.int 0)))) (tRet (tC (.int 1))) tNext)
    (tSeq (tIfS (tTest (tOp (rLtG K) (tVar 0) (tC (.int 0)))) (tRet (tUn rNegI (tC (.int 1)))) tNext)
    (tRet (tC (.int 0)))))
def tLine (K : PySem.W.Frag) (ap_sign : AP) : TS :=
    (tSeq (tAsg (tCB rAbs (tCons (tVar 0) tNil)) (gName 2))
    (tSeq (tAsg (tOp (rAddG K) (tVar 2) (tCB rAbs (tCons (tVar 1) tNil))) (gName 3))
    (tSeq (tAsg (tLst tNil) (gName 4))
    (tSeq (tFor (iRng1 (tCons (tVar 3) tNil)) (gName 5) (tIfS (tTest (tOp rGtI (tOp rDivI (tOp (rMulG K) (tOp (rAddG K) (tVar 5) (tC (.int 1))) (tVar 2)) (tVar 3)) (tOp rDivI (tOp (rMulG K) (tVar 5) (tVar 2)) (tVar 3)))) (tDrop (tBM K "list" rAppend (tVar 4) (tCons (tTup (tCons (tCall (toSp K ap_sign) [] E0 (tCons (tVar 0) tNil)) (tCons (tC (.int 0)) tNil))) tNil))) (tDrop (tBM K "list" rAppend (tVar 4) (tCons (tTup (tCons (tC (.int 0)) (tCons (tCall (toSp K ap_sign) [] E0 (tCons (tVar 1) tNil)) tNil))) tNil)))))
    (tRet (tVar 4))))))
def tTf (K : PySem.W.Frag) : TS :=
    (tSeq (tIfS (tTest (tOp (rEqG K) (tVar 0) (tC (.int 0)))) (tRet (tC (.bl true))) tNext)
    (tSeq (tIfS (tTest (tOp (rEqG K) (tVar 1) (tVar 2))) (tRet (tC (.bl false))) tNext)
    (tSeq (tAsg (tOp (rMulG K) (tVar 2) (tVar 2)) (gName 3))
    (tSeq (tAsg (tCB rAbs (tCons (tOp rSubI (tOp (rAddG K) (tOp (rMulG K) (tVar 0) (tVar 0)) (tOp (rMulG K) (tOp (rAddG K) (tVar 1) (tC (.int 1))) (tOp (rAddG K) (tVar 1) (tC (.int 1))))) (tVar 3)) tNil)) (gName 4))
    (tSeq (tAsg (tCB rAbs (tCons (tOp rSubI (tOp (rAddG K) (tOp (rMulG K) (tOp rSubI (tVar 0) (tC (.int 1))) (tOp rSubI (tVar 0) (tC (.int 1)))) (tOp (rMulG K) (tVar 1) (tVar 1))) (tVar 3)) tNil)) (gName 5))
    (tRet (tOp rLeI (tVar 4) (tVar 5))))))))
def tArc (K : PySem.W.Frag) (ap_takes_first_move : AP) : TS :=
    (tSeq (tAsg (tVar 2) (gName 3))
    (tSeq (tAsg (tC (.int 0)) (gName 4))
    (tSeq (tAsg (tLst tNil) (gName 5))
    (tSeq (tWhile (tOr (tTest (tOp rGtI (tVar 3) (tC (.int 0)))) (tTest (tOp (rLtG K) (tVar 4) (tVar 2)))) (tIfS (tB (tCall (toSp K ap_takes_first_move) [] E0 (tCons (tVar 3) (tCons (tVar 4) (tCons (tVar 2) tNil))))) (tSeq (tDrop (tBM K "list" rAppend (tVar 5) (tCons (tVar 0) tNil)))
    (tAug 4 (tC (.int 1)) (ipI fun i j => i + j))) (tSeq (tDrop (tBM K "list" rAppend (tVar 5) (tCons (tVar 1) tNil)))
    (tAug 3 (tC (.int 1)) (ipI fun i j => i - j)))))
    (tRet (tVar 5))))))
def tUnit (K : PySem.W.Frag) (ap_line_steps : AP) (ap_sign : AP) (ap_arc_steps : AP) : TS :=
    (tSeq (tAsg (tVar 0) (gTup K 3 (gCons (gName 1) (gCons (gName 2) (gCons (gName 3) gNil)))))
    (tSeq (tIfS (tTest (tOp (rEqG K) (tVar 1) (tC (.str "line")))) (tRet (tCall (toSp K ap_line_steps) [] E0 (tCons (tVar 2) (tCons (tVar 3) tNil)))) tNext)
    (tSeq (tAsg (tTup (tCons (tCall (toSp K ap_sign) [] E0 (tCons (tVar 2) tNil)) (tCons (tC (.int 0)) tNil))) (gName 4))
    (tSeq (tAsg (tTup (tCons (tC (.int 0)) (tCons (tCall (toSp K ap_sign) [] E0 (tCons (tVar 3) tNil)) tNil))) (gName 5))
    (tSeq (tIfS (tTest (tOp (rEqG K) (tVar 1) (tC (.str "flat")))) (tRet (tCall (toSp K ap_arc_steps) [] E0 (tCons (tVar 4) (tCons (tVar 5) (tCons (tCB rAbs (tCons (tVar 2) tNil)) tNil))))) tNext)
    (tRet (tCall (toSp K ap_arc_steps) [] E0 (tCons (tVar 5) (tCons (tVar 4) (tCons (tCB rAbs (tCons (tVar 2) tNil)) tNil))))))))))
theorem run_tSign {K : PySem.W.Frag} (as : List Sl) (Post : Re → List Sl → Prop) (h : ap_sign as Post) : WS K [] (tSign K) (as ++ List.replicate (1 - as.length) .un) ⟨fun G => Post (.val .non) (exitArgs [] G as), fun r G => Post r (exitArgs [] G as), fun _ => False, fun _ => False, .no⟩ := by
  obtain ⟨n, rfl, p⟩ := h
  unfold tSign
  show WS K [] _ [.val (.int n)] _
  walk_at "es"
  refine ⟨fun h1 => ?_, fun h1 => ?_⟩
  · have h1' : 0 < n := of_decide_eq_true h1
    walk_at "es"
    unfold sgn at p
    rw [if_pos h1'] at p
    exact p
  · have h1' := of_decide_eq_false h1
    walk_at "es"
    refine ⟨fun h2 => ?_, fun h2 => ?_⟩
    · have h2' := of_decide_eq_true h2
      walk_at "es"
      unfold sgn at p
      rw [if_neg h1', if_pos h2'] at p
      exact p
    · have h2' := of_decide_eq_false h2
      walk_at "es"
      unfold sgn at p
      rw [if_neg h1', if_neg h2'] at p
      exact p
theorem run_tTf {K : PySem.W.Frag} (as : List Sl) (Post : Re → List Sl → Prop) (h : ap_tf as Post) : WS K [] (tTf K) (as ++ List.replicate (6 - as.length) .un) ⟨fun G => Post (.val .non) (exitArgs [] G as), fun r G => Post r (exitArgs [] G as), fun _ => False, fun _ => False, .no⟩ := by
  obtain ⟨a, b, r, rfl, a0, a1, b0, b1, r0, r1, p⟩ := h
  unfold tTf
  show WS K [] _ [.val (.int a), .val (.int b), .val (.int r), .un, .un, .un] _
  unfold tf at p
  walk_at "es"
  refine ⟨fun h1 => ?_, fun h1 => ?_⟩
  · walk_at "es"
    rw [if_pos (of_decide_eq_true h1)] at p
    exact p
  · rw [if_neg (of_decide_eq_false h1)] at p
    walk_at "es"
    refine ⟨fun h2 => ?_, fun h2 => ?_⟩
    · walk_at "es"
      rw [if_pos (of_decide_eq_true h2)] at p
      exact p
    · rw [if_neg (of_decide_eq_false h2)] at p
      walk_at "es"
      exact p
theorem run_tArc {K : PySem.W.Frag} (as : List Sl) (Post : Re → List Sl → Prop) (h : ap_arc as Post) : WS K [] (tArc K ap_tf) (as ++ List.replicate (6 - as.length) .un) ⟨fun G => Post (.val .non) (exitArgs [] G as), fun r G => Post r (exitArgs [] G as), fun _ => False, fun _ => False, .no⟩ := by
  obtain ⟨x, y, r, rfl, r0, r1, p⟩ := h
  unfold tArc
  show WS K [] _ [.val (prD x), .val (prD y), .val (.int r), .un, .un, .un] _
  walk_at "es"
  refine while_ab (fun m G => ∃ i : Nat, (i : Int) ≤ 2 * r ∧ (m : Int) = 2 * r - i ∧ G = [.val (prD x), .val (prD y), .val (.int r), .val (.int (stA r i).1), .val (.int (stA r i).2), .acc ((List.range i).map fun i => prD (if mvA r i then x else y))]) (2 * r).toNat ⟨0, by omega, by omega, rfl⟩ ?_
  rintro m G ⟨i, hi, hm, rfl⟩
  obtain ⟨a0, a1, b0, b1, hab⟩ := st_ok (by omega) i hi
  have hlen : ((List.range i).map fun i => prD (if mvA r i then x else y)).length < 1000000 := by rw [List.length_map, List.length_range]; omega
  have esn : ∀ z, prD (if mvA r i then x else y) = z → ((List.range i).map fun i => prD (if mvA r i then x else y)) ++ [z] = (List.range (i + 1)).map fun i => prD (if mvA r i then x else y) := fun z hz => by
    rw [List.range_succ, List.map_append, ← hz]; rfl
  refine wt_mono (P := fun b G => Hold (b = decide ((i : Int) < 2 * r) ∧ G = [.val (prD x), .val (prD y), .val (.int r), .val (.int (stA r i).1), .val (.int (stA r i).2), .acc ((List.range i).map fun i => prD (if mvA r i then x else y))])) ?_ ?_
  · walk_at "es"
    refine ⟨fun h1 => ?_, fun h1 => ?_⟩
    · have h1' := of_decide_eq_false h1
      walk_at "es"
      refine .a ⟨?_, rfl⟩
      rw [Bool.eq_iff_iff, decide_eq_true_eq, decide_eq_true_eq]
      omega
    · have h1' := of_decide_eq_true h1
      refine .a ⟨?_, rfl⟩
      rw [eq_comm, decide_eq_true_eq]
      omega
  rintro b G hb
  obtain ⟨rfl, rfl⟩ := hb.get
  refine ⟨fun hlt => ?_, fun hlt => ?_⟩
  · have hlt' := of_decide_eq_true hlt
    walk_at "es"
    refine .a ⟨_, _, _, rfl, a0, by omega, b0, by omega, by omega, r1, ?_⟩
    walk_at "es"
    refine ⟨fun ht => ?_, fun ht => ?_⟩
    · walk_at "es"
      refine .a ⟨m - 1, by omega, i + 1, by omega, by omega, ?_⟩
      rw [← esn (prD x) (by unfold mvA; rw [ht]; rfl), stA, ht]
      rfl
    · walk_at "es"
      refine .a ⟨m - 1, by omega, i + 1, by omega, by omega, ?_⟩
      rw [← esn (prD y) (by unfold mvA; rw [ht]; rfl), stA, ht]
      rfl
  · have hlt' := of_decide_eq_false hlt
    have ei : i = (2 * r).toNat := by omega
    subst ei
    walk_at "es"
    exact p
theorem range_snoc {α : Type} (f : Nat → α) (i : Nat) : (List.range i).map f ++ [f i] = (List.range (i + 1)).map f := by
  rw [List.range_succ, List.map_append]; rfl
def stepAt (dx dy : Int) (k : Nat) : Dt := if lv dx dy k < lv dx dy (k + 1) then .tup [.int (sgn dx), .int 0] else .tup [.int 0, .int (sgn dy)]
theorem step_dt (dx dy : Int) (k : Nat) : prD (stepI dx dy k) = stepAt dx dy k := by
  unfold stepI stepAt
  split <;> rfl
def stepsD (dx dy : Int) : List Dt := (List.range (ab dx + ab dy).toNat).map (stepAt dx dy)
theorem line_dt (dx dy : Int) : (lineI dx dy).map prD = stepsD dx dy := by
  unfold lineI stepsD
  rw [List.map_map]
  congr 1
  funext k
  exact step_dt dx dy k
theorem run_tLine {K : PySem.W.Frag} (as : List Sl) (Post : Re → List Sl → Prop) (h : ap_line as Post) : WS K [] (tLine K ap_sign) (as ++ List.replicate (6 - as.length) .un) ⟨fun G => Post (.val .non) (exitArgs [] G as), fun r G => Post r (exitArgs [] G as), fun _ => False, fun _ => False, .no⟩ := by
  obtain ⟨dx, dy, rfl, ⟨h1, h2, h3, h4, h5⟩, p⟩ := h
  rw [line_dt] at p
  unfold tLine
  show WS K [] _ [.val (.int dx), .val (.int dy), .un, .un, .un, .un] _
  have a0 := ab_nonneg dx
  have a1 := ab_nonneg dy
  have a2 := ab_lt (n := dx) (b := 10000) (by omega) (by omega)
  have a3 := ab_lt (n := dy) (b := 10000) (by omega) (by omega)
  have a4 : 0 < ab dx + ab dy := by unfold ab; split <;> split <;> omega
  refine ws_cut (fun G => G = [.val (.int dx), .val (.int dy), .val (.int (ab dx)), .un, .un, .un]) ?_ ?_
  · walk_at "es"
    exact .a rfl
  rintro G rfl
  refine ws_cut (fun G => G = [.val (.int dx), .val (.int dy), .val (.int (ab dx)), .val (.int (ab dx + ab dy)), .un, .un]) ?_ ?_
  · walk_at "es"
    exact .a rfl
  rintro G rfl
  walk_at "e"; walk_at "e"; walk_at "e"; walk_at "e"; walk_at "e"
  refine ws_cut (fun G => ∃ s, G = [.val (.int dx), .val (.int dy), .val (.int (ab dx)), .val (.int (ab dx + ab dy)), .acc (stepsD dx dy), s]) ?_ ?_
  · refine for_range1 (ab dx + ab dy) (fun i G => ∃ s, G = [.val (.int dx), .val (.int dy), .val (.int (ab dx)), .val (.int (ab dx + ab dy)), .acc ((List.range i).map (stepAt dx dy)), s]) ?_ ?_ ?_
    · walk_at "es"
      exact .a ⟨rfl, by omega, by omega, _, rfl⟩
    · rintro i G hi ⟨s, rfl⟩
      walk_at "es"
      have el : lv dx dy i < lv dx dy (i + 1) ↔ (i : Int) * ab dx / (ab dx + ab dy) < ((i : Int) + 1) * ab dx / (ab dx + ab dy) := by
        unfold lv
        rw [show ((i + 1 : Nat) : Int) = (i : Int) + 1 by omega]
      have hlen : ((List.range i).map (stepAt dx dy)).length < 1000000 := by
        rw [List.length_map, List.length_range]; omega
      refine ⟨fun h => ?_, fun h => ?_⟩
      · have h' := el.mpr (of_decide_eq_true h)
        walk_at "es"
        refine .a ⟨dx, rfl, ?_⟩
        walk_at "es"
        refine .a ⟨.val (.int i), ?_⟩
        rw [← range_snoc, show stepAt dx dy i = .tup [.int (sgn dx), .int 0] by unfold stepAt; rw [if_pos h']]
      · have h' := fun z => (of_decide_eq_false h) (el.mp z)
        walk_at "es"
        refine .a ⟨dy, rfl, ?_⟩
        walk_at "es"
        refine .a ⟨.val (.int i), ?_⟩
        rw [← range_snoc, show stepAt dx dy i = .tup [.int 0, .int (sgn dy)] by unfold stepAt; rw [if_neg h']]
    · rintro G ⟨s, rfl⟩
      exact .a ⟨s, rfl⟩
  · rintro G ⟨s, rfl⟩
    walk_at "es"
    exact p
theorem run_tUnit {K : PySem.W.Frag} (as : List Sl) (Post : Re → List Sl → Prop) (h : ap_unit as Post) : WS K [] (tUnit K ap_line ap_sign ap_arc) (as ++ List.replicate (6 - as.length) .un) ⟨fun G => Post (.val .non) (exitArgs [] G as), fun r G => Post r (exitArgs [] G as), fun _ => False, fun _ => False, .no⟩ := by
  obtain ⟨st, rfl, ha, p⟩ := h
  cases st with
  | line dx dy =>
    unfold tUnit
    show WS K [] _ [.val (.tup [.str "line", .int dx, .int dy]), .un, .un, .un, .un, .un] _
    walk_at "es"
    refine .a ⟨dx, dy, rfl, ha, ?_⟩
    walk_at "es"
    exact p
  | arc s dx dy r =>
    have ha : Arc s dx dy r := ha
    have p : Post (.new ((arcI s dx dy r).map prD)) [.val (.tup [.str (sortS s), .int dx, .int dy])] := p
    show WS K [] _ [.val (.tup [.str (sortS s), .int dx, .int dy]), .un, .un, .un, .un, .un] ⟨fun G => Post (.val .non) (exitArgs [] G [.val (.tup [.str (sortS s), .int dx, .int dy])]), fun r G => Post r (exitArgs [] G [.val (.tup [.str (sortS s), .int dx, .int dy])]), fun _ => False, fun _ => False, .no⟩
    have e1 := (ab_arc ha).1
    have hr0 := ha.r0
    have hr1 := ha.r1
    rcases sort_cases ha.hs with ⟨rfl, es⟩ | ⟨rfl, es⟩
    · rw [es] at p ⊢
      unfold tUnit
      show WS K [] _ [.val (.tup [.str "flat", .int dx, .int dy]), .un, .un, .un, .un, .un] _
      walk_at "es"
      refine .a ⟨dx, rfl, ?_⟩
      walk_at "es"
      refine .a ⟨dy, rfl, ?_⟩
      walk_at "es"
      refine .a ⟨(sgn dx, 0), (0, sgn dy), ab dx, rfl, by omega, by omega, ?_⟩
      walk_at "es"
      rw [e1]
      have : (arcI 0 dx dy r).map prD = (List.range (2 * r).toNat).map fun i => prD (if mvA r i then (sgn dx, 0) else (0, sgn dy)) := by
        unfold arcI
        rw [List.map_map]
        rfl
      rw [this] at p
      exact p
    · rw [es] at p ⊢
      unfold tUnit
      show WS K [] _ [.val (.tup [.str "steep", .int dx, .int dy]), .un, .un, .un, .un, .un] _
      walk_at "es"
      refine .a ⟨dx, rfl, ?_⟩
      walk_at "es"
      refine .a ⟨dy, rfl, ?_⟩
      walk_at "es"
      refine .a ⟨(0, sgn dy), (sgn dx, 0), ab dx, rfl, by omega, by omega, ?_⟩
      walk_at "es"
      rw [e1]
      have : (arcI 1 dx dy r).map prD = (List.range (2 * r).toNat).map fun i => prD (if mvA r i then (0, sgn dy) else (sgn dx, 0)) := by
        unfold arcI
        rw [List.map_map]
        rfl
      rw [this] at p
      exact p
end Strokes

namespace Ab
open PySem L2
theorem room65 {k : Nat} {A : PySem.Around} (r : L2.Room k A) : A.units + 65 < PySem.cLine := by have := r.un; omega
section
variable {K : PySem.W.Frag} {Γ : List Sl} {Post : Re → List Sl → Prop}
theorem we_inD {ta tb : TE} (h : WE K ta Γ fun ra Γ1 => ∃ d, ra.dt? = some d ∧ WE K tb Γ1 fun rb Γ2 => Hold (∃ e p qs, rb.dt? = some e ∧ d.py = some p ∧ e.py = some (.list qs) ∧ SeqAt.shaped p = true ∧ SeqAt.shaped (.list qs) = true ∧ Post (.val (.bl (qs.any fun z => PyData.eqv z p))) Γ2)) : WE K (tOp (rInD K) ta tb) Γ Post := fun σ B H E Q k => by
  have h' : WE K ta Γ fun ra Γ1 => ∃ d, ra = .val d ∧ WE K tb Γ1 fun rb Γ2 => ∃ e, rb = .val e ∧ ∃ p qs, d.py = some p ∧ e.py = some (.list qs) ∧ SeqAt.shaped p = true ∧ SeqAt.shaped (.list qs) = true ∧ Post (.val (.bl (qs.any fun z => PyData.eqv z p))) Γ2 :=
    we_freeze (we_mono h fun z Γ1 ⟨d, hd, r⟩ => ⟨d, hd, d, rfl, we_freeze (we_mono r fun y Γ2 hp => by obtain ⟨e, p, q, he, rest⟩ := hp.get; exact ⟨e, he, e, rfl, p, q, rest⟩)⟩)
  refine h' σ B H E _ fun x B1 H1 ra Γ1 g1 k1 p1 => ?_
  obtain ⟨d, rfl, p1⟩ := p1
  refine p1 σ B1 H1 g1.env _ fun y B2 H2 rb Γ2 g2 k2 p2 => ?_
  obtain ⟨e, rfl, p, qs, e1, e2, r1, r2, r4⟩ := p2
  have k1' : Is K B2 x d := Is.mono g2.mv.bb k1
  exact ⟨p, qs, dp_mono g2.env.bh (is_dp k1' e1), dp_mono g2.env.bh (is_dp (show Is K B2 y e from k2) e2), r1, r2, k _ B2 H2 _ Γ2 (g1.trans g2) (.raw _) r4⟩
end
end Ab

namespace Ab
open PySem L2
theorem we_lockKN {K : PySem.W.Frag} {w : World} {Γ : List Sl} {i j : Nat} {kvs : List (NestedKey × Dt)} {te : TE} {Post : Re → List Sl → Prop} (f : NestedKey → Dt) (hi : Γ[i]? = some (.cel (.dN w kvs))) (hj : Γ[j]? = some .un) (hn : kvs.length ≤ 1000000)
    (turn : ∀ kv ∈ kvs, WE K te ((Γ.set i .un).set j (.val (dtN kv.1))) fun r G3 => ∃ d, r.dt? = some d ∧ d = f kv.1 ∧ G3 = (Γ.set i .un).set j (.val (dtN kv.1)))
    (fin : Post (.new (kvs.map fun kv => f kv.1)) Γ) : WE K (tLockE (tLc (iKeysN w (tVar i)) (gName j) tYes te [j])) Γ Post := fun σ B H E Q q => by
  obtain ⟨d, o, q1, q2, q3, us, rfl, q4⟩ := E.cel i _ hi
  have hiL : i < Γ.length := (List.getElem?_eq_some_iff.mp hi).1
  have hjL : j < Γ.length := (List.getElem?_eq_some_iff.mp hj).1
  have hij : i ≠ j := fun z => by subst z; rw [hi] at hj; cases hj
  have hlen : σ.length = Γ.length := E.len
  have hln := q4.len
  have hself : σ.set i (some (.ref d)) = σ := by
    refine List.ext_getElem? fun k => ?_
    by_cases hk : k = i
    · subst hk; rw [List.getElem?_set_self (by omega), q1]
    · rw [List.getElem?_set_ne (Ne.symm hk)]
  have E0 : Env K B H σ (Γ.set i .un) := by have := E.setU (some (.ref d)) hiL; rw [hself] at this; exact this
  have nd : ¬ Own σ (Γ.set i .un) d := fun ⟨k, cc, h1, h2⟩ => by
    have hk : k ≠ i := fun z => by subst z; rw [List.getElem?_set_self hiL] at h1; cases h1
    rw [List.getElem?_set_ne (Ne.symm hk)] at h1
    exact hk (E.sep k i cc _ d h1 hi h2 q1)
  have hj0 : (Γ.set i .un)[j]? = some .un := by rw [List.getElem?_set_ne hij]; exact hj
  refine ⟨d, dNO w d us, q2, trivial, fun od => ?_⟩
  have E1 : Env K B (upd H d (.frz od (dNO w d us))) σ (Γ.set i .un) := E0.free_upd nd q3
  refine ⟨.ref d, q1, d, od, us, rfl, upd_same, fun L hL => ?_⟩
  have hLd : L ≠ d := fun z => by subst z; rw [upd_same] at hL; cases hL
  have hL0 : H L = none := by rw [upd_ne hLd] at hL; exact hL
  let I : Nat → Hp → Prop := fun t H' => ∃ B' acc, Mv (Own σ (Γ.set i .un)) B (upd H d (.frz od (dNO w d us))) B' H' ∧ Env K B' H' σ (Γ.set i .un) ∧ H' L = some (.lst acc) ∧ B' L = none ∧ IsA K B' acc ((kvs.take t).map fun kv => f kv.1)
  refine ⟨fun t mm H' => mm = us.length - t ∧ t ≤ us.length ∧ I t H', ⟨us.length, by simp, Nat.zero_le _, B, [], (Go.beside E1 hL).mv, E1.beside hL, upd_same, E1.base_none hL, .nil⟩, ?_⟩
  rintro t mm H' ⟨rfl, ht, B', acc, mv, Ei, hLi, bLi, ia⟩
  have hd' : H' d = some (.frz od (dNO w d us)) := mv.kp d _ nd upd_same
  have nL : ¬ Own σ (Γ.set i .un) L := E1.not_own hL
  by_cases hlt : t < us.length
  · refine .inr ⟨⟨hd', hlt⟩, fun H2 => I (t + 1) H2, fun H2 h2 => ⟨us.length - (t + 1), by omega, rfl, hlt, h2⟩, fun x H2 hy => ?_⟩
    obtain ⟨rfl, e0, he0, rfl⟩ := hy
    have hkt : t < kvs.length := by omega
    have e1 : e0.1 = kvs[t].1 := by
      have e1 : (us.map (·.1))[t]? = some e0.1 := by rw [List.getElem?_map, he0]; rfl
      rw [q4.ks, List.getElem?_map, List.getElem?_eq_getElem hkt] at e1
      exact (Option.some.inj e1).symm
    have iv : Is K B' (.ref e0.2.1) (dtN kvs[t].1) := by rw [← e1]; exact (q4.qs t e0 he0).mono mv.bb
    show wipe ((wipe σ [j]).set j (some (.ref e0.2.1))) [j] = wipe σ [j] ∧ _
    refine ⟨by show ((σ.set j none).set j _).set j none = σ.set j none; rw [List.set_set, List.set_set], ?_⟩
    have es : (wipe σ [j]).set j (some (V.ref e0.2.1)) = σ.set j (some (.ref e0.2.1)) := by show (σ.set j none).set j _ = _; rw [List.set_set]
    rw [es]
    unfold tYes
    refine Eq.mpr (if_pos rfl) ?_
    have p' : WE K te ((Γ.set i .un).set j (.val (dtN kvs[t].1))) fun r G3 => ∃ d, r = .val d ∧ d = f kvs[t].1 ∧ G3 = (Γ.set i .un).set j (.val (dtN kvs[t].1)) := we_freeze (we_mono (turn kvs[t] (List.getElem_mem hkt)) fun r G3 ⟨d, hd, e, e3⟩ => ⟨d, hd, d, rfl, e, e3⟩)
    have hjL0 : j < (Γ.set i .un).length := by rw [List.length_set]; exact hjL
    have Ev := Ei.setV hjL0 iv
    refine p' _ B' _ Ev _ fun v B3 H3 r G3 g3 k3 p3 => ?_
    obtain ⟨dd, rfl, rfl, rfl⟩ := p3
    have own2 : ∀ x, Own (σ.set j (some (.ref e0.2.1))) ((Γ.set i .un).set j (.val (dtN kvs[t].1))) x → Own σ (Γ.set i .un) x := fun x ⟨k, cc, h1, h2⟩ => by
      have hk : k ≠ j := fun z => by subst z; rw [List.getElem?_set_self hjL0] at h1; cases h1
      rw [List.getElem?_set_ne (Ne.symm hk)] at h1 h2
      exact ⟨k, cc, h1, h2⟩
    have nL2 : ¬ Own (σ.set j (some (.ref e0.2.1))) ((Γ.set i .un).set j (.val (dtN kvs[t].1))) L := fun z => nL (own2 L z)
    have hL3 : H3 L = some (.lst acc) := g3.mv.kp L _ nL2 hLi
    have bL3 : B3 L = none := g3.mv.off L nL2 (by rw [hLi]; exact fun z => nomatch z) bLi
    refine ⟨acc, hL3, by rw [ia.len, List.length_map, List.length_take, sizeLine_eq]; omega, ?_⟩
    have mv3 := mv.trans (fun x hx => .inl (own2 x hx)) g3.mv
    have E3 : Env K B3 H3 σ (Γ.set i .un) := by
      have h := env_back Ei g3.mv.bb g3.env (by rw [List.length_set]; exact hjL0)
      rw [List.set_set, hj0] at h
      have e : (Γ.set i .un).set j (keepV (some Sl.un)) = Γ.set i .un := by
        refine List.ext_getElem? fun k => ?_
        by_cases hk : k = j
        · subst hk; rw [List.getElem?_set_self hjL0, hj0]; rfl
        · rw [List.getElem?_set_ne (Ne.symm hk)]
      rw [e] at h
      exact h
    refine ⟨B3, acc ++ [v], mv3.free_upd (.inr hL), E3.free_upd nL bL3, upd_same, bL3, ?_⟩
    rw [List.take_add_one, List.getElem?_eq_getElem hkt]
    show IsA K B3 (acc ++ [v]) (((kvs.take t) ++ [kvs[t]]).map fun kv => f kv.1)
    rw [List.map_append]
    exact (ia.mono g3.mv.bb).snoc k3
  · have e : t = us.length := by omega
    subst e
    refine .inl ⟨⟨hd', Nat.le_refl _⟩, hd', ?_⟩
    rw [hln, List.take_length] at ia
    have bd' : B' d = none := mv.off d nd (by rw [upd_same]; exact fun z => nomatch z) q3
    have sub0 : ∀ x, Own σ (Γ.set i .un) x → Own σ Γ x := fun x ⟨k, cc, h1, h2⟩ => by
      have hk : k ≠ i := fun z => by subst z; rw [List.getElem?_set_self hiL] at h1; cases h1
      rw [List.getElem?_set_ne (Ne.symm hk)] at h1
      exact ⟨k, cc, h1, h2⟩
    have ownd : Own σ Γ d := ⟨i, _, hi, q1⟩
    have E4 : Env K B' (upd H' d (dNO w d us)) σ Γ := by
      have hiL0 : i < (Γ.set i .un).length := by rw [List.length_set]; exact hiL
      have h := (Ei.free_upd (o := dNO w d us) nd bd').setA (ds := .dN w kvs) hiL0 nd upd_same bd' ⟨us, rfl, ⟨q4.ks, fun k x hx => (q4.qs k x hx).mono mv.bb, q4.vs.mono mv.bb⟩⟩
      rw [hself, List.set_set] at h
      have e : Γ.set i (.cel (.dN w kvs)) = Γ := by
        refine List.ext_getElem? fun k => ?_
        by_cases hk : k = i
        · subst hk; rw [List.getElem?_set_self hiL, hi]
        · rw [List.getElem?_set_ne (Ne.symm hk)]
      rw [e] at h
      exact h
    have M4 : Mv (Own σ Γ) B H B' (upd H' d (dNO w d us)) := ⟨fun a u na ha => by
      have hne : a ≠ d := fun z => na (z ▸ ownd)
      rw [upd_ne hne]
      exact mv.kp a u (fun z => na (sub0 a z)) (by rw [upd_ne hne]; exact ha), mv.bb, fun a na ha hb => by
      have hne : a ≠ d := fun z => na (z ▸ ownd)
      exact mv.off a (fun z => na (sub0 a z)) (by rw [upd_ne hne]; exact ha) hb⟩
    exact q (.ref L) B' _ (.new (kvs.map fun kv => f kv.1)) Γ ⟨M4, fun _ ds h => ⟨ds, h⟩, E4⟩ ⟨L, _, rfl, .inr hL0, E.not_own hL0, by rw [upd_ne hLd]; exact hLi, bLi, acc, rfl, ia⟩ fin
end Ab

namespace Strokes
open PySem L2 Ab
def tq_corners (K : PySem.W.Frag) (ap_unit_steps : AP) : TS :=
    (tSeq (tAsg (tVar 0) (gTup K 3 (gCons (gName 1) (gCons (gName 2) (gCons (gName 3) gNil)))))
    (tSeq (tAsg (tLst (tCons (tTup (tCons (tVar 1) (tCons (tVar 2) tNil))) tNil)) (gName 4))
    (tSeq (tFor (iTup K (tVar 3)) (gName 5) (tFor (iList K (tCall (toSp K ap_unit_steps) [] E0 (tCons (tVar 5) tNil))) (gTup K 2 (gCons (gName 6) (gCons (gName 7) gNil))) (tSeq (tAug 1 (tVar 6) (ipI fun i j => i + j))
    (tSeq (tAug 2 (tVar 7) (ipI fun i j => i + j))
    (tDrop (tBM K "list" rAppend (tVar 4) (tCons (tTup (tCons (tVar 1) (tCons (tVar 2) tNil))) tNil)))))))
    (tRet (tVar 4)))))
local macro_rules | `(tactic| walk_at "no") => `(tactic| first
  | with_reducible exact fun h => Bool.noConfusion (show true = false from h)
  | with_reducible exact fun h => Bool.noConfusion (show false = true from h)
  | exact fun h => absurd h (by decide)
  | exact fun h => absurd (of_decide_eq_true h) (by omega)
  | exact fun h => absurd (by omega) (of_decide_eq_false h)
  | exact fun h => absurd (by omega) (nd_t h)
  | exact fun h => absurd (nd_f h) (by omega)
  | fail "no")
local macro_rules | `(tactic| walk_at "kb") => `(tactic| first | exact kb_tt | exact kb_ll | exact kb_ii | exact kb_ib | exact kb_ss | exact kb_sb | exact kb_si | exact kb_tb | exact kb_ti | exact kb_ts | exact kb_tl | exact kb_lb | exact kb_li | exact kb_ls | exact kb_lt | exact kb_is | exact kb_it | exact kb_il | exact kb_st | exact kb_sl | exact kb_bb | exact kb_bi | exact kb_nb | exact kb_ni | exact kb_ns | exact kb_nt | exact kb_nl | exact kb_bs | exact kb_bt | exact kb_bl | fail "kb")
local macro_rules | `(tactic| walk_at "norm") => `(tactic| first
  | ((refine' norm_cons (rfl : _ = _ :: _) ?ea ?et); (case ea => first | with_reducible exact (rfl : Sl.val _ = _) | with_reducible exact (rfl : Sl.cel _ = _) | with_reducible exact (rfl : Sl.un = _) | with_reducible exact norm_v | with_reducible exact norm_n | with_reducible exact norm_o | exact norm_v | exact norm_n | exact norm_o | exact rfl | fail "norm"); (case et => walk_at "norm"))
  | exact (rfl : _ = ([] : List Sl))
  | fail "norm")
local macro_rules | `(tactic| walk_at "x") => `(tactic| first
  | ((with_reducible refine' norm_intro ?hn ?_); (case hn => walk_at "norm"))
  | ((with_reducible refine' we_var ?hh ?_); (case hh => exact rfl))
  | ((with_reducible refine' we_own ?hh ?_); (case hh => exact rfl))
  | with_reducible refine we_c ?_
  | with_reducible refine we_addG ?_
  | with_reducible refine addp_i ?_
  | with_reducible refine we_opI0 ?_
  | with_reducible refine we_opI ?_
  | with_reducible refine we_mulG ?_
  | ((with_reducible refine' mulp_r ?h1 ?_); (case h1 => first | decide | omega | fail "m"))
  | ((with_reducible refine' mulp_l ?h1 ?_); (case h1 => first | decide | omega | fail "m"))
  | with_reducible refine we_neg ?_
  | with_reducible refine we_ltG ?_
  | with_reducible refine ltp_i ?_
  | with_reducible refine we_eqG ?_
  | with_reducible refine we_neG ?_
  | with_reducible refine eqp_i ?_
  | with_reducible refine nep_i ?_
  | with_reducible refine we_ixG ?_
  | ((with_reducible refine' ixp ?h1 ?h2 ?_); (case h1 => exact rfl); (case h2 => exact rfl))
  | with_reducible refine we_lenG ?_
  | ((with_reducible refine' lenp ?hh ?_); (case hh => exact rfl))
  | with_reducible refine we_intG ?_
  | with_reducible refine intp_i ?_
  | with_reducible refine intp_b ?_
  | with_reducible refine we_abs ?_
  | with_reducible refine we_tup ?_
  | with_reducible refine we_lst ?_
  | with_reducible refine we_tuple ?_
  | with_reducible refine we_list ?_
  | with_reducible refine we_sum ?_
  | with_reducible refine we_max2 ?_
  | with_reducible refine we_min2 ?_
  | with_reducible refine wd_cons ?_
  | with_reducible refine wd_nil ?_
  | with_reducible refine wa_cons ?_
  | with_reducible refine wa_nil ?_
  | with_reducible refine we_callH ?_
  | with_reducible refine we_isiG ?_
  | ((with_reducible refine' isi_own ?h1 ?h2 ?_); (case h1 => exact rfl); (case h2 => walk_at "kb"))
  | ((with_reducible refine' isi_val ?h1 ?h2 ?_); (case h1 => exact rfl); (case h2 => walk_at "kb"))
  | ((with_reducible refine' isi_new ?h2 ?_); (case h2 => walk_at "kb"))
  | with_reducible refine we_chainI ?_
  | with_reducible refine we_andV ?_
  | with_reducible refine we_orV ?_
  | with_reducible refine we_notV ?_
  | with_reducible refine wt_test ?_
  | with_reducible refine wt_B ?_
  | with_reducible refine wt_yes ?_
  | with_reducible refine wt_and ?_
  | with_reducible refine wt_or ?_
  | with_reducible refine wt_not ?_
  | ((with_reducible refine' ws_retA ?hh ?_); (case hh => exact rfl))
  | with_reducible refine ws_ret ?_
  | with_reducible refine ws_if ?_
  | with_reducible refine ws_nil ?_
  | with_reducible refine ws_expr ?_
  | with_reducible refine ws_asgN rfl rfl ?_
  | with_reducible refine ws_setN ?_
  | with_reducible refine ws_asgG ?_
  | ((with_reducible refine' wg_tup ?hh ?_); (case hh => exact rfl))
  | with_reducible refine wgs_cons ?_
  | with_reducible refine wgs_nil ?_
  | with_reducible refine wg_nameN rfl rfl ?_
  | ((with_reducible refine' we_appendN ?hh ?_); (case hh => exact rfl))
  | ((with_reducible refine' we_reverseN ?hh ?_); (case hh => exact rfl))
  | ((with_reducible refine' ws_augN ?h1 ?h2 ?_); (case h1 => exact rfl); (case h2 => exact rfl))
  | (refine ⟨_, rfl, ⟨_, rfl⟩, ?_⟩)
  | (refine ⟨_, rfl, ?_⟩)
  | (refine ⟨_, _, _, rfl, rfl, rfl, ?_⟩)
  | (refine ⟨_, _, rfl, rfl, (Nat.le_of_ble_eq_true rfl : _ ≤ _), ?_⟩)
  | (refine ⟨_, _, rfl, rfl, ?_⟩)
  | (refine ⟨(Nat.le_of_ble_eq_true rfl : _ ≤ _), ?_⟩)
  | (refine ⟨(rfl : _ = true), ?_⟩)
  | ((refine' ⟨fun _ => ?_, fun hY => absurd hY ?k2⟩); (case k2 => walk_at "no"))
  | ((refine' ⟨fun hY => absurd hY ?k2, fun _ => ?_⟩); (case k2 => walk_at "no"))
  | (refine ⟨⟨(by omega), (by omega)⟩, ?_⟩)
  | (refine ⟨⟨(by decide), (by decide), (by decide)⟩, ?_⟩)
  | (refine ⟨(show (_ : Prop) from by first | decide | omega | fail "c"), ?_⟩)
  | fail "stop")
local macro_rules | `(tactic| walk_at "e") => `(tactic| first | with_reducible refine ws_seq ?_ | walk_at "x" | fail "stop")
local macro_rules | `(tactic| walk_at "xs") => `(tactic| repeat' walk_at "x")
local macro_rules | `(tactic| walk_at "es") => `(tactic| repeat' walk_at "e")
local macro_rules | `(tactic| walk_at "len") => `(tactic| ((intro as Post h); (repeat (first | (obtain ⟨e, _⟩ := h; exact (congrArg List.length e).trans rfl) | (obtain ⟨_, h⟩ := h)))))
local macro_rules | `(tactic| walk_at "nd") => `(tactic| first
  | exact (rfl : _ = ([] : List Dt))
  | ((refine' normD_cons (rfl : _ = _ :: _) ?et); (case et => walk_at "nd"))
  | fail "nd")
local macro_rules | `(tactic| walk_at "x") => `(tactic| first
  | with_reducible refine we_sumG ?_
  | with_reducible refine eqp_st ?_
  | with_reducible refine nep_st ?_
  | ((with_reducible refine' eqp_sf ?h1 ?_); (case h1 => first | assumption | decide +kernel))
  | ((with_reducible refine' nep_sf ?h1 ?_); (case h1 => first | assumption | decide +kernel))
  | with_reducible refine we_inG ?_
  | with_reducible refine we_if ?_
  | ((with_reducible refine' we_clearN ?hh ?_); (case hh => exact rfl))
  | with_reducible refine we_notInG ?_
  | with_reducible refine we_smeth ?_
  | with_reducible refine we_makeD ?_
  | with_reducible refine we_makeK ?_
  | ((with_reducible refine' slp_tE ?h ?_); (case h => walk_at "nd"))
  | ((with_reducible refine' addp_tE ?hz ?h ?_); (case h => walk_at "nd"); (case hz => exact Nat.le_of_ble_eq_true rfl))
  | fail "x5")
local macro_rules | `(tactic| walk_at "tk") => `(tactic| refine .a (tk (by assumption) (by omega) (by omega) (by omega) fun _ _ _ _ _ => ?_))
local macro_rules | `(tactic| walk_at "yE") => `(tactic| first
  | with_reducible refine we_makeP ?_
  | with_reducible refine we_inO ?_
  | with_reducible refine we_it ?_
  | with_reducible refine we_dnewK ?_
  | with_reducible refine we_dnotinK ?_
  | with_reducible refine we_dinK ?_
  | with_reducible refine we_dgetK ?_
  | fail "yEI")
local macro_rules | `(tactic| walk_at "yB") => `(tactic| first
  | with_reducible refine we_boxLen ?_
  | with_reducible refine we_boxList ?_
  | fail "yBI")
local macro_rules | `(tactic| walk_at "yS") => `(tactic| first
  | with_reducible refine ws_dputK ?_
  | fail "ySI")
def addP (p s : Int × Int) : Int × Int := (p.1 + s.1, p.2 + s.2)
def walkP : Int × Int → List (Int × Int) → List (Int × Int)
  | _, [] => []
  | p, s :: r => addP p s :: walkP (addP p s) r
def endP : Int × Int → List (Int × Int) → Int × Int
  | p, [] => p
  | p, s :: r => endP (addP p s) r
theorem endP_snoc : ∀ (p : Int × Int) (l : List (Int × Int)) (s : Int × Int), endP p (l ++ [s]) = addP (endP p l) s
  | p, [], s => rfl
  | p, x :: r, s => endP_snoc (addP p x) r s
theorem walkP_snoc : ∀ (p : Int × Int) (l : List (Int × Int)) (s : Int × Int), walkP p (l ++ [s]) = walkP p l ++ [addP (endP p l) s]
  | p, [], s => rfl
  | p, x :: r, s => by
    show addP p x :: walkP (addP p x) (r ++ [s]) = (addP p x :: walkP (addP p x) r) ++ [addP (endP (addP p x) r) s]
    rw [walkP_snoc (addP p x) r s]
    rfl
theorem walkP_len : ∀ (p : Int × Int) (l : List (Int × Int)), (walkP p l).length = l.length
  | p, [] => rfl
  | p, x :: r => by show (walkP (addP p x) r).length + 1 = r.length + 1; rw [walkP_len]
def allS (sts : List Stk) : List (Int × Int) := (sts.map Stk.steps).flatten
theorem allS_snoc (sts : List Stk) (st : Stk) : allS (sts ++ [st]) = allS sts ++ st.steps := by
  unfold allS
  rw [List.map_append, List.flatten_append]
  simp
def reach (x y : Int) (l : List (Int × Int)) : List Dt := ((x, y) :: walkP (x, y) l).map prD
theorem reach_snoc (x y : Int) (l : List (Int × Int)) (s : Int × Int) : reach x y (l ++ [s]) = reach x y l ++ [prD (addP (endP (x, y) l) s)] := by
  unfold reach
  rw [walkP_snoc]
  simp
theorem reach_len (x y : Int) (l : List (Int × Int)) : (reach x y l).length = l.length + 1 := by
  unfold reach
  rw [List.length_map, List.length_cons, walkP_len]
def ap_cor : AP := fun as Post => ∃ x y sts, as = [.val (.tup [.int x, .int y, .tup (sts.map Stk.dt)])] ∧ (∀ st ∈ sts, st.ok) ∧ (allS sts).length ≤ 900000 ∧ Post (.new (reach x y (allS sts))) [.val (.tup [.int x, .int y, .tup (sts.map Stk.dt)])]
theorem take_all {sts : List Stk} {i : Nat} {d : Dt} (h : (sts.map Stk.dt)[i]? = some d) : ∃ st, sts[i]? = some st ∧ d = st.dt := by
  rw [List.getElem?_map] at h
  cases e : sts[i]? with
  | none => rw [e] at h; cases h
  | some st => rw [e] at h; cases h; exact ⟨st, rfl, rfl⟩
theorem allS_take (sts : List Stk) (i : Nat) : (allS (sts.take i)).length ≤ (allS sts).length := by
  have e : allS sts = allS (sts.take i) ++ allS (sts.drop i) := by unfold allS; rw [← List.flatten_append, ← List.map_append, List.take_append_drop]
  rw [e, List.length_append]; omega
section
variable {K : PySem.W.Frag}
theorem run_corners : RunOk K [] (tq_corners K ap_unit) 8 ap_cor := by
  rintro as Post ⟨x, y, sts, rfl, hok, hlen, p⟩
  unfold tq_corners
  show WS K [] _ [.val (.tup [.int x, .int y, .tup (sts.map Stk.dt)]), .un, .un, .un, .un, .un, .un, .un] _
  walk_at "es"
  refine for_tuple (sts.map Stk.dt) (fun i G => ∃ s5 s6 s7, G = [.val (.tup [.int x, .int y, .tup (sts.map Stk.dt)]), .val (.int (endP (x, y) (allS (sts.take i))).1), .val (.int (endP (x, y) (allS (sts.take i))).2), .val (.tup (sts.map Stk.dt)), .acc (reach x y (allS (sts.take i))), s5, s6, s7]) ?_ ?_ ?_
  · walk_at "es"
    exact .a ⟨rfl, _, _, _, rfl⟩
  · rintro i d G hd ⟨s5, s6, s7, rfl⟩
    obtain ⟨st, hst, rfl⟩ := take_all hd
    have so := hok st (List.mem_of_getElem? hst)
    have e1 : sts.take (i + 1) = sts.take i ++ [st] := by rw [List.take_add_one, hst]; rfl
    have hl1 : (allS (sts.take i)).length + st.steps.length ≤ 900000 := by
      have := allS_take sts (i + 1)
      rw [e1, allS_snoc, List.length_append] at this
      omega
    walk_at "es"
    refine for_lstH ?_
    walk_at "es"
    refine .a ⟨st, rfl, so, ?_⟩
    walk_at "es"
    refine .a ⟨st.steps.map prD, rfl, fun j G => ∃ s6 s7, G = [.val (.tup [.int x, .int y, .tup (sts.map Stk.dt)]), .val (.int (endP (x, y) (allS (sts.take i) ++ st.steps.take j)).1), .val (.int (endP (x, y) (allS (sts.take i) ++ st.steps.take j)).2), .val (.tup (sts.map Stk.dt)), .acc (reach x y (allS (sts.take i) ++ st.steps.take j)), .val st.dt, s6, s7], ?_, ?_, ?_⟩
    · refine ⟨s6, s7, ?_⟩
      rw [List.take_zero, List.append_nil]
    · rintro j d G hd ⟨s6, s7, rfl⟩
      rw [List.getElem?_map] at hd
      cases hq : st.steps[j]? with
      | none => rw [hq] at hd; cases hd
      | some q =>
        rw [hq] at hd
        cases hd
        have e2 : allS (sts.take i) ++ st.steps.take (j + 1) = (allS (sts.take i) ++ st.steps.take j) ++ [q] := by rw [List.take_add_one, hq, List.append_assoc]; rfl
        have hz : (reach x y (allS (sts.take i) ++ st.steps.take j)).length < 1000000 := by
          rw [reach_len, List.length_append, List.length_take]; omega
        show WG K [] _ (.tup [.int q.1, .int q.2]) _ _
        walk_at "es"
        refine .a ⟨.val (.int q.1), .val (.int q.2), ?_⟩
        rw [e2, endP_snoc, reach_snoc]
        rfl
    · rintro G ⟨s6, s7, rfl⟩
      refine .a ⟨.val st.dt, s6, s7, ?_⟩
      rw [List.length_map, List.take_length, e1, allS_snoc]
  · rintro G ⟨s5, s6, s7, rfl⟩
    rw [List.length_map, List.take_length]
    walk_at "es"
    exact p
end
end Strokes

namespace Ik
open PySem L2 Ab
namespace Lk32
open PySem L2 Ab
def topS (i : Nat) : Stmt := PySem.Challenge.pw_stylepages_k32_whole_outlines_there_and.main.body.getD i (.Pass ⟨0, 0, 0, 0⟩)
abbrev s_cell_sides : Stmt := topS 6
theorem sc_cell_sides : FnScope ["x", "y", "ink", "sides"] ["x", "y", "ink"] (defScope s_cell_sides) := ⟨rfl, rfl, rfl, by decide +kernel, rfl, by decide +kernel, by decide +kernel⟩
abbrev s_border_moves : Stmt := topS 7
theorem sc_border_moves : FnScope ["ink", "moves", "x", "y", "corner", "move"] ["ink"] (defScope s_border_moves) := ⟨rfl, rfl, rfl, by decide +kernel, rfl, by decide +kernel, by decide +kernel⟩
abbrev s_next_move : Stmt := topS 8
theorem sc_next_move : FnScope ["choices", "move", "turned_left"] ["choices", "move"] (defScope s_next_move) := ⟨rfl, rfl, rfl, by decide +kernel, rfl, by decide +kernel, by decide +kernel⟩
abbrev s_ring_moves : Stmt := topS 9
theorem sc_ring_moves : FnScope ["moves", "corner", "move", "start", "ring", "side", "x", "y", "dx", "dy", "reached"] ["moves", "corner", "move"] (defScope s_ring_moves) := ⟨rfl, rfl, rfl, by decide +kernel, rfl, by decide +kernel, by decide +kernel⟩
abbrev s_ring_strokes : Stmt := topS 10
theorem sc_ring_strokes : FnScope ["ring", "lines", "before", "side", "move", "dx", "dy"] ["ring"] (defScope s_ring_strokes) := ⟨rfl, rfl, rfl, by decide +kernel, rfl, by decide +kernel, by decide +kernel⟩
abbrev s_outlines_of : Stmt := topS 11
theorem sc_outlines_of : FnScope ["ink", "moves", "walked", "outlines", "y", "x", "move", "ring", "side", "corner"] ["ink"] (defScope s_outlines_of) := ⟨rfl, rfl, rfl, by decide +kernel, rfl, by decide +kernel, by decide +kernel⟩
abbrev s_sign : Stmt := topS 16
theorem sc_sign : FnScope ["number"] ["number"] (defScope s_sign) := ⟨rfl, rfl, rfl, by decide +kernel, rfl, by decide +kernel, by decide +kernel⟩
abbrev s_line_steps : Stmt := topS 17
theorem sc_line_steps : FnScope ["dx", "dy", "across", "length", "steps", "k"] ["dx", "dy"] (defScope s_line_steps) := ⟨rfl, rfl, rfl, by decide +kernel, rfl, by decide +kernel, by decide +kernel⟩
abbrev s_takes_first_move : Stmt := topS 18
theorem sc_takes_first_move : FnScope ["a", "b", "radius", "square", "after_first", "after_second"] ["a", "b", "radius"] (defScope s_takes_first_move) := ⟨rfl, rfl, rfl, by decide +kernel, rfl, by decide +kernel, by decide +kernel⟩
abbrev s_arc_steps : Stmt := topS 19
theorem sc_arc_steps : FnScope ["first", "second", "radius", "a", "b", "steps"] ["first", "second", "radius"] (defScope s_arc_steps) := ⟨rfl, rfl, rfl, by decide +kernel, rfl, by decide +kernel, by decide +kernel⟩
abbrev s_unit_steps : Stmt := topS 20
theorem sc_unit_steps : FnScope ["stroke", "sort", "dx", "dy", "level", "upright"] ["stroke"] (defScope s_unit_steps) := ⟨rfl, rfl, rfl, by decide +kernel, rfl, by decide +kernel, by decide +kernel⟩
abbrev s_corners : Stmt := topS 21
theorem sc_corners : FnScope ["outline", "x", "y", "strokes", "reached", "stroke", "dx", "dy"] ["outline"] (defScope s_corners) := ⟨rfl, rfl, rfl, by decide +kernel, rfl, by decide +kernel, by decide +kernel⟩
abbrev s_Ink___init__ : Stmt := inClass (topS 23) 0
theorem sc_Ink___init__ : FnScope ["self", "cells", "found", "x", "y", "ordered", "lefts", "rights", "known"] ["self", "cells"] (defScope s_Ink___init__) := ⟨rfl, rfl, rfl, by decide +kernel, rfl, by decide +kernel, by decide +kernel⟩
abbrev s_Ink_cells : Stmt := inClass (topS 23) 1
theorem sc_Ink_cells : FnScope ["self"] ["self"] (defScope s_Ink_cells) := ⟨rfl, rfl, rfl, by decide +kernel, rfl, by decide +kernel, by decide +kernel⟩
abbrev s_Ink___contains__ : Stmt := inClass (topS 23) 8
theorem sc_Ink___contains__ : FnScope ["self", "cell"] ["self", "cell"] (defScope s_Ink___contains__) := ⟨rfl, rfl, rfl, by decide +kernel, rfl, by decide +kernel, by decide +kernel⟩
abbrev s_crossings_of : Stmt := topS 24
theorem sc_crossings_of : FnScope ["outlines", "crossings", "place", "outline", "reached", "k", "before", "behind", "row"] ["outlines"] (defScope s_crossings_of) := ⟨rfl, rfl, rfl, by decide +kernel, rfl, by decide +kernel, by decide +kernel⟩
abbrev s_ink_of : Stmt := topS 25
theorem sc_ink_of : FnScope ["outlines", "cells", "crossings", "row", "places", "k", "x"] ["outlines"] (defScope s_ink_of) := ⟨rfl, rfl, rfl, by decide +kernel, rfl, by decide +kernel, by decide +kernel⟩
abbrev s__law_pool : Stmt := topS 27
theorem sc__law_pool : FnScope ["_law_script", "_law_at", "_law_cell"] ["_law_script", "_law_at"] (defScope s__law_pool) := ⟨rfl, rfl, rfl, by decide +kernel, rfl, by decide +kernel, by decide +kernel⟩
abbrev s__law_take : Stmt := topS 28
theorem sc__law_take : FnScope ["_law_pool_here", "_law_many", "_law_got", "_law_one", "_law_two"] ["_law_pool_here", "_law_many"] (defScope s__law_take) := ⟨rfl, rfl, rfl, by decide +kernel, rfl, by decide +kernel, by decide +kernel⟩
abbrev s__law_plate : Stmt := topS 29
theorem sc__law_plate : FnScope ["_law_pool_here", "_law_sort", "_law_spread", "_law_many", "_law_cells", "_law_box", "_law_x", "_law_y", "_law_wide", "_law_high", "_law_step", "_law_k"] ["_law_pool_here"] (defScope s__law_plate) := ⟨rfl, rfl, rfl, by decide +kernel, rfl, by decide +kernel, by decide +kernel⟩
abbrev s__law_sides : Stmt := topS 30
theorem sc__law_sides : FnScope ["_law_known", "_law_sides_here", "_law_cell", "_law_x", "_law_y"] ["_law_known"] (defScope s__law_sides) := ⟨rfl, rfl, rfl, by decide +kernel, rfl, by decide +kernel, by decide +kernel⟩
abbrev s__law_integer : Stmt := topS 31
theorem sc__law_integer : FnScope ["_law_told_here"] ["_law_told_here"] (defScope s__law_integer) := ⟨rfl, rfl, rfl, by decide +kernel, rfl, by decide +kernel, by decide +kernel⟩
abbrev s__law_sign : Stmt := topS 32
theorem sc__law_sign : FnScope ["_law_number"] ["_law_number"] (defScope s__law_sign) := ⟨rfl, rfl, rfl, by decide +kernel, rfl, by decide +kernel, by decide +kernel⟩
abbrev s__law_formed : Stmt := topS 33
theorem sc__law_formed : FnScope ["_law_outline", "_law_most", "_law_stroke"] ["_law_outline", "_law_most"] (defScope s__law_formed) := ⟨rfl, rfl, rfl, by decide +kernel, rfl, by decide +kernel, by decide +kernel⟩
abbrev s__law_told : Stmt := topS 34
theorem sc__law_told : FnScope ["_law_told_here", "_law_due", "_law_cell", "_law_number"] ["_law_told_here", "_law_due"] (defScope s__law_told) := ⟨rfl, rfl, rfl, by decide +kernel, rfl, by decide +kernel, by decide +kernel⟩
abbrev s__law_order : Stmt := topS 35
theorem sc__law_order : FnScope ["_law_cells", "_law_codes", "_law_due", "_law_k", "_law_cell"] ["_law_cells"] (defScope s__law_order) := ⟨rfl, rfl, rfl, by decide +kernel, rfl, by decide +kernel, by decide +kernel⟩
abbrev s__law_walk : Stmt := topS 36
theorem sc__law_walk : FnScope ["_law_outline", "_law_sides_here", "_law_walked", "_law_x", "_law_y", "_law_steps", "_law_stroke", "_law_dx", "_law_dy", "_law_k", "_law_side"] ["_law_outline", "_law_sides_here", "_law_walked"] (defScope s__law_walk) := ⟨rfl, rfl, rfl, by decide +kernel, rfl, by decide +kernel, by decide +kernel⟩
abbrev s__law_ring_right : Stmt := topS 37
theorem sc__law_ring_right : FnScope ["_law_outline", "_law_steps", "_law_begun", "_law_before", "_law_step", "_law_turned", "_law_lines", "_law_k", "_law_way"] ["_law_outline", "_law_steps", "_law_begun"] (defScope s__law_ring_right) := ⟨rfl, rfl, rfl, by decide +kernel, rfl, by decide +kernel, by decide +kernel⟩
abbrev s__law_outlines_right : Stmt := topS 38
theorem sc__law_outlines_right : FnScope ["_law_told_here", "_law_sides_here", "_law_begun", "_law_side", "_law_walked", "_law_before", "_law_outline", "_law_steps"] ["_law_told_here", "_law_sides_here"] (defScope s__law_outlines_right) := ⟨rfl, rfl, rfl, by decide +kernel, rfl, by decide +kernel, by decide +kernel⟩
abbrev s_law : Stmt := topS 39
theorem sc_law : FnScope ["_law_script", "_law_pattern", "_law_here", "_law_cell", "_law_low", "_law_due", "_law_known", "_law_sides_here", "_law_ink", "_law_told_here", "_law_back", "_law_again"] ["_law_script"] (defScope s_law) := ⟨rfl, rfl, rfl, by decide +kernel, rfl, by decide +kernel, by decide +kernel⟩
abbrev s_OpenOutline___init__ : Stmt := inClass (topS 14) 0
abbrev nf_OpenOutline (cc cda : Addr) : NdefX.NF := ⟨"__init__", "OpenOutline.__init__", defArgs s_OpenOutline___init__, defBody s_OpenOutline___init__, defScope s_OpenOutline___init__, [("__class__", cc)], cda⟩
set_option genInjectivity false
set_option genSizeOf false
set_option genSizeOfSpec false
structure Txt (P : Program) (K : PySem.W.Frag) (mg : Str → Option Value) where
  m_abs : mg "abs" = none
  m_bool : mg "bool" = none
  m_enumerate : mg "enumerate" = none
  m_int : mg "int" = none
  m_isinstance : mg "isinstance" = none
  m_len : mg "len" = none
  m_list : mg "list" = none
  m_min : mg "min" = none
  m_range : mg "range" = none
  m_sorted : mg "sorted" = none
  m_str : mg "str" = none
  m_super : mg "super" = none
  m_tuple : mg "tuple" = none
  c_RIGHT : Addr
  g_RIGHT : mg "RIGHT" = some (.ref c_RIGHT)
  k_RIGHT : KTup K c_RIGHT [.int 1, .int 0]
  c_UP : Addr
  g_UP : mg "UP" = some (.ref c_UP)
  k_UP : KTup K c_UP [.int 0, .int 1]
  c_LEFT : Addr
  g_LEFT : mg "LEFT" = some (.ref c_LEFT)
  k_LEFT : KTup K c_LEFT [.int (-1), .int 0]
  c_DOWN : Addr
  g_DOWN : mg "DOWN" = some (.ref c_DOWN)
  k_DOWN : KTup K c_DOWN [.int 0, .int (-1)]
  c_OpenOutline : Addr
  g_OpenOutline : mg "OpenOutline" = some (.ref c_OpenOutline)
  bs_OpenOutline : PySem.W.subIn K (.ref c_OpenOutline) (.type "BaseException") = some true
  tx_OpenOutline : PySem.W.typeIn K (.ref c_OpenOutline) = some (.type "type")
  hd_OpenOutline : PySem.W.hasDictIn K c_OpenOutline = true
  ks_ev : subTab K [c_OpenOutline] = true
  va_OpenOutline : PySem.W.subIn K (.ref c_OpenOutline) (.type "ValueError") = some true
  xc_OpenOutline : ExcC K c_OpenOutline
  xf_OpenOutline : XfC K c_OpenOutline
  kx_OpenOutline : PySem.W.keepIn K (.ref c_OpenOutline) = true
  ox_OpenOutline : OexC K c_OpenOutline
  fi_OpenOutline : Addr
  fe_OpenOutline : FuncData
  cc_OpenOutline : Addr
  cd_OpenOutline : Addr
  ic_OpenOutline : PySem.W.findIn K (.ref c_OpenOutline) "__init__" = some (some (.ref fi_OpenOutline))
  ti_OpenOutline : PySem.W.typeIn K (.ref fi_OpenOutline) = some (.type "function")
  be_OpenOutline : Binds K fe_OpenOutline ["self", "place"] []
  su_OpenOutline : SupF P K c_OpenOutline fi_OpenOutline (nf_OpenOutline cc_OpenOutline cd_OpenOutline) fe_OpenOutline "self"
  na_OpenOutline_place : PySem.W.findIn K (.ref c_OpenOutline) "place" = some none
  c_Ink : Addr
  g_Ink : mg "Ink" = some (.ref c_Ink)
  co_Ink : ClsOk K c_Ink
  na_Ink_cell_list : NoAttr K c_Ink "cell_list"
  na_Ink_known_cells : NoAttr K c_Ink "known_cells"
  na_Ink_left_ends : NoAttr K c_Ink "left_ends"
  na_Ink_right_ends : NoAttr K c_Ink "right_ends"
  f_cell_sides : Addr
  fd_cell_sides : FuncData
  F_cell_sides : Fun K "cell_sides" "cell_sides" s_cell_sides f_cell_sides fd_cell_sides
  g_cell_sides : mg "cell_sides" = some (.ref f_cell_sides)
  b_cell_sides : Binds K fd_cell_sides ["x", "y", "ink"] []
  f_border_moves : Addr
  fd_border_moves : FuncData
  F_border_moves : Fun K "border_moves" "border_moves" s_border_moves f_border_moves fd_border_moves
  g_border_moves : mg "border_moves" = some (.ref f_border_moves)
  b_border_moves : Binds K fd_border_moves ["ink"] []
  f_next_move : Addr
  fd_next_move : FuncData
  F_next_move : Fun K "next_move" "next_move" s_next_move f_next_move fd_next_move
  g_next_move : mg "next_move" = some (.ref f_next_move)
  b_next_move : Binds K fd_next_move ["choices", "move"] []
  f_ring_moves : Addr
  fd_ring_moves : FuncData
  F_ring_moves : Fun K "ring_moves" "ring_moves" s_ring_moves f_ring_moves fd_ring_moves
  g_ring_moves : mg "ring_moves" = some (.ref f_ring_moves)
  b_ring_moves : Binds K fd_ring_moves ["moves", "corner", "move"] []
  f_ring_strokes : Addr
  fd_ring_strokes : FuncData
  F_ring_strokes : Fun K "ring_strokes" "ring_strokes" s_ring_strokes f_ring_strokes fd_ring_strokes
  g_ring_strokes : mg "ring_strokes" = some (.ref f_ring_strokes)
  b_ring_strokes : Binds K fd_ring_strokes ["ring"] []
  f_outlines_of : Addr
  fd_outlines_of : FuncData
  F_outlines_of : Fun K "outlines_of" "outlines_of" s_outlines_of f_outlines_of fd_outlines_of
  g_outlines_of : mg "outlines_of" = some (.ref f_outlines_of)
  b_outlines_of : Binds K fd_outlines_of ["ink"] []
  f_sign : Addr
  fd_sign : FuncData
  F_sign : Fun K "sign" "sign" s_sign f_sign fd_sign
  g_sign : mg "sign" = some (.ref f_sign)
  b_sign : Binds K fd_sign ["number"] []
  f_line_steps : Addr
  fd_line_steps : FuncData
  F_line_steps : Fun K "line_steps" "line_steps" s_line_steps f_line_steps fd_line_steps
  g_line_steps : mg "line_steps" = some (.ref f_line_steps)
  b_line_steps : Binds K fd_line_steps ["dx", "dy"] []
  f_takes_first_move : Addr
  fd_takes_first_move : FuncData
  F_takes_first_move : Fun K "takes_first_move" "takes_first_move" s_takes_first_move f_takes_first_move fd_takes_first_move
  g_takes_first_move : mg "takes_first_move" = some (.ref f_takes_first_move)
  b_takes_first_move : Binds K fd_takes_first_move ["a", "b", "radius"] []
  f_arc_steps : Addr
  fd_arc_steps : FuncData
  F_arc_steps : Fun K "arc_steps" "arc_steps" s_arc_steps f_arc_steps fd_arc_steps
  g_arc_steps : mg "arc_steps" = some (.ref f_arc_steps)
  b_arc_steps : Binds K fd_arc_steps ["first", "second", "radius"] []
  f_unit_steps : Addr
  fd_unit_steps : FuncData
  F_unit_steps : Fun K "unit_steps" "unit_steps" s_unit_steps f_unit_steps fd_unit_steps
  g_unit_steps : mg "unit_steps" = some (.ref f_unit_steps)
  b_unit_steps : Binds K fd_unit_steps ["stroke"] []
  f_corners : Addr
  fd_corners : FuncData
  F_corners : Fun K "corners" "corners" s_corners f_corners fd_corners
  g_corners : mg "corners" = some (.ref f_corners)
  b_corners : Binds K fd_corners ["outline"] []
  f_Ink___init__ : Addr
  fd_Ink___init__ : FuncData
  F_Ink___init__ : Fun K "__init__" "Ink.__init__" s_Ink___init__ f_Ink___init__ fd_Ink___init__
  b_Ink___init__ : Binds K fd_Ink___init__ ["self", "cells"] []
  mk_Ink : Mk K c_Ink f_Ink___init__
  f_Ink_cells : Addr
  fd_Ink_cells : FuncData
  F_Ink_cells : Fun K "cells" "Ink.cells" s_Ink_cells f_Ink_cells fd_Ink_cells
  b_Ink_cells : Binds K fd_Ink_cells ["self"] []
  mt_Ink_cells : Meth K c_Ink "cells" f_Ink_cells
  f_Ink___contains__ : Addr
  fd_Ink___contains__ : FuncData
  F_Ink___contains__ : Fun K "__contains__" "Ink.__contains__" s_Ink___contains__ f_Ink___contains__ fd_Ink___contains__
  b_Ink___contains__ : Binds K fd_Ink___contains__ ["self", "cell"] []
  mt_Ink___contains__ : Meth K c_Ink "__contains__" f_Ink___contains__
  f_crossings_of : Addr
  fd_crossings_of : FuncData
  F_crossings_of : Fun K "crossings_of" "crossings_of" s_crossings_of f_crossings_of fd_crossings_of
  g_crossings_of : mg "crossings_of" = some (.ref f_crossings_of)
  b_crossings_of : Binds K fd_crossings_of ["outlines"] []
  f_ink_of : Addr
  fd_ink_of : FuncData
  F_ink_of : Fun K "ink_of" "ink_of" s_ink_of f_ink_of fd_ink_of
  g_ink_of : mg "ink_of" = some (.ref f_ink_of)
  b_ink_of : Binds K fd_ink_of ["outlines"] []
  f__law_pool : Addr
  fd__law_pool : FuncData
  F__law_pool : Fun K "_law_pool" "_law_pool" s__law_pool f__law_pool fd__law_pool
  g__law_pool : mg "_law_pool" = some (.ref f__law_pool)
  b__law_pool : Binds K fd__law_pool ["_law_script", "_law_at"] []
  f__law_take : Addr
  fd__law_take : FuncData
  F__law_take : Fun K "_law_take" "_law_take" s__law_take f__law_take fd__law_take
  g__law_take : mg "_law_take" = some (.ref f__law_take)
  b__law_take : Binds K fd__law_take ["_law_pool_here", "_law_many"] []
  f__law_plate : Addr
  fd__law_plate : FuncData
  F__law_plate : Fun K "_law_plate" "_law_plate" s__law_plate f__law_plate fd__law_plate
  g__law_plate : mg "_law_plate" = some (.ref f__law_plate)
  b__law_plate : Binds K fd__law_plate ["_law_pool_here"] []
  f__law_sides : Addr
  fd__law_sides : FuncData
  F__law_sides : Fun K "_law_sides" "_law_sides" s__law_sides f__law_sides fd__law_sides
  g__law_sides : mg "_law_sides" = some (.ref f__law_sides)
  b__law_sides : Binds K fd__law_sides ["_law_known"] []
  f__law_integer : Addr
  fd__law_integer : FuncData
  F__law_integer : Fun K "_law_integer" "_law_integer" s__law_integer f__law_integer fd__law_integer
  g__law_integer : mg "_law_integer" = some (.ref f__law_integer)
  b__law_integer : Binds K fd__law_integer ["_law_told_here"] []
  f__law_sign : Addr
  fd__law_sign : FuncData
  F__law_sign : Fun K "_law_sign" "_law_sign" s__law_sign f__law_sign fd__law_sign
  g__law_sign : mg "_law_sign" = some (.ref f__law_sign)
  b__law_sign : Binds K fd__law_sign ["_law_number"] []
  f__law_formed : Addr
  fd__law_formed : FuncData
  F__law_formed : Fun K "_law_formed" "_law_formed" s__law_formed f__law_formed fd__law_formed
  g__law_formed : mg "_law_formed" = some (.ref f__law_formed)
  b__law_formed : Binds K fd__law_formed ["_law_outline", "_law_most"] []
  f__law_told : Addr
  fd__law_told : FuncData
  F__law_told : Fun K "_law_told" "_law_told" s__law_told f__law_told fd__law_told
  g__law_told : mg "_law_told" = some (.ref f__law_told)
  b__law_told : Binds K fd__law_told ["_law_told_here", "_law_due"] []
  f__law_order : Addr
  fd__law_order : FuncData
  F__law_order : Fun K "_law_order" "_law_order" s__law_order f__law_order fd__law_order
  g__law_order : mg "_law_order" = some (.ref f__law_order)
  b__law_order : Binds K fd__law_order ["_law_cells"] []
  f__law_walk : Addr
  fd__law_walk : FuncData
  F__law_walk : Fun K "_law_walk" "_law_walk" s__law_walk f__law_walk fd__law_walk
  g__law_walk : mg "_law_walk" = some (.ref f__law_walk)
  b__law_walk : Binds K fd__law_walk ["_law_outline", "_law_sides_here", "_law_walked"] []
  f__law_ring_right : Addr
  fd__law_ring_right : FuncData
  F__law_ring_right : Fun K "_law_ring_right" "_law_ring_right" s__law_ring_right f__law_ring_right fd__law_ring_right
  g__law_ring_right : mg "_law_ring_right" = some (.ref f__law_ring_right)
  b__law_ring_right : Binds K fd__law_ring_right ["_law_outline", "_law_steps", "_law_begun"] []
  f__law_outlines_right : Addr
  fd__law_outlines_right : FuncData
  F__law_outlines_right : Fun K "_law_outlines_right" "_law_outlines_right" s__law_outlines_right f__law_outlines_right fd__law_outlines_right
  g__law_outlines_right : mg "_law_outlines_right" = some (.ref f__law_outlines_right)
  b__law_outlines_right : Binds K fd__law_outlines_right ["_law_told_here", "_law_sides_here"] []
  f_law : Addr
  fd_law : FuncData
  F_law : Fun K "law" "law" s_law f_law fd_law
  g_law : mg "law" = some (.ref f_law)
  b_law : Binds K fd_law ["_law_script"] []
set_option genInjectivity true
set_option genSizeOf true
set_option genSizeOfSpec true
def t_cell_sides (K : PySem.W.Frag) (c_Ink : Addr) (c_RIGHT : Addr) (c_UP : Addr) (c_LEFT : Addr) (c_DOWN : Addr) (ap_Ink___contains__ : AP) : TS :=
    (tSeq (tAsg (tLst tNil) (gName 3))
    (tSeq (tIfS (tTest (tOp (rInO c_Ink (toSp K ap_Ink___contains__) E0 true) (tTup (tCons (tVar 0) (tCons (tOp rSubI (tVar 1) (tC (.int 1))) tNil))) (tVar 2))) (tDrop (tBM K "list" rAppend (tVar 3) (tCons (tTup (tCons (tTup (tCons (tVar 0) (tCons (tVar 1) tNil))) (tCons (tC (.ref c_RIGHT)) tNil))) tNil))) tNext)
    (tSeq (tIfS (tTest (tOp (rInO c_Ink (toSp K ap_Ink___contains__) E0 true) (tTup (tCons (tOp (rAddG K) (tVar 0) (tC (.int 1))) (tCons (tVar 1) tNil))) (tVar 2))) (tDrop (tBM K "list" rAppend (tVar 3) (tCons (tTup (tCons (tTup (tCons (tOp (rAddG K) (tVar 0) (tC (.int 1))) (tCons (tVar 1) tNil))) (tCons (tC (.ref c_UP)) tNil))) tNil))) tNext)
    (tSeq (tIfS (tTest (tOp (rInO c_Ink (toSp K ap_Ink___contains__) E0 true) (tTup (tCons (tVar 0) (tCons (tOp (rAddG K) (tVar 1) (tC (.int 1))) tNil))) (tVar 2))) (tDrop (tBM K "list" rAppend (tVar 3) (tCons (tTup (tCons (tTup (tCons (tOp (rAddG K) (tVar 0) (tC (.int 1))) (tCons (tOp (rAddG K) (tVar 1) (tC (.int 1))) tNil))) (tCons (tC (.ref c_LEFT)) tNil))) tNil))) tNext)
    (tSeq (tIfS (tTest (tOp (rInO c_Ink (toSp K ap_Ink___contains__) E0 true) (tTup (tCons (tOp rSubI (tVar 0) (tC (.int 1))) (tCons (tVar 1) tNil))) (tVar 2))) (tDrop (tBM K "list" rAppend (tVar 3) (tCons (tTup (tCons (tTup (tCons (tVar 0) (tCons (tOp (rAddG K) (tVar 1) (tC (.int 1))) tNil))) (tCons (tC (.ref c_DOWN)) tNil))) tNil))) tNext)
    (tRet (tVar 3)))))))
def t_border_moves (K : PySem.W.Frag) (w : World) (c_Ink : Addr) (ap_Ink_cells : AP) (ap_cell_sides : AP) : TS :=
    (tSeq (tAsg (tNNew w) (gName 1))
    (tSeq (tFor (iList K (tMeth c_Ink "cells" (toSp K ap_Ink_cells) [] E0 (tVar 0) tNil)) (gTup K 2 (gCons (gName 2) (gCons (gName 3) gNil))) (tFor (iList K (tCall (toSp K ap_cell_sides) [] E0 (tCons (tVar 2) (tCons (tVar 3) (tCons (tVar 0) tNil))))) (gTup K 2 (gCons (gName 4) (gCons (gName 5) gNil))) (tSeq (tIfS (tB (tNNotIn K w (tVar 4) (tVar 1))) (sNPut K w (tVar 1) (tVar 4) (tLst tNil)) tNext)
    (tDrop (tBM K "list" rAppend (tNGet K w (tVar 1) (tVar 4)) (tCons (tVar 5) tNil))))))
    (tRet (tVar 1))))
def t_next_move (K : PySem.W.Frag) : TS :=
    (tSeq (tAsg (tTup (tCons (tUn rNegI (tOp (rIx K) (tVar 1) (tC (.int 1)))) (tCons (tOp (rIx K) (tVar 1) (tC (.int 0))) tNil))) (gName 2))
    (tSeq (tIfS (tTest (tOp (rInD K) (tVar 2) (tVar 0))) (tRet (tVar 2)) tNext)
    (tRet (tOp (rIx K) (tVar 0) (tC (.int 0))))))
def t_ring_moves (K : PySem.W.Frag) (w : World) (ap_next_move : AP) : TS :=
    (tSeq (tAsg (tTup (tCons (tVar 1) (tCons (tVar 2) tNil))) (gName 3))
    (tSeq (tAsg (tLst (tCons (tVar 3) tNil)) (gName 4))
    (tSeq (tAsg (tVar 3) (gName 5))
    (tWhile (tB (tC (.bl true))) (tSeq (tAsg (tVar 5) (gTup K 2 (gCons (gTup K 2 (gCons (gName 6) (gCons (gName 7) gNil))) (gCons (gTup K 2 (gCons (gName 8) (gCons (gName 9) gNil))) gNil))))
    (tSeq (tAsg (tTup (tCons (tOp (rAddG K) (tVar 6) (tVar 8)) (tCons (tOp (rAddG K) (tVar 7) (tVar 9)) tNil))) (gName 10))
    (tSeq (tAsg (tTup (tCons (tVar 10) (tCons (tCall (toSp K ap_next_move) [] E0 (tCons (tNGet K w (tVar 0) (tVar 10)) (tCons (tTup (tCons (tVar 8) (tCons (tVar 9) tNil))) tNil))) tNil))) (gName 5))
    (tSeq (tIfS (tTest (tOp (rEqG K) (tVar 5) (tVar 3))) (tRet (tVar 4)) tNext)
    (tDrop (tBM K "list" rAppend (tVar 4) (tCons (tVar 5) tNil)))))))))))
def t_ring_strokes (K : PySem.W.Frag) : TS :=
    (tSeq (tAsg (tLst tNil) (gName 1))
    (tSeq (tAsg (tC .non) (gName 2))
    (tSeq (tFor (iList K (tVar 0)) (gName 3) (tSeq (tAsg (tOp (rIx K) (tVar 3) (tC (.int 1))) (gName 4))
    (tSeq (tAsg (tVar 4) (gTup K 2 (gCons (gName 5) (gCons (gName 6) gNil))))
    (tSeq (tIfS (tTest (tOp (rEqG K) (tVar 4) (tVar 2))) (tAsg (tTup (tCons (tC (.str "line")) (tCons (tOp (rAddG K) (tOp (rIx K) (tOp (rIx K) (tVar 1) (tUn rNegI (tC (.int 1)))) (tC (.int 1))) (tVar 5)) (tCons (tOp (rAddG K) (tOp (rIx K) (tOp (rIx K) (tVar 1) (tUn rNegI (tC (.int 1)))) (tC (.int 2))) (tVar 6)) tNil)))) (gSub (tVar 1) (tUn rNegI (tC (.int 1))) rSetL)) (tDrop (tBM K "list" rAppend (tVar 1) (tCons (tTup (tCons (tC (.str "line")) (tCons (tVar 5) (tCons (tVar 6) tNil)))) tNil))))
    (tAsg (tVar 4) (gName 2))))))
    (tRet (tCB (rTupleOf K) (tCons (tVar 1) tNil))))))
def t_outlines_of (K : PySem.W.Frag) (w : World) (ap_border_moves : AP) (ap_ring_moves : AP) (ap_ring_strokes : AP) : TS :=
    (tSeq (tAsg (tCall (toSp K ap_border_moves) [] E0 (tCons (tVar 0) tNil)) (gName 1))
    (tSeq (tAsg (tNNew w) (gName 2))
    (tSeq (tAsg (tLst tNil) (gName 3))
    (tSeq (tFor (iList K (tCB (rSortD0 K) (tCons (tLockE (tLc (iKeysN w (tVar 1)) (gName 9) tYes (tTup (tCons (tOp (rIx K) (tVar 9) (tC (.int 1))) (tCons (tOp (rIx K) (tVar 9) (tC (.int 0))) tNil))) [9])) tNil))) (gTup K 2 (gCons (gName 4) (gCons (gName 5) gNil))) (tFor (iList K (tNGet K w (tVar 1) (tTup (tCons (tVar 5) (tCons (tVar 4) tNil))))) (gName 6) (tSeq (tIfS (tB (tNIn K w (tTup (tCons (tTup (tCons (tVar 5) (tCons (tVar 4) tNil))) (tCons (tVar 6) tNil))) (tVar 2))) tCont tNext)
    (tSeq (tAsg (tCall (toSp K ap_ring_moves) [] E0 (tCons (tVar 1) (tCons (tTup (tCons (tVar 5) (tCons (tVar 4) tNil))) (tCons (tVar 6) tNil)))) (gName 7))
    (tSeq (tFor (iList K (tVar 7)) (gName 8) (sNPut K w (tVar 2) (tVar 8) (tC (.bl true))))
    (tDrop (tBM K "list" rAppend (tVar 3) (tCons (tTup (tCons (tVar 5) (tCons (tVar 4) (tCons (tCall (toSp K ap_ring_strokes) [] E0 (tCons (tVar 7) tNil)) tNil)))) tNil))))))))
    (tRet (tCB (rTupleOf K) (tCons (tVar 3) tNil)))))))
def t_sign (K : PySem.W.Frag) : TS :=
    (tSeq (tIfS (tTest (tOp rGtI (tVar 0) (tC (.int 0)))) (tRet (tC (.int 1))) tNext)
    (tSeq (tIfS (tTest (tOp (rLtG K) (tVar 0) (tC (.int 0)))) (tRet (tUn rNegI (tC (.int 1)))) tNext)
    (tRet (tC (.int 0)))))
def t_line_steps (K : PySem.W.Frag) (ap_sign : AP) : TS :=
    (tSeq (tAsg (tCB rAbs (tCons (tVar 0) tNil)) (gName 2))
    (tSeq (tAsg (tOp (rAddG K) (tVar 2) (tCB rAbs (tCons (tVar 1) tNil))) (gName 3))
    (tSeq (tAsg (tLst tNil) (gName 4))
    (tSeq (tFor (iRng1 (tCons (tVar 3) tNil)) (gName 5) (tIfS (tTest (tOp rGtI (tOp rDivI (tOp (rMulG K) (tOp (rAddG K) (tVar 5) (tC (.int 1))) (tVar 2)) (tVar 3)) (tOp rDivI (tOp (rMulG K) (tVar 5) (tVar 2)) (tVar 3)))) (tDrop (tBM K "list" rAppend (tVar 4) (tCons (tTup (tCons (tCall (toSp K ap_sign) [] E0 (tCons (tVar 0) tNil)) (tCons (tC (.int 0)) tNil))) tNil))) (tDrop (tBM K "list" rAppend (tVar 4) (tCons (tTup (tCons (tC (.int 0)) (tCons (tCall (toSp K ap_sign) [] E0 (tCons (tVar 1) tNil)) tNil))) tNil)))))
    (tRet (tVar 4))))))
def t_takes_first_move (K : PySem.W.Frag) : TS :=
    (tSeq (tIfS (tTest (tOp (rEqG K) (tVar 0) (tC (.int 0)))) (tRet (tC (.bl true))) tNext)
    (tSeq (tIfS (tTest (tOp (rEqG K) (tVar 1) (tVar 2))) (tRet (tC (.bl false))) tNext)
    (tSeq (tAsg (tOp (rMulG K) (tVar 2) (tVar 2)) (gName 3))
    (tSeq (tAsg (tCB rAbs (tCons (tOp rSubI (tOp (rAddG K) (tOp (rMulG K) (tVar 0) (tVar 0)) (tOp (rMulG K) (tOp (rAddG K) (tVar 1) (tC (.int 1))) (tOp (rAddG K) (tVar 1) (tC (.int 1))))) (tVar 3)) tNil)) (gName 4))
    (tSeq (tAsg (tCB rAbs (tCons (tOp rSubI (tOp (rAddG K) (tOp (rMulG K) (tOp rSubI (tVar 0) (tC (.int 1))) (tOp rSubI (tVar 0) (tC (.int 1)))) (tOp (rMulG K) (tVar 1) (tVar 1))) (tVar 3)) tNil)) (gName 5))
    (tRet (tOp rLeI (tVar 4) (tVar 5))))))))
def t_arc_steps (K : PySem.W.Frag) (ap_takes_first_move : AP) : TS :=
    (tSeq (tAsg (tVar 2) (gName 3))
    (tSeq (tAsg (tC (.int 0)) (gName 4))
    (tSeq (tAsg (tLst tNil) (gName 5))
    (tSeq (tWhile (tOr (tTest (tOp rGtI (tVar 3) (tC (.int 0)))) (tTest (tOp (rLtG K) (tVar 4) (tVar 2)))) (tIfS (tB (tCall (toSp K ap_takes_first_move) [] E0 (tCons (tVar 3) (tCons (tVar 4) (tCons (tVar 2) tNil))))) (tSeq (tDrop (tBM K "list" rAppend (tVar 5) (tCons (tVar 0) tNil)))
    (tAug 4 (tC (.int 1)) (ipI fun i j => i + j))) (tSeq (tDrop (tBM K "list" rAppend (tVar 5) (tCons (tVar 1) tNil)))
    (tAug 3 (tC (.int 1)) (ipI fun i j => i - j)))))
    (tRet (tVar 5))))))
def t_unit_steps (K : PySem.W.Frag) (ap_line_steps : AP) (ap_sign : AP) (ap_arc_steps : AP) : TS :=
    (tSeq (tAsg (tVar 0) (gTup K 3 (gCons (gName 1) (gCons (gName 2) (gCons (gName 3) gNil)))))
    (tSeq (tIfS (tTest (tOp (rEqG K) (tVar 1) (tC (.str "line")))) (tRet (tCall (toSp K ap_line_steps) [] E0 (tCons (tVar 2) (tCons (tVar 3) tNil)))) tNext)
    (tSeq (tAsg (tTup (tCons (tCall (toSp K ap_sign) [] E0 (tCons (tVar 2) tNil)) (tCons (tC (.int 0)) tNil))) (gName 4))
    (tSeq (tAsg (tTup (tCons (tC (.int 0)) (tCons (tCall (toSp K ap_sign) [] E0 (tCons (tVar 3) tNil)) tNil))) (gName 5))
    (tSeq (tIfS (tTest (tOp (rEqG K) (tVar 1) (tC (.str "flat")))) (tRet (tCall (toSp K ap_arc_steps) [] E0 (tCons (tVar 4) (tCons (tVar 5) (tCons (tCB rAbs (tCons (tVar 2) tNil)) tNil))))) tNext)
    (tRet (tCall (toSp K ap_arc_steps) [] E0 (tCons (tVar 5) (tCons (tVar 4) (tCons (tCB rAbs (tCons (tVar 2) tNil)) tNil))))))))))
def t_corners (K : PySem.W.Frag) (ap_unit_steps : AP) : TS :=
    (tSeq (tAsg (tVar 0) (gTup K 3 (gCons (gName 1) (gCons (gName 2) (gCons (gName 3) gNil)))))
    (tSeq (tAsg (tLst (tCons (tTup (tCons (tVar 1) (tCons (tVar 2) tNil))) tNil)) (gName 4))
    (tSeq (tFor (iTup K (tVar 3)) (gName 5) (tFor (iList K (tCall (toSp K ap_unit_steps) [] E0 (tCons (tVar 5) tNil))) (gTup K 2 (gCons (gName 6) (gCons (gName 7) gNil))) (tSeq (tAug 1 (tVar 6) (ipI fun i j => i + j))
    (tSeq (tAug 2 (tVar 7) (ipI fun i j => i + j))
    (tDrop (tBM K "list" rAppend (tVar 4) (tCons (tTup (tCons (tVar 1) (tCons (tVar 2) tNil))) tNil)))))))
    (tRet (tVar 4)))))
def t_Ink___init__ (K : PySem.W.Frag) (w : World) : TS :=
    (tSeq (tAsg (tNNew w) (gName 2))
    (tSeq (tFor (iList K (tVar 1)) (gTup K 2 (gCons (gName 3) (gCons (gName 4) gNil))) (sNPut K w (tVar 2) (tTup (tCons (tVar 4) (tCons (tVar 3) tNil))) (tC (.bl true))))
    (tSeq (tAsg (tLc (iList K (tCB (rSortD0 K) (tCons (tCB (rListN w) (tCons (tVar 2) tNil)) tNil))) (gTup K 2 (gCons (gName 4) (gCons (gName 3) gNil))) tYes (tTup (tCons (tVar 3) (tCons (tVar 4) tNil))) [4, 3]) (gName 5))
    (tSeq (tAsg tDNewK (gName 6))
    (tSeq (tAsg tDNewK (gName 7))
    (tSeq (tAsg (tNNew w) (gName 8))
    (tSeq (tFor (iList K (tVar 5)) (gTup K 2 (gCons (gName 3) (gCons (gName 4) gNil))) (tSeq (tIfS (tB (tDNotIn (tVar 4) (tVar 6))) (sDPut (tVar 6) (tVar 4) (tVar 3)) tNext)
    (tSeq (sDPut (tVar 7) (tVar 4) (tOp (rAddG K) (tVar 3) (tC (.int 1))))
    (sNPut K w (tVar 8) (tTup (tCons (tVar 3) (tCons (tVar 4) tNil))) (tC (.bl true))))))
    (tSeq (sFld K (tVar 0) (tVar 5) "cell_list")
    (tSeq (sFld K (tVar 0) (tVar 8) "known_cells")
    (tSeq (sFld K (tVar 0) (tVar 6) "left_ends")
    (sFld K (tVar 0) (tVar 7) "right_ends")))))))))))
def t_Ink_cells (K : PySem.W.Frag) : TS :=
    (tRet (tCB (rListOf K) (tCons (tFld K (tVar 0) "cell_list") tNil)))
def t_Ink___contains__ (K : PySem.W.Frag) (w : World) : TS :=
    (tRet (tNIn K w (tVar 1) (tFld K (tVar 0) "known_cells")))
def t_crossings_of (K : PySem.W.Frag) (c_OpenOutline : Addr) (ap_corners : AP) (W : WX) : TS :=
    (tSeq (tAsg tDNewK (gName 1))
    (tSeq (tFor (iEnumT K (tCons (tVar 0) tNil)) (gTup K 2 (gCons (gName 2) (gCons (gName 3) gNil))) (tSeq (tAsg (tCall (toSp K ap_corners) [] E0 (tCons (tVar 3) tNil)) (gName 4))
    (tSeq (tIfS (tTest (tOp (rNeG K) (tOp (rIx K) (tVar 4) (tUn rNegI (tC (.int 1)))) (tOp (rIx K) (tVar 4) (tC (.int 0))))) (tRaiseO W c_OpenOutline (spE1 c_OpenOutline "place" fun _ => True) (tCons (tVar 2) tNil)) tNext)
    (tFor (iRng2 (tCons (tC (.int 1)) (tCons (tCB (rLenV K) (tCons (tVar 4) tNil)) tNil))) (gName 5) (tSeq (tPar 6 7 (tCons (tOp (rIx K) (tVar 4) (tOp rSubI (tVar 5) (tC (.int 1)))) (tCons (tOp (rIx K) (tVar 4) (tVar 5)) tNil)))
    (tIfS (tTest (tOp (rEqG K) (tOp (rIx K) (tVar 6) (tC (.int 0))) (tOp (rIx K) (tVar 7) (tC (.int 0))))) (tSeq (tAsg (tCB rMn2 (tCons (tOp (rIx K) (tVar 6) (tC (.int 1))) (tCons (tOp (rIx K) (tVar 7) (tC (.int 1))) tNil))) (gName 8))
    (tSeq (tIfS (tB (tDNotIn (tVar 8) (tVar 1))) (sDPut (tVar 1) (tVar 8) (tLst tNil)) tNext)
    (tDrop (tBM K "list" rAppend (tDGet (tVar 1) (tVar 8)) (tCons (tOp (rIx K) (tVar 6) (tC (.int 0))) tNil))))) tNext))))))
    (tRet (tVar 1))))
def t_ink_of (K : PySem.W.Frag) (c_Ink : Addr) (ap_crossings_of : APX) (ai_Ink : AIP) (W : WX) : TS :=
    (tSeq (tAsg (tLst tNil) (gName 1))
    (tSeq (tAsg (tCallX K ap_crossings_of W (tCons (tVar 0) tNil)) (gName 2))
    (tSeq (tFor (iList K (tCB (rSortD0 K) (tCons (tCB rListD (tCons (tVar 2) tNil)) tNil))) (gName 3) (tSeq (tAsg (tCB (rSortD0 K) (tCons (tDGet (tVar 2) (tVar 3)) tNil)) (gName 4))
    (tFor (iRng3 (tCons (tC (.int 0)) (tCons (tCB (rLenV K) (tCons (tVar 4) tNil)) (tCons (tC (.int 2)) tNil)))) (gName 5) (tFor (iRng2 (tCons (tOp (rIx K) (tVar 4) (tVar 5)) (tCons (tOp (rIx K) (tVar 4) (tOp (rAddG K) (tVar 5) (tC (.int 1)))) tNil))) (gName 6) (tDrop (tBM K "list" rAppend (tVar 1) (tCons (tTup (tCons (tVar 6) (tCons (tVar 3) tNil))) tNil)))))))
    (tRet (tMake c_Ink (toSpIP K c_Ink ai_Ink) [] E0 (tCons (tVar 1) tNil))))))
def t__law_pool (K : PySem.W.Frag) : TS :=
    (tSeq (tAsg (tC (.int 0)) (gName 2))
    (tSeq (tIfS (tTest (tOp (rLtG K) (tVar 1) (tCB (rLenV K) (tCons (tVar 0) tNil)))) (tAsg (tCB rAbs (tCons (tCB rInt1 (tCons (tOp (rIx K) (tVar 0) (tVar 1)) tNil)) tNil)) (gName 2)) tNext)
    (tRet (tLst (tCons (tVar 2) (tCons (tC (.int 0)) (tCons (tCB rInt1 (tCons (tOp rGeI (tVar 2) (tOp rPowI (tC (.int 10)) (tC (.int 18)))) tNil)) (tCons (tOp rModI (tCB rInt1 (tCons (tOp (rAddG K) (tVar 2) (tOp (rMulG K) (tVar 1) (tC (.int 7919)))) tNil)) (tC (.int 2147483647))) (tCons (tC (.int 3)) tNil)))))))))
def t__law_take (K : PySem.W.Frag) : TS :=
    (tSeq (tAsg (tOp (rAddG K) (tOp (rIx K) (tVar 0) (tC (.int 1))) (tC (.int 1))) (gSub (tVar 0) (tC (.int 1)) rSetL))
    (tSeq (tIfS (tTest (tOp (rEqG K) (tOp (rIx K) (tVar 0) (tC (.int 2))) (tC (.int 1)))) (tSeq (tAsg (tOp rModI (tCB rInt1 (tCons (tOp (rIx K) (tVar 0) (tC (.int 0))) tNil)) (tVar 1)) (gName 2))
    (tSeq (tAsg (tOp rDivI (tOp (rIx K) (tVar 0) (tC (.int 0))) (tVar 1)) (gSub (tVar 0) (tC (.int 0)) rSetL))
    (tRet (tVar 2)))) tNext)
    (tSeq (tAsg (tOp rModI (tCB rInt1 (tCons (tOp (rAddG K) (tOp (rAddG K) (tOp (rMulG K) (tOp (rIx K) (tVar 0) (tC (.int 3))) (tC (.int 48271))) (tOp (rMulG K) (tOp (rIx K) (tVar 0) (tC (.int 1))) (tC (.int 69621)))) (tC (.int 11))) tNil)) (tC (.int 2147483647))) (gName 3))
    (tSeq (tAsg (tOp rModI (tCB rInt1 (tCons (tOp (rAddG K) (tOp (rAddG K) (tOp (rMulG K) (tVar 3) (tC (.int 16807))) (tOp rDivI (tVar 3) (tC (.int 65536)))) (tOp (rMulG K) (tOp (rMulG K) (tOp (rIx K) (tVar 0) (tC (.int 1))) (tOp (rIx K) (tVar 0) (tC (.int 1)))) (tC (.int 40692)))) tNil)) (tC (.int 2147483399))) (gName 4))
    (tRet (tOp rModI (tCB rInt1 (tCons (tVar 4) tNil)) (tVar 1)))))))
def t__law_plate (K : PySem.W.Frag) (ap__law_take : AP) : TS :=
    (tSeq (tAsg (tCall (toSp K ap__law_take) [] E0 (tCons (tVar 0) (tCons (tC (.int 16)) tNil))) (gName 1))
    (tSeq (tAsg (tOp (rAddG K) (tC (.int 2)) (tCall (toSp K ap__law_take) [] E0 (tCons (tVar 0) (tCons (tC (.int 5)) tNil)))) (gName 2))
    (tSeq (tAsg (tCall (toSp K ap__law_take) [] E0 (tCons (tVar 0) (tCons (tC (.int 19)) tNil))) (gName 3))
    (tSeq (tAsg (tLst tNil) (gName 4))
    (tSeq (tIfS (tTest (tOp (rLtG K) (tVar 1) (tC (.int 4)))) (tSeq (tFor (iRng1 (tCons (tOp (rAddG K) (tC (.int 1)) (tOp rModI (tCB rInt1 (tCons (tVar 3) tNil)) (tC (.int 3)))) tNil)) (gName 5) (tSeq (tAsg (tOp rSubI (tCall (toSp K ap__law_take) [] E0 (tCons (tVar 0) (tCons (tC (.int 9)) tNil))) (tC (.int 4))) (gName 6))
    (tSeq (tAsg (tOp rSubI (tCall (toSp K ap__law_take) [] E0 (tCons (tVar 0) (tCons (tC (.int 9)) tNil))) (tC (.int 4))) (gName 7))
    (tSeq (tAsg (tOp (rAddG K) (tC (.int 1)) (tCall (toSp K ap__law_take) [] E0 (tCons (tVar 0) (tCons (tOp (rIx K) (tLst (tCons (tC (.int 6)) (tCons (tC (.int 30)) tNil))) (tCB rInt1 (tCons (tOp (rEqG K) (tVar 5) (tC (.int 0))) tNil))) tNil)))) (gName 8))
    (tSeq (tAsg (tOp (rAddG K) (tC (.int 1)) (tCall (toSp K ap__law_take) [] E0 (tCons (tVar 0) (tCons (tC (.int 5)) tNil)))) (gName 9))
    (tFor (iRng1 (tCons (tVar 9) tNil)) (gName 10) (tDrop (tBM K "list" rExtend (tVar 4) (tCons (tLc (iRng1 (tCons (tVar 8) tNil)) (gName 11) tYes (tTup (tCons (tOp (rAddG K) (tVar 6) (tVar 11)) (tCons (tOp (rAddG K) (tVar 7) (tVar 10)) tNil))) [11]) tNil)))))))))
    (tRet (tVar 4))) tNext)
    (tSeq (tIfS (tTest (tOp (rEqG K) (tVar 1) (tC (.int 15)))) (tSeq (tAsg (tCall (toSp K ap__law_take) [] E0 (tCons (tVar 0) (tCons (tC (.int 1001)) tNil))) (gName 3))
    (tAsg (tOp (rAddG K) (tC (.int 1)) (tCall (toSp K ap__law_take) [] E0 (tCons (tVar 0) (tCons (tC (.int 2001)) tNil)))) (gName 2))) tNext)
    (tSeq (tFor (iRng1 (tCons (tVar 3) tNil)) (gName 11) (tSeq (tAsg (tOp rSubI (tCall (toSp K ap__law_take) [] E0 (tCons (tVar 0) (tCons (tVar 2) tNil))) (tOp rDivI (tVar 2) (tC (.int 2)))) (gName 6))
    (tDrop (tBM K "list" rAppend (tVar 4) (tCons (tTup (tCons (tVar 6) (tCons (tOp rSubI (tCall (toSp K ap__law_take) [] E0 (tCons (tVar 0) (tCons (tVar 2) tNil))) (tOp rDivI (tVar 2) (tC (.int 2)))) tNil))) tNil)))))
    (tRet (tVar 4)))))))))
def t__law_sides (K : PySem.W.Frag) (w : World) : TS :=
    (tSeq (tAsg (tNNew w) (gName 1))
    (tSeq (tFor (iList K (tCB (rListN w) (tCons (tVar 0) tNil))) (gName 2) (tSeq (tAsg (tOp (rIx K) (tVar 2) (tC (.int 0))) (gName 3))
    (tSeq (tAsg (tOp (rIx K) (tVar 2) (tC (.int 1))) (gName 4))
    (tSeq (tIfS (tB (tNNotIn K w (tTup (tCons (tVar 3) (tCons (tOp rSubI (tVar 4) (tC (.int 1))) tNil))) (tVar 0))) (sNPut K w (tVar 1) (tTup (tCons (tVar 3) (tCons (tVar 4) (tCons (tC (.int 1)) (tCons (tC (.int 0)) tNil))))) (tC (.bl true))) tNext)
    (tSeq (tIfS (tB (tNNotIn K w (tTup (tCons (tOp (rAddG K) (tVar 3) (tC (.int 1))) (tCons (tVar 4) tNil))) (tVar 0))) (sNPut K w (tVar 1) (tTup (tCons (tOp (rAddG K) (tVar 3) (tC (.int 1))) (tCons (tVar 4) (tCons (tC (.int 0)) (tCons (tC (.int 1)) tNil))))) (tC (.bl true))) tNext)
    (tSeq (tIfS (tB (tNNotIn K w (tTup (tCons (tVar 3) (tCons (tOp (rAddG K) (tVar 4) (tC (.int 1))) tNil))) (tVar 0))) (sNPut K w (tVar 1) (tTup (tCons (tOp (rAddG K) (tVar 3) (tC (.int 1))) (tCons (tOp (rAddG K) (tVar 4) (tC (.int 1))) (tCons (tUn rNegI (tC (.int 1))) (tCons (tC (.int 0)) tNil))))) (tC (.bl true))) tNext)
    (tIfS (tB (tNNotIn K w (tTup (tCons (tOp rSubI (tVar 3) (tC (.int 1))) (tCons (tVar 4) tNil))) (tVar 0))) (sNPut K w (tVar 1) (tTup (tCons (tVar 3) (tCons (tOp (rAddG K) (tVar 4) (tC (.int 1))) (tCons (tC (.int 0)) (tCons (tUn rNegI (tC (.int 1))) tNil))))) (tC (.bl true))) tNext)))))))
    (tRet (tVar 1))))
def t__law_integer (K : PySem.W.Frag) : TS :=
    (tRet (tAndV (tCB (rIsi K) (tCons (tVar 0) (tCons (tC (.ty "int")) tNil))) (tNotV (tCB (rIsi K) (tCons (tVar 0) (tCons (tC (.ty "bool")) tNil))))))
def t__law_sign (K : PySem.W.Frag) : TS :=
    (tRet (tOp rSubI (tCB rInt1 (tCons (tOp rGtI (tVar 0) (tC (.int 0))) tNil)) (tCB rInt1 (tCons (tOp (rLtG K) (tVar 0) (tC (.int 0))) tNil))))
def t__law_formed (K : PySem.W.Frag) (ap__law_integer : AP) : TS :=
    (tSeq (tIfS (tOr (tNot (tB (tCB (rIsi K) (tCons (tVar 0) (tCons (tC (.ty "tuple")) tNil))))) (tOr (tTest (tOp (rNeG K) (tCB (rLenV K) (tCons (tVar 0) tNil)) (tC (.int 3)))) (tNot (tB (tCB (rIsi K) (tCons (tOp (rIx K) (tVar 0) (tC (.int 2))) (tCons (tC (.ty "tuple")) tNil))))))) (tRet (tC (.bl false))) tNext)
    (tSeq (tIfS (tOr (tNot (tB (tCall (toSp K ap__law_integer) [] E0 (tCons (tOp (rIx K) (tVar 0) (tC (.int 0))) tNil)))) (tOr (tNot (tB (tCall (toSp K ap__law_integer) [] E0 (tCons (tOp (rIx K) (tVar 0) (tC (.int 1))) tNil)))) (tTest (tOp (rEqG K) (tCB (rLenV K) (tCons (tOp (rIx K) (tVar 0) (tC (.int 2))) tNil)) (tC (.int 0)))))) (tRet (tC (.bl false))) tNext)
    (tSeq (tFor (iTup K (tOp (rIx K) (tVar 0) (tC (.int 2)))) (gName 2) (tSeq (tIfS (tOr (tNot (tB (tCB (rIsi K) (tCons (tVar 2) (tCons (tC (.ty "tuple")) tNil))))) (tOr (tTest (tOp (rNeG K) (tCB (rLenV K) (tCons (tVar 2) tNil)) (tC (.int 3)))) (tNot (tB (tCB (rIsi K) (tCons (tOp (rIx K) (tVar 2) (tC (.int 0))) (tCons (tC (.ty "str")) tNil))))))) (tRet (tC (.bl false))) tNext)
    (tSeq (tIfS (tOr (tTest (tOp (rNeG K) (tOp (rIx K) (tVar 2) (tC (.int 0))) (tC (.str "line")))) (tOr (tNot (tB (tCall (toSp K ap__law_integer) [] E0 (tCons (tOp (rIx K) (tVar 2) (tC (.int 1))) tNil)))) (tNot (tB (tCall (toSp K ap__law_integer) [] E0 (tCons (tOp (rIx K) (tVar 2) (tC (.int 2))) tNil)))))) (tRet (tC (.bl false))) tNext)
    (tIfS (tOr (tTest (tOp (rEqG K) (tOp (rEqG K) (tOp (rIx K) (tVar 2) (tC (.int 1))) (tC (.int 0))) (tOp (rEqG K) (tOp (rIx K) (tVar 2) (tC (.int 2))) (tC (.int 0))))) (tTest (tOp rGtI (tOp (rAddG K) (tCB rAbs (tCons (tOp (rIx K) (tVar 2) (tC (.int 1))) tNil)) (tCB rAbs (tCons (tOp (rIx K) (tVar 2) (tC (.int 2))) tNil))) (tVar 1)))) (tRet (tC (.bl false))) tNext))))
    (tRet (tC (.bl true))))))
def t__law_told (K : PySem.W.Frag) : TS :=
    (tSeq (tIfS (tOr (tNot (tB (tCB (rIsi K) (tCons (tVar 0) (tCons (tC (.ty "list")) tNil))))) (tTest (tOp (rNeG K) (tCB (rLenV K) (tCons (tVar 0) tNil)) (tCB (rLenV K) (tCons (tVar 1) tNil))))) (tRet (tC (.bl false))) tNext)
    (tSeq (tFor (iList K (tVar 0)) (gName 2) (tSeq (tIfS (tOr (tNot (tB (tCB (rIsi K) (tCons (tVar 2) (tCons (tC (.ty "tuple")) tNil))))) (tTest (tOp (rNeG K) (tCB (rLenV K) (tCons (tVar 2) tNil)) (tC (.int 2))))) (tRet (tC (.bl false))) tNext)
    (tFor (iTup K (tVar 2)) (gName 3) (tIfS (tOr (tNot (tB (tCB (rIsi K) (tCons (tVar 3) (tCons (tC (.ty "int")) tNil))))) (tB (tCB (rIsi K) (tCons (tVar 3) (tCons (tC (.ty "bool")) tNil))))) (tRet (tC (.bl false))) tNext))))
    (tRet (tOp (rEqG K) (tVar 0) (tVar 1)))))
def t__law_order (K : PySem.W.Frag) : TS :=
    (tSeq (tAsg (tCB (rSortD0 K) (tCons (tLc (iList K (tVar 0)) (gName 4) tYes (tCB rInt1 (tCons (tOp (rAddG K) (tOp (rAddG K) (tOp (rMulG K) (tOp (rIx K) (tVar 4) (tC (.int 1))) (tC (.int 16384))) (tOp (rIx K) (tVar 4) (tC (.int 0)))) (tC (.int 8192))) tNil)) [4]) tNil)) (gName 1))
    (tSeq (tAsg (tLst tNil) (gName 2))
    (tSeq (tFor (iRng1 (tCons (tCB (rLenV K) (tCons (tVar 1) tNil)) tNil)) (gName 3) (tIfS (tOr (tTest (tOp (rEqG K) (tVar 3) (tC (.int 0)))) (tTest (tOp (rNeG K) (tOp (rIx K) (tVar 1) (tVar 3)) (tOp (rIx K) (tVar 1) (tOp rSubI (tVar 3) (tC (.int 1))))))) (tDrop (tBM K "list" rAppend (tVar 2) (tCons (tTup (tCons (tOp rSubI (tOp rModI (tCB rInt1 (tCons (tOp (rIx K) (tVar 1) (tVar 3)) tNil)) (tC (.int 16384))) (tC (.int 8192))) (tCons (tOp rDivI (tOp (rIx K) (tVar 1) (tVar 3)) (tC (.int 16384))) tNil))) tNil))) tNext))
    (tRet (tVar 2)))))
def t__law_walk (K : PySem.W.Frag) (w : World) (ap__law_sign : AP) : TS :=
    (tSeq (tAsg (tOp (rIx K) (tVar 0) (tC (.int 0))) (gName 3))
    (tSeq (tAsg (tOp (rIx K) (tVar 0) (tC (.int 1))) (gName 4))
    (tSeq (tAsg (tLst tNil) (gName 5))
    (tSeq (tFor (iTup K (tOp (rIx K) (tVar 0) (tC (.int 2)))) (gName 6) (tSeq (tAsg (tCall (toSp K ap__law_sign) [] E0 (tCons (tOp (rIx K) (tVar 6) (tC (.int 1))) tNil)) (gName 7))
    (tSeq (tAsg (tCall (toSp K ap__law_sign) [] E0 (tCons (tOp (rIx K) (tVar 6) (tC (.int 2))) tNil)) (gName 8))
    (tFor (iRng1 (tCons (tOp (rAddG K) (tCB rAbs (tCons (tOp (rIx K) (tVar 6) (tC (.int 1))) tNil)) (tCB rAbs (tCons (tOp (rIx K) (tVar 6) (tC (.int 2))) tNil))) tNil)) (gName 9) (tSeq (tAsg (tTup (tCons (tVar 3) (tCons (tVar 4) (tCons (tVar 7) (tCons (tVar 8) tNil))))) (gName 10))
    (tSeq (tIfS (tOr (tB (tNNotIn K w (tVar 10) (tVar 1))) (tB (tNIn K w (tVar 10) (tVar 2)))) (tRet (tLst tNil)) tNext)
    (tSeq (sNPut K w (tVar 2) (tVar 10) (tC (.bl true)))
    (tSeq (tDrop (tBM K "list" rAppend (tVar 5) (tCons (tVar 10) tNil)))
    (tSeq (tAsg (tOp (rAddG K) (tVar 3) (tVar 7)) (gName 3))
    (tAsg (tOp (rAddG K) (tVar 4) (tVar 8)) (gName 4)))))))))))
    (tSeq (tIfS (tOr (tTest (tOp (rNeG K) (tVar 3) (tOp (rIx K) (tVar 0) (tC (.int 0))))) (tTest (tOp (rNeG K) (tVar 4) (tOp (rIx K) (tVar 0) (tC (.int 1)))))) (tRet (tLst tNil)) tNext)
    (tRet (tVar 5)))))))
def t__law_ring_right (K : PySem.W.Frag) (w : World) (ap__law_sign : AP) : TS :=
    (tSeq (tAsg (tOp (rIx K) (tVar 1) (tUn rNegI (tC (.int 1)))) (gName 3))
    (tSeq (tFor (iList K (tVar 1)) (gName 4) (tSeq (tIfS (tOr (tTest (tOp (rLtG K) (tOp (rIx K) (tVar 4) (tC (.int 1))) (tOp (rIx K) (tVar 0) (tC (.int 1))))) (tAnd (tTest (tOp (rEqG K) (tOp (rIx K) (tVar 4) (tC (.int 1))) (tOp (rIx K) (tVar 0) (tC (.int 1))))) (tTest (tOp (rLtG K) (tOp (rIx K) (tVar 4) (tC (.int 0))) (tOp (rIx K) (tVar 0) (tC (.int 0))))))) (tRet (tC (.bl false))) tNext)
    (tSeq (tAsg (tAndV (tOp (rEqG K) (tOp (rIx K) (tVar 4) (tC (.int 2))) (tUn rNegI (tOp (rIx K) (tVar 3) (tC (.int 3))))) (tOp (rEqG K) (tOp (rIx K) (tVar 4) (tC (.int 3))) (tOp (rIx K) (tVar 3) (tC (.int 2))))) (gName 5))
    (tSeq (tIfS (tAnd (tTest (tOp rGtI (tNGet K w (tVar 2) (tTup (tCons (tOp (rIx K) (tVar 4) (tC (.int 0))) (tCons (tOp (rIx K) (tVar 4) (tC (.int 1))) tNil)))) (tC (.int 1)))) (tNot (tB (tVar 5)))) (tRet (tC (.bl false))) tNext)
    (tAsg (tVar 4) (gName 3))))))
    (tSeq (tAsg (tOp (rIx K) (tVar 0) (tC (.int 2))) (gName 6))
    (tSeq (tFor (iRng1 (tCons (tCB (rLenV K) (tCons (tVar 6) tNil)) tNil)) (gName 7) (tSeq (tAsg (tTup (tCons (tCall (toSp K ap__law_sign) [] E0 (tCons (tOp (rIx K) (tOp (rIx K) (tVar 6) (tVar 7)) (tC (.int 1))) tNil)) (tCons (tCall (toSp K ap__law_sign) [] E0 (tCons (tOp (rIx K) (tOp (rIx K) (tVar 6) (tVar 7)) (tC (.int 2))) tNil)) tNil))) (gName 8))
    (tIfS (tTest (tOp (rEqG K) (tVar 8) (tTup (tCons (tCall (toSp K ap__law_sign) [] E0 (tCons (tOp (rIx K) (tOp (rIx K) (tVar 6) (tOp rSubI (tVar 7) (tC (.int 1)))) (tC (.int 1))) tNil)) (tCons (tCall (toSp K ap__law_sign) [] E0 (tCons (tOp (rIx K) (tOp (rIx K) (tVar 6) (tOp rSubI (tVar 7) (tC (.int 1)))) (tC (.int 2))) tNil)) tNil))))) (tRet (tC (.bl false))) tNext)))
    (tRet (tC (.bl true)))))))
def t__law_outlines_right (K : PySem.W.Frag) (w : World) (ap__law_formed : AP) (ap__law_walk : AP) (ap__law_ring_right : AP) : TS :=
    (tSeq (tAsg (tNNew w) (gName 2))
    (tSeq (tFor (iList K (tCB (rListN w) (tCons (tVar 1) tNil))) (gName 3) (sNPut K w (tVar 2) (tTup (tCons (tOp (rIx K) (tVar 3) (tC (.int 0))) (tCons (tOp (rIx K) (tVar 3) (tC (.int 1))) tNil))) (tOp (rAddG K) (tNGet2 K w (tVar 2) (tTup (tCons (tOp (rIx K) (tVar 3) (tC (.int 0))) (tCons (tOp (rIx K) (tVar 3) (tC (.int 1))) tNil))) (tC (.int 0))) (tC (.int 1)))))
    (tSeq (tAsg (tNNew w) (gName 4))
    (tSeq (tAsg (tC .non) (gName 5))
    (tSeq (tIfS (tNot (tB (tCB (rIsi K) (tCons (tVar 0) (tCons (tC (.ty "tuple")) tNil))))) (tRet (tC (.bl false))) tNext)
    (tSeq (tFor (iTup K (tVar 0)) (gName 6) (tSeq (tIfS (tNot (tB (tCall (toSp K ap__law_formed) [] E0 (tCons (tVar 6) (tCons (tCB (rLenN K w) (tCons (tVar 1) tNil)) tNil))))) (tRet (tC (.bl false))) tNext)
    (tSeq (tAsg (tCall (toSp K ap__law_walk) [] E0 (tCons (tVar 6) (tCons (tVar 1) (tCons (tVar 4) tNil)))) (gName 7))
    (tSeq (tIfS (tOr (tTest (tOp (rEqG K) (tCB (rLenV K) (tCons (tVar 7) tNil)) (tC (.int 0)))) (tNot (tB (tCall (toSp K ap__law_ring_right) [] E0 (tCons (tVar 6) (tCons (tVar 7) (tCons (tVar 2) tNil))))))) (tRet (tC (.bl false))) tNext)
    (tSeq (tIfS (tAnd (tB (tNotN (tVar 5))) (tTest (tOp (rLeD K) (tTup (tCons (tOp (rIx K) (tVar 6) (tC (.int 1))) (tCons (tOp (rIx K) (tVar 6) (tC (.int 0))) tNil))) (tVar 5)))) (tRet (tC (.bl false))) tNext)
    (tAsg (tTup (tCons (tOp (rIx K) (tVar 6) (tC (.int 1))) (tCons (tOp (rIx K) (tVar 6) (tC (.int 0))) tNil))) (gName 5)))))))
    (tRet (tOp (rEqG K) (tCB (rLenN K w) (tCons (tVar 4) tNil)) (tCB (rLenN K w) (tCons (tVar 1) tNil))))))))))
def t_law (K : PySem.W.Frag) (w : World) (c_Ink : Addr) (ap__law_take : AP) (ap__law_pool : AP) (ap__law_plate : AP) (ap__law_order : AP) (ap__law_sides : AP) (ai_Ink : AIP) (ap_outlines_of : AP) (ap__law_outlines_right : AP) (ap_ink_of : APX) (ap__law_told : AP) (ap_Ink_cells : AP) : TS :=
    (tSeq (tAsg (tCall (toSp K ap__law_take) [] E0 (tCons (tCall (toSp K ap__law_pool) [] E0 (tCons (tVar 0) (tCons (tC (.int 0)) tNil))) (tCons (tC (.int 4)) tNil))) (gName 1))
    (tSeq (tAsg (tCall (toSp K ap__law_plate) [] E0 (tCons (tCall (toSp K ap__law_pool) [] E0 (tCons (tVar 0) (tCons (tC (.int 1)) tNil))) tNil)) (gName 2))
    (tSeq (tIfS (tTest (tOp (rEqG K) (tVar 1) (tC (.int 0)))) (tAsg (tLc (iList K (tVar 2)) (gName 3) (tTest (tOp (rEqG K) (tOp rModI (tCB rInt1 (tCons (tOp (rAddG K) (tOp (rIx K) (tVar 3) (tC (.int 0))) (tOp (rIx K) (tVar 3) (tC (.int 1)))) tNil)) (tC (.int 2))) (tC (.int 0)))) (tVar 3) [3]) (gName 2)) tNext)
    (tSeq (tIfS (tAnd (tTest (tOp (rEqG K) (tVar 1) (tC (.int 1)))) (tTest (tOp rLeI (tCB (rLenV K) (tCons (tVar 2) tNil)) (tC (.int 500))))) (tSeq (tAsg (tLc (iList K (tVar 2)) (gName 3) (tAnd (tTest (tOp (rLtG K) (tOp (rIx K) (tVar 3) (tC (.int 0))) (tC (.int 1000)))) (tTest (tOp (rLtG K) (tOp (rIx K) (tVar 3) (tC (.int 1))) (tC (.int 1000))))) (tVar 3) [3]) (gName 4))
    (tAsg (tOp (rAddG K) (tVar 2) (tLc (iList K (tVar 4)) (gName 3) tYes (tTup (tCons (tOp (rAddG K) (tOp (rIx K) (tVar 3) (tC (.int 0))) (tC (.int 1))) (tCons (tOp (rAddG K) (tOp (rIx K) (tVar 3) (tC (.int 1))) (tC (.int 1))) tNil))) [3])) (gName 2))) tNext)
    (tSeq (tAsg (tCall (toSp K ap__law_order) [] E0 (tCons (tVar 2) tNil)) (gName 5))
    (tSeq (tAsg (tNNew w) (gName 6))
    (tSeq (tFor (iList K (tVar 5)) (gName 3) (sNPut K w (tVar 6) (tVar 3) (tC (.bl true))))
    (tSeq (tAsg (tCall (toSp K ap__law_sides) [] E0 (tCons (tVar 6) tNil)) (gName 7))
    (tSeq (tAsg (tMake c_Ink (toSpIP K c_Ink ai_Ink) [] E0 (tCons (tCB (rListOf K) (tCons (tVar 2) tNil)) tNil)) (gName 8))
    (tSeq (tAsg (tCall (toSp K ap_outlines_of) [] E0 (tCons (tVar 8) tNil)) (gName 9))
    (tSeq (tIfS (tNot (tB (tCall (toSp K ap__law_outlines_right) [] E0 (tCons (tVar 9) (tCons (tVar 7) tNil))))) (tRet (tC (.bl false))) tNext)
    (tSeq (tAsg (tCall (toSpX K ap_ink_of) [] E0 (tCons (tVar 9) tNil)) (gName 10))
    (tSeq (tIfS (tOr (tNot (tB (tCB (rIsi K) (tCons (tVar 10) (tCons (tC (.ref c_Ink)) tNil))))) (tNot (tB (tCall (toSp K ap__law_told) [] E0 (tCons (tMeth c_Ink "cells" (toSp K ap_Ink_cells) [] E0 (tVar 10) tNil) (tCons (tVar 5) tNil)))))) (tRet (tC (.bl false))) tNext)
    (tSeq (tAsg (tCall (toSp K ap_outlines_of) [] E0 (tCons (tVar 10) tNil)) (gName 11))
    (tSeq (tIfS (tOr (tNot (tB (tCall (toSp K ap__law_outlines_right) [] E0 (tCons (tVar 11) (tCons (tVar 7) tNil))))) (tTest (tOp (rNeG K) (tVar 11) (tVar 9)))) (tRet (tC (.bl false))) tNext)
    (tRet (tCall (toSp K ap__law_told) [] E0 (tCons (tMeth c_Ink "cells" (toSp K ap_Ink_cells) [] E0 (tVar 8) tNil) (tCons (tVar 5) tNil)))))))))))))))))))
section
variable {P : Program} {w : World} {K : PySem.W.Frag} {mg : Str → Option Value} {base : Heap}
theorem tm_cell_sides {ap_Ink___contains__ : AP} (T : Txt P K mg) (G_Ink___contains__ : FnOk P w K mg base CX0 1 T.f_Ink___contains__ T.fd_Ink___contains__ ["self", "cell"] (toSp K ap_Ink___contains__)) (cdv : Value) (A : Around) (outer : List PySem.Env) (s : Shared) (H : Hp) (E : XK) (hr : Room 1 (A.deeper (PyProof.Rows.envOfC "cell_sides" (defScope s_cell_sides) s.heap.objs.size T.f_cell_sides cdv))) :
    PSs (cxOf CX0 P w K mg base ["x", "y", "ink", "sides"] "cell_sides" (defScope s_cell_sides) T.f_cell_sides cdv A outer s H E).nox (defBody s_cell_sides) (t_cell_sides K T.c_Ink T.c_RIGHT T.c_UP T.c_LEFT T.c_DOWN ap_Ink___contains__) := 
      (pss_cons (ps_set (i := 3) sc_cell_sides.nd rfl (Or.inl rfl) (pe_lst pa_nil))
      (pss_cons (ps_if (pt_cmpR (op_notinO G_Ink___contains__ (hr.mono (by decide)) T.mt_Ink___contains__.at_ T.mt_Ink___contains__.fn T.b_Ink___contains__ pass0) (pe_tup (pa_cons (pv 0) (pa_cons (pe_op op_sub (pv 1) pe_int) pa_nil))) (pv 2) (by rfl)) (pss_one (ps_expr (pe_bm PySem.F.plainAttrs_list PySem.F.slot_list_append PySem.F.type_list_append mt_append (pv 3) (pa_cons (pe_tup (pa_cons (pe_tup (pa_cons (pv 0) (pa_cons (pv 1) pa_nil))) (pa_cons (pe_glob (v := .ref T.c_RIGHT) (by rfl) T.g_RIGHT rfl) pa_nil))) pa_nil)))) pss_nil)
      (pss_cons (ps_if (pt_cmpR (op_notinO G_Ink___contains__ (hr.mono (by decide)) T.mt_Ink___contains__.at_ T.mt_Ink___contains__.fn T.b_Ink___contains__ pass0) (pe_tup (pa_cons (pe_op op_addG (pv 0) pe_int) (pa_cons (pv 1) pa_nil))) (pv 2) (by rfl)) (pss_one (ps_expr (pe_bm PySem.F.plainAttrs_list PySem.F.slot_list_append PySem.F.type_list_append mt_append (pv 3) (pa_cons (pe_tup (pa_cons (pe_tup (pa_cons (pe_op op_addG (pv 0) pe_int) (pa_cons (pv 1) pa_nil))) (pa_cons (pe_glob (v := .ref T.c_UP) (by rfl) T.g_UP rfl) pa_nil))) pa_nil)))) pss_nil)
      (pss_cons (ps_if (pt_cmpR (op_notinO G_Ink___contains__ (hr.mono (by decide)) T.mt_Ink___contains__.at_ T.mt_Ink___contains__.fn T.b_Ink___contains__ pass0) (pe_tup (pa_cons (pv 0) (pa_cons (pe_op op_addG (pv 1) pe_int) pa_nil))) (pv 2) (by rfl)) (pss_one (ps_expr (pe_bm PySem.F.plainAttrs_list PySem.F.slot_list_append PySem.F.type_list_append mt_append (pv 3) (pa_cons (pe_tup (pa_cons (pe_tup (pa_cons (pe_op op_addG (pv 0) pe_int) (pa_cons (pe_op op_addG (pv 1) pe_int) pa_nil))) (pa_cons (pe_glob (v := .ref T.c_LEFT) (by rfl) T.g_LEFT rfl) pa_nil))) pa_nil)))) pss_nil)
      (pss_cons (ps_if (pt_cmpR (op_notinO G_Ink___contains__ (hr.mono (by decide)) T.mt_Ink___contains__.at_ T.mt_Ink___contains__.fn T.b_Ink___contains__ pass0) (pe_tup (pa_cons (pe_op op_sub (pv 0) pe_int) (pa_cons (pv 1) pa_nil))) (pv 2) (by rfl)) (pss_one (ps_expr (pe_bm PySem.F.plainAttrs_list PySem.F.slot_list_append PySem.F.type_list_append mt_append (pv 3) (pa_cons (pe_tup (pa_cons (pe_tup (pa_cons (pv 0) (pa_cons (pe_op op_addG (pv 1) pe_int) pa_nil))) (pa_cons (pe_glob (v := .ref T.c_DOWN) (by rfl) T.g_DOWN rfl) pa_nil))) pa_nil)))) pss_nil)
      (pss_one (ps_ret (pv 3))))))))
theorem tm_border_moves {ap_Ink_cells : AP} {ap_cell_sides : AP} (T : Txt P K mg) (G_Ink_cells : FnOk P w K mg base CX0 1 T.f_Ink_cells T.fd_Ink_cells ["self"] (toSp K ap_Ink_cells)) (G_cell_sides : FnOk P w K mg base CX0 2 T.f_cell_sides T.fd_cell_sides ["x", "y", "ink"] (toSp K ap_cell_sides)) (cdv : Value) (A : Around) (outer : List PySem.Env) (s : Shared) (H : Hp) (E : XK) (hr : Room 2 (A.deeper (PyProof.Rows.envOfC "border_moves" (defScope s_border_moves) s.heap.objs.size T.f_border_moves cdv))) :
    PSs (cxOf CX0 P w K mg base ["ink", "moves", "x", "y", "corner", "move"] "border_moves" (defScope s_border_moves) T.f_border_moves cdv A outer s H E).nox (defBody s_border_moves) (t_border_moves K w T.c_Ink ap_Ink_cells ap_cell_sides) := 
      (pss_cons (ps_set (i := 1) sc_border_moves.nd rfl (Or.inl rfl) (pe_nnew rfl))
      (pss_cons (ps_for PassesOwn.never rfl (pi_list (pe_meth0 (pv 0) T.co_Ink.cl T.mt_Ink_cells G_Ink_cells (hr.mono (by decide)) T.b_Ink_cells .nil pass0)) (pg_tup (by rfl) (pgs_cons (pg_name (i := 2) sc_border_moves.nd rfl (Or.inl rfl)) (pgs_cons (pg_name (i := 3) sc_border_moves.nd rfl (Or.inl rfl)) pgs_nil))) (pss_one (ps_for PassesOwn.never rfl (pi_list (pe_call G_cell_sides (hr.mono (by decide)) (by rfl) T.g_cell_sides T.F_cell_sides.kp T.b_cell_sides .nil pass0 (pa_cons (pv 2) (pa_cons (pv 3) (pa_cons (pv 0) pa_nil))))) (pg_tup (by rfl) (pgs_cons (pg_name (i := 4) sc_border_moves.nd rfl (Or.inl rfl)) (pgs_cons (pg_name (i := 5) sc_border_moves.nd rfl (Or.inl rfl)) pgs_nil))) (pss_cons (ps_if (pt_cmp (pc_nnotin rfl rfl (Nat.lt_of_le_of_lt (Nat.add_le_add_left (Nat.le_of_ble_eq_true rfl : 9 ≤ 64) _) hr.units) (pv 4) (pv 1))) (pss_one (ps_nput rfl rfl (Nat.lt_of_le_of_lt (Nat.add_le_add_left (Nat.le_of_ble_eq_true rfl : 9 ≤ 64) _) hr.units) (pv 1) (pv 4) (pe_lst pa_nil) rfl)) pss_nil)
      (pss_one (ps_expr (pe_bm PySem.F.plainAttrs_list PySem.F.slot_list_append PySem.F.type_list_append mt_append (pe_nget rfl rfl (Nat.lt_of_le_of_lt (Nat.add_le_add_left (Nat.le_of_ble_eq_true rfl : 9 ≤ 64) _) hr.units) (pv 1) (pv 4) (fun _ _ => rfl)) (pa_cons (pv 5) pa_nil))))))))
      (pss_one (ps_ret (pv 1)))))
theorem tm_next_move (T : Txt P K mg) (cdv : Value) (A : Around) (outer : List PySem.Env) (s : Shared) (H : Hp) (E : XK) (hr : Room 0 (A.deeper (PyProof.Rows.envOfC "next_move" (defScope s_next_move) s.heap.objs.size T.f_next_move cdv))) :
    PSs (cxOf CX0 P w K mg base ["choices", "move", "turned_left"] "next_move" (defScope s_next_move) T.f_next_move cdv A outer s H E).nox (defBody s_next_move) (t_next_move K) := 
      (pss_cons (ps_set (i := 2) sc_next_move.nd rfl (Or.inl rfl) (pe_tup (pa_cons (pe_un un_neg (pe_ix ix_seq (pv 1) pe_int (fun _ _ => rfl))) (pa_cons (pe_ix ix_seq (pv 1) pe_int (fun _ _ => rfl)) pa_nil))))
      (pss_cons (ps_if (pt_cmpR (op_inD (room65 hr)) (pv 2) (pv 0) (by rfl)) (pss_one (ps_ret (pv 2))) pss_nil)
      (pss_one (ps_ret (pe_ix ix_seq (pv 0) pe_int (fun _ _ => rfl))))))
theorem tm_ring_moves {ap_next_move : AP} (T : Txt P K mg) (G_next_move : FnOk P w K mg base CX0 1 T.f_next_move T.fd_next_move ["choices", "move"] (toSp K ap_next_move)) (cdv : Value) (A : Around) (outer : List PySem.Env) (s : Shared) (H : Hp) (E : XK) (hr : Room 1 (A.deeper (PyProof.Rows.envOfC "ring_moves" (defScope s_ring_moves) s.heap.objs.size T.f_ring_moves cdv))) :
    PSs (cxOf CX0 P w K mg base ["moves", "corner", "move", "start", "ring", "side", "x", "y", "dx", "dy", "reached"] "ring_moves" (defScope s_ring_moves) T.f_ring_moves cdv A outer s H E).nox (defBody s_ring_moves) (t_ring_moves K w ap_next_move) := 
      (pss_cons (ps_set (i := 3) sc_ring_moves.nd rfl (Or.inl rfl) (pe_tup (pa_cons (pv 1) (pa_cons (pv 2) pa_nil))))
      (pss_cons (ps_set (i := 4) sc_ring_moves.nd rfl (Or.inl rfl) (pe_lst (pa_cons (pv 3) pa_nil)))
      (pss_cons (ps_set (i := 5) sc_ring_moves.nd rfl (Or.inl rfl) (pv 3))
      (pss_one (ps_while PassesOwn.never (pt_val pe_bl) (pss_cons (ps_asg (pv 5) (pg_tup (by rfl) (pgs_cons (pg_tup (by rfl) (pgs_cons (pg_name (i := 6) sc_ring_moves.nd rfl (Or.inl rfl)) (pgs_cons (pg_name (i := 7) sc_ring_moves.nd rfl (Or.inl rfl)) pgs_nil))) (pgs_cons (pg_tup (by rfl) (pgs_cons (pg_name (i := 8) sc_ring_moves.nd rfl (Or.inl rfl)) (pgs_cons (pg_name (i := 9) sc_ring_moves.nd rfl (Or.inl rfl)) pgs_nil))) pgs_nil))))
      (pss_cons (ps_set (i := 10) sc_ring_moves.nd rfl (Or.inl rfl) (pe_tup (pa_cons (pe_op op_addG (pv 6) (pv 8)) (pa_cons (pe_op op_addG (pv 7) (pv 9)) pa_nil))))
      (pss_cons (ps_set (i := 5) sc_ring_moves.nd rfl (Or.inl rfl) (pe_tup (pa_cons (pv 10) (pa_cons (pe_call G_next_move (hr.mono (by decide)) (by rfl) T.g_next_move T.F_next_move.kp T.b_next_move .nil pass0 (pa_cons (pe_nget rfl rfl (Nat.lt_of_le_of_lt (Nat.add_le_add_left (Nat.le_of_ble_eq_true rfl : 9 ≤ 64) _) hr.units) (pv 0) (pv 10) (fun _ _ => rfl)) (pa_cons (pe_tup (pa_cons (pv 8) (pa_cons (pv 9) pa_nil))) pa_nil))) pa_nil))))
      (pss_cons (ps_if (pt_cmpR (op_eqG hr.units) (pv 5) (pv 3) (nomark _)) (pss_one (ps_ret (pv 4))) pss_nil)
      (pss_one (ps_expr (pe_bm PySem.F.plainAttrs_list PySem.F.slot_list_append PySem.F.type_list_append mt_append (pv 4) (pa_cons (pv 5) pa_nil)))))))))))))
theorem tm_ring_strokes (T : Txt P K mg) (cdv : Value) (A : Around) (outer : List PySem.Env) (s : Shared) (H : Hp) (E : XK) (hr : Room 0 (A.deeper (PyProof.Rows.envOfC "ring_strokes" (defScope s_ring_strokes) s.heap.objs.size T.f_ring_strokes cdv))) :
    PSs (cxOf CX0 P w K mg base ["ring", "lines", "before", "side", "move", "dx", "dy"] "ring_strokes" (defScope s_ring_strokes) T.f_ring_strokes cdv A outer s H E).nox (defBody s_ring_strokes) (t_ring_strokes K) := 
      (pss_cons (ps_set (i := 1) sc_ring_strokes.nd rfl (Or.inl rfl) (pe_lst pa_nil))
      (pss_cons (ps_set (i := 2) sc_ring_strokes.nd rfl (Or.inl rfl) pe_non)
      (pss_cons (ps_for PassesOwn.never rfl (pi_list (pv 0)) (pg_name (i := 3) sc_ring_strokes.nd rfl (Or.inl rfl)) (pss_cons (ps_set (i := 4) sc_ring_strokes.nd rfl (Or.inl rfl) (pe_ix ix_seq (pv 3) pe_int (fun _ _ => rfl)))
      (pss_cons (ps_asg (pv 4) (pg_tup (by rfl) (pgs_cons (pg_name (i := 5) sc_ring_strokes.nd rfl (Or.inl rfl)) (pgs_cons (pg_name (i := 6) sc_ring_strokes.nd rfl (Or.inl rfl)) pgs_nil))))
      (pss_cons (ps_if (pt_cmpR (op_eqG hr.units) (pv 4) (pv 2) (nomark _)) (pss_one (ps_asg (pe_tup (pa_cons pe_str (pa_cons (pe_op op_addG (pe_ix ix_seq (pe_ix ix_seq (pv 1) (pe_un un_neg pe_int) (fun _ _ => rfl)) pe_int (fun _ _ => rfl)) (pv 5)) (pa_cons (pe_op op_addG (pe_ix ix_seq (pe_ix ix_seq (pv 1) (pe_un un_neg pe_int) (fun _ _ => rfl)) pe_int (fun _ _ => rfl)) (pv 6)) pa_nil)))) (pg_sub (pv 1) (pe_un un_neg pe_int) set_list))) (pss_one (ps_expr (pe_bm PySem.F.plainAttrs_list PySem.F.slot_list_append PySem.F.type_list_append mt_append (pv 1) (pa_cons (pe_tup (pa_cons pe_str (pa_cons (pv 5) (pa_cons (pv 6) pa_nil)))) pa_nil)))))
      (pss_one (ps_set (i := 2) sc_ring_strokes.nd rfl (Or.inl rfl) (pv 4)))))))
      (pss_one (ps_ret (pe_callTy call_tuple_of (by rfl) T.m_tuple bi_tuple (pa_cons (pv 1) pa_nil)))))))
theorem tm_outlines_of {ap_border_moves : AP} {ap_ring_moves : AP} {ap_ring_strokes : AP} (T : Txt P K mg) (G_border_moves : FnOk P w K mg base CX0 3 T.f_border_moves T.fd_border_moves ["ink"] (toSp K ap_border_moves)) (G_ring_moves : FnOk P w K mg base CX0 2 T.f_ring_moves T.fd_ring_moves ["moves", "corner", "move"] (toSp K ap_ring_moves)) (G_ring_strokes : FnOk P w K mg base CX0 1 T.f_ring_strokes T.fd_ring_strokes ["ring"] (toSp K ap_ring_strokes)) (cdv : Value) (A : Around) (outer : List PySem.Env) (s : Shared) (H : Hp) (E : XK) (hr : Room 3 (A.deeper (PyProof.Rows.envOfC "outlines_of" (defScope s_outlines_of) s.heap.objs.size T.f_outlines_of cdv))) :
    PSs (cxOf CX0 P w K mg base ["ink", "moves", "walked", "outlines", "y", "x", "move", "ring", "side", "corner"] "outlines_of" (defScope s_outlines_of) T.f_outlines_of cdv A outer s H E).nox (defBody s_outlines_of) (t_outlines_of K w ap_border_moves ap_ring_moves ap_ring_strokes) := 
      (pss_cons (ps_set (i := 1) sc_outlines_of.nd rfl (Or.inl rfl) (pe_call G_border_moves (hr.mono (by decide)) (by rfl) T.g_border_moves T.F_border_moves.kp T.b_border_moves .nil pass0 (pa_cons (pv 0) pa_nil)))
      (pss_cons (ps_set (i := 2) sc_outlines_of.nd rfl (Or.inl rfl) (pe_nnew rfl))
      (pss_cons (ps_set (i := 3) sc_outlines_of.nd rfl (Or.inl rfl) (pe_lst pa_nil))
      (pss_cons (ps_for PassesOwn.never rfl (pi_list (pe_callB (cr_sortD0 (Nat.lt_of_le_of_lt (Nat.add_le_add_left (Nat.le_of_ble_eq_true rfl : 12 ≤ 64) _) hr.units)) (by rfl) T.m_sorted bi_sorted (pa_cons (pe_lock (pe_lc (own := [("corner", 9)]) (g := (gName 9)) (tt := tYes) (by rfl) sc_outlines_of.nd (pi_keysN (pv 1)) (blkOk_by (own := [("corner", 9)]) (N := ["ink", "moves", "walked", "outlines", "y", "x", "move", "ring", "side", "corner"]) (sc := defScope s_outlines_of) (by decide +kernel)) (fun _ _ _ _ _ => (pg_name (i := 9) sc_outlines_of.nd rfl (Or.inl rfl))) (fun _ _ _ _ _ => pts_nil) (fun _ _ _ _ _ => (pe_tup (pa_cons (pe_ix ix_seq (pv 9) pe_int (fun _ _ => rfl)) (pa_cons (pe_ix ix_seq (pv 9) pe_int (fun _ _ => rfl)) pa_nil)))))) pa_nil))) (pg_tup (by rfl) (pgs_cons (pg_name (i := 4) sc_outlines_of.nd rfl (Or.inl rfl)) (pgs_cons (pg_name (i := 5) sc_outlines_of.nd rfl (Or.inl rfl)) pgs_nil))) (pss_one (ps_for PassesOwn.never rfl (pi_list (pe_nget rfl rfl (Nat.lt_of_le_of_lt (Nat.add_le_add_left (Nat.le_of_ble_eq_true rfl : 9 ≤ 64) _) hr.units) (pv 1) (pe_tup (pa_cons (pv 5) (pa_cons (pv 4) pa_nil))) (fun _ _ => rfl))) (pg_name (i := 6) sc_outlines_of.nd rfl (Or.inl rfl)) (pss_cons (ps_if (pt_cmp (pc_nin rfl rfl (Nat.lt_of_le_of_lt (Nat.add_le_add_left (Nat.le_of_ble_eq_true rfl : 9 ≤ 64) _) hr.units) (pe_tup (pa_cons (pe_tup (pa_cons (pv 5) (pa_cons (pv 4) pa_nil))) (pa_cons (pv 6) pa_nil))) (pv 2))) (pss_one ps_continue) pss_nil)
      (pss_cons (ps_set (i := 7) sc_outlines_of.nd rfl (Or.inl rfl) (pe_call G_ring_moves (hr.mono (by decide)) (by rfl) T.g_ring_moves T.F_ring_moves.kp T.b_ring_moves .nil pass0 (pa_cons (pv 1) (pa_cons (pe_tup (pa_cons (pv 5) (pa_cons (pv 4) pa_nil))) (pa_cons (pv 6) pa_nil)))))
      (pss_cons (ps_for PassesOwn.never rfl (pi_list (pv 7)) (pg_name (i := 8) sc_outlines_of.nd rfl (Or.inl rfl)) (pss_one (ps_nput rfl rfl (Nat.lt_of_le_of_lt (Nat.add_le_add_left (Nat.le_of_ble_eq_true rfl : 9 ≤ 64) _) hr.units) (pv 2) (pv 8) pe_bl rfl)))
      (pss_one (ps_expr (pe_bm PySem.F.plainAttrs_list PySem.F.slot_list_append PySem.F.type_list_append mt_append (pv 3) (pa_cons (pe_tup (pa_cons (pv 5) (pa_cons (pv 4) (pa_cons (pe_call G_ring_strokes (hr.mono (by decide)) (by rfl) T.g_ring_strokes T.F_ring_strokes.kp T.b_ring_strokes .nil pass0 (pa_cons (pv 7) pa_nil)) pa_nil)))) pa_nil))))))))))
      (pss_one (ps_ret (pe_callTy call_tuple_of (by rfl) T.m_tuple bi_tuple (pa_cons (pv 3) pa_nil))))))))
theorem tm_sign (T : Txt P K mg) (cdv : Value) (A : Around) (outer : List PySem.Env) (s : Shared) (H : Hp) (E : XK) (hr : Room 0 (A.deeper (PyProof.Rows.envOfC "sign" (defScope s_sign) s.heap.objs.size T.f_sign cdv))) :
    PSs (cxOf CX0 P w K mg base ["number"] "sign" (defScope s_sign) T.f_sign cdv A outer s H E).nox (defBody s_sign) (t_sign K) := 
      (pss_cons (ps_if (pt_cmpR op_gt (pv 0) pe_int (nomark _)) (pss_one (ps_ret pe_int)) pss_nil)
      (pss_cons (ps_if (pt_cmpR (op_ltG hr.units0) (pv 0) pe_int (nomark _)) (pss_one (ps_ret (pe_un un_neg pe_int))) pss_nil)
      (pss_one (ps_ret pe_int))))
theorem tm_line_steps {ap_sign : AP} (T : Txt P K mg) (G_sign : FnOk P w K mg base CX0 1 T.f_sign T.fd_sign ["number"] (toSp K ap_sign)) (cdv : Value) (A : Around) (outer : List PySem.Env) (s : Shared) (H : Hp) (E : XK) (hr : Room 1 (A.deeper (PyProof.Rows.envOfC "line_steps" (defScope s_line_steps) s.heap.objs.size T.f_line_steps cdv))) :
    PSs (cxOf CX0 P w K mg base ["dx", "dy", "across", "length", "steps", "k"] "line_steps" (defScope s_line_steps) T.f_line_steps cdv A outer s H E).nox (defBody s_line_steps) (t_line_steps K ap_sign) := 
      (pss_cons (ps_set (i := 2) sc_line_steps.nd rfl (Or.inl rfl) (pe_callB call_abs (by rfl) T.m_abs bi_abs (pa_cons (pv 0) pa_nil)))
      (pss_cons (ps_set (i := 3) sc_line_steps.nd rfl (Or.inl rfl) (pe_op op_addG (pv 2) (pe_callB call_abs (by rfl) T.m_abs bi_abs (pa_cons (pv 1) pa_nil))))
      (pss_cons (ps_set (i := 4) sc_line_steps.nd rfl (Or.inl rfl) (pe_lst pa_nil))
      (pss_cons (ps_for PassesOwn.never rfl (pi_range1 (by rfl) T.m_range (pa_cons (pv 3) pa_nil)) (pg_name (i := 5) sc_line_steps.nd rfl (Or.inl rfl)) (pss_one (ps_if (pt_cmpR op_gt (pe_op op_fdivW (pe_op op_mulG (pe_op op_addG (pv 5) pe_int) (pv 2)) (pv 3)) (pe_op op_fdivW (pe_op op_mulG (pv 5) (pv 2)) (pv 3)) (nomark _)) (pss_one (ps_expr (pe_bm PySem.F.plainAttrs_list PySem.F.slot_list_append PySem.F.type_list_append mt_append (pv 4) (pa_cons (pe_tup (pa_cons (pe_call G_sign (hr.mono (by decide)) (by rfl) T.g_sign T.F_sign.kp T.b_sign .nil pass0 (pa_cons (pv 0) pa_nil)) (pa_cons pe_int pa_nil))) pa_nil)))) (pss_one (ps_expr (pe_bm PySem.F.plainAttrs_list PySem.F.slot_list_append PySem.F.type_list_append mt_append (pv 4) (pa_cons (pe_tup (pa_cons pe_int (pa_cons (pe_call G_sign (hr.mono (by decide)) (by rfl) T.g_sign T.F_sign.kp T.b_sign .nil pass0 (pa_cons (pv 1) pa_nil)) pa_nil))) pa_nil)))))))
      (pss_one (ps_ret (pv 4)))))))
theorem tm_takes_first_move (T : Txt P K mg) (cdv : Value) (A : Around) (outer : List PySem.Env) (s : Shared) (H : Hp) (E : XK) (hr : Room 0 (A.deeper (PyProof.Rows.envOfC "takes_first_move" (defScope s_takes_first_move) s.heap.objs.size T.f_takes_first_move cdv))) :
    PSs (cxOf CX0 P w K mg base ["a", "b", "radius", "square", "after_first", "after_second"] "takes_first_move" (defScope s_takes_first_move) T.f_takes_first_move cdv A outer s H E).nox (defBody s_takes_first_move) (t_takes_first_move K) := 
      (pss_cons (ps_if (pt_cmpR (op_eqG hr.units) (pv 0) pe_int (nomark _)) (pss_one (ps_ret pe_bl)) pss_nil)
      (pss_cons (ps_if (pt_cmpR (op_eqG hr.units) (pv 1) (pv 2) (nomark _)) (pss_one (ps_ret pe_bl)) pss_nil)
      (pss_cons (ps_set (i := 3) sc_takes_first_move.nd rfl (Or.inl rfl) (pe_op op_mulG (pv 2) (pv 2)))
      (pss_cons (ps_set (i := 4) sc_takes_first_move.nd rfl (Or.inl rfl) (pe_callB call_abs (by rfl) T.m_abs bi_abs (pa_cons (pe_op op_sub (pe_op op_addG (pe_op op_mulG (pv 0) (pv 0)) (pe_op op_mulG (pe_op op_addG (pv 1) pe_int) (pe_op op_addG (pv 1) pe_int))) (pv 3)) pa_nil)))
      (pss_cons (ps_set (i := 5) sc_takes_first_move.nd rfl (Or.inl rfl) (pe_callB call_abs (by rfl) T.m_abs bi_abs (pa_cons (pe_op op_sub (pe_op op_addG (pe_op op_mulG (pe_op op_sub (pv 0) pe_int) (pe_op op_sub (pv 0) pe_int)) (pe_op op_mulG (pv 1) (pv 1))) (pv 3)) pa_nil)))
      (pss_one (ps_ret (pe_cmpR op_le (pv 4) (pv 5) (nomark _)))))))))
theorem tm_arc_steps {ap_takes_first_move : AP} (T : Txt P K mg) (G_takes_first_move : FnOk P w K mg base CX0 1 T.f_takes_first_move T.fd_takes_first_move ["a", "b", "radius"] (toSp K ap_takes_first_move)) (cdv : Value) (A : Around) (outer : List PySem.Env) (s : Shared) (H : Hp) (E : XK) (hr : Room 1 (A.deeper (PyProof.Rows.envOfC "arc_steps" (defScope s_arc_steps) s.heap.objs.size T.f_arc_steps cdv))) :
    PSs (cxOf CX0 P w K mg base ["first", "second", "radius", "a", "b", "steps"] "arc_steps" (defScope s_arc_steps) T.f_arc_steps cdv A outer s H E).nox (defBody s_arc_steps) (t_arc_steps K ap_takes_first_move) := 
      (pss_cons (ps_set (i := 3) sc_arc_steps.nd rfl (Or.inl rfl) (pv 2))
      (pss_cons (ps_set (i := 4) sc_arc_steps.nd rfl (Or.inl rfl) pe_int)
      (pss_cons (ps_set (i := 5) sc_arc_steps.nd rfl (Or.inl rfl) (pe_lst pa_nil))
      (pss_cons (ps_while PassesOwn.never (PW.pt (pw_or (pt_cmpR op_gt (pv 3) pe_int (nomark _)) (pw_or1 (pt_cmpR (op_ltG hr.units0) (pv 4) (pv 2) (nomark _))))) (pss_one (ps_if (pt_val (pe_call G_takes_first_move (hr.mono (by decide)) (by rfl) T.g_takes_first_move T.F_takes_first_move.kp T.b_takes_first_move .nil pass0 (pa_cons (pv 3) (pa_cons (pv 4) (pa_cons (pv 2) pa_nil))))) (pss_cons (ps_expr (pe_bm PySem.F.plainAttrs_list PySem.F.slot_list_append PySem.F.type_list_append mt_append (pv 5) (pa_cons (pv 0) pa_nil)))
      (pss_one (ps_aug (i := 4) sc_arc_steps.nd rfl (Or.inl rfl) pe_int ip_add))) (pss_cons (ps_expr (pe_bm PySem.F.plainAttrs_list PySem.F.slot_list_append PySem.F.type_list_append mt_append (pv 5) (pa_cons (pv 1) pa_nil)))
      (pss_one (ps_aug (i := 3) sc_arc_steps.nd rfl (Or.inl rfl) pe_int ip_sub))))))
      (pss_one (ps_ret (pv 5)))))))
theorem tm_unit_steps {ap_line_steps : AP} {ap_sign : AP} {ap_arc_steps : AP} (T : Txt P K mg) (G_line_steps : FnOk P w K mg base CX0 2 T.f_line_steps T.fd_line_steps ["dx", "dy"] (toSp K ap_line_steps)) (G_sign : FnOk P w K mg base CX0 1 T.f_sign T.fd_sign ["number"] (toSp K ap_sign)) (G_arc_steps : FnOk P w K mg base CX0 2 T.f_arc_steps T.fd_arc_steps ["first", "second", "radius"] (toSp K ap_arc_steps)) (cdv : Value) (A : Around) (outer : List PySem.Env) (s : Shared) (H : Hp) (E : XK) (hr : Room 2 (A.deeper (PyProof.Rows.envOfC "unit_steps" (defScope s_unit_steps) s.heap.objs.size T.f_unit_steps cdv))) :
    PSs (cxOf CX0 P w K mg base ["stroke", "sort", "dx", "dy", "level", "upright"] "unit_steps" (defScope s_unit_steps) T.f_unit_steps cdv A outer s H E).nox (defBody s_unit_steps) (t_unit_steps K ap_line_steps ap_sign ap_arc_steps) := 
      (pss_cons (ps_asg (pv 0) (pg_tup (by rfl) (pgs_cons (pg_name (i := 1) sc_unit_steps.nd rfl (Or.inl rfl)) (pgs_cons (pg_name (i := 2) sc_unit_steps.nd rfl (Or.inl rfl)) (pgs_cons (pg_name (i := 3) sc_unit_steps.nd rfl (Or.inl rfl)) pgs_nil)))))
      (pss_cons (ps_if (pt_cmpR (op_eqG hr.units) (pv 1) pe_str (nomark _)) (pss_one (ps_ret (pe_call G_line_steps (hr.mono (by decide)) (by rfl) T.g_line_steps T.F_line_steps.kp T.b_line_steps .nil pass0 (pa_cons (pv 2) (pa_cons (pv 3) pa_nil))))) pss_nil)
      (pss_cons (ps_set (i := 4) sc_unit_steps.nd rfl (Or.inl rfl) (pe_tup (pa_cons (pe_call G_sign (hr.mono (by decide)) (by rfl) T.g_sign T.F_sign.kp T.b_sign .nil pass0 (pa_cons (pv 2) pa_nil)) (pa_cons pe_int pa_nil))))
      (pss_cons (ps_set (i := 5) sc_unit_steps.nd rfl (Or.inl rfl) (pe_tup (pa_cons pe_int (pa_cons (pe_call G_sign (hr.mono (by decide)) (by rfl) T.g_sign T.F_sign.kp T.b_sign .nil pass0 (pa_cons (pv 3) pa_nil)) pa_nil))))
      (pss_cons (ps_if (pt_cmpR (op_eqG hr.units) (pv 1) pe_str (nomark _)) (pss_one (ps_ret (pe_call G_arc_steps (hr.mono (by decide)) (by rfl) T.g_arc_steps T.F_arc_steps.kp T.b_arc_steps .nil pass0 (pa_cons (pv 4) (pa_cons (pv 5) (pa_cons (pe_callB call_abs (by rfl) T.m_abs bi_abs (pa_cons (pv 2) pa_nil)) pa_nil)))))) pss_nil)
      (pss_one (ps_ret (pe_call G_arc_steps (hr.mono (by decide)) (by rfl) T.g_arc_steps T.F_arc_steps.kp T.b_arc_steps .nil pass0 (pa_cons (pv 5) (pa_cons (pv 4) (pa_cons (pe_callB call_abs (by rfl) T.m_abs bi_abs (pa_cons (pv 2) pa_nil)) pa_nil)))))))))))
theorem tm_corners {ap_unit_steps : AP} (T : Txt P K mg) (G_unit_steps : FnOk P w K mg base CX0 3 T.f_unit_steps T.fd_unit_steps ["stroke"] (toSp K ap_unit_steps)) (cdv : Value) (A : Around) (outer : List PySem.Env) (s : Shared) (H : Hp) (E : XK) (hr : Room 3 (A.deeper (PyProof.Rows.envOfC "corners" (defScope s_corners) s.heap.objs.size T.f_corners cdv))) :
    PSs (cxOf CX0 P w K mg base ["outline", "x", "y", "strokes", "reached", "stroke", "dx", "dy"] "corners" (defScope s_corners) T.f_corners cdv A outer s H E).nox (defBody s_corners) (t_corners K ap_unit_steps) := 
      (pss_cons (ps_asg (pv 0) (pg_tup (by rfl) (pgs_cons (pg_name (i := 1) sc_corners.nd rfl (Or.inl rfl)) (pgs_cons (pg_name (i := 2) sc_corners.nd rfl (Or.inl rfl)) (pgs_cons (pg_name (i := 3) sc_corners.nd rfl (Or.inl rfl)) pgs_nil)))))
      (pss_cons (ps_set (i := 4) sc_corners.nd rfl (Or.inl rfl) (pe_lst (pa_cons (pe_tup (pa_cons (pv 1) (pa_cons (pv 2) pa_nil))) pa_nil)))
      (pss_cons (ps_for PassesOwn.never rfl (pi_tup (pv 3)) (pg_name (i := 5) sc_corners.nd rfl (Or.inl rfl)) (pss_one (ps_for PassesOwn.never rfl (pi_list (pe_call G_unit_steps (hr.mono (by decide)) (by rfl) T.g_unit_steps T.F_unit_steps.kp T.b_unit_steps .nil pass0 (pa_cons (pv 5) pa_nil))) (pg_tup (by rfl) (pgs_cons (pg_name (i := 6) sc_corners.nd rfl (Or.inl rfl)) (pgs_cons (pg_name (i := 7) sc_corners.nd rfl (Or.inl rfl)) pgs_nil))) (pss_cons (ps_aug (i := 1) sc_corners.nd rfl (Or.inl rfl) (pv 6) ip_add)
      (pss_cons (ps_aug (i := 2) sc_corners.nd rfl (Or.inl rfl) (pv 7) ip_add)
      (pss_one (ps_expr (pe_bm PySem.F.plainAttrs_list PySem.F.slot_list_append PySem.F.type_list_append mt_append (pv 4) (pa_cons (pe_tup (pa_cons (pv 1) (pa_cons (pv 2) pa_nil))) pa_nil)))))))))
      (pss_one (ps_ret (pv 4))))))
theorem tm_Ink___init__ (T : Txt P K mg) (cdv : Value) (A : Around) (outer : List PySem.Env) (s : Shared) (H : Hp) (E : XK) (hr : Room 0 (A.deeper (PyProof.Rows.envOfC "Ink.__init__" (defScope s_Ink___init__) s.heap.objs.size T.f_Ink___init__ cdv))) :
    PSs (cxOf CX0 P w K mg base ["self", "cells", "found", "x", "y", "ordered", "lefts", "rights", "known"] "Ink.__init__" (defScope s_Ink___init__) T.f_Ink___init__ cdv A outer s H E).nox (defBody s_Ink___init__) (t_Ink___init__ K w) := 
      (pss_cons (ps_set (i := 2) sc_Ink___init__.nd rfl (Or.inl rfl) (pe_nnew rfl))
      (pss_cons (ps_for PassesOwn.never rfl (pi_list (pv 1)) (pg_tup (by rfl) (pgs_cons (pg_name (i := 3) sc_Ink___init__.nd rfl (Or.inl rfl)) (pgs_cons (pg_name (i := 4) sc_Ink___init__.nd rfl (Or.inl rfl)) pgs_nil))) (pss_one (ps_nput rfl rfl (Nat.lt_of_le_of_lt (Nat.add_le_add_left (Nat.le_of_ble_eq_true rfl : 9 ≤ 64) _) hr.units) (pv 2) (pe_tup (pa_cons (pv 4) (pa_cons (pv 3) pa_nil))) pe_bl rfl)))
      (pss_cons (ps_setLc (i := 5) (own := [("y", 4), ("x", 3)]) (g := (gTup K 2 (gCons (gName 4) (gCons (gName 3) gNil)))) (tt := tYes) (by rfl) sc_Ink___init__.nd rfl rfl (sw_true rfl rfl rfl (by decide +kernel)) (pi_list (pe_callB (cr_sortD0 (Nat.lt_of_le_of_lt (Nat.add_le_add_left (Nat.le_of_ble_eq_true rfl : 12 ≤ 64) _) hr.units)) (by rfl) T.m_sorted bi_sorted (pa_cons (pe_callTy (call_list_dN rfl) (by rfl) T.m_list bi_list (pa_cons (pv 2) pa_nil)) pa_nil))) (blkOk_by (own := [("y", 4), ("x", 3)]) (N := ["self", "cells", "found", "x", "y", "ordered", "lefts", "rights", "known"]) (sc := defScope s_Ink___init__) (by decide +kernel)) (fun _ _ _ _ _ => (pg_tup (by rfl) (pgs_cons (pg_name (i := 4) sc_Ink___init__.nd rfl (Or.inl rfl)) (pgs_cons (pg_name (i := 3) sc_Ink___init__.nd rfl (Or.inl rfl)) pgs_nil)))) (fun _ _ _ _ _ => pts_nil) (fun _ _ _ _ _ => (pe_tup (pa_cons (pv 3) (pa_cons (pv 4) pa_nil)))))
      (pss_cons (ps_set (i := 6) sc_Ink___init__.nd rfl (Or.inl rfl) pe_dnewK)
      (pss_cons (ps_set (i := 7) sc_Ink___init__.nd rfl (Or.inl rfl) pe_dnewK)
      (pss_cons (ps_set (i := 8) sc_Ink___init__.nd rfl (Or.inl rfl) (pe_nnew rfl))
      (pss_cons (ps_for PassesOwn.never rfl (pi_list (pv 5)) (pg_tup (by rfl) (pgs_cons (pg_name (i := 3) sc_Ink___init__.nd rfl (Or.inl rfl)) (pgs_cons (pg_name (i := 4) sc_Ink___init__.nd rfl (Or.inl rfl)) pgs_nil))) (pss_cons (ps_if (pt_cmp (pc_dnotin (Nat.lt_of_le_of_lt (Nat.add_le_add_left (Nat.le_of_ble_eq_true rfl : 1 ≤ 64) _) hr.units) (pv 4) (pv 6))) (pss_one (ps_dput (Nat.lt_of_le_of_lt (Nat.add_le_add_left (Nat.le_of_ble_eq_true rfl : 1 ≤ 64) _) hr.units) (pv 6) (pv 4) (pv 3) rfl)) pss_nil)
      (pss_cons (ps_dput (Nat.lt_of_le_of_lt (Nat.add_le_add_left (Nat.le_of_ble_eq_true rfl : 1 ≤ 64) _) hr.units) (pv 7) (pv 4) (pe_op op_addG (pv 3) pe_int) rfl)
      (pss_one (ps_nput rfl rfl (Nat.lt_of_le_of_lt (Nat.add_le_add_left (Nat.le_of_ble_eq_true rfl : 9 ≤ 64) _) hr.units) (pv 8) (pe_tup (pa_cons (pv 3) (pa_cons (pv 4) pa_nil))) pe_bl rfl)))))
      (pss_cons (ps_fld (pv 0) (pv 5) rfl)
      (pss_cons (ps_fld (pv 0) (pv 8) rfl)
      (pss_cons (ps_fld (pv 0) (pv 6) rfl)
      (pss_one (ps_fld (pv 0) (pv 7) rfl))))))))))))
theorem tm_Ink_cells (T : Txt P K mg) (cdv : Value) (A : Around) (outer : List PySem.Env) (s : Shared) (H : Hp) (E : XK) (hr : Room 0 (A.deeper (PyProof.Rows.envOfC "Ink.cells" (defScope s_Ink_cells) s.heap.objs.size T.f_Ink_cells cdv))) :
    PSs (cxOf CX0 P w K mg base ["self"] "Ink.cells" (defScope s_Ink_cells) T.f_Ink_cells cdv A outer s H E).nox (defBody s_Ink_cells) (t_Ink_cells K) := 
      (pss_one (ps_ret (pe_callTy call_list_of (by rfl) T.m_list bi_list (pa_cons (pe_fld (pv 0) rfl) pa_nil))))
theorem tm_Ink___contains__ (T : Txt P K mg) (cdv : Value) (A : Around) (outer : List PySem.Env) (s : Shared) (H : Hp) (E : XK) (hr : Room 0 (A.deeper (PyProof.Rows.envOfC "Ink.__contains__" (defScope s_Ink___contains__) s.heap.objs.size T.f_Ink___contains__ cdv))) :
    PSs (cxOf CX0 P w K mg base ["self", "cell"] "Ink.__contains__" (defScope s_Ink___contains__) T.f_Ink___contains__ cdv A outer s H E).nox (defBody s_Ink___contains__) (t_Ink___contains__ K w) := 
      (pss_one (ps_ret (pe_cmp (pc_nin rfl rfl (Nat.lt_of_le_of_lt (Nat.add_le_add_left (Nat.le_of_ble_eq_true rfl : 9 ≤ 64) _) hr.units) (pv 1) (pe_fld (pv 0) rfl)))))
theorem tm_crossings_of {ap_corners : AP} (T : Txt P K mg) (G_corners : FnOk P w K mg base CX0 4 T.f_corners T.fd_corners ["outline"] (toSp K ap_corners)) (GE_OpenOutline : FnOk P w K mg base CX0 1 T.fi_OpenOutline T.fe_OpenOutline ["self", "place"] (spE1 T.c_OpenOutline "place" fun _ => True)) (cdv : Value) (A : Around) (outer : List PySem.Env) (s : Shared) (H : Hp) (E : XK) (hr : Room 4 (A.deeper (PyProof.Rows.envOfC "crossings_of" (defScope s_crossings_of) s.heap.objs.size T.f_crossings_of cdv))) :
    PSs (cxOf (L2.CX P w) P w K mg base ["outlines", "crossings", "place", "outline", "reached", "k", "before", "behind", "row"] "crossings_of" (defScope s_crossings_of) T.f_crossings_of cdv A outer s H E) (defBody s_crossings_of) (t_crossings_of K T.c_OpenOutline ap_corners (fun cls d _ H' => E cls d H')) := 
      (pss_cons (ps_set (i := 1) sc_crossings_of.nd rfl (Or.inl rfl) pe_dnewK)
      (pss_cons (ps_for (passes_of rfl) rfl (pi_enumT (by rfl) T.m_enumerate (pa_cons (pv 0) pa_nil)) (pg_tup (by rfl) (pgs_cons (pg_name (i := 2) sc_crossings_of.nd rfl (Or.inl rfl)) (pgs_cons (pg_name (i := 3) sc_crossings_of.nd rfl (Or.inl rfl)) pgs_nil))) (pss_cons (ps_set (i := 4) sc_crossings_of.nd rfl (Or.inl rfl) (pe_call G_corners (hr.mono (by decide)) (by rfl) T.g_corners T.F_corners.kp T.b_corners .nil pass0 (pa_cons (pv 3) pa_nil)))
      (pss_cons (ps_if (pt_cmpR (op_neG hr.units) (pe_ix ix_seq (pv 4) (pe_un un_neg pe_int) (fun _ _ => rfl)) (pe_ix ix_seq (pv 4) pe_int (fun _ _ => rfl)) (nomark _)) (pss_one (ps_raise rfl (takes_of rfl rfl rfl rfl) (pmk_oex T.ox_OpenOutline T.ic_OpenOutline T.ti_OpenOutline GE_OpenOutline (hr.mono (by decide)) T.be_OpenOutline .nil pass0 (by rfl) T.g_OpenOutline (pa_cons (pv 2) pa_nil)))) pss_nil)
      (pss_one (ps_for (passes_of rfl) rfl (pi_range2 (by rfl) T.m_range (pa_cons pe_int (pa_cons (pe_callB call_len (by rfl) T.m_len bi_len (pa_cons (pv 4) pa_nil)) pa_nil))) (pg_name (i := 5) sc_crossings_of.nd rfl (Or.inl rfl)) (pss_cons (ps_par (i := 6) (j := 7) rfl sc_crossings_of.nd rfl rfl (by decide) rfl rfl (pa_cons (pe_ix ix_seq (pv 4) (pe_op op_sub (pv 5) pe_int) (fun _ _ => rfl)) (pa_cons (pe_ix ix_seq (pv 4) (pv 5) (fun _ _ => rfl)) pa_nil)) rfl)
      (pss_one (ps_if (pt_cmpR (op_eqG hr.units) (pe_ix ix_seq (pv 6) pe_int (fun _ _ => rfl)) (pe_ix ix_seq (pv 7) pe_int (fun _ _ => rfl)) (nomark _)) (pss_cons (ps_set (i := 8) sc_crossings_of.nd rfl (Or.inl rfl) (pe_callB (call_min2 rfl) (by rfl) T.m_min bi_min (pa_cons (pe_ix ix_seq (pv 6) pe_int (fun _ _ => rfl)) (pa_cons (pe_ix ix_seq (pv 7) pe_int (fun _ _ => rfl)) pa_nil))))
      (pss_cons (ps_if (pt_cmp (pc_dnotin (Nat.lt_of_le_of_lt (Nat.add_le_add_left (Nat.le_of_ble_eq_true rfl : 1 ≤ 64) _) hr.units) (pv 8) (pv 1))) (pss_one (ps_dput (Nat.lt_of_le_of_lt (Nat.add_le_add_left (Nat.le_of_ble_eq_true rfl : 1 ≤ 64) _) hr.units) (pv 1) (pv 8) (pe_lst pa_nil) rfl)) pss_nil)
      (pss_one (ps_expr (pe_bm PySem.F.plainAttrs_list PySem.F.slot_list_append PySem.F.type_list_append mt_append (pe_dget (Nat.lt_of_le_of_lt (Nat.add_le_add_left (Nat.le_of_ble_eq_true rfl : 1 ≤ 64) _) hr.units) (pv 1) (pv 8) (fun _ _ => rfl)) (pa_cons (pe_ix ix_seq (pv 6) pe_int (fun _ _ => rfl)) pa_nil)))))) pss_nil))))))))
      (pss_one (ps_ret (pv 1)))))
theorem tm_ink_of {ap_crossings_of : APX} {ai_Ink : AIP} (T : Txt P K mg) (G_crossings_of : FnOk P w K mg base (L2.CX P w) 5 T.f_crossings_of T.fd_crossings_of ["outlines"] (toSpX K ap_crossings_of)) (G_Ink___init__ : FnOk P w K mg base CX0 1 T.f_Ink___init__ T.fd_Ink___init__ ["self", "cells"] (toSpIP K T.c_Ink ai_Ink)) (cdv : Value) (A : Around) (outer : List PySem.Env) (s : Shared) (H : Hp) (E : XK) (hr : Room 5 (A.deeper (PyProof.Rows.envOfC "ink_of" (defScope s_ink_of) s.heap.objs.size T.f_ink_of cdv))) :
    PSs (cxOf (L2.CX P w) P w K mg base ["outlines", "cells", "crossings", "row", "places", "k", "x"] "ink_of" (defScope s_ink_of) T.f_ink_of cdv A outer s H E) (defBody s_ink_of) (t_ink_of K T.c_Ink ap_crossings_of ai_Ink (fun cls d _ H' => E cls d H')) := 
      (pss_cons (ps_set (i := 1) sc_ink_of.nd rfl (Or.inl rfl) (pe_lst pa_nil))
      (pss_cons (ps_set (i := 2) sc_ink_of.nd rfl (Or.inl rfl) (pe_callS G_crossings_of (hr.mono (by decide)) (by rfl) T.g_crossings_of T.F_crossings_of.kp T.b_crossings_of (fun σ => passAt (takes_of rfl rfl rfl rfl) σ) (pa_cons (pv 0) pa_nil)))
      (pss_cons (ps_for (passes_of rfl) rfl (pi_list (pe_callB (cr_sortD0 (Nat.lt_of_le_of_lt (Nat.add_le_add_left (Nat.le_of_ble_eq_true rfl : 12 ≤ 64) _) hr.units)) (by rfl) T.m_sorted bi_sorted (pa_cons (pe_callTy (call_list_dK rfl) (by rfl) T.m_list bi_list (pa_cons (pv 2) pa_nil)) pa_nil))) (pg_name (i := 3) sc_ink_of.nd rfl (Or.inl rfl)) (pss_cons (ps_set (i := 4) sc_ink_of.nd rfl (Or.inl rfl) (pe_callB (cr_sortD0 (Nat.lt_of_le_of_lt (Nat.add_le_add_left (Nat.le_of_ble_eq_true rfl : 12 ≤ 64) _) hr.units)) (by rfl) T.m_sorted bi_sorted (pa_cons (pe_dget (Nat.lt_of_le_of_lt (Nat.add_le_add_left (Nat.le_of_ble_eq_true rfl : 1 ≤ 64) _) hr.units) (pv 2) (pv 3) (fun _ _ => rfl)) pa_nil)))
      (pss_one (ps_for (passes_of rfl) rfl (pi_range3 (by rfl) T.m_range (pa_cons pe_int (pa_cons (pe_callB call_len (by rfl) T.m_len bi_len (pa_cons (pv 4) pa_nil)) (pa_cons pe_int pa_nil)))) (pg_name (i := 5) sc_ink_of.nd rfl (Or.inl rfl)) (pss_one (ps_for (passes_of rfl) rfl (pi_range2 (by rfl) T.m_range (pa_cons (pe_ix ix_seq (pv 4) (pv 5) (fun _ _ => rfl)) (pa_cons (pe_ix ix_seq (pv 4) (pe_op op_addG (pv 5) pe_int) (fun _ _ => rfl)) pa_nil))) (pg_name (i := 6) sc_ink_of.nd rfl (Or.inl rfl)) (pss_one (ps_expr (pe_bm PySem.F.plainAttrs_list PySem.F.slot_list_append PySem.F.type_list_append mt_append (pv 1) (pa_cons (pe_tup (pa_cons (pv 6) (pa_cons (pv 3) pa_nil))) pa_nil))))))))))
      (pss_one (ps_ret (pe_make T.mk_Ink G_Ink___init__ (hr.mono (by decide)) (by rfl) T.g_Ink T.b_Ink___init__ .nil pass0 (pa_cons (pv 1) pa_nil)))))))
theorem tm__law_pool (T : Txt P K mg) (cdv : Value) (A : Around) (outer : List PySem.Env) (s : Shared) (H : Hp) (E : XK) (hr : Room 0 (A.deeper (PyProof.Rows.envOfC "_law_pool" (defScope s__law_pool) s.heap.objs.size T.f__law_pool cdv))) :
    PSs (cxOf CX0 P w K mg base ["_law_script", "_law_at", "_law_cell"] "_law_pool" (defScope s__law_pool) T.f__law_pool cdv A outer s H E).nox (defBody s__law_pool) (t__law_pool K) := 
      (pss_cons (ps_set (i := 2) sc__law_pool.nd rfl (Or.inl rfl) pe_int)
      (pss_cons (ps_if (pt_cmpR (op_ltG hr.units0) (pv 1) (pe_callB call_len (by rfl) T.m_len bi_len (pa_cons (pv 0) pa_nil)) (nomark _)) (pss_one (ps_set (i := 2) sc__law_pool.nd rfl (Or.inl rfl) (pe_callB call_abs (by rfl) T.m_abs bi_abs (pa_cons (pe_callTy call_int1 (by rfl) T.m_int bi_int (pa_cons (pe_ix ix_seq (pv 0) (pv 1) (fun _ _ => rfl)) pa_nil)) pa_nil)))) pss_nil)
      (pss_one (ps_ret (pe_lst (pa_cons (pv 2) (pa_cons pe_int (pa_cons (pe_callTy call_int1 (by rfl) T.m_int bi_int (pa_cons (pe_cmpR op_ge (pv 2) (pe_op op_pow pe_int pe_int) (nomark _)) pa_nil)) (pa_cons (pe_op op_mod (pe_callTy call_int1 (by rfl) T.m_int bi_int (pa_cons (pe_op op_addG (pv 2) (pe_op op_mulG (pv 1) pe_int)) pa_nil)) pe_int) (pa_cons pe_int pa_nil))))))))))
theorem tm__law_take (T : Txt P K mg) (cdv : Value) (A : Around) (outer : List PySem.Env) (s : Shared) (H : Hp) (E : XK) (hr : Room 0 (A.deeper (PyProof.Rows.envOfC "_law_take" (defScope s__law_take) s.heap.objs.size T.f__law_take cdv))) :
    PSs (cxOf CX0 P w K mg base ["_law_pool_here", "_law_many", "_law_got", "_law_one", "_law_two"] "_law_take" (defScope s__law_take) T.f__law_take cdv A outer s H E).nox (defBody s__law_take) (t__law_take K) := 
      (pss_cons (ps_asg (pe_op op_addG (pe_ix ix_seq (pv 0) pe_int (fun _ _ => rfl)) pe_int) (pg_sub (pv 0) pe_int set_list))
      (pss_cons (ps_if (pt_cmpR (op_eqG hr.units) (pe_ix ix_seq (pv 0) pe_int (fun _ _ => rfl)) pe_int (nomark _)) (pss_cons (ps_set (i := 2) sc__law_take.nd rfl (Or.inl rfl) (pe_op op_mod (pe_callTy call_int1 (by rfl) T.m_int bi_int (pa_cons (pe_ix ix_seq (pv 0) pe_int (fun _ _ => rfl)) pa_nil)) (pv 1)))
      (pss_cons (ps_asg (pe_op op_fdivW (pe_ix ix_seq (pv 0) pe_int (fun _ _ => rfl)) (pv 1)) (pg_sub (pv 0) pe_int set_list))
      (pss_one (ps_ret (pv 2))))) pss_nil)
      (pss_cons (ps_set (i := 3) sc__law_take.nd rfl (Or.inl rfl) (pe_op op_mod (pe_callTy call_int1 (by rfl) T.m_int bi_int (pa_cons (pe_op op_addG (pe_op op_addG (pe_op op_mulG (pe_ix ix_seq (pv 0) pe_int (fun _ _ => rfl)) pe_int) (pe_op op_mulG (pe_ix ix_seq (pv 0) pe_int (fun _ _ => rfl)) pe_int)) pe_int) pa_nil)) pe_int))
      (pss_cons (ps_set (i := 4) sc__law_take.nd rfl (Or.inl rfl) (pe_op op_mod (pe_callTy call_int1 (by rfl) T.m_int bi_int (pa_cons (pe_op op_addG (pe_op op_addG (pe_op op_mulG (pv 3) pe_int) (pe_op op_fdivW (pv 3) pe_int)) (pe_op op_mulG (pe_op op_mulG (pe_ix ix_seq (pv 0) pe_int (fun _ _ => rfl)) (pe_ix ix_seq (pv 0) pe_int (fun _ _ => rfl))) pe_int)) pa_nil)) pe_int))
      (pss_one (ps_ret (pe_op op_mod (pe_callTy call_int1 (by rfl) T.m_int bi_int (pa_cons (pv 4) pa_nil)) (pv 1))))))))
theorem tm__law_plate {ap__law_take : AP} (T : Txt P K mg) (G__law_take : FnOk P w K mg base CX0 1 T.f__law_take T.fd__law_take ["_law_pool_here", "_law_many"] (toSp K ap__law_take)) (cdv : Value) (A : Around) (outer : List PySem.Env) (s : Shared) (H : Hp) (E : XK) (hr : Room 1 (A.deeper (PyProof.Rows.envOfC "_law_plate" (defScope s__law_plate) s.heap.objs.size T.f__law_plate cdv))) :
    PSs (cxOf CX0 P w K mg base ["_law_pool_here", "_law_sort", "_law_spread", "_law_many", "_law_cells", "_law_box", "_law_x", "_law_y", "_law_wide", "_law_high", "_law_step", "_law_k"] "_law_plate" (defScope s__law_plate) T.f__law_plate cdv A outer s H E).nox (defBody s__law_plate) (t__law_plate K ap__law_take) := 
      (pss_cons (ps_set (i := 1) sc__law_plate.nd rfl (Or.inl rfl) (pe_call G__law_take (hr.mono (by decide)) (by rfl) T.g__law_take T.F__law_take.kp T.b__law_take .nil pass0 (pa_cons (pv 0) (pa_cons pe_int pa_nil))))
      (pss_cons (ps_set (i := 2) sc__law_plate.nd rfl (Or.inl rfl) (pe_op op_addG pe_int (pe_call G__law_take (hr.mono (by decide)) (by rfl) T.g__law_take T.F__law_take.kp T.b__law_take .nil pass0 (pa_cons (pv 0) (pa_cons pe_int pa_nil)))))
      (pss_cons (ps_set (i := 3) sc__law_plate.nd rfl (Or.inl rfl) (pe_call G__law_take (hr.mono (by decide)) (by rfl) T.g__law_take T.F__law_take.kp T.b__law_take .nil pass0 (pa_cons (pv 0) (pa_cons pe_int pa_nil))))
      (pss_cons (ps_set (i := 4) sc__law_plate.nd rfl (Or.inl rfl) (pe_lst pa_nil))
      (pss_cons (ps_if (pt_cmpR (op_ltG hr.units0) (pv 1) pe_int (nomark _)) (pss_cons (ps_for PassesOwn.never rfl (pi_range1 (by rfl) T.m_range (pa_cons (pe_op op_addG pe_int (pe_op op_mod (pe_callTy call_int1 (by rfl) T.m_int bi_int (pa_cons (pv 3) pa_nil)) pe_int)) pa_nil)) (pg_name (i := 5) sc__law_plate.nd rfl (Or.inl rfl)) (pss_cons (ps_set (i := 6) sc__law_plate.nd rfl (Or.inr rfl) (pe_op op_sub (pe_call G__law_take (hr.mono (by decide)) (by rfl) T.g__law_take T.F__law_take.kp T.b__law_take .nil pass0 (pa_cons (pv 0) (pa_cons pe_int pa_nil))) pe_int))
      (pss_cons (ps_set (i := 7) sc__law_plate.nd rfl (Or.inr rfl) (pe_op op_sub (pe_call G__law_take (hr.mono (by decide)) (by rfl) T.g__law_take T.F__law_take.kp T.b__law_take .nil pass0 (pa_cons (pv 0) (pa_cons pe_int pa_nil))) pe_int))
      (pss_cons (ps_set (i := 8) sc__law_plate.nd rfl (Or.inl rfl) (pe_op op_addG pe_int (pe_call G__law_take (hr.mono (by decide)) (by rfl) T.g__law_take T.F__law_take.kp T.b__law_take .nil pass0 (pa_cons (pv 0) (pa_cons (pe_ix ix_seq (pe_lst (pa_cons pe_int (pa_cons pe_int pa_nil))) (pe_callTy call_int1 (by rfl) T.m_int bi_int (pa_cons (pe_cmpR (op_eqG hr.units) (pv 5) pe_int (nomark _)) pa_nil)) (fun _ _ => rfl)) pa_nil)))))
      (pss_cons (ps_set (i := 9) sc__law_plate.nd rfl (Or.inl rfl) (pe_op op_addG pe_int (pe_call G__law_take (hr.mono (by decide)) (by rfl) T.g__law_take T.F__law_take.kp T.b__law_take .nil pass0 (pa_cons (pv 0) (pa_cons pe_int pa_nil)))))
      (pss_one (ps_for PassesOwn.never rfl (pi_range1 (by rfl) T.m_range (pa_cons (pv 9) pa_nil)) (pg_name (i := 10) sc__law_plate.nd rfl (Or.inr rfl)) (pss_one (ps_expr (pe_bm PySem.F.plainAttrs_list PySem.F.slot_list_extend PySem.F.type_list_extend mt_extend (pv 4) (pa_cons (pe_lc (own := [("_law_k", 11)]) (g := (gName 11)) (tt := tYes) (by rfl) sc__law_plate.nd (pi_range1 (by rfl) T.m_range (pa_cons (pv 8) pa_nil)) (blkOk_by (own := [("_law_k", 11)]) (N := ["_law_pool_here", "_law_sort", "_law_spread", "_law_many", "_law_cells", "_law_box", "_law_x", "_law_y", "_law_wide", "_law_high", "_law_step", "_law_k"]) (sc := defScope s__law_plate) (by decide +kernel)) (fun _ _ _ _ _ => (pg_name (i := 11) sc__law_plate.nd rfl (Or.inl rfl))) (fun _ _ _ _ _ => pts_nil) (fun _ _ _ _ _ => (pe_tup (pa_cons (pe_op op_addG (pv 6) (pv 11)) (pa_cons (pe_op op_addG (pv 7) (pv 10)) pa_nil))))) pa_nil)))))))))))
      (pss_one (ps_ret (pv 4)))) pss_nil)
      (pss_cons (ps_if (pt_cmpR (op_eqG hr.units) (pv 1) pe_int (nomark _)) (pss_cons (ps_set (i := 3) sc__law_plate.nd rfl (Or.inl rfl) (pe_call G__law_take (hr.mono (by decide)) (by rfl) T.g__law_take T.F__law_take.kp T.b__law_take .nil pass0 (pa_cons (pv 0) (pa_cons pe_int pa_nil))))
      (pss_one (ps_set (i := 2) sc__law_plate.nd rfl (Or.inl rfl) (pe_op op_addG pe_int (pe_call G__law_take (hr.mono (by decide)) (by rfl) T.g__law_take T.F__law_take.kp T.b__law_take .nil pass0 (pa_cons (pv 0) (pa_cons pe_int pa_nil))))))) pss_nil)
      (pss_cons (ps_for PassesOwn.never rfl (pi_range1 (by rfl) T.m_range (pa_cons (pv 3) pa_nil)) (pg_name (i := 11) sc__law_plate.nd rfl (Or.inl rfl)) (pss_cons (ps_set (i := 6) sc__law_plate.nd rfl (Or.inr rfl) (pe_op op_sub (pe_call G__law_take (hr.mono (by decide)) (by rfl) T.g__law_take T.F__law_take.kp T.b__law_take .nil pass0 (pa_cons (pv 0) (pa_cons (pv 2) pa_nil))) (pe_op op_fdivW (pv 2) pe_int)))
      (pss_one (ps_expr (pe_bm PySem.F.plainAttrs_list PySem.F.slot_list_append PySem.F.type_list_append mt_append (pv 4) (pa_cons (pe_tup (pa_cons (pv 6) (pa_cons (pe_op op_sub (pe_call G__law_take (hr.mono (by decide)) (by rfl) T.g__law_take T.F__law_take.kp T.b__law_take .nil pass0 (pa_cons (pv 0) (pa_cons (pv 2) pa_nil))) (pe_op op_fdivW (pv 2) pe_int)) pa_nil))) pa_nil))))))
      (pss_one (ps_ret (pv 4))))))))))
theorem tm__law_sides (T : Txt P K mg) (cdv : Value) (A : Around) (outer : List PySem.Env) (s : Shared) (H : Hp) (E : XK) (hr : Room 0 (A.deeper (PyProof.Rows.envOfC "_law_sides" (defScope s__law_sides) s.heap.objs.size T.f__law_sides cdv))) :
    PSs (cxOf CX0 P w K mg base ["_law_known", "_law_sides_here", "_law_cell", "_law_x", "_law_y"] "_law_sides" (defScope s__law_sides) T.f__law_sides cdv A outer s H E).nox (defBody s__law_sides) (t__law_sides K w) := 
      (pss_cons (ps_set (i := 1) sc__law_sides.nd rfl (Or.inl rfl) (pe_nnew rfl))
      (pss_cons (ps_for PassesOwn.never rfl (pi_list (pe_callTy (call_list_dN rfl) (by rfl) T.m_list bi_list (pa_cons (pv 0) pa_nil))) (pg_name (i := 2) sc__law_sides.nd rfl (Or.inl rfl)) (pss_cons (ps_set (i := 3) sc__law_sides.nd rfl (Or.inl rfl) (pe_ix ix_seq (pv 2) pe_int (fun _ _ => rfl)))
      (pss_cons (ps_set (i := 4) sc__law_sides.nd rfl (Or.inl rfl) (pe_ix ix_seq (pv 2) pe_int (fun _ _ => rfl)))
      (pss_cons (ps_if (pt_cmp (pc_nnotin rfl rfl (Nat.lt_of_le_of_lt (Nat.add_le_add_left (Nat.le_of_ble_eq_true rfl : 9 ≤ 64) _) hr.units) (pe_tup (pa_cons (pv 3) (pa_cons (pe_op op_sub (pv 4) pe_int) pa_nil))) (pv 0))) (pss_one (ps_nput rfl rfl (Nat.lt_of_le_of_lt (Nat.add_le_add_left (Nat.le_of_ble_eq_true rfl : 9 ≤ 64) _) hr.units) (pv 1) (pe_tup (pa_cons (pv 3) (pa_cons (pv 4) (pa_cons pe_int (pa_cons pe_int pa_nil))))) pe_bl rfl)) pss_nil)
      (pss_cons (ps_if (pt_cmp (pc_nnotin rfl rfl (Nat.lt_of_le_of_lt (Nat.add_le_add_left (Nat.le_of_ble_eq_true rfl : 9 ≤ 64) _) hr.units) (pe_tup (pa_cons (pe_op op_addG (pv 3) pe_int) (pa_cons (pv 4) pa_nil))) (pv 0))) (pss_one (ps_nput rfl rfl (Nat.lt_of_le_of_lt (Nat.add_le_add_left (Nat.le_of_ble_eq_true rfl : 9 ≤ 64) _) hr.units) (pv 1) (pe_tup (pa_cons (pe_op op_addG (pv 3) pe_int) (pa_cons (pv 4) (pa_cons pe_int (pa_cons pe_int pa_nil))))) pe_bl rfl)) pss_nil)
      (pss_cons (ps_if (pt_cmp (pc_nnotin rfl rfl (Nat.lt_of_le_of_lt (Nat.add_le_add_left (Nat.le_of_ble_eq_true rfl : 9 ≤ 64) _) hr.units) (pe_tup (pa_cons (pv 3) (pa_cons (pe_op op_addG (pv 4) pe_int) pa_nil))) (pv 0))) (pss_one (ps_nput rfl rfl (Nat.lt_of_le_of_lt (Nat.add_le_add_left (Nat.le_of_ble_eq_true rfl : 9 ≤ 64) _) hr.units) (pv 1) (pe_tup (pa_cons (pe_op op_addG (pv 3) pe_int) (pa_cons (pe_op op_addG (pv 4) pe_int) (pa_cons (pe_un un_neg pe_int) (pa_cons pe_int pa_nil))))) pe_bl rfl)) pss_nil)
      (pss_one (ps_if (pt_cmp (pc_nnotin rfl rfl (Nat.lt_of_le_of_lt (Nat.add_le_add_left (Nat.le_of_ble_eq_true rfl : 9 ≤ 64) _) hr.units) (pe_tup (pa_cons (pe_op op_sub (pv 3) pe_int) (pa_cons (pv 4) pa_nil))) (pv 0))) (pss_one (ps_nput rfl rfl (Nat.lt_of_le_of_lt (Nat.add_le_add_left (Nat.le_of_ble_eq_true rfl : 9 ≤ 64) _) hr.units) (pv 1) (pe_tup (pa_cons (pv 3) (pa_cons (pe_op op_addG (pv 4) pe_int) (pa_cons pe_int (pa_cons (pe_un un_neg pe_int) pa_nil))))) pe_bl rfl)) pss_nil))))))))
      (pss_one (ps_ret (pv 1)))))
theorem tm__law_integer (T : Txt P K mg) (cdv : Value) (A : Around) (outer : List PySem.Env) (s : Shared) (H : Hp) (E : XK) (hr : Room 0 (A.deeper (PyProof.Rows.envOfC "_law_integer" (defScope s__law_integer) s.heap.objs.size T.f__law_integer cdv))) :
    PSs (cxOf CX0 P w K mg base ["_law_told_here"] "_law_integer" (defScope s__law_integer) T.f__law_integer cdv A outer s H E).nox (defBody s__law_integer) (t__law_integer K) := 
      (pss_one (ps_ret (pe_and (pe_callB call_isi (by rfl) T.m_isinstance bi_isinstance (pa_cons (pv 0) (pa_cons (pe_bltn (v := .ty "int") (by rfl) T.m_int bi_int rfl) pa_nil))) (pe_one (pe_not (pe_callB call_isi (by rfl) T.m_isinstance bi_isinstance (pa_cons (pv 0) (pa_cons (pe_bltn (v := .ty "bool") (by rfl) T.m_bool bi_bool rfl) pa_nil))))))))
theorem tm__law_sign (T : Txt P K mg) (cdv : Value) (A : Around) (outer : List PySem.Env) (s : Shared) (H : Hp) (E : XK) (hr : Room 0 (A.deeper (PyProof.Rows.envOfC "_law_sign" (defScope s__law_sign) s.heap.objs.size T.f__law_sign cdv))) :
    PSs (cxOf CX0 P w K mg base ["_law_number"] "_law_sign" (defScope s__law_sign) T.f__law_sign cdv A outer s H E).nox (defBody s__law_sign) (t__law_sign K) := 
      (pss_one (ps_ret (pe_op op_sub (pe_callTy call_int1 (by rfl) T.m_int bi_int (pa_cons (pe_cmpR op_gt (pv 0) pe_int (nomark _)) pa_nil)) (pe_callTy call_int1 (by rfl) T.m_int bi_int (pa_cons (pe_cmpR (op_ltG hr.units0) (pv 0) pe_int (nomark _)) pa_nil)))))
theorem tm__law_formed {ap__law_integer : AP} (T : Txt P K mg) (G__law_integer : FnOk P w K mg base CX0 1 T.f__law_integer T.fd__law_integer ["_law_told_here"] (toSp K ap__law_integer)) (cdv : Value) (A : Around) (outer : List PySem.Env) (s : Shared) (H : Hp) (E : XK) (hr : Room 1 (A.deeper (PyProof.Rows.envOfC "_law_formed" (defScope s__law_formed) s.heap.objs.size T.f__law_formed cdv))) :
    PSs (cxOf CX0 P w K mg base ["_law_outline", "_law_most", "_law_stroke"] "_law_formed" (defScope s__law_formed) T.f__law_formed cdv A outer s H E).nox (defBody s__law_formed) (t__law_formed K ap__law_integer) := 
      (pss_cons (ps_if (PW.pt (pw_or (pt_not (pt_val (pe_callB call_isi (by rfl) T.m_isinstance bi_isinstance (pa_cons (pv 0) (pa_cons (pe_bltn (v := .ty "tuple") (by rfl) T.m_tuple bi_tuple rfl) pa_nil))))) (pw_or (pt_cmpR (op_neG hr.units) (pe_callB call_len (by rfl) T.m_len bi_len (pa_cons (pv 0) pa_nil)) pe_int (nomark _)) (pw_or1 (pt_not (pt_val (pe_callB call_isi (by rfl) T.m_isinstance bi_isinstance (pa_cons (pe_ix ix_seq (pv 0) pe_int (fun _ _ => rfl)) (pa_cons (pe_bltn (v := .ty "tuple") (by rfl) T.m_tuple bi_tuple rfl) pa_nil))))))))) (pss_one (ps_ret pe_bl)) pss_nil)
      (pss_cons (ps_if (PW.pt (pw_or (pt_not (pt_val (pe_call G__law_integer (hr.mono (by decide)) (by rfl) T.g__law_integer T.F__law_integer.kp T.b__law_integer .nil pass0 (pa_cons (pe_ix ix_seq (pv 0) pe_int (fun _ _ => rfl)) pa_nil)))) (pw_or (pt_not (pt_val (pe_call G__law_integer (hr.mono (by decide)) (by rfl) T.g__law_integer T.F__law_integer.kp T.b__law_integer .nil pass0 (pa_cons (pe_ix ix_seq (pv 0) pe_int (fun _ _ => rfl)) pa_nil)))) (pw_or1 (pt_cmpR (op_eqG hr.units) (pe_callB call_len (by rfl) T.m_len bi_len (pa_cons (pe_ix ix_seq (pv 0) pe_int (fun _ _ => rfl)) pa_nil)) pe_int (nomark _)))))) (pss_one (ps_ret pe_bl)) pss_nil)
      (pss_cons (ps_for PassesOwn.never rfl (pi_tup (pe_ix ix_seq (pv 0) pe_int (fun _ _ => rfl))) (pg_name (i := 2) sc__law_formed.nd rfl (Or.inl rfl)) (pss_cons (ps_if (PW.pt (pw_or (pt_not (pt_val (pe_callB call_isi (by rfl) T.m_isinstance bi_isinstance (pa_cons (pv 2) (pa_cons (pe_bltn (v := .ty "tuple") (by rfl) T.m_tuple bi_tuple rfl) pa_nil))))) (pw_or (pt_cmpR (op_neG hr.units) (pe_callB call_len (by rfl) T.m_len bi_len (pa_cons (pv 2) pa_nil)) pe_int (nomark _)) (pw_or1 (pt_not (pt_val (pe_callB call_isi (by rfl) T.m_isinstance bi_isinstance (pa_cons (pe_ix ix_seq (pv 2) pe_int (fun _ _ => rfl)) (pa_cons (pe_bltn (v := .ty "str") (by rfl) T.m_str bi_str rfl) pa_nil))))))))) (pss_one (ps_ret pe_bl)) pss_nil)
      (pss_cons (ps_if (PW.pt (pw_or (pt_cmpR (op_neG hr.units) (pe_ix ix_seq (pv 2) pe_int (fun _ _ => rfl)) pe_str (nomark _)) (pw_or (pt_not (pt_val (pe_call G__law_integer (hr.mono (by decide)) (by rfl) T.g__law_integer T.F__law_integer.kp T.b__law_integer .nil pass0 (pa_cons (pe_ix ix_seq (pv 2) pe_int (fun _ _ => rfl)) pa_nil)))) (pw_or1 (pt_not (pt_val (pe_call G__law_integer (hr.mono (by decide)) (by rfl) T.g__law_integer T.F__law_integer.kp T.b__law_integer .nil pass0 (pa_cons (pe_ix ix_seq (pv 2) pe_int (fun _ _ => rfl)) pa_nil)))))))) (pss_one (ps_ret pe_bl)) pss_nil)
      (pss_one (ps_if (PW.pt (pw_or (pt_cmpR (op_eqG hr.units) (pe_cmpR (op_eqG hr.units) (pe_ix ix_seq (pv 2) pe_int (fun _ _ => rfl)) pe_int (nomark _)) (pe_cmpR (op_eqG hr.units) (pe_ix ix_seq (pv 2) pe_int (fun _ _ => rfl)) pe_int (nomark _)) (nomark _)) (pw_or1 (pt_cmpR op_gt (pe_op op_addG (pe_callB call_abs (by rfl) T.m_abs bi_abs (pa_cons (pe_ix ix_seq (pv 2) pe_int (fun _ _ => rfl)) pa_nil)) (pe_callB call_abs (by rfl) T.m_abs bi_abs (pa_cons (pe_ix ix_seq (pv 2) pe_int (fun _ _ => rfl)) pa_nil))) (pv 1) (nomark _))))) (pss_one (ps_ret pe_bl)) pss_nil)))))
      (pss_one (ps_ret pe_bl)))))
theorem tm__law_told (T : Txt P K mg) (cdv : Value) (A : Around) (outer : List PySem.Env) (s : Shared) (H : Hp) (E : XK) (hr : Room 0 (A.deeper (PyProof.Rows.envOfC "_law_told" (defScope s__law_told) s.heap.objs.size T.f__law_told cdv))) :
    PSs (cxOf CX0 P w K mg base ["_law_told_here", "_law_due", "_law_cell", "_law_number"] "_law_told" (defScope s__law_told) T.f__law_told cdv A outer s H E).nox (defBody s__law_told) (t__law_told K) := 
      (pss_cons (ps_if (PW.pt (pw_or (pt_not (pt_val (pe_callB call_isi (by rfl) T.m_isinstance bi_isinstance (pa_cons (pv 0) (pa_cons (pe_bltn (v := .ty "list") (by rfl) T.m_list bi_list rfl) pa_nil))))) (pw_or1 (pt_cmpR (op_neG hr.units) (pe_callB call_len (by rfl) T.m_len bi_len (pa_cons (pv 0) pa_nil)) (pe_callB call_len (by rfl) T.m_len bi_len (pa_cons (pv 1) pa_nil)) (nomark _))))) (pss_one (ps_ret pe_bl)) pss_nil)
      (pss_cons (ps_for PassesOwn.never rfl (pi_list (pv 0)) (pg_name (i := 2) sc__law_told.nd rfl (Or.inl rfl)) (pss_cons (ps_if (PW.pt (pw_or (pt_not (pt_val (pe_callB call_isi (by rfl) T.m_isinstance bi_isinstance (pa_cons (pv 2) (pa_cons (pe_bltn (v := .ty "tuple") (by rfl) T.m_tuple bi_tuple rfl) pa_nil))))) (pw_or1 (pt_cmpR (op_neG hr.units) (pe_callB call_len (by rfl) T.m_len bi_len (pa_cons (pv 2) pa_nil)) pe_int (nomark _))))) (pss_one (ps_ret pe_bl)) pss_nil)
      (pss_one (ps_for PassesOwn.never rfl (pi_tup (pv 2)) (pg_name (i := 3) sc__law_told.nd rfl (Or.inl rfl)) (pss_one (ps_if (PW.pt (pw_or (pt_not (pt_val (pe_callB call_isi (by rfl) T.m_isinstance bi_isinstance (pa_cons (pv 3) (pa_cons (pe_bltn (v := .ty "int") (by rfl) T.m_int bi_int rfl) pa_nil))))) (pw_or1 (pt_val (pe_callB call_isi (by rfl) T.m_isinstance bi_isinstance (pa_cons (pv 3) (pa_cons (pe_bltn (v := .ty "bool") (by rfl) T.m_bool bi_bool rfl) pa_nil))))))) (pss_one (ps_ret pe_bl)) pss_nil))))))
      (pss_one (ps_ret (pe_cmpR (op_eqG hr.units) (pv 0) (pv 1) (nomark _))))))
theorem tm__law_order (T : Txt P K mg) (cdv : Value) (A : Around) (outer : List PySem.Env) (s : Shared) (H : Hp) (E : XK) (hr : Room 0 (A.deeper (PyProof.Rows.envOfC "_law_order" (defScope s__law_order) s.heap.objs.size T.f__law_order cdv))) :
    PSs (cxOf CX0 P w K mg base ["_law_cells", "_law_codes", "_law_due", "_law_k", "_law_cell"] "_law_order" (defScope s__law_order) T.f__law_order cdv A outer s H E).nox (defBody s__law_order) (t__law_order K) := 
      (pss_cons (ps_set (i := 1) sc__law_order.nd rfl (Or.inl rfl) (pe_callB (cr_sortD0 (Nat.lt_of_le_of_lt (Nat.add_le_add_left (Nat.le_of_ble_eq_true rfl : 12 ≤ 64) _) hr.units)) (by rfl) T.m_sorted bi_sorted (pa_cons (pe_lc (own := [("_law_cell", 4)]) (g := (gName 4)) (tt := tYes) (by rfl) sc__law_order.nd (pi_list (pv 0)) (blkOk_by (own := [("_law_cell", 4)]) (N := ["_law_cells", "_law_codes", "_law_due", "_law_k", "_law_cell"]) (sc := defScope s__law_order) (by decide +kernel)) (fun _ _ _ _ _ => (pg_name (i := 4) sc__law_order.nd rfl (Or.inl rfl))) (fun _ _ _ _ _ => pts_nil) (fun _ _ _ _ _ => (pe_callTy call_int1 (by rfl) T.m_int bi_int (pa_cons (pe_op op_addG (pe_op op_addG (pe_op op_mulG (pe_ix ix_seq (pv 4) pe_int (fun _ _ => rfl)) pe_int) (pe_ix ix_seq (pv 4) pe_int (fun _ _ => rfl))) pe_int) pa_nil)))) pa_nil)))
      (pss_cons (ps_set (i := 2) sc__law_order.nd rfl (Or.inl rfl) (pe_lst pa_nil))
      (pss_cons (ps_for PassesOwn.never rfl (pi_range1 (by rfl) T.m_range (pa_cons (pe_callB call_len (by rfl) T.m_len bi_len (pa_cons (pv 1) pa_nil)) pa_nil)) (pg_name (i := 3) sc__law_order.nd rfl (Or.inl rfl)) (pss_one (ps_if (PW.pt (pw_or (pt_cmpR (op_eqG hr.units) (pv 3) pe_int (nomark _)) (pw_or1 (pt_cmpR (op_neG hr.units) (pe_ix ix_seq (pv 1) (pv 3) (fun _ _ => rfl)) (pe_ix ix_seq (pv 1) (pe_op op_sub (pv 3) pe_int) (fun _ _ => rfl)) (nomark _))))) (pss_one (ps_expr (pe_bm PySem.F.plainAttrs_list PySem.F.slot_list_append PySem.F.type_list_append mt_append (pv 2) (pa_cons (pe_tup (pa_cons (pe_op op_sub (pe_op op_mod (pe_callTy call_int1 (by rfl) T.m_int bi_int (pa_cons (pe_ix ix_seq (pv 1) (pv 3) (fun _ _ => rfl)) pa_nil)) pe_int) pe_int) (pa_cons (pe_op op_fdivW (pe_ix ix_seq (pv 1) (pv 3) (fun _ _ => rfl)) pe_int) pa_nil))) pa_nil)))) pss_nil)))
      (pss_one (ps_ret (pv 2))))))
theorem tm__law_walk {ap__law_sign : AP} (T : Txt P K mg) (G__law_sign : FnOk P w K mg base CX0 1 T.f__law_sign T.fd__law_sign ["_law_number"] (toSp K ap__law_sign)) (cdv : Value) (A : Around) (outer : List PySem.Env) (s : Shared) (H : Hp) (E : XK) (hr : Room 1 (A.deeper (PyProof.Rows.envOfC "_law_walk" (defScope s__law_walk) s.heap.objs.size T.f__law_walk cdv))) :
    PSs (cxOf CX0 P w K mg base ["_law_outline", "_law_sides_here", "_law_walked", "_law_x", "_law_y", "_law_steps", "_law_stroke", "_law_dx", "_law_dy", "_law_k", "_law_side"] "_law_walk" (defScope s__law_walk) T.f__law_walk cdv A outer s H E).nox (defBody s__law_walk) (t__law_walk K w ap__law_sign) := 
      (pss_cons (ps_set (i := 3) sc__law_walk.nd rfl (Or.inl rfl) (pe_ix ix_seq (pv 0) pe_int (fun _ _ => rfl)))
      (pss_cons (ps_set (i := 4) sc__law_walk.nd rfl (Or.inl rfl) (pe_ix ix_seq (pv 0) pe_int (fun _ _ => rfl)))
      (pss_cons (ps_set (i := 5) sc__law_walk.nd rfl (Or.inl rfl) (pe_lst pa_nil))
      (pss_cons (ps_for PassesOwn.never rfl (pi_tup (pe_ix ix_seq (pv 0) pe_int (fun _ _ => rfl))) (pg_name (i := 6) sc__law_walk.nd rfl (Or.inl rfl)) (pss_cons (ps_set (i := 7) sc__law_walk.nd rfl (Or.inl rfl) (pe_call G__law_sign (hr.mono (by decide)) (by rfl) T.g__law_sign T.F__law_sign.kp T.b__law_sign .nil pass0 (pa_cons (pe_ix ix_seq (pv 6) pe_int (fun _ _ => rfl)) pa_nil)))
      (pss_cons (ps_set (i := 8) sc__law_walk.nd rfl (Or.inl rfl) (pe_call G__law_sign (hr.mono (by decide)) (by rfl) T.g__law_sign T.F__law_sign.kp T.b__law_sign .nil pass0 (pa_cons (pe_ix ix_seq (pv 6) pe_int (fun _ _ => rfl)) pa_nil)))
      (pss_one (ps_for PassesOwn.never rfl (pi_range1 (by rfl) T.m_range (pa_cons (pe_op op_addG (pe_callB call_abs (by rfl) T.m_abs bi_abs (pa_cons (pe_ix ix_seq (pv 6) pe_int (fun _ _ => rfl)) pa_nil)) (pe_callB call_abs (by rfl) T.m_abs bi_abs (pa_cons (pe_ix ix_seq (pv 6) pe_int (fun _ _ => rfl)) pa_nil))) pa_nil)) (pg_name (i := 9) sc__law_walk.nd rfl (Or.inl rfl)) (pss_cons (ps_set (i := 10) sc__law_walk.nd rfl (Or.inl rfl) (pe_tup (pa_cons (pv 3) (pa_cons (pv 4) (pa_cons (pv 7) (pa_cons (pv 8) pa_nil))))))
      (pss_cons (ps_if (PW.pt (pw_or (pt_cmp (pc_nnotin rfl rfl (Nat.lt_of_le_of_lt (Nat.add_le_add_left (Nat.le_of_ble_eq_true rfl : 9 ≤ 64) _) hr.units) (pv 10) (pv 1))) (pw_or1 (pt_cmp (pc_nin rfl rfl (Nat.lt_of_le_of_lt (Nat.add_le_add_left (Nat.le_of_ble_eq_true rfl : 9 ≤ 64) _) hr.units) (pv 10) (pv 2)))))) (pss_one (ps_ret (pe_lst pa_nil))) pss_nil)
      (pss_cons (ps_nput rfl rfl (Nat.lt_of_le_of_lt (Nat.add_le_add_left (Nat.le_of_ble_eq_true rfl : 9 ≤ 64) _) hr.units) (pv 2) (pv 10) pe_bl rfl)
      (pss_cons (ps_expr (pe_bm PySem.F.plainAttrs_list PySem.F.slot_list_append PySem.F.type_list_append mt_append (pv 5) (pa_cons (pv 10) pa_nil)))
      (pss_cons (ps_set (i := 3) sc__law_walk.nd rfl (Or.inl rfl) (pe_op op_addG (pv 3) (pv 7)))
      (pss_one (ps_set (i := 4) sc__law_walk.nd rfl (Or.inl rfl) (pe_op op_addG (pv 4) (pv 8))))))))))))))
      (pss_cons (ps_if (PW.pt (pw_or (pt_cmpR (op_neG hr.units) (pv 3) (pe_ix ix_seq (pv 0) pe_int (fun _ _ => rfl)) (nomark _)) (pw_or1 (pt_cmpR (op_neG hr.units) (pv 4) (pe_ix ix_seq (pv 0) pe_int (fun _ _ => rfl)) (nomark _))))) (pss_one (ps_ret (pe_lst pa_nil))) pss_nil)
      (pss_one (ps_ret (pv 5))))))))
theorem tm__law_ring_right {ap__law_sign : AP} (T : Txt P K mg) (G__law_sign : FnOk P w K mg base CX0 1 T.f__law_sign T.fd__law_sign ["_law_number"] (toSp K ap__law_sign)) (cdv : Value) (A : Around) (outer : List PySem.Env) (s : Shared) (H : Hp) (E : XK) (hr : Room 1 (A.deeper (PyProof.Rows.envOfC "_law_ring_right" (defScope s__law_ring_right) s.heap.objs.size T.f__law_ring_right cdv))) :
    PSs (cxOf CX0 P w K mg base ["_law_outline", "_law_steps", "_law_begun", "_law_before", "_law_step", "_law_turned", "_law_lines", "_law_k", "_law_way"] "_law_ring_right" (defScope s__law_ring_right) T.f__law_ring_right cdv A outer s H E).nox (defBody s__law_ring_right) (t__law_ring_right K w ap__law_sign) := 
      (pss_cons (ps_set (i := 3) sc__law_ring_right.nd rfl (Or.inl rfl) (pe_ix ix_seq (pv 1) (pe_un un_neg pe_int) (fun _ _ => rfl)))
      (pss_cons (ps_for PassesOwn.never rfl (pi_list (pv 1)) (pg_name (i := 4) sc__law_ring_right.nd rfl (Or.inl rfl)) (pss_cons (ps_if (PW.pt (pw_or (pt_cmpR (op_ltG hr.units0) (pe_ix ix_seq (pv 4) pe_int (fun _ _ => rfl)) (pe_ix ix_seq (pv 0) pe_int (fun _ _ => rfl)) (nomark _)) (pw_or1 (PW.pt (pw_and (pt_cmpR (op_eqG hr.units) (pe_ix ix_seq (pv 4) pe_int (fun _ _ => rfl)) (pe_ix ix_seq (pv 0) pe_int (fun _ _ => rfl)) (nomark _)) (pw_and1 (pt_cmpR (op_ltG hr.units0) (pe_ix ix_seq (pv 4) pe_int (fun _ _ => rfl)) (pe_ix ix_seq (pv 0) pe_int (fun _ _ => rfl)) (nomark _)))))))) (pss_one (ps_ret pe_bl)) pss_nil)
      (pss_cons (ps_set (i := 5) sc__law_ring_right.nd rfl (Or.inl rfl) (pe_and (pe_cmpR (op_eqG hr.units) (pe_ix ix_seq (pv 4) pe_int (fun _ _ => rfl)) (pe_un un_neg (pe_ix ix_seq (pv 3) pe_int (fun _ _ => rfl))) (nomark _)) (pe_one (pe_cmpR (op_eqG hr.units) (pe_ix ix_seq (pv 4) pe_int (fun _ _ => rfl)) (pe_ix ix_seq (pv 3) pe_int (fun _ _ => rfl)) (nomark _)))))
      (pss_cons (ps_if (PW.pt (pw_and (pt_cmpR op_gt (pe_nget rfl rfl (Nat.lt_of_le_of_lt (Nat.add_le_add_left (Nat.le_of_ble_eq_true rfl : 9 ≤ 64) _) hr.units) (pv 2) (pe_tup (pa_cons (pe_ix ix_seq (pv 4) pe_int (fun _ _ => rfl)) (pa_cons (pe_ix ix_seq (pv 4) pe_int (fun _ _ => rfl)) pa_nil))) (fun _ _ => rfl)) pe_int (nomark _)) (pw_and1 (pt_not (pt_val (pv 5)))))) (pss_one (ps_ret pe_bl)) pss_nil)
      (pss_one (ps_set (i := 3) sc__law_ring_right.nd rfl (Or.inl rfl) (pv 4)))))))
      (pss_cons (ps_set (i := 6) sc__law_ring_right.nd rfl (Or.inl rfl) (pe_ix ix_seq (pv 0) pe_int (fun _ _ => rfl)))
      (pss_cons (ps_for PassesOwn.never rfl (pi_range1 (by rfl) T.m_range (pa_cons (pe_callB call_len (by rfl) T.m_len bi_len (pa_cons (pv 6) pa_nil)) pa_nil)) (pg_name (i := 7) sc__law_ring_right.nd rfl (Or.inl rfl)) (pss_cons (ps_set (i := 8) sc__law_ring_right.nd rfl (Or.inl rfl) (pe_tup (pa_cons (pe_call G__law_sign (hr.mono (by decide)) (by rfl) T.g__law_sign T.F__law_sign.kp T.b__law_sign .nil pass0 (pa_cons (pe_ix ix_seq (pe_ix ix_seq (pv 6) (pv 7) (fun _ _ => rfl)) pe_int (fun _ _ => rfl)) pa_nil)) (pa_cons (pe_call G__law_sign (hr.mono (by decide)) (by rfl) T.g__law_sign T.F__law_sign.kp T.b__law_sign .nil pass0 (pa_cons (pe_ix ix_seq (pe_ix ix_seq (pv 6) (pv 7) (fun _ _ => rfl)) pe_int (fun _ _ => rfl)) pa_nil)) pa_nil))))
      (pss_one (ps_if (pt_cmpR (op_eqG hr.units) (pv 8) (pe_tup (pa_cons (pe_call G__law_sign (hr.mono (by decide)) (by rfl) T.g__law_sign T.F__law_sign.kp T.b__law_sign .nil pass0 (pa_cons (pe_ix ix_seq (pe_ix ix_seq (pv 6) (pe_op op_sub (pv 7) pe_int) (fun _ _ => rfl)) pe_int (fun _ _ => rfl)) pa_nil)) (pa_cons (pe_call G__law_sign (hr.mono (by decide)) (by rfl) T.g__law_sign T.F__law_sign.kp T.b__law_sign .nil pass0 (pa_cons (pe_ix ix_seq (pe_ix ix_seq (pv 6) (pe_op op_sub (pv 7) pe_int) (fun _ _ => rfl)) pe_int (fun _ _ => rfl)) pa_nil)) pa_nil))) (nomark _)) (pss_one (ps_ret pe_bl)) pss_nil))))
      (pss_one (ps_ret pe_bl))))))
theorem tm__law_outlines_right {ap__law_formed : AP} {ap__law_walk : AP} {ap__law_ring_right : AP} (T : Txt P K mg) (G__law_formed : FnOk P w K mg base CX0 2 T.f__law_formed T.fd__law_formed ["_law_outline", "_law_most"] (toSp K ap__law_formed)) (G__law_walk : FnOk P w K mg base CX0 2 T.f__law_walk T.fd__law_walk ["_law_outline", "_law_sides_here", "_law_walked"] (toSp K ap__law_walk)) (G__law_ring_right : FnOk P w K mg base CX0 2 T.f__law_ring_right T.fd__law_ring_right ["_law_outline", "_law_steps", "_law_begun"] (toSp K ap__law_ring_right)) (cdv : Value) (A : Around) (outer : List PySem.Env) (s : Shared) (H : Hp) (E : XK) (hr : Room 2 (A.deeper (PyProof.Rows.envOfC "_law_outlines_right" (defScope s__law_outlines_right) s.heap.objs.size T.f__law_outlines_right cdv))) :
    PSs (cxOf CX0 P w K mg base ["_law_told_here", "_law_sides_here", "_law_begun", "_law_side", "_law_walked", "_law_before", "_law_outline", "_law_steps"] "_law_outlines_right" (defScope s__law_outlines_right) T.f__law_outlines_right cdv A outer s H E).nox (defBody s__law_outlines_right) (t__law_outlines_right K w ap__law_formed ap__law_walk ap__law_ring_right) := 
      (pss_cons (ps_set (i := 2) sc__law_outlines_right.nd rfl (Or.inl rfl) (pe_nnew rfl))
      (pss_cons (ps_for PassesOwn.never rfl (pi_list (pe_callTy (call_list_dN rfl) (by rfl) T.m_list bi_list (pa_cons (pv 1) pa_nil))) (pg_name (i := 3) sc__law_outlines_right.nd rfl (Or.inl rfl)) (pss_one (ps_nput rfl rfl (Nat.lt_of_le_of_lt (Nat.add_le_add_left (Nat.le_of_ble_eq_true rfl : 9 ≤ 64) _) hr.units) (pv 2) (pe_tup (pa_cons (pe_ix ix_seq (pv 3) pe_int (fun _ _ => rfl)) (pa_cons (pe_ix ix_seq (pv 3) pe_int (fun _ _ => rfl)) pa_nil))) (pe_op op_addG (pe_nget2 rfl rfl (Nat.lt_of_le_of_lt (Nat.add_le_add_left (Nat.le_of_ble_eq_true rfl : 9 ≤ 64) _) hr.units) (pv 2) (pe_tup (pa_cons (pe_ix ix_seq (pv 3) pe_int (fun _ _ => rfl)) (pa_cons (pe_ix ix_seq (pv 3) pe_int (fun _ _ => rfl)) pa_nil))) pe_int ⟨rfl, rfl, rfl, rfl⟩) pe_int) rfl)))
      (pss_cons (ps_set (i := 4) sc__law_outlines_right.nd rfl (Or.inl rfl) (pe_nnew rfl))
      (pss_cons (ps_set (i := 5) sc__law_outlines_right.nd rfl (Or.inl rfl) pe_non)
      (pss_cons (ps_if (pt_not (pt_val (pe_callB call_isi (by rfl) T.m_isinstance bi_isinstance (pa_cons (pv 0) (pa_cons (pe_bltn (v := .ty "tuple") (by rfl) T.m_tuple bi_tuple rfl) pa_nil))))) (pss_one (ps_ret pe_bl)) pss_nil)
      (pss_cons (ps_for PassesOwn.never rfl (pi_tup (pv 0)) (pg_name (i := 6) sc__law_outlines_right.nd rfl (Or.inl rfl)) (pss_cons (ps_if (pt_not (pt_val (pe_call G__law_formed (hr.mono (by decide)) (by rfl) T.g__law_formed T.F__law_formed.kp T.b__law_formed .nil pass0 (pa_cons (pv 6) (pa_cons (pe_callB (call_len_dN rfl rfl) (by rfl) T.m_len bi_len (pa_cons (pv 1) pa_nil)) pa_nil))))) (pss_one (ps_ret pe_bl)) pss_nil)
      (pss_cons (ps_set (i := 7) sc__law_outlines_right.nd rfl (Or.inl rfl) (pe_call G__law_walk (hr.mono (by decide)) (by rfl) T.g__law_walk T.F__law_walk.kp T.b__law_walk .nil pass0 (pa_cons (pv 6) (pa_cons (pv 1) (pa_cons (pv 4) pa_nil)))))
      (pss_cons (ps_if (PW.pt (pw_or (pt_cmpR (op_eqG hr.units) (pe_callB call_len (by rfl) T.m_len bi_len (pa_cons (pv 7) pa_nil)) pe_int (nomark _)) (pw_or1 (pt_not (pt_val (pe_call G__law_ring_right (hr.mono (by decide)) (by rfl) T.g__law_ring_right T.F__law_ring_right.kp T.b__law_ring_right .nil pass0 (pa_cons (pv 6) (pa_cons (pv 7) (pa_cons (pv 2) pa_nil))))))))) (pss_one (ps_ret pe_bl)) pss_nil)
      (pss_cons (ps_if (PW.pt (pw_and (pt_cmp (pc_notN (pv 5))) (pw_and1 (pt_cmpR (op_leD (Nat.lt_of_le_of_lt (Nat.add_le_add_left (Nat.le_of_ble_eq_true rfl : 12 ≤ 64) _) hr.units)) (pe_tup (pa_cons (pe_ix ix_seq (pv 6) pe_int (fun _ _ => rfl)) (pa_cons (pe_ix ix_seq (pv 6) pe_int (fun _ _ => rfl)) pa_nil))) (pv 5) (nomark _))))) (pss_one (ps_ret pe_bl)) pss_nil)
      (pss_one (ps_set (i := 5) sc__law_outlines_right.nd rfl (Or.inl rfl) (pe_tup (pa_cons (pe_ix ix_seq (pv 6) pe_int (fun _ _ => rfl)) (pa_cons (pe_ix ix_seq (pv 6) pe_int (fun _ _ => rfl)) pa_nil))))))))))
      (pss_one (ps_ret (pe_cmpR (op_eqG hr.units) (pe_callB (call_len_dN rfl rfl) (by rfl) T.m_len bi_len (pa_cons (pv 4) pa_nil)) (pe_callB (call_len_dN rfl rfl) (by rfl) T.m_len bi_len (pa_cons (pv 1) pa_nil)) (nomark _))))))))))
theorem tm_law {ap__law_take : AP} {ap__law_pool : AP} {ap__law_plate : AP} {ap__law_order : AP} {ap__law_sides : AP} {ai_Ink : AIP} {ap_outlines_of : AP} {ap__law_outlines_right : AP} {ap_ink_of : APX} {ap__law_told : AP} {ap_Ink_cells : AP} (T : Txt P K mg) (G__law_take : FnOk P w K mg base CX0 1 T.f__law_take T.fd__law_take ["_law_pool_here", "_law_many"] (toSp K ap__law_take)) (G__law_pool : FnOk P w K mg base CX0 1 T.f__law_pool T.fd__law_pool ["_law_script", "_law_at"] (toSp K ap__law_pool)) (G__law_plate : FnOk P w K mg base CX0 2 T.f__law_plate T.fd__law_plate ["_law_pool_here"] (toSp K ap__law_plate)) (G__law_order : FnOk P w K mg base CX0 1 T.f__law_order T.fd__law_order ["_law_cells"] (toSp K ap__law_order)) (G__law_sides : FnOk P w K mg base CX0 1 T.f__law_sides T.fd__law_sides ["_law_known"] (toSp K ap__law_sides)) (G_Ink___init__ : FnOk P w K mg base CX0 1 T.f_Ink___init__ T.fd_Ink___init__ ["self", "cells"] (toSpIP K T.c_Ink ai_Ink)) (G_outlines_of : FnOk P w K mg base CX0 4 T.f_outlines_of T.fd_outlines_of ["ink"] (toSp K ap_outlines_of)) (G__law_outlines_right : FnOk P w K mg base CX0 3 T.f__law_outlines_right T.fd__law_outlines_right ["_law_told_here", "_law_sides_here"] (toSp K ap__law_outlines_right)) (G_ink_of : FnOk P w K mg base (L2.CX P w) 6 T.f_ink_of T.fd_ink_of ["outlines"] (toSpX K ap_ink_of)) (G__law_told : FnOk P w K mg base CX0 1 T.f__law_told T.fd__law_told ["_law_told_here", "_law_due"] (toSp K ap__law_told)) (G_Ink_cells : FnOk P w K mg base CX0 1 T.f_Ink_cells T.fd_Ink_cells ["self"] (toSp K ap_Ink_cells)) (cdv : Value) (A : Around) (outer : List PySem.Env) (s : Shared) (H : Hp) (E : XK) (hr : Room 6 (A.deeper (PyProof.Rows.envOfC "law" (defScope s_law) s.heap.objs.size T.f_law cdv))) :
    PSs (cxOf CX0 P w K mg base ["_law_script", "_law_pattern", "_law_here", "_law_cell", "_law_low", "_law_due", "_law_known", "_law_sides_here", "_law_ink", "_law_told_here", "_law_back", "_law_again"] "law" (defScope s_law) T.f_law cdv A outer s H E).nox (defBody s_law) (t_law K w T.c_Ink ap__law_take ap__law_pool ap__law_plate ap__law_order ap__law_sides ai_Ink ap_outlines_of ap__law_outlines_right ap_ink_of ap__law_told ap_Ink_cells) := 
      (pss_cons (ps_set (i := 1) sc_law.nd rfl (Or.inl rfl) (pe_call G__law_take (hr.mono (by decide)) (by rfl) T.g__law_take T.F__law_take.kp T.b__law_take .nil pass0 (pa_cons (pe_call G__law_pool (hr.mono (by decide)) (by rfl) T.g__law_pool T.F__law_pool.kp T.b__law_pool .nil pass0 (pa_cons (pv 0) (pa_cons pe_int pa_nil))) (pa_cons pe_int pa_nil))))
      (pss_cons (ps_set (i := 2) sc_law.nd rfl (Or.inl rfl) (pe_call G__law_plate (hr.mono (by decide)) (by rfl) T.g__law_plate T.F__law_plate.kp T.b__law_plate .nil pass0 (pa_cons (pe_call G__law_pool (hr.mono (by decide)) (by rfl) T.g__law_pool T.F__law_pool.kp T.b__law_pool .nil pass0 (pa_cons (pv 0) (pa_cons pe_int pa_nil))) pa_nil)))
      (pss_cons (ps_if (pt_cmpR (op_eqG hr.units) (pv 1) pe_int (nomark _)) (pss_one (ps_setLc (i := 2) (own := [("_law_cell", 3)]) (g := (gName 3)) (tt := (tTest (tOp (rEqG K) (tOp rModI (tCB rInt1 (tCons (tOp (rAddG K) (tOp (rIx K) (tVar 3) (tC (.int 0))) (tOp (rIx K) (tVar 3) (tC (.int 1)))) tNil)) (tC (.int 2))) (tC (.int 0))))) (by rfl) sc_law.nd rfl rfl (sw_true rfl rfl rfl (by decide +kernel)) (pi_list (pv 2)) (blkOk_by (own := [("_law_cell", 3)]) (N := ["_law_script", "_law_pattern", "_law_here", "_law_cell", "_law_low", "_law_due", "_law_known", "_law_sides_here", "_law_ink", "_law_told_here", "_law_back", "_law_again"]) (sc := defScope s_law) (by decide +kernel)) (fun _ _ _ _ _ => (pg_name (i := 3) sc_law.nd rfl (Or.inl rfl))) (fun _ _ _ _ _ => (pts_one (pt_cmpR (op_eqG hr.units) (pe_op op_mod (pe_callTy call_int1 (by rfl) T.m_int bi_int (pa_cons (pe_op op_addG (pe_ix ix_seq (pv 3) pe_int (fun _ _ => rfl)) (pe_ix ix_seq (pv 3) pe_int (fun _ _ => rfl))) pa_nil)) pe_int) pe_int (nomark _)))) (fun _ _ _ _ _ => (pv 3)))) pss_nil)
      (pss_cons (ps_if (PW.pt (pw_and (pt_cmpR (op_eqG hr.units) (pv 1) pe_int (nomark _)) (pw_and1 (pt_cmpR op_le (pe_callB call_len (by rfl) T.m_len bi_len (pa_cons (pv 2) pa_nil)) pe_int (nomark _))))) (pss_cons (ps_setLc (i := 4) (own := [("_law_cell", 3)]) (g := (gName 3)) (tt := (tAnd (tTest (tOp (rLtG K) (tOp (rIx K) (tVar 3) (tC (.int 0))) (tC (.int 1000)))) (tTest (tOp (rLtG K) (tOp (rIx K) (tVar 3) (tC (.int 1))) (tC (.int 1000)))))) (by rfl) sc_law.nd rfl rfl (sw_true rfl rfl rfl (by decide +kernel)) (pi_list (pv 2)) (blkOk_by (own := [("_law_cell", 3)]) (N := ["_law_script", "_law_pattern", "_law_here", "_law_cell", "_law_low", "_law_due", "_law_known", "_law_sides_here", "_law_ink", "_law_told_here", "_law_back", "_law_again"]) (sc := defScope s_law) (by decide +kernel)) (fun _ _ _ _ _ => (pg_name (i := 3) sc_law.nd rfl (Or.inl rfl))) (fun _ _ _ _ _ => (pts_one (PW.pt (pw_and (pt_cmpR (op_ltG hr.units0) (pe_ix ix_seq (pv 3) pe_int (fun _ _ => rfl)) pe_int (nomark _)) (pw_and1 (pt_cmpR (op_ltG hr.units0) (pe_ix ix_seq (pv 3) pe_int (fun _ _ => rfl)) pe_int (nomark _))))))) (fun _ _ _ _ _ => (pv 3)))
      (pss_one (ps_set (i := 2) sc_law.nd rfl (Or.inl rfl) (pe_op op_addG (pv 2) (pe_lc (own := [("_law_cell", 3)]) (g := (gName 3)) (tt := tYes) (by rfl) sc_law.nd (pi_list (pv 4)) (blkOk_by (own := [("_law_cell", 3)]) (N := ["_law_script", "_law_pattern", "_law_here", "_law_cell", "_law_low", "_law_due", "_law_known", "_law_sides_here", "_law_ink", "_law_told_here", "_law_back", "_law_again"]) (sc := defScope s_law) (by decide +kernel)) (fun _ _ _ _ _ => (pg_name (i := 3) sc_law.nd rfl (Or.inl rfl))) (fun _ _ _ _ _ => pts_nil) (fun _ _ _ _ _ => (pe_tup (pa_cons (pe_op op_addG (pe_ix ix_seq (pv 3) pe_int (fun _ _ => rfl)) pe_int) (pa_cons (pe_op op_addG (pe_ix ix_seq (pv 3) pe_int (fun _ _ => rfl)) pe_int) pa_nil))))))))) pss_nil)
      (pss_cons (ps_set (i := 5) sc_law.nd rfl (Or.inl rfl) (pe_call G__law_order (hr.mono (by decide)) (by rfl) T.g__law_order T.F__law_order.kp T.b__law_order .nil pass0 (pa_cons (pv 2) pa_nil)))
      (pss_cons (ps_set (i := 6) sc_law.nd rfl (Or.inl rfl) (pe_nnew rfl))
      (pss_cons (ps_for PassesOwn.never rfl (pi_list (pv 5)) (pg_name (i := 3) sc_law.nd rfl (Or.inl rfl)) (pss_one (ps_nput rfl rfl (Nat.lt_of_le_of_lt (Nat.add_le_add_left (Nat.le_of_ble_eq_true rfl : 9 ≤ 64) _) hr.units) (pv 6) (pv 3) pe_bl rfl)))
      (pss_cons (ps_set (i := 7) sc_law.nd rfl (Or.inl rfl) (pe_call G__law_sides (hr.mono (by decide)) (by rfl) T.g__law_sides T.F__law_sides.kp T.b__law_sides .nil pass0 (pa_cons (pv 6) pa_nil)))
      (pss_cons (ps_set (i := 8) sc_law.nd rfl (Or.inl rfl) (pe_make T.mk_Ink G_Ink___init__ (hr.mono (by decide)) (by rfl) T.g_Ink T.b_Ink___init__ .nil pass0 (pa_cons (pe_callTy call_list_of (by rfl) T.m_list bi_list (pa_cons (pv 2) pa_nil)) pa_nil)))
      (pss_cons (ps_set (i := 9) sc_law.nd rfl (Or.inl rfl) (pe_call G_outlines_of (hr.mono (by decide)) (by rfl) T.g_outlines_of T.F_outlines_of.kp T.b_outlines_of .nil pass0 (pa_cons (pv 8) pa_nil)))
      (pss_cons (ps_if (pt_not (pt_val (pe_call G__law_outlines_right (hr.mono (by decide)) (by rfl) T.g__law_outlines_right T.F__law_outlines_right.kp T.b__law_outlines_right .nil pass0 (pa_cons (pv 9) (pa_cons (pv 7) pa_nil))))) (pss_one (ps_ret pe_bl)) pss_nil)
      (pss_cons (ps_set (i := 10) sc_law.nd rfl (Or.inl rfl) (pe_call G_ink_of (hr.mono (by decide)) (by rfl) T.g_ink_of T.F_ink_of.kp T.b_ink_of .nil passL0 (pa_cons (pv 9) pa_nil)))
      (pss_cons (ps_if (PW.pt (pw_or (pt_not (pt_val (pe_callB call_isi (by rfl) T.m_isinstance bi_isinstance (pa_cons (pv 10) (pa_cons (pe_glob (v := .ref T.c_Ink) (by rfl) T.g_Ink rfl) pa_nil))))) (pw_or1 (pt_not (pt_val (pe_call G__law_told (hr.mono (by decide)) (by rfl) T.g__law_told T.F__law_told.kp T.b__law_told .nil pass0 (pa_cons (pe_meth0 (pv 10) T.co_Ink.cl T.mt_Ink_cells G_Ink_cells (hr.mono (by decide)) T.b_Ink_cells .nil pass0) (pa_cons (pv 5) pa_nil)))))))) (pss_one (ps_ret pe_bl)) pss_nil)
      (pss_cons (ps_set (i := 11) sc_law.nd rfl (Or.inl rfl) (pe_call G_outlines_of (hr.mono (by decide)) (by rfl) T.g_outlines_of T.F_outlines_of.kp T.b_outlines_of .nil pass0 (pa_cons (pv 10) pa_nil)))
      (pss_cons (ps_if (PW.pt (pw_or (pt_not (pt_val (pe_call G__law_outlines_right (hr.mono (by decide)) (by rfl) T.g__law_outlines_right T.F__law_outlines_right.kp T.b__law_outlines_right .nil pass0 (pa_cons (pv 11) (pa_cons (pv 7) pa_nil))))) (pw_or1 (pt_cmpR (op_neG hr.units) (pv 11) (pv 9) (nomark _))))) (pss_one (ps_ret pe_bl)) pss_nil)
      (pss_one (ps_ret (pe_call G__law_told (hr.mono (by decide)) (by rfl) T.g__law_told T.F__law_told.kp T.b__law_told .nil pass0 (pa_cons (pe_meth0 (pv 8) T.co_Ink.cl T.mt_Ink_cells G_Ink_cells (hr.mono (by decide)) T.b_Ink_cells .nil pass0) (pa_cons (pv 5) pa_nil))))))))))))))))))))
end
theorem beE_OpenOutline {K : PySem.W.Frag} {cc cda : Addr} {kV dc pm ct : Value} {an : Option Addr} : Binds K (PySem.W.fnX "__init__" "OpenOutline.__init__" (defArgs s_OpenOutline___init__) (defBody s_OpenOutline___init__) (defScope s_OpenOutline___init__) [("__class__", cc)] .none kV dc pm an (.ref cda) ct) ["self", "place"] [] :=
  Binds.all fun us hl => match us, hl with | [_, _], _ => rfl
theorem txt_mk {P : Program} {K : PySem.W.Frag} {h : Heap} {mg : Str → Option Value} (X : K.In h) (G : h.Ns mainGlobals mg)
    {c_Ink : Addr} (aInk : PySem.W.nsIn K mainGlobals "Ink" = some (some (.ref c_Ink)))
    (pgInk : PySem.W.plainGet K c_Ink Str.empty = true) (hdInk : PySem.W.hasDictIn K c_Ink = true) (poInk : PySem.W.plainOver K c_Ink = true) (saInk : PySem.W.findIn K (.ref c_Ink) "__setattr__" = some (some (.builtin "object.__setattr__"))) (mkInk : PySem.W.makesIn K c_Ink = true) (kcInk : PySem.W.keepIn K (.ref c_Ink) = true)
    (haInk : PySem.W.findIn K (.ref c_Ink) "__class__" = some (some (.builtin "object.__class__"))) (hmInk : PySem.W.mroIn K c_Ink (.type "object") = some true)
    (naInk_cell_list : PySem.W.findIn K (.ref c_Ink) "cell_list" = some none)
    (naInk_known_cells : PySem.W.findIn K (.ref c_Ink) "known_cells" = some none)
    (naInk_left_ends : PySem.W.findIn K (.ref c_Ink) "left_ends" = some none)
    (naInk_right_ends : PySem.W.findIn K (.ref c_Ink) "right_ends" = some none)
    (hnO : PySem.W.specialIn K (.builtin "object.__class__") "__get__" = some (some (.builtin "getset_descriptor.__get__"))) (htO : PySem.W.takesIn K (.builtin "object.__class__") = some true)
    {f0 : Addr} {od0 an0 : Option Addr} {sl0 : Array (Option Value)} {oc0 kV0 dc0 pm0 cd0 ct0 : Value}
    (a0 : PySem.W.nsIn K mainGlobals "cell_sides" = some (some (.ref f0))) (l0 : K.lookup f0 = some ⟨oc0, od0, .func (PySem.W.fnOf "cell_sides" "cell_sides" (defArgs s_cell_sides) (defBody s_cell_sides) (defScope s_cell_sides) .none kV0 dc0 pm0 an0 cd0 ct0), sl0⟩) (c0 : PySem.W.codeIn K cd0 "cell_sides" = true) (k0 : PySem.W.keepIn K (.ref f0) = true)
    {f1 : Addr} {od1 an1 : Option Addr} {sl1 : Array (Option Value)} {oc1 kV1 dc1 pm1 cd1 ct1 : Value}
    (a1 : PySem.W.nsIn K mainGlobals "border_moves" = some (some (.ref f1))) (l1 : K.lookup f1 = some ⟨oc1, od1, .func (PySem.W.fnOf "border_moves" "border_moves" (defArgs s_border_moves) (defBody s_border_moves) (defScope s_border_moves) .none kV1 dc1 pm1 an1 cd1 ct1), sl1⟩) (c1 : PySem.W.codeIn K cd1 "border_moves" = true) (k1 : PySem.W.keepIn K (.ref f1) = true)
    {f2 : Addr} {od2 an2 : Option Addr} {sl2 : Array (Option Value)} {oc2 kV2 dc2 pm2 cd2 ct2 : Value}
    (a2 : PySem.W.nsIn K mainGlobals "next_move" = some (some (.ref f2))) (l2 : K.lookup f2 = some ⟨oc2, od2, .func (PySem.W.fnOf "next_move" "next_move" (defArgs s_next_move) (defBody s_next_move) (defScope s_next_move) .none kV2 dc2 pm2 an2 cd2 ct2), sl2⟩) (c2 : PySem.W.codeIn K cd2 "next_move" = true) (k2 : PySem.W.keepIn K (.ref f2) = true)
    {f3 : Addr} {od3 an3 : Option Addr} {sl3 : Array (Option Value)} {oc3 kV3 dc3 pm3 cd3 ct3 : Value}
    (a3 : PySem.W.nsIn K mainGlobals "ring_moves" = some (some (.ref f3))) (l3 : K.lookup f3 = some ⟨oc3, od3, .func (PySem.W.fnOf "ring_moves" "ring_moves" (defArgs s_ring_moves) (defBody s_ring_moves) (defScope s_ring_moves) .none kV3 dc3 pm3 an3 cd3 ct3), sl3⟩) (c3 : PySem.W.codeIn K cd3 "ring_moves" = true) (k3 : PySem.W.keepIn K (.ref f3) = true)
    {f4 : Addr} {od4 an4 : Option Addr} {sl4 : Array (Option Value)} {oc4 kV4 dc4 pm4 cd4 ct4 : Value}
    (a4 : PySem.W.nsIn K mainGlobals "ring_strokes" = some (some (.ref f4))) (l4 : K.lookup f4 = some ⟨oc4, od4, .func (PySem.W.fnOf "ring_strokes" "ring_strokes" (defArgs s_ring_strokes) (defBody s_ring_strokes) (defScope s_ring_strokes) .none kV4 dc4 pm4 an4 cd4 ct4), sl4⟩) (c4 : PySem.W.codeIn K cd4 "ring_strokes" = true) (k4 : PySem.W.keepIn K (.ref f4) = true)
    {f5 : Addr} {od5 an5 : Option Addr} {sl5 : Array (Option Value)} {oc5 kV5 dc5 pm5 cd5 ct5 : Value}
    (a5 : PySem.W.nsIn K mainGlobals "outlines_of" = some (some (.ref f5))) (l5 : K.lookup f5 = some ⟨oc5, od5, .func (PySem.W.fnOf "outlines_of" "outlines_of" (defArgs s_outlines_of) (defBody s_outlines_of) (defScope s_outlines_of) .none kV5 dc5 pm5 an5 cd5 ct5), sl5⟩) (c5 : PySem.W.codeIn K cd5 "outlines_of" = true) (k5 : PySem.W.keepIn K (.ref f5) = true)
    {f6 : Addr} {od6 an6 : Option Addr} {sl6 : Array (Option Value)} {oc6 kV6 dc6 pm6 cd6 ct6 : Value}
    (a6 : PySem.W.nsIn K mainGlobals "sign" = some (some (.ref f6))) (l6 : K.lookup f6 = some ⟨oc6, od6, .func (PySem.W.fnOf "sign" "sign" (defArgs s_sign) (defBody s_sign) (defScope s_sign) .none kV6 dc6 pm6 an6 cd6 ct6), sl6⟩) (c6 : PySem.W.codeIn K cd6 "sign" = true) (k6 : PySem.W.keepIn K (.ref f6) = true)
    {f7 : Addr} {od7 an7 : Option Addr} {sl7 : Array (Option Value)} {oc7 kV7 dc7 pm7 cd7 ct7 : Value}
    (a7 : PySem.W.nsIn K mainGlobals "line_steps" = some (some (.ref f7))) (l7 : K.lookup f7 = some ⟨oc7, od7, .func (PySem.W.fnOf "line_steps" "line_steps" (defArgs s_line_steps) (defBody s_line_steps) (defScope s_line_steps) .none kV7 dc7 pm7 an7 cd7 ct7), sl7⟩) (c7 : PySem.W.codeIn K cd7 "line_steps" = true) (k7 : PySem.W.keepIn K (.ref f7) = true)
    {f8 : Addr} {od8 an8 : Option Addr} {sl8 : Array (Option Value)} {oc8 kV8 dc8 pm8 cd8 ct8 : Value}
    (a8 : PySem.W.nsIn K mainGlobals "takes_first_move" = some (some (.ref f8))) (l8 : K.lookup f8 = some ⟨oc8, od8, .func (PySem.W.fnOf "takes_first_move" "takes_first_move" (defArgs s_takes_first_move) (defBody s_takes_first_move) (defScope s_takes_first_move) .none kV8 dc8 pm8 an8 cd8 ct8), sl8⟩) (c8 : PySem.W.codeIn K cd8 "takes_first_move" = true) (k8 : PySem.W.keepIn K (.ref f8) = true)
    {f9 : Addr} {od9 an9 : Option Addr} {sl9 : Array (Option Value)} {oc9 kV9 dc9 pm9 cd9 ct9 : Value}
    (a9 : PySem.W.nsIn K mainGlobals "arc_steps" = some (some (.ref f9))) (l9 : K.lookup f9 = some ⟨oc9, od9, .func (PySem.W.fnOf "arc_steps" "arc_steps" (defArgs s_arc_steps) (defBody s_arc_steps) (defScope s_arc_steps) .none kV9 dc9 pm9 an9 cd9 ct9), sl9⟩) (c9 : PySem.W.codeIn K cd9 "arc_steps" = true) (k9 : PySem.W.keepIn K (.ref f9) = true)
    {f10 : Addr} {od10 an10 : Option Addr} {sl10 : Array (Option Value)} {oc10 kV10 dc10 pm10 cd10 ct10 : Value}
    (a10 : PySem.W.nsIn K mainGlobals "unit_steps" = some (some (.ref f10))) (l10 : K.lookup f10 = some ⟨oc10, od10, .func (PySem.W.fnOf "unit_steps" "unit_steps" (defArgs s_unit_steps) (defBody s_unit_steps) (defScope s_unit_steps) .none kV10 dc10 pm10 an10 cd10 ct10), sl10⟩) (c10 : PySem.W.codeIn K cd10 "unit_steps" = true) (k10 : PySem.W.keepIn K (.ref f10) = true)
    {f11 : Addr} {od11 an11 : Option Addr} {sl11 : Array (Option Value)} {oc11 kV11 dc11 pm11 cd11 ct11 : Value}
    (a11 : PySem.W.nsIn K mainGlobals "corners" = some (some (.ref f11))) (l11 : K.lookup f11 = some ⟨oc11, od11, .func (PySem.W.fnOf "corners" "corners" (defArgs s_corners) (defBody s_corners) (defScope s_corners) .none kV11 dc11 pm11 an11 cd11 ct11), sl11⟩) (c11 : PySem.W.codeIn K cd11 "corners" = true) (k11 : PySem.W.keepIn K (.ref f11) = true)
    {f12 : Addr} {od12 an12 : Option Addr} {sl12 : Array (Option Value)} {oc12 kV12 dc12 pm12 cd12 ct12 : Value}
    (a12 : PySem.W.findIn K (.ref c_Ink) "__init__" = some (some (.ref f12))) (l12 : K.lookup f12 = some ⟨oc12, od12, .func (PySem.W.fnOf "__init__" "Ink.__init__" (defArgs s_Ink___init__) (defBody s_Ink___init__) (defScope s_Ink___init__) .none kV12 dc12 pm12 an12 cd12 ct12), sl12⟩) (c12 : PySem.W.codeIn K cd12 "Ink.__init__" = true) (k12 : PySem.W.keepIn K (.ref f12) = true)
    (i12 : PySem.W.isFn K (.ref f12) = true)
    {f13 : Addr} {od13 an13 : Option Addr} {sl13 : Array (Option Value)} {oc13 kV13 dc13 pm13 cd13 ct13 : Value}
    (a13 : PySem.W.findIn K (.ref c_Ink) "cells" = some (some (.ref f13))) (l13 : K.lookup f13 = some ⟨oc13, od13, .func (PySem.W.fnOf "cells" "Ink.cells" (defArgs s_Ink_cells) (defBody s_Ink_cells) (defScope s_Ink_cells) .none kV13 dc13 pm13 an13 cd13 ct13), sl13⟩) (c13 : PySem.W.codeIn K cd13 "Ink.cells" = true) (k13 : PySem.W.keepIn K (.ref f13) = true)
    (i13 : PySem.W.isFn K (.ref f13) = true)
    {f14 : Addr} {od14 an14 : Option Addr} {sl14 : Array (Option Value)} {oc14 kV14 dc14 pm14 cd14 ct14 : Value}
    (a14 : PySem.W.findIn K (.ref c_Ink) "__contains__" = some (some (.ref f14))) (l14 : K.lookup f14 = some ⟨oc14, od14, .func (PySem.W.fnOf "__contains__" "Ink.__contains__" (defArgs s_Ink___contains__) (defBody s_Ink___contains__) (defScope s_Ink___contains__) .none kV14 dc14 pm14 an14 cd14 ct14), sl14⟩) (c14 : PySem.W.codeIn K cd14 "Ink.__contains__" = true) (k14 : PySem.W.keepIn K (.ref f14) = true)
    (i14 : PySem.W.isFn K (.ref f14) = true)
    {f15 : Addr} {od15 an15 : Option Addr} {sl15 : Array (Option Value)} {oc15 kV15 dc15 pm15 cd15 ct15 : Value}
    (a15 : PySem.W.nsIn K mainGlobals "crossings_of" = some (some (.ref f15))) (l15 : K.lookup f15 = some ⟨oc15, od15, .func (PySem.W.fnOf "crossings_of" "crossings_of" (defArgs s_crossings_of) (defBody s_crossings_of) (defScope s_crossings_of) .none kV15 dc15 pm15 an15 cd15 ct15), sl15⟩) (c15 : PySem.W.codeIn K cd15 "crossings_of" = true) (k15 : PySem.W.keepIn K (.ref f15) = true)
    {f16 : Addr} {od16 an16 : Option Addr} {sl16 : Array (Option Value)} {oc16 kV16 dc16 pm16 cd16 ct16 : Value}
    (a16 : PySem.W.nsIn K mainGlobals "ink_of" = some (some (.ref f16))) (l16 : K.lookup f16 = some ⟨oc16, od16, .func (PySem.W.fnOf "ink_of" "ink_of" (defArgs s_ink_of) (defBody s_ink_of) (defScope s_ink_of) .none kV16 dc16 pm16 an16 cd16 ct16), sl16⟩) (c16 : PySem.W.codeIn K cd16 "ink_of" = true) (k16 : PySem.W.keepIn K (.ref f16) = true)
    {f17 : Addr} {od17 an17 : Option Addr} {sl17 : Array (Option Value)} {oc17 kV17 dc17 pm17 cd17 ct17 : Value}
    (a17 : PySem.W.nsIn K mainGlobals "_law_pool" = some (some (.ref f17))) (l17 : K.lookup f17 = some ⟨oc17, od17, .func (PySem.W.fnOf "_law_pool" "_law_pool" (defArgs s__law_pool) (defBody s__law_pool) (defScope s__law_pool) .none kV17 dc17 pm17 an17 cd17 ct17), sl17⟩) (c17 : PySem.W.codeIn K cd17 "_law_pool" = true) (k17 : PySem.W.keepIn K (.ref f17) = true)
    {f18 : Addr} {od18 an18 : Option Addr} {sl18 : Array (Option Value)} {oc18 kV18 dc18 pm18 cd18 ct18 : Value}
    (a18 : PySem.W.nsIn K mainGlobals "_law_take" = some (some (.ref f18))) (l18 : K.lookup f18 = some ⟨oc18, od18, .func (PySem.W.fnOf "_law_take" "_law_take" (defArgs s__law_take) (defBody s__law_take) (defScope s__law_take) .none kV18 dc18 pm18 an18 cd18 ct18), sl18⟩) (c18 : PySem.W.codeIn K cd18 "_law_take" = true) (k18 : PySem.W.keepIn K (.ref f18) = true)
    {f19 : Addr} {od19 an19 : Option Addr} {sl19 : Array (Option Value)} {oc19 kV19 dc19 pm19 cd19 ct19 : Value}
    (a19 : PySem.W.nsIn K mainGlobals "_law_plate" = some (some (.ref f19))) (l19 : K.lookup f19 = some ⟨oc19, od19, .func (PySem.W.fnOf "_law_plate" "_law_plate" (defArgs s__law_plate) (defBody s__law_plate) (defScope s__law_plate) .none kV19 dc19 pm19 an19 cd19 ct19), sl19⟩) (c19 : PySem.W.codeIn K cd19 "_law_plate" = true) (k19 : PySem.W.keepIn K (.ref f19) = true)
    {f20 : Addr} {od20 an20 : Option Addr} {sl20 : Array (Option Value)} {oc20 kV20 dc20 pm20 cd20 ct20 : Value}
    (a20 : PySem.W.nsIn K mainGlobals "_law_sides" = some (some (.ref f20))) (l20 : K.lookup f20 = some ⟨oc20, od20, .func (PySem.W.fnOf "_law_sides" "_law_sides" (defArgs s__law_sides) (defBody s__law_sides) (defScope s__law_sides) .none kV20 dc20 pm20 an20 cd20 ct20), sl20⟩) (c20 : PySem.W.codeIn K cd20 "_law_sides" = true) (k20 : PySem.W.keepIn K (.ref f20) = true)
    {f21 : Addr} {od21 an21 : Option Addr} {sl21 : Array (Option Value)} {oc21 kV21 dc21 pm21 cd21 ct21 : Value}
    (a21 : PySem.W.nsIn K mainGlobals "_law_integer" = some (some (.ref f21))) (l21 : K.lookup f21 = some ⟨oc21, od21, .func (PySem.W.fnOf "_law_integer" "_law_integer" (defArgs s__law_integer) (defBody s__law_integer) (defScope s__law_integer) .none kV21 dc21 pm21 an21 cd21 ct21), sl21⟩) (c21 : PySem.W.codeIn K cd21 "_law_integer" = true) (k21 : PySem.W.keepIn K (.ref f21) = true)
    {f22 : Addr} {od22 an22 : Option Addr} {sl22 : Array (Option Value)} {oc22 kV22 dc22 pm22 cd22 ct22 : Value}
    (a22 : PySem.W.nsIn K mainGlobals "_law_sign" = some (some (.ref f22))) (l22 : K.lookup f22 = some ⟨oc22, od22, .func (PySem.W.fnOf "_law_sign" "_law_sign" (defArgs s__law_sign) (defBody s__law_sign) (defScope s__law_sign) .none kV22 dc22 pm22 an22 cd22 ct22), sl22⟩) (c22 : PySem.W.codeIn K cd22 "_law_sign" = true) (k22 : PySem.W.keepIn K (.ref f22) = true)
    {f23 : Addr} {od23 an23 : Option Addr} {sl23 : Array (Option Value)} {oc23 kV23 dc23 pm23 cd23 ct23 : Value}
    (a23 : PySem.W.nsIn K mainGlobals "_law_formed" = some (some (.ref f23))) (l23 : K.lookup f23 = some ⟨oc23, od23, .func (PySem.W.fnOf "_law_formed" "_law_formed" (defArgs s__law_formed) (defBody s__law_formed) (defScope s__law_formed) .none kV23 dc23 pm23 an23 cd23 ct23), sl23⟩) (c23 : PySem.W.codeIn K cd23 "_law_formed" = true) (k23 : PySem.W.keepIn K (.ref f23) = true)
    {f24 : Addr} {od24 an24 : Option Addr} {sl24 : Array (Option Value)} {oc24 kV24 dc24 pm24 cd24 ct24 : Value}
    (a24 : PySem.W.nsIn K mainGlobals "_law_told" = some (some (.ref f24))) (l24 : K.lookup f24 = some ⟨oc24, od24, .func (PySem.W.fnOf "_law_told" "_law_told" (defArgs s__law_told) (defBody s__law_told) (defScope s__law_told) .none kV24 dc24 pm24 an24 cd24 ct24), sl24⟩) (c24 : PySem.W.codeIn K cd24 "_law_told" = true) (k24 : PySem.W.keepIn K (.ref f24) = true)
    {f25 : Addr} {od25 an25 : Option Addr} {sl25 : Array (Option Value)} {oc25 kV25 dc25 pm25 cd25 ct25 : Value}
    (a25 : PySem.W.nsIn K mainGlobals "_law_order" = some (some (.ref f25))) (l25 : K.lookup f25 = some ⟨oc25, od25, .func (PySem.W.fnOf "_law_order" "_law_order" (defArgs s__law_order) (defBody s__law_order) (defScope s__law_order) .none kV25 dc25 pm25 an25 cd25 ct25), sl25⟩) (c25 : PySem.W.codeIn K cd25 "_law_order" = true) (k25 : PySem.W.keepIn K (.ref f25) = true)
    {f26 : Addr} {od26 an26 : Option Addr} {sl26 : Array (Option Value)} {oc26 kV26 dc26 pm26 cd26 ct26 : Value}
    (a26 : PySem.W.nsIn K mainGlobals "_law_walk" = some (some (.ref f26))) (l26 : K.lookup f26 = some ⟨oc26, od26, .func (PySem.W.fnOf "_law_walk" "_law_walk" (defArgs s__law_walk) (defBody s__law_walk) (defScope s__law_walk) .none kV26 dc26 pm26 an26 cd26 ct26), sl26⟩) (c26 : PySem.W.codeIn K cd26 "_law_walk" = true) (k26 : PySem.W.keepIn K (.ref f26) = true)
    {f27 : Addr} {od27 an27 : Option Addr} {sl27 : Array (Option Value)} {oc27 kV27 dc27 pm27 cd27 ct27 : Value}
    (a27 : PySem.W.nsIn K mainGlobals "_law_ring_right" = some (some (.ref f27))) (l27 : K.lookup f27 = some ⟨oc27, od27, .func (PySem.W.fnOf "_law_ring_right" "_law_ring_right" (defArgs s__law_ring_right) (defBody s__law_ring_right) (defScope s__law_ring_right) .none kV27 dc27 pm27 an27 cd27 ct27), sl27⟩) (c27 : PySem.W.codeIn K cd27 "_law_ring_right" = true) (k27 : PySem.W.keepIn K (.ref f27) = true)
    {f28 : Addr} {od28 an28 : Option Addr} {sl28 : Array (Option Value)} {oc28 kV28 dc28 pm28 cd28 ct28 : Value}
    (a28 : PySem.W.nsIn K mainGlobals "_law_outlines_right" = some (some (.ref f28))) (l28 : K.lookup f28 = some ⟨oc28, od28, .func (PySem.W.fnOf "_law_outlines_right" "_law_outlines_right" (defArgs s__law_outlines_right) (defBody s__law_outlines_right) (defScope s__law_outlines_right) .none kV28 dc28 pm28 an28 cd28 ct28), sl28⟩) (c28 : PySem.W.codeIn K cd28 "_law_outlines_right" = true) (k28 : PySem.W.keepIn K (.ref f28) = true)
    {f29 : Addr} {od29 an29 : Option Addr} {sl29 : Array (Option Value)} {oc29 kV29 dc29 pm29 cd29 ct29 : Value}
    (a29 : PySem.W.nsIn K mainGlobals "law" = some (some (.ref f29))) (l29 : K.lookup f29 = some ⟨oc29, od29, .func (PySem.W.fnOf "law" "law" (defArgs s_law) (defBody s_law) (defScope s_law) .none kV29 dc29 pm29 an29 cd29 ct29), sl29⟩) (c29 : PySem.W.codeIn K cd29 "law" = true) (k29 : PySem.W.keepIn K (.ref f29) = true)
    (z_abs : PySem.W.nsIn K mainGlobals "abs" = some none)
    (z_bool : PySem.W.nsIn K mainGlobals "bool" = some none)
    (z_enumerate : PySem.W.nsIn K mainGlobals "enumerate" = some none)
    (z_int : PySem.W.nsIn K mainGlobals "int" = some none)
    (z_isinstance : PySem.W.nsIn K mainGlobals "isinstance" = some none)
    (z_len : PySem.W.nsIn K mainGlobals "len" = some none)
    (z_list : PySem.W.nsIn K mainGlobals "list" = some none)
    (z_min : PySem.W.nsIn K mainGlobals "min" = some none)
    (z_range : PySem.W.nsIn K mainGlobals "range" = some none)
    (z_sorted : PySem.W.nsIn K mainGlobals "sorted" = some none)
    (z_str : PySem.W.nsIn K mainGlobals "str" = some none)
    (z_super : PySem.W.nsIn K mainGlobals "super" = some none)
    (z_tuple : PySem.W.nsIn K mainGlobals "tuple" = some none)
    {c_RIGHT : Addr} {od_RIGHT : Option Addr} {its_RIGHT : Array Value} {n_RIGHT : Nat} {sl_RIGHT : Array (Option Value)} (a_RIGHT : PySem.W.nsIn K mainGlobals "RIGHT" = some (some (.ref c_RIGHT))) (l_RIGHT : K.lookup c_RIGHT = some ⟨.type "tuple", od_RIGHT, .seq its_RIGHT n_RIGHT, sl_RIGHT⟩) (s_RIGHT : its_RIGHT.size ≤ sizeLine) (v_RIGHT : Vals [.int 1, .int 0] its_RIGHT.toList)
    {c_UP : Addr} {od_UP : Option Addr} {its_UP : Array Value} {n_UP : Nat} {sl_UP : Array (Option Value)} (a_UP : PySem.W.nsIn K mainGlobals "UP" = some (some (.ref c_UP))) (l_UP : K.lookup c_UP = some ⟨.type "tuple", od_UP, .seq its_UP n_UP, sl_UP⟩) (s_UP : its_UP.size ≤ sizeLine) (v_UP : Vals [.int 0, .int 1] its_UP.toList)
    {c_LEFT : Addr} {od_LEFT : Option Addr} {its_LEFT : Array Value} {n_LEFT : Nat} {sl_LEFT : Array (Option Value)} (a_LEFT : PySem.W.nsIn K mainGlobals "LEFT" = some (some (.ref c_LEFT))) (l_LEFT : K.lookup c_LEFT = some ⟨.type "tuple", od_LEFT, .seq its_LEFT n_LEFT, sl_LEFT⟩) (s_LEFT : its_LEFT.size ≤ sizeLine) (v_LEFT : Vals [.int (-1), .int 0] its_LEFT.toList)
    {c_DOWN : Addr} {od_DOWN : Option Addr} {its_DOWN : Array Value} {n_DOWN : Nat} {sl_DOWN : Array (Option Value)} (a_DOWN : PySem.W.nsIn K mainGlobals "DOWN" = some (some (.ref c_DOWN))) (l_DOWN : K.lookup c_DOWN = some ⟨.type "tuple", od_DOWN, .seq its_DOWN n_DOWN, sl_DOWN⟩) (s_DOWN : its_DOWN.size ≤ sizeLine) (v_DOWN : Vals [.int 0, .int (-1)] its_DOWN.toList)
    {c_OpenOutline : Addr} (a_OpenOutline : PySem.W.nsIn K mainGlobals "OpenOutline" = some (some (.ref c_OpenOutline))) (bs_OpenOutline : PySem.W.subIn K (.ref c_OpenOutline) (.type "BaseException") = some true) (tx_OpenOutline : PySem.W.typeIn K (.ref c_OpenOutline) = some (.type "type")) (hd_OpenOutline : PySem.W.hasDictIn K c_OpenOutline = true)
    (ga_OpenOutline : PySem.W.findIn K (.ref c_OpenOutline) "__getattribute__" = some (some (.builtin "BaseException.__getattribute__"))) (gg_OpenOutline : PySem.W.findIn K (.ref c_OpenOutline) "__getattr__" = some none) (cl_OpenOutline : PySem.W.findIn K (.ref c_OpenOutline) "__class__" = some (some (.builtin "object.__class__"))) (mo_OpenOutline : PySem.W.mroIn K c_OpenOutline (.type "object") = some true) (kx_OpenOutline : PySem.W.keepIn K (.ref c_OpenOutline) = true)
    (va_OpenOutline : PySem.W.subIn K (.ref c_OpenOutline) (.type "ValueError") = some true)
    (ks_ev : subTab K [c_OpenOutline] = true)
    (opq : PySem.W.nsIn K cStatics "thirdparty.any" = some none) (top0 : (P.main.scope.names.lookup ("super" : Str)).isSome = false)
    {nm_OpenOutline qn_OpenOutline : Str} {N_OpenOutline : Addr} {bs__OpenOutline bm_OpenOutline : List Value} {sn_OpenOutline : List Str} {sub_OpenOutline : List Value} {ab_OpenOutline : Bool} {col_OpenOutline : Option Bool} {dd_OpenOutline : Option Addr} {k0_OpenOutline k1_OpenOutline k2_OpenOutline k3_OpenOutline k5_OpenOutline : Option Value} (oc_OpenOutline : K.lookup c_OpenOutline = some (excClassObj nm_OpenOutline qn_OpenOutline c_OpenOutline N_OpenOutline bs__OpenOutline bm_OpenOutline true sn_OpenOutline sub_OpenOutline ab_OpenOutline col_OpenOutline dd_OpenOutline k0_OpenOutline k1_OpenOutline k2_OpenOutline k3_OpenOutline k5_OpenOutline "ValueError.__new__")) (rv_OpenOutline : PySem.HandSPX.refsVE bm_OpenOutline = true) (oa_OpenOutline : PySem.W.findIn K (.ref c_OpenOutline) "__setattr__" = some (some (.builtin "object.__setattr__")))
    {fi_OpenOutline cc_OpenOutline cda_OpenOutline : Addr} {fo_OpenOutline kV_OpenOutline dc_OpenOutline pm_OpenOutline ct_OpenOutline ccl_OpenOutline cl__OpenOutline : Value} {fd_OpenOutline an_OpenOutline cdd_OpenOutline cld_OpenOutline : Option Addr} {fs_OpenOutline ccs_OpenOutline csl_OpenOutline : Array (Option Value)} {vs_OpenOutline : Array Value} {file_OpenOutline : Str} {tf_OpenOutline : Tok} (ic_OpenOutline : PySem.W.findIn K (.ref c_OpenOutline) "__init__" = some (some (.ref fi_OpenOutline))) (ti_OpenOutline : PySem.W.typeIn K (.ref fi_OpenOutline) = some (.type "function"))
    (lk_OpenOutline : K.lookup fi_OpenOutline = some ⟨fo_OpenOutline, fd_OpenOutline, .func (PySem.W.fnX "__init__" "OpenOutline.__init__" (defArgs s_OpenOutline___init__) (defBody s_OpenOutline___init__) (defScope s_OpenOutline___init__) [("__class__", cc_OpenOutline)] .none kV_OpenOutline dc_OpenOutline pm_OpenOutline an_OpenOutline (.ref cda_OpenOutline) ct_OpenOutline), fs_OpenOutline⟩) (cq_OpenOutline : PySem.W.codeIn K (.ref cda_OpenOutline) "OpenOutline.__init__" = true)
    (co_OpenOutline : K.lookup cda_OpenOutline = some ⟨ccl_OpenOutline, cdd_OpenOutline, .fields vs_OpenOutline, ccs_OpenOutline⟩) (fv_OpenOutline : vs_OpenOutline[2]? = some (.str file_OpenOutline tf_OpenOutline)) (fe_OpenOutline : ((P.main.file : Str) == file_OpenOutline) = true) (ce_OpenOutline : K.lookup cc_OpenOutline = some ⟨cl__OpenOutline, cld_OpenOutline, .cell (some (.ref c_OpenOutline)), csl_OpenOutline⟩) (su_OpenOutline : PySem.W.ks_superIn K c_OpenOutline c_OpenOutline "__init__" = some (some (.builtin "ValueError.__init__")))
    (na_OpenOutline_place : PySem.W.findIn K (.ref c_OpenOutline) "place" = some none)
    : ∃ T : Txt P K mg, T.f_law = f29 ∧ ∀ (s : Shared) (v : Value), BindsTo s T.fd_law ⟨[v], []⟩ [("_law_script", v)] := by
  have F0 := fun_mk (st := s_cell_sides) l0 c0 k0
  have b0 := F0.binds (ps := ["x", "y", "ink"]) fun _ _ _ _ _ _ us hl => match us, hl with | [_, _, _], _ => rfl
  have F1 := fun_mk (st := s_border_moves) l1 c1 k1
  have b1 := F1.binds (ps := ["ink"]) fun _ _ _ _ _ _ us hl => match us, hl with | [_], _ => rfl
  have F2 := fun_mk (st := s_next_move) l2 c2 k2
  have b2 := F2.binds (ps := ["choices", "move"]) fun _ _ _ _ _ _ us hl => match us, hl with | [_, _], _ => rfl
  have F3 := fun_mk (st := s_ring_moves) l3 c3 k3
  have b3 := F3.binds (ps := ["moves", "corner", "move"]) fun _ _ _ _ _ _ us hl => match us, hl with | [_, _, _], _ => rfl
  have F4 := fun_mk (st := s_ring_strokes) l4 c4 k4
  have b4 := F4.binds (ps := ["ring"]) fun _ _ _ _ _ _ us hl => match us, hl with | [_], _ => rfl
  have F5 := fun_mk (st := s_outlines_of) l5 c5 k5
  have b5 := F5.binds (ps := ["ink"]) fun _ _ _ _ _ _ us hl => match us, hl with | [_], _ => rfl
  have F6 := fun_mk (st := s_sign) l6 c6 k6
  have b6 := F6.binds (ps := ["number"]) fun _ _ _ _ _ _ us hl => match us, hl with | [_], _ => rfl
  have F7 := fun_mk (st := s_line_steps) l7 c7 k7
  have b7 := F7.binds (ps := ["dx", "dy"]) fun _ _ _ _ _ _ us hl => match us, hl with | [_, _], _ => rfl
  have F8 := fun_mk (st := s_takes_first_move) l8 c8 k8
  have b8 := F8.binds (ps := ["a", "b", "radius"]) fun _ _ _ _ _ _ us hl => match us, hl with | [_, _, _], _ => rfl
  have F9 := fun_mk (st := s_arc_steps) l9 c9 k9
  have b9 := F9.binds (ps := ["first", "second", "radius"]) fun _ _ _ _ _ _ us hl => match us, hl with | [_, _, _], _ => rfl
  have F10 := fun_mk (st := s_unit_steps) l10 c10 k10
  have b10 := F10.binds (ps := ["stroke"]) fun _ _ _ _ _ _ us hl => match us, hl with | [_], _ => rfl
  have F11 := fun_mk (st := s_corners) l11 c11 k11
  have b11 := F11.binds (ps := ["outline"]) fun _ _ _ _ _ _ us hl => match us, hl with | [_], _ => rfl
  have F12 := fun_mk (st := s_Ink___init__) l12 c12 k12
  have b12 := F12.binds (ps := ["self", "cells"]) fun _ _ _ _ _ _ us hl => match us, hl with | [_, _], _ => rfl
  have F13 := fun_mk (st := s_Ink_cells) l13 c13 k13
  have b13 := F13.binds (ps := ["self"]) fun _ _ _ _ _ _ us hl => match us, hl with | [_], _ => rfl
  have F14 := fun_mk (st := s_Ink___contains__) l14 c14 k14
  have b14 := F14.binds (ps := ["self", "cell"]) fun _ _ _ _ _ _ us hl => match us, hl with | [_, _], _ => rfl
  have F15 := fun_mk (st := s_crossings_of) l15 c15 k15
  have b15 := F15.binds (ps := ["outlines"]) fun _ _ _ _ _ _ us hl => match us, hl with | [_], _ => rfl
  have F16 := fun_mk (st := s_ink_of) l16 c16 k16
  have b16 := F16.binds (ps := ["outlines"]) fun _ _ _ _ _ _ us hl => match us, hl with | [_], _ => rfl
  have F17 := fun_mk (st := s__law_pool) l17 c17 k17
  have b17 := F17.binds (ps := ["_law_script", "_law_at"]) fun _ _ _ _ _ _ us hl => match us, hl with | [_, _], _ => rfl
  have F18 := fun_mk (st := s__law_take) l18 c18 k18
  have b18 := F18.binds (ps := ["_law_pool_here", "_law_many"]) fun _ _ _ _ _ _ us hl => match us, hl with | [_, _], _ => rfl
  have F19 := fun_mk (st := s__law_plate) l19 c19 k19
  have b19 := F19.binds (ps := ["_law_pool_here"]) fun _ _ _ _ _ _ us hl => match us, hl with | [_], _ => rfl
  have F20 := fun_mk (st := s__law_sides) l20 c20 k20
  have b20 := F20.binds (ps := ["_law_known"]) fun _ _ _ _ _ _ us hl => match us, hl with | [_], _ => rfl
  have F21 := fun_mk (st := s__law_integer) l21 c21 k21
  have b21 := F21.binds (ps := ["_law_told_here"]) fun _ _ _ _ _ _ us hl => match us, hl with | [_], _ => rfl
  have F22 := fun_mk (st := s__law_sign) l22 c22 k22
  have b22 := F22.binds (ps := ["_law_number"]) fun _ _ _ _ _ _ us hl => match us, hl with | [_], _ => rfl
  have F23 := fun_mk (st := s__law_formed) l23 c23 k23
  have b23 := F23.binds (ps := ["_law_outline", "_law_most"]) fun _ _ _ _ _ _ us hl => match us, hl with | [_, _], _ => rfl
  have F24 := fun_mk (st := s__law_told) l24 c24 k24
  have b24 := F24.binds (ps := ["_law_told_here", "_law_due"]) fun _ _ _ _ _ _ us hl => match us, hl with | [_, _], _ => rfl
  have F25 := fun_mk (st := s__law_order) l25 c25 k25
  have b25 := F25.binds (ps := ["_law_cells"]) fun _ _ _ _ _ _ us hl => match us, hl with | [_], _ => rfl
  have F26 := fun_mk (st := s__law_walk) l26 c26 k26
  have b26 := F26.binds (ps := ["_law_outline", "_law_sides_here", "_law_walked"]) fun _ _ _ _ _ _ us hl => match us, hl with | [_, _, _], _ => rfl
  have F27 := fun_mk (st := s__law_ring_right) l27 c27 k27
  have b27 := F27.binds (ps := ["_law_outline", "_law_steps", "_law_begun"]) fun _ _ _ _ _ _ us hl => match us, hl with | [_, _, _], _ => rfl
  have F28 := fun_mk (st := s__law_outlines_right) l28 c28 k28
  have b28 := F28.binds (ps := ["_law_told_here", "_law_sides_here"]) fun _ _ _ _ _ _ us hl => match us, hl with | [_, _], _ => rfl
  have F29 := fun_mk (st := s_law) l29 c29 k29
  have b29 := F29.binds (ps := ["_law_script"]) fun _ _ _ _ _ _ us hl => match us, hl with | [_], _ => rfl
  exact ⟨{ c_OpenOutline := c_OpenOutline, g_OpenOutline := PySem.W.mg_of X G a_OpenOutline, bs_OpenOutline := bs_OpenOutline, tx_OpenOutline := tx_OpenOutline, hd_OpenOutline := hd_OpenOutline, c_RIGHT := c_RIGHT, g_RIGHT := PySem.W.mg_of X G a_RIGHT, k_RIGHT := ⟨_, _, _, l_RIGHT, rfl, rfl, s_RIGHT, v_RIGHT⟩, c_UP := c_UP, g_UP := PySem.W.mg_of X G a_UP, k_UP := ⟨_, _, _, l_UP, rfl, rfl, s_UP, v_UP⟩, c_LEFT := c_LEFT, g_LEFT := PySem.W.mg_of X G a_LEFT, k_LEFT := ⟨_, _, _, l_LEFT, rfl, rfl, s_LEFT, v_LEFT⟩, c_DOWN := c_DOWN, g_DOWN := PySem.W.mg_of X G a_DOWN, k_DOWN := ⟨_, _, _, l_DOWN, rfl, rfl, s_DOWN, v_DOWN⟩, m_abs := PySem.W.mg_none_of X G z_abs, m_bool := PySem.W.mg_none_of X G z_bool, m_enumerate := PySem.W.mg_none_of X G z_enumerate, m_int := PySem.W.mg_none_of X G z_int, m_isinstance := PySem.W.mg_none_of X G z_isinstance, m_len := PySem.W.mg_none_of X G z_len, m_list := PySem.W.mg_none_of X G z_list, m_min := PySem.W.mg_none_of X G z_min, m_range := PySem.W.mg_none_of X G z_range, m_sorted := PySem.W.mg_none_of X G z_sorted, m_str := PySem.W.mg_none_of X G z_str, m_super := PySem.W.mg_none_of X G z_super, m_tuple := PySem.W.mg_none_of X G z_tuple, c_Ink := c_Ink, g_Ink := PySem.W.mg_of X G aInk, co_Ink := ⟨⟨pgInk, hdInk, poInk, saInk⟩, haInk, hnO, htO, hmInk⟩, na_Ink_cell_list := naInk_cell_list, na_Ink_known_cells := naInk_known_cells, na_Ink_left_ends := naInk_left_ends, na_Ink_right_ends := naInk_right_ends, f_cell_sides := f0, fd_cell_sides := _, F_cell_sides := F0, b_cell_sides := b0, g_cell_sides := PySem.W.mg_of X G a0, f_border_moves := f1, fd_border_moves := _, F_border_moves := F1, b_border_moves := b1, g_border_moves := PySem.W.mg_of X G a1, f_next_move := f2, fd_next_move := _, F_next_move := F2, b_next_move := b2, g_next_move := PySem.W.mg_of X G a2, f_ring_moves := f3, fd_ring_moves := _, F_ring_moves := F3, b_ring_moves := b3, g_ring_moves := PySem.W.mg_of X G a3, f_ring_strokes := f4, fd_ring_strokes := _, F_ring_strokes := F4, b_ring_strokes := b4, g_ring_strokes := PySem.W.mg_of X G a4, f_outlines_of := f5, fd_outlines_of := _, F_outlines_of := F5, b_outlines_of := b5, g_outlines_of := PySem.W.mg_of X G a5, f_sign := f6, fd_sign := _, F_sign := F6, b_sign := b6, g_sign := PySem.W.mg_of X G a6, f_line_steps := f7, fd_line_steps := _, F_line_steps := F7, b_line_steps := b7, g_line_steps := PySem.W.mg_of X G a7, f_takes_first_move := f8, fd_takes_first_move := _, F_takes_first_move := F8, b_takes_first_move := b8, g_takes_first_move := PySem.W.mg_of X G a8, f_arc_steps := f9, fd_arc_steps := _, F_arc_steps := F9, b_arc_steps := b9, g_arc_steps := PySem.W.mg_of X G a9, f_unit_steps := f10, fd_unit_steps := _, F_unit_steps := F10, b_unit_steps := b10, g_unit_steps := PySem.W.mg_of X G a10, f_corners := f11, fd_corners := _, F_corners := F11, b_corners := b11, g_corners := PySem.W.mg_of X G a11, f_Ink___init__ := f12, fd_Ink___init__ := _, F_Ink___init__ := F12, b_Ink___init__ := b12, mk_Ink := ⟨mkInk, a12, i12, kcInk⟩, f_Ink_cells := f13, fd_Ink_cells := _, F_Ink_cells := F13, b_Ink_cells := b13, mt_Ink_cells := ⟨a13, i13, k13⟩, f_Ink___contains__ := f14, fd_Ink___contains__ := _, F_Ink___contains__ := F14, b_Ink___contains__ := b14, mt_Ink___contains__ := ⟨a14, i14, k14⟩, f_crossings_of := f15, fd_crossings_of := _, F_crossings_of := F15, b_crossings_of := b15, g_crossings_of := PySem.W.mg_of X G a15, f_ink_of := f16, fd_ink_of := _, F_ink_of := F16, b_ink_of := b16, g_ink_of := PySem.W.mg_of X G a16, f__law_pool := f17, fd__law_pool := _, F__law_pool := F17, b__law_pool := b17, g__law_pool := PySem.W.mg_of X G a17, f__law_take := f18, fd__law_take := _, F__law_take := F18, b__law_take := b18, g__law_take := PySem.W.mg_of X G a18, f__law_plate := f19, fd__law_plate := _, F__law_plate := F19, b__law_plate := b19, g__law_plate := PySem.W.mg_of X G a19, f__law_sides := f20, fd__law_sides := _, F__law_sides := F20, b__law_sides := b20, g__law_sides := PySem.W.mg_of X G a20, f__law_integer := f21, fd__law_integer := _, F__law_integer := F21, b__law_integer := b21, g__law_integer := PySem.W.mg_of X G a21, f__law_sign := f22, fd__law_sign := _, F__law_sign := F22, b__law_sign := b22, g__law_sign := PySem.W.mg_of X G a22, f__law_formed := f23, fd__law_formed := _, F__law_formed := F23, b__law_formed := b23, g__law_formed := PySem.W.mg_of X G a23, f__law_told := f24, fd__law_told := _, F__law_told := F24, b__law_told := b24, g__law_told := PySem.W.mg_of X G a24, f__law_order := f25, fd__law_order := _, F__law_order := F25, b__law_order := b25, g__law_order := PySem.W.mg_of X G a25, f__law_walk := f26, fd__law_walk := _, F__law_walk := F26, b__law_walk := b26, g__law_walk := PySem.W.mg_of X G a26, f__law_ring_right := f27, fd__law_ring_right := _, F__law_ring_right := F27, b__law_ring_right := b27, g__law_ring_right := PySem.W.mg_of X G a27, f__law_outlines_right := f28, fd__law_outlines_right := _, F__law_outlines_right := F28, b__law_outlines_right := b28, g__law_outlines_right := PySem.W.mg_of X G a28, f_law := f29, fd_law := _, F_law := F29, b_law := b29, g_law := PySem.W.mg_of X G a29, ks_ev := ks_ev, va_OpenOutline := va_OpenOutline, xc_OpenOutline := ⟨ga_OpenOutline, gg_OpenOutline, bs_OpenOutline, hd_OpenOutline, cl_OpenOutline, hnO, htO, mo_OpenOutline⟩, xf_OpenOutline := ⟨ga_OpenOutline, gg_OpenOutline, bs_OpenOutline, hd_OpenOutline⟩, kx_OpenOutline := kx_OpenOutline, ox_OpenOutline := ⟨⟨_, _, _, _, _, _, _, _, _, _, _, _, _, _, _, oc_OpenOutline, rv_OpenOutline⟩, oa_OpenOutline, bs_OpenOutline, tx_OpenOutline, kx_OpenOutline⟩, fi_OpenOutline := fi_OpenOutline, fe_OpenOutline := PySem.W.fnX "__init__" "OpenOutline.__init__" (defArgs s_OpenOutline___init__) (defBody s_OpenOutline___init__) (defScope s_OpenOutline___init__) [("__class__", cc_OpenOutline)] .none kV_OpenOutline dc_OpenOutline pm_OpenOutline an_OpenOutline (.ref cda_OpenOutline) ct_OpenOutline, cc_OpenOutline := cc_OpenOutline, cd_OpenOutline := cda_OpenOutline, ic_OpenOutline := ic_OpenOutline, ti_OpenOutline := ti_OpenOutline, be_OpenOutline := beE_OpenOutline, su_OpenOutline := ⟨⟨_, _, _, _, _, _, _, _, _, rfl, lk_OpenOutline⟩, cq_OpenOutline, ⟨_, _, _, _, _, _, co_OpenOutline, fv_OpenOutline, fe_OpenOutline⟩, top0, ⟨_, _, _, _, rfl, ce_OpenOutline⟩, ⟨_, rfl, rfl⟩, su_OpenOutline, opq⟩, na_OpenOutline_place := na_OpenOutline_place }, rfl, fun s v => .of_eq rfl⟩
theorem okE_OpenOutline {P : Program} {w : World} {K : PySem.W.Frag} {mg : Str → Option Value} {base : Heap} (T : Txt P K mg) : FnOk P w K mg base CX0 1 T.fi_OpenOutline T.fe_OpenOutline ["self", "place"] (spE1 T.c_OpenOutline "place" fun _ => True) :=
  ok_e1 T.su_OpenOutline T.ox_OpenOutline T.m_super rfl (NdefX.nscope_by (sc := defScope s_OpenOutline___init__) (by decide +kernel)) (by rfl) T.na_OpenOutline_place (by decide) (by decide) (fun _ => rfl) (fun _ => ⟨_, rfl⟩) (fun _ => rfl)
abbrev o_Ink (c : Addr) (d0 d1 d2 d3 : Dt) : Dt := .obj c [("cell_list", d0), ("known_cells", d1), ("left_ends", d2), ("right_ends", d3)]
abbrev fs_Ink (d0 d1 d2 d3 : Dt) : List (Str × Dt) := [("cell_list", d0), ("known_cells", d1), ("left_ends", d2), ("right_ends", d3)]
theorem lk_Ink_cell_list {d0 d1 d2 d3 : Dt} : List.lookup ("cell_list" : Str) (fs_Ink d0 d1 d2 d3) = some d0 := lk_hit
theorem ne_Ink_1_0 : ¬ (("known_cells" : Str) = "cell_list") := by decide +kernel
theorem lk_Ink_known_cells {d0 d1 d2 d3 : Dt} : List.lookup ("known_cells" : Str) (fs_Ink d0 d1 d2 d3) = some d1 := (lk_miss ne_Ink_1_0).trans (lk_hit)
theorem ne_Ink_2_0 : ¬ (("left_ends" : Str) = "cell_list") := by decide +kernel
theorem ne_Ink_2_1 : ¬ (("left_ends" : Str) = "known_cells") := by decide +kernel
theorem lk_Ink_left_ends {d0 d1 d2 d3 : Dt} : List.lookup ("left_ends" : Str) (fs_Ink d0 d1 d2 d3) = some d2 := (lk_miss ne_Ink_2_0).trans ((lk_miss ne_Ink_2_1).trans (lk_hit))
theorem ne_Ink_3_0 : ¬ (("right_ends" : Str) = "cell_list") := by decide +kernel
theorem ne_Ink_3_1 : ¬ (("right_ends" : Str) = "known_cells") := by decide +kernel
theorem ne_Ink_3_2 : ¬ (("right_ends" : Str) = "left_ends") := by decide +kernel
theorem lk_Ink_right_ends {d0 d1 d2 d3 : Dt} : List.lookup ("right_ends" : Str) (fs_Ink d0 d1 d2 d3) = some d3 := (lk_miss ne_Ink_3_0).trans ((lk_miss ne_Ink_3_1).trans ((lk_miss ne_Ink_3_2).trans (lk_hit)))
theorem lk_Ink_no_cells {d0 d1 d2 d3 : Dt} : List.lookup ("cells" : Str) (fs_Ink d0 d1 d2 d3) = none := (lk_miss (by decide +kernel)).trans ((lk_miss (by decide +kernel)).trans ((lk_miss (by decide +kernel)).trans ((lk_miss (by decide +kernel)).trans (rfl))))
theorem lk_Ink_no___contains__ {d0 d1 d2 d3 : Dt} : List.lookup ("__contains__" : Str) (fs_Ink d0 d1 d2 d3) = none := (lk_miss (by decide +kernel)).trans ((lk_miss (by decide +kernel)).trans ((lk_miss (by decide +kernel)).trans ((lk_miss (by decide +kernel)).trans (rfl))))
end Lk32

section
open PySem L2 Ab PySem.W
abbrev Pt := Int × Int
def ltYX (p q : Pt) : Prop := p.2 < q.2 ∨ (p.2 = q.2 ∧ p.1 < q.1)
instance (p q : Pt) : Decidable (ltYX p q) := by unfold ltYX; infer_instance
abbrev Ord (l : List Pt) : Prop := l.Pairwise ltYX
theorem ltYX_irrefl {p : Pt} : ¬ ltYX p p := by unfold ltYX; omega
theorem ltYX_trans {p q r : Pt} (h : ltYX p q) (h' : ltYX q r) : ltYX p r := by unfold ltYX at *; omega
theorem ltYX_asymm {p q : Pt} (h : ltYX p q) (h' : ltYX q p) : False := ltYX_irrefl (ltYX_trans h h')
theorem Ord.nodup {l : List Pt} (h : Ord l) : l.Nodup := h.imp fun a e => by subst e; exact ltYX_irrefl a
theorem ord_ext : ∀ {a b : List Pt}, Ord a → Ord b → (∀ p, p ∈ a ↔ p ∈ b) → a = b
  | [], [], _, _, _ => rfl
  | [], q :: b, _, _, h => by have := (h q).mpr List.mem_cons_self; simp at this
  | p :: a, [], _, _, h => by have := (h p).mp List.mem_cons_self; simp at this
  | p :: a, q :: b, ha, hb, h => by
    obtain ⟨ha1, ha2⟩ := List.pairwise_cons.mp ha
    obtain ⟨hb1, hb2⟩ := List.pairwise_cons.mp hb
    have e : p = q := by
      rcases List.mem_cons.mp ((h p).mp List.mem_cons_self) with e | e
      · exact e
      · rcases List.mem_cons.mp ((h q).mpr List.mem_cons_self) with e' | e'
        · exact e'.symm
        · exact (ltYX_asymm (ha1 q e') (hb1 p e)).elim
    subst e
    have np : p ∉ a := fun z => ltYX_irrefl (ha1 p z)
    have nq : p ∉ b := fun z => ltYX_irrefl (hb1 p z)
    rw [ord_ext ha2 hb2 fun r => ?_]
    constructor
    · intro hr
      rcases List.mem_cons.mp ((h r).mp (List.mem_cons_of_mem _ hr)) with e | e
      · subst e; exact (np hr).elim
      · exact e
    · intro hr
      rcases List.mem_cons.mp ((h r).mpr (List.mem_cons_of_mem _ hr)) with e | e
      · subst e; exact (nq hr).elim
      · exact e
def sw (p : Pt) : Pt := (p.2, p.1)
def P2 (p : Pt) : Dt := .tup [.int p.1, .int p.2]
def kP (p : Pt) : NestedKey := .tup [.num p.1, .num p.2]
theorem dtN_kP (p : Pt) : dtN (kP p) = P2 p := by simp [kP, P2, dtN, dtNs]
theorem kP_inj {p q : Pt} (h : kP p = kP q) : p = q := by
  obtain ⟨a, b⟩ := p
  obtain ⟨c, d⟩ := q
  unfold kP at h
  injection h with h
  injection h with h1 h2
  injection h2 with h2 _
  injection h1 with h1
  injection h2 with h2
  exact Prod.ext h1 h2
theorem kP_depth (p : Pt) : (kP p).depth ≤ 8 := by
  unfold kP
  rw [NestedKey.depth, NestedKey.depthAll, NestedKey.depthAll, NestedKey.depthAll, NestedKey.depth, NestedKey.depth]
  decide
def NC (s : Sl) : Prop := ∀ c, s ≠ .cel c
theorem nc_un : NC .un := fun _ z => nomatch z
theorem nc_val {d : Dt} : NC (.val d) := fun _ z => nomatch z
theorem nc_at {s : Sl} (h : NC s) : ∀ c, some s ≠ some (.cel c) := fun c z => h c (Option.some.inj z)
def kvU (l : List Pt) : List (NestedKey × Dt) := l.map fun p => (kP p, .bl true)
def addU (l : List Pt) (p : Pt) : List Pt := if p ∈ l then l else l ++ [p]
theorem valD_kvU {l : List Pt} {p : Pt} : (valD (kvU l) (kP p)).isSome = decide (p ∈ l) := by
  unfold kvU valD
  induction l with
  | nil => rfl
  | cons q r ih =>
    rw [List.map_cons, List.find?_cons]
    by_cases h : q = p
    · subst h; simp
    · have : ¬ kP q = kP p := fun z => h (kP_inj z)
      simp only [this, decide_false]
      rw [ih]
      have h' : ¬ p = q := fun z => h z.symm
      simp [h']
theorem putE_kvU (l : List Pt) (p : Pt) : putE (kvU l) (kP p) (.bl true) = kvU (addU l p) := by
  unfold putE addU
  have e : (kvU l).any (fun kv => decide (kv.1 = kP p)) = decide (p ∈ l) := by rw [any_valD, valD_kvU]
  by_cases h : p ∈ l
  · rw [if_pos (by rw [e]; exact decide_eq_true h), if_pos h]
    unfold kvU
    rw [List.map_map]
    refine List.map_congr_left fun q _ => ?_
    show (if kP q = kP p then (kP q, Dt.bl true) else (kP q, Dt.bl true)) = _
    split <;> rfl
  · rw [if_neg (by rw [e]; simp [h]), if_neg h]
    unfold kvU
    rw [List.map_append]; rfl
def uniq (l : List Pt) : List Pt := l.foldl addU []
theorem mem_addU {l : List Pt} {p q : Pt} : q ∈ addU l p ↔ q ∈ l ∨ q = p := by
  unfold addU
  by_cases h : p ∈ l
  · rw [if_pos h]
    constructor
    · exact .inl
    · rintro (z | rfl)
      · exact z
      · exact h
  · rw [if_neg h, List.mem_append, List.mem_singleton]
theorem nodup_addU {l : List Pt} {p : Pt} (h : l.Nodup) : (addU l p).Nodup := by
  unfold addU
  by_cases hp : p ∈ l
  · rw [if_pos hp]; exact h
  · rw [if_neg hp]
    refine List.nodup_append.mpr ⟨h, by simp, fun a ha b hb => ?_⟩
    rw [List.mem_singleton] at hb
    subst hb
    intro e; subst e; exact hp ha
theorem len_addU {l : List Pt} {p : Pt} : (addU l p).length ≤ l.length + 1 := by
  unfold addU
  split <;> simp
theorem uniq_snoc (l : List Pt) (p : Pt) : uniq (l ++ [p]) = addU (uniq l) p := by
  unfold uniq; rw [List.foldl_append]; rfl
theorem uniq_facts : ∀ n (l : List Pt), l.length = n → (uniq l).Nodup ∧ (∀ p, p ∈ uniq l ↔ p ∈ l) ∧ (uniq l).length ≤ l.length := by
  intro n
  induction n with
  | zero =>
    intro l h
    have := List.eq_nil_of_length_eq_zero h
    subst this
    exact ⟨List.nodup_nil, fun p => Iff.rfl, Nat.le_refl _⟩
  | succ n ih =>
    intro l h
    have hne : l ≠ [] := by intro z; subst z; simp at h
    obtain ⟨l', p, rfl⟩ : ∃ l' p, l = l' ++ [p] := ⟨l.dropLast, l.getLast hne, (List.dropLast_concat_getLast hne).symm⟩
    have hl : l'.length = n := by simpa using h
    obtain ⟨h1, h2, h3⟩ := ih l' hl
    rw [uniq_snoc]
    refine ⟨nodup_addU h1, fun q => ?_, ?_⟩
    · rw [mem_addU, h2, List.mem_append, List.mem_singleton]
    · have := len_addU (l := uniq l') (p := p)
      rw [List.length_append, List.length_singleton]; omega
theorem uniq_nodup {l : List Pt} : (uniq l).Nodup := (uniq_facts _ l rfl).1
theorem mem_uniq {l : List Pt} {p : Pt} : p ∈ uniq l ↔ p ∈ l := (uniq_facts _ l rfl).2.1 p
theorem len_uniq {l : List Pt} : (uniq l).length ≤ l.length := (uniq_facts _ l rfl).2.2
theorem uniq_of {l : List Pt} (h : l.Nodup) : uniq l = l := by
  have : ∀ (r a : List Pt), (a ++ r).Nodup → r.foldl addU a = a ++ r := by
    intro r
    induction r with
    | nil => intro a _; simp
    | cons p r ih =>
      intro a ha
      have hp : p ∉ a := fun z => by
        rw [List.nodup_append] at ha
        exact ha.2.2 p z p List.mem_cons_self rfl
      rw [List.foldl_cons]
      have e : addU a p = a ++ [p] := by unfold addU; rw [if_neg hp]
      rw [e, ih (a ++ [p]) (by rw [List.append_assoc]; exact ha), List.append_assoc]; rfl
  exact this l [] (by simpa using h)
def encP (p : Pt) : PyData := .tuple [.int p.1, .int p.2]
theorem py_P (p : Pt) : (P2 p).py = some (encP p) := by first | rfl | simp [P2, encP, Dt.py, Dt.pys]
theorem depth_P (p : Pt) : (encP p).depth ≤ 8 := by
  unfold encP
  simp [PyData.depth, PyData.depthAll]
theorem alike_P (p q : Pt) : alike (encP p) (encP q) = true := by
  simp [encP, alike, alikeAll]
theorem kv_keysU (l : List Pt) : ((kvU l).map fun kv => dtN kv.1) = l.map P2 := by
  unfold kvU
  rw [List.map_map]
  exact List.map_congr_left fun p _ => dtN_kP p
def ordOf (cs : List Pt) : List Pt := ((uniq (cs.map sw)).mergeSort (dataLe false encP)).map sw
theorem mem_ordOf {cs : List Pt} {p : Pt} : p ∈ ordOf cs ↔ p ∈ cs := by
  unfold ordOf
  constructor
  · intro h
    obtain ⟨q, hq, rfl⟩ := List.mem_map.mp h
    have := (List.mergeSort_perm _ _).mem_iff.mp hq
    rw [mem_uniq] at this
    obtain ⟨r, hr, rfl⟩ := List.mem_map.mp this
    exact hr
  · intro h
    refine List.mem_map.mpr ⟨sw p, (List.mergeSort_perm _ _).mem_iff.mpr ?_, rfl⟩
    rw [mem_uniq]
    exact List.mem_map.mpr ⟨p, h, rfl⟩
theorem len_ordOf {cs : List Pt} : (ordOf cs).length ≤ cs.length := by
  unfold ordOf
  rw [List.length_map, (List.mergeSort_perm _ _).length_eq]
  refine Nat.le_trans len_uniq ?_
  rw [List.length_map]; exact Nat.le_refl _
theorem ordOf_ord (cs : List Pt) : Ord (ordOf cs) := by
  have hnd : (uniq (cs.map sw)).Nodup := uniq_nodup
  generalize hU : uniq (cs.map sw) = U at hnd
  have e : (dataLe false encP) = fun p q : Pt => decide (p.1 < q.1 ∨ (p.1 = q.1 ∧ p.2 ≤ q.2)) := dataLe_ii (fun p : Pt => p.1) (fun p : Pt => p.2)
  have hp : (U.mergeSort (dataLe false encP)).Pairwise (fun p q : Pt => dataLe false encP p q = true) := by
    rw [e]
    refine List.pairwise_mergeSort (fun a b c h1 h2 => ?_) (fun a b => ?_) U
    · simp only [decide_eq_true_eq] at *; omega
    · by_cases h : a.1 < b.1 ∨ (a.1 = b.1 ∧ a.2 ≤ b.2)
      · simp [h]
      · have : b.1 < a.1 ∨ (b.1 = a.1 ∧ b.2 ≤ a.2) := by omega
        simp [this]
  have hn : (U.mergeSort (dataLe false encP)).Nodup := (List.mergeSort_perm _ _).nodup_iff.mpr hnd
  unfold ordOf
  rw [hU]
  refine List.pairwise_map.mpr ?_
  refine (hp.and hn).imp fun {a b} h => ?_
  obtain ⟨h1, h2⟩ := h
  rw [e] at h1
  simp only [decide_eq_true_eq] at h1
  show a.1 < b.1 ∨ (a.1 = b.1 ∧ a.2 < b.2)
  rcases h1 with h1 | ⟨h1, h3⟩
  · exact .inl h1
  · refine .inr ⟨h1, ?_⟩
    rcases Int.lt_or_eq_of_le h3 with h | h
    · exact h
    · exact (h2 (Prod.ext h1 h)).elim
def leftE (kv : List (Key × Dt)) (p : Pt) : List (Key × Dt) := if (valD kv (.inl p.2)).isSome then kv else putE kv (.inl p.2) (.int p.1)
def rightE (kv : List (Key × Dt)) (p : Pt) : List (Key × Dt) := putE kv (.inl p.2) (.int (p.1 + 1))
def leftsOf (l : List Pt) : List (Key × Dt) := l.foldl leftE []
def rightsOf (l : List Pt) : List (Key × Dt) := l.foldl rightE []
theorem putE_len {κ : Type} [DecidableEq κ] (kv : List (κ × Dt)) (k : κ) (v : Dt) : (putE kv k v).length ≤ kv.length + 1 := by
  unfold putE
  split
  · rw [List.length_map]; omega
  · rw [List.length_append]; exact Nat.le_refl _
theorem leftE_len (kv : List (Key × Dt)) (p : Pt) : (leftE kv p).length ≤ kv.length + 1 := by
  unfold leftE
  split
  · omega
  · exact putE_len _ _ _
theorem foldl_len {f : List (Key × Dt) → Pt → List (Key × Dt)} (hf : ∀ kv p, (f kv p).length ≤ kv.length + 1) : ∀ (l : List Pt) (kv : List (Key × Dt)), (l.foldl f kv).length ≤ kv.length + l.length
  | [], _ => by simp
  | p :: l, kv => by
    rw [List.foldl_cons, List.length_cons]
    have := foldl_len hf l (f kv p)
    have := hf kv p
    omega
theorem len_lefts (l : List Pt) : (leftsOf l).length ≤ l.length := by have := foldl_len leftE_len l []; simpa [leftsOf] using this
theorem len_rights (l : List Pt) : (rightsOf l).length ≤ l.length := by have := foldl_len (f := rightE) (fun kv p => putE_len kv _ _) l []; simpa [rightsOf] using this
theorem lefts_snoc (l : List Pt) (p : Pt) : leftsOf (l ++ [p]) = leftE (leftsOf l) p := by unfold leftsOf; rw [List.foldl_append]; rfl
theorem rights_snoc (l : List Pt) (p : Pt) : rightsOf (l ++ [p]) = rightE (rightsOf l) p := by unfold rightsOf; rw [List.foldl_append]; rfl
abbrev o_Ink (c : Addr) (d0 d1 d2 d3 : Dt) : Dt := .obj c [("cell_list", d0), ("known_cells", d1), ("left_ends", d2), ("right_ends", d3)]
abbrev fs_Ink (d0 d1 d2 d3 : Dt) : List (Str × Dt) := [("cell_list", d0), ("known_cells", d1), ("left_ends", d2), ("right_ends", d3)]
def inkF (w : World) (l : List Pt) : List (Str × Dt) := fs_Ink (.lst (l.map P2)) (.dN w (kvU l)) (.dK (leftsOf l)) (.dK (rightsOf l))
abbrev inkD (c : Addr) (w : World) (l : List Pt) : Dt := o_Ink c (.lst (l.map P2)) (.dN w (kvU l)) (.dK (leftsOf l)) (.dK (rightsOf l))
end
section
open PySem L2 Ab PySem.W
def tq_Ink___init__ (K : PySem.W.Frag) (w : World) : TS :=
    (tSeq (tAsg (tNNew w) (gName 2))
    (tSeq (tFor (iList K (tVar 1)) (gTup K 2 (gCons (gName 3) (gCons (gName 4) gNil))) (sNPut K w (tVar 2) (tTup (tCons (tVar 4) (tCons (tVar 3) tNil))) (tC (.bl true))))
    (tSeq (tAsg (tLc (iList K (tCB (rSortD0 K) (tCons (tCB (rListN w) (tCons (tVar 2) tNil)) tNil))) (gTup K 2 (gCons (gName 4) (gCons (gName 3) gNil))) tYes (tTup (tCons (tVar 3) (tCons (tVar 4) tNil))) [4, 3]) (gName 5))
    (tSeq (tAsg tDNewK (gName 6))
    (tSeq (tAsg tDNewK (gName 7))
    (tSeq (tAsg (tNNew w) (gName 8))
    (tSeq (tFor (iList K (tVar 5)) (gTup K 2 (gCons (gName 3) (gCons (gName 4) gNil))) (tSeq (tIfS (tB (tDNotIn (tVar 4) (tVar 6))) (sDPut (tVar 6) (tVar 4) (tVar 3)) tNext)
    (tSeq (sDPut (tVar 7) (tVar 4) (tOp (rAddG K) (tVar 3) (tC (.int 1))))
    (sNPut K w (tVar 8) (tTup (tCons (tVar 3) (tCons (tVar 4) tNil))) (tC (.bl true))))))
    (tSeq (sFld K (tVar 0) (tVar 5) "cell_list")
    (tSeq (sFld K (tVar 0) (tVar 8) "known_cells")
    (tSeq (sFld K (tVar 0) (tVar 6) "left_ends")
    (sFld K (tVar 0) (tVar 7) "right_ends")))))))))))
def tq_Ink_cells (K : PySem.W.Frag) : TS :=
    (tRet (tCB (rListOf K) (tCons (tFld K (tVar 0) "cell_list") tNil)))
def tq_Ink___contains__ (K : PySem.W.Frag) (w : World) : TS :=
    (tRet (tNIn K w (tVar 1) (tFld K (tVar 0) "known_cells")))
def tq_Ink___or__ (K : PySem.W.Frag) (c_Ink : Addr) (ai_Ink : AIP) : TS :=
    (tRet (tMake c_Ink (toSpIP K c_Ink ai_Ink) [] E0 (tCons (tOp (rAddG K) (tFld K (tVar 0) "cell_list") (tFld K (tVar 1) "cell_list")) tNil)))
theorem lk_Ink_cell_list {d0 d1 d2 d3 : Dt} : List.lookup ("cell_list" : Str) (fs_Ink d0 d1 d2 d3) = some d0 := lk_hit
theorem ne_Ink_1_0 : ¬ (("known_cells" : Str) = "cell_list") := by decide +kernel
theorem lk_Ink_known_cells {d0 d1 d2 d3 : Dt} : List.lookup ("known_cells" : Str) (fs_Ink d0 d1 d2 d3) = some d1 := (lk_miss ne_Ink_1_0).trans (lk_hit)
theorem ne_Ink_2_0 : ¬ (("left_ends" : Str) = "cell_list") := by decide +kernel
theorem ne_Ink_2_1 : ¬ (("left_ends" : Str) = "known_cells") := by decide +kernel
theorem lk_Ink_left_ends {d0 d1 d2 d3 : Dt} : List.lookup ("left_ends" : Str) (fs_Ink d0 d1 d2 d3) = some d2 := (lk_miss ne_Ink_2_0).trans ((lk_miss ne_Ink_2_1).trans (lk_hit))
theorem ne_Ink_3_0 : ¬ (("right_ends" : Str) = "cell_list") := by decide +kernel
theorem ne_Ink_3_1 : ¬ (("right_ends" : Str) = "known_cells") := by decide +kernel
theorem ne_Ink_3_2 : ¬ (("right_ends" : Str) = "left_ends") := by decide +kernel
theorem lk_Ink_right_ends {d0 d1 d2 d3 : Dt} : List.lookup ("right_ends" : Str) (fs_Ink d0 d1 d2 d3) = some d3 := (lk_miss ne_Ink_3_0).trans ((lk_miss ne_Ink_3_1).trans ((lk_miss ne_Ink_3_2).trans (lk_hit)))
theorem lk_Ink_no_cells {d0 d1 d2 d3 : Dt} : List.lookup ("cells" : Str) (fs_Ink d0 d1 d2 d3) = none := (lk_miss (by decide +kernel)).trans ((lk_miss (by decide +kernel)).trans ((lk_miss (by decide +kernel)).trans ((lk_miss (by decide +kernel)).trans (rfl))))
theorem lk_Ink_no_moved {d0 d1 d2 d3 : Dt} : List.lookup ("moved" : Str) (fs_Ink d0 d1 d2 d3) = none := (lk_miss (by decide +kernel)).trans ((lk_miss (by decide +kernel)).trans ((lk_miss (by decide +kernel)).trans ((lk_miss (by decide +kernel)).trans (rfl))))
theorem lk_Ink_no___len__ {d0 d1 d2 d3 : Dt} : List.lookup ("__len__" : Str) (fs_Ink d0 d1 d2 d3) = none := (lk_miss (by decide +kernel)).trans ((lk_miss (by decide +kernel)).trans ((lk_miss (by decide +kernel)).trans ((lk_miss (by decide +kernel)).trans (rfl))))
theorem lk_Ink_no___iter__ {d0 d1 d2 d3 : Dt} : List.lookup ("__iter__" : Str) (fs_Ink d0 d1 d2 d3) = none := (lk_miss (by decide +kernel)).trans ((lk_miss (by decide +kernel)).trans ((lk_miss (by decide +kernel)).trans ((lk_miss (by decide +kernel)).trans (rfl))))
theorem lk_Ink_no___contains__ {d0 d1 d2 d3 : Dt} : List.lookup ("__contains__" : Str) (fs_Ink d0 d1 d2 d3) = none := (lk_miss (by decide +kernel)).trans ((lk_miss (by decide +kernel)).trans ((lk_miss (by decide +kernel)).trans ((lk_miss (by decide +kernel)).trans (rfl))))
theorem lk_Ink_no___or__ {d0 d1 d2 d3 : Dt} : List.lookup ("__or__" : Str) (fs_Ink d0 d1 d2 d3) = none := (lk_miss (by decide +kernel)).trans ((lk_miss (by decide +kernel)).trans ((lk_miss (by decide +kernel)).trans ((lk_miss (by decide +kernel)).trans (rfl))))
theorem lk_Ink_no___and__ {d0 d1 d2 d3 : Dt} : List.lookup ("__and__" : Str) (fs_Ink d0 d1 d2 d3) = none := (lk_miss (by decide +kernel)).trans ((lk_miss (by decide +kernel)).trans ((lk_miss (by decide +kernel)).trans ((lk_miss (by decide +kernel)).trans (rfl))))
theorem lk_Ink_no___sub__ {d0 d1 d2 d3 : Dt} : List.lookup ("__sub__" : Str) (fs_Ink d0 d1 d2 d3) = none := (lk_miss (by decide +kernel)).trans ((lk_miss (by decide +kernel)).trans ((lk_miss (by decide +kernel)).trans ((lk_miss (by decide +kernel)).trans (rfl))))
theorem lk_Ink_no___xor__ {d0 d1 d2 d3 : Dt} : List.lookup ("__xor__" : Str) (fs_Ink d0 d1 d2 d3) = none := (lk_miss (by decide +kernel)).trans ((lk_miss (by decide +kernel)).trans ((lk_miss (by decide +kernel)).trans ((lk_miss (by decide +kernel)).trans (rfl))))
end
local macro_rules | `(tactic| walk_at "no") => `(tactic| first
  | with_reducible exact fun h => Bool.noConfusion (show true = false from h)
  | with_reducible exact fun h => Bool.noConfusion (show false = true from h)
  | exact fun h => absurd h (by decide)
  | exact fun h => absurd (of_decide_eq_true h) (by omega)
  | exact fun h => absurd (by omega) (of_decide_eq_false h)
  | exact fun h => absurd (by omega) (nd_t h)
  | exact fun h => absurd (nd_f h) (by omega)
  | fail "no")
section
open PySem L2 Ab PySem.W
end
local macro_rules | `(tactic| walk_at "kb") => `(tactic| first | exact kb_tt | exact kb_ll | exact kb_ii | exact kb_ib | exact kb_ss | exact kb_sb | exact kb_si | exact kb_tb | exact kb_ti | exact kb_ts | exact kb_tl | exact kb_lb | exact kb_li | exact kb_ls | exact kb_lt | exact kb_is | exact kb_it | exact kb_il | exact kb_st | exact kb_sl | exact kb_bb | exact kb_bi | exact kb_nb | exact kb_ni | exact kb_ns | exact kb_nt | exact kb_nl | exact kb_bs | exact kb_bt | exact kb_bl | fail "kb")
section
open PySem L2 Ab PySem.W
end
local macro_rules | `(tactic| walk_at "norm") => `(tactic| first
  | ((refine' norm_cons (rfl : _ = _ :: _) ?ea ?et); (case ea => first | with_reducible exact (rfl : Sl.val _ = _) | with_reducible exact (rfl : Sl.cel _ = _) | with_reducible exact (rfl : Sl.un = _) | with_reducible exact norm_v | with_reducible exact norm_n | with_reducible exact norm_o | exact norm_v | exact norm_n | exact norm_o | exact rfl | fail "norm"); (case et => walk_at "norm"))
  | exact (rfl : _ = ([] : List Sl))
  | fail "norm")
section
open PySem L2 Ab PySem.W
end
local macro_rules | `(tactic| walk_at "nd") => `(tactic| first
  | exact (rfl : _ = ([] : List Dt))
  | ((refine' normD_cons (rfl : _ = _ :: _) ?et); (case et => walk_at "nd"))
  | fail "nd")
section
open PySem L2 Ab PySem.W
end
local macro_rules | `(tactic| walk_at "yO") => `(tactic| first
  | with_reducible refine we_ixG ?_
  | with_reducible refine we_opI0 ?_
  | with_reducible refine we_addG ?_
  | with_reducible refine we_eqG ?_
  | with_reducible refine we_neG ?_
  | with_reducible refine we_ltG ?_
  | with_reducible refine we_mulG ?_
  | with_reducible refine we_opI ?_
  | with_reducible refine we_inG ?_
  | with_reducible refine we_notInG ?_
  | with_reducible refine we_gtS ?_
  | fail "yO")
section
open PySem L2 Ab PySem.W
end
local macro_rules | `(tactic| walk_at "yB") => `(tactic| first
  | with_reducible refine we_lenG ?_
  | with_reducible refine we_isiG ?_
  | with_reducible refine we_intG ?_
  | with_reducible refine we_tuple ?_
  | with_reducible refine we_list ?_
  | with_reducible refine we_sumG ?_
  | with_reducible refine we_sum ?_
  | with_reducible refine we_max2 ?_
  | with_reducible refine we_min2 ?_
  | with_reducible refine we_abs ?_
  | with_reducible refine we_isoG ?_
  | with_reducible refine we_join ?_
  | with_reducible refine we_nlist ?_
  | fail "yB")
section
open PySem L2 Ab PySem.W
end
local macro_rules | `(tactic| walk_at "yV") => `(tactic| first
  | ((with_reducible refine' we_var ?hh ?_); (case hh => exact rfl))
  | ((with_reducible refine' we_own ?hh ?_); (case hh => exact rfl))
  | fail "yV")
section
open PySem L2 Ab PySem.W
end
local macro_rules | `(tactic| walk_at "yC") => `(tactic| first
  | ((with_reducible refine' we_kst ?h1 ?_); (case h1 => assumption))
  | with_reducible refine we_c ?_
  | fail "yC")
section
open PySem L2 Ab PySem.W
end
local macro_rules | `(tactic| walk_at "yE") => `(tactic| first
  | ((with_reducible show Ab.WE _ (L2.tVar _) _ _); walk_at "yV")
  | ((with_reducible show Ab.WE _ (L2.tOp _ _ _) _ _); walk_at "yO")
  | ((with_reducible show Ab.WE _ (L2.tC _) _ _); walk_at "yC")
  | ((with_reducible show Ab.WE _ (L2.tCB _ _) _ _); walk_at "yB")
  | with_reducible refine we_callH ?_
  | with_reducible refine we_fldG ?_
  | with_reducible refine we_tup ?_
  | with_reducible refine we_lst ?_
  | with_reducible refine we_nget ?_
  | with_reducible refine we_nin ?_
  | with_reducible refine we_notN ?_
  | with_reducible refine we_isN ?_
  | with_reducible refine we_if ?_
  | with_reducible refine we_methG ?_
  | ((with_reducible refine' we_appendN ?hh ?_); (case hh => exact rfl))
  | with_reducible refine we_slG ?_
  | with_reducible refine we_nnotin ?_
  | with_reducible refine we_nnew ?_
  | with_reducible refine we_ndisp1 ?_
  | with_reducible refine we_nget1 ?_
  | with_reducible refine we_neg ?_
  | with_reducible refine we_make ?_
  | with_reducible refine we_own2 ?_
  | with_reducible refine we_smeth ?_
  | with_reducible refine we_makeD ?_
  | with_reducible refine we_makeK ?_
  | ((with_reducible refine' we_clearN ?hh ?_); (case hh => exact rfl))
  | with_reducible refine we_chainI ?_
  | with_reducible refine we_andV ?_
  | with_reducible refine we_orV ?_
  | with_reducible refine we_notV ?_
  | ((with_reducible refine' we_reverseN ?hh ?_); (case hh => exact rfl))
  | ((with_reducible refine' we_ktup ?h1 ?_); (case h1 => assumption))
  | fail "yE")
section
open PySem L2 Ab PySem.W
end
local macro_rules | `(tactic| walk_at "yS") => `(tactic| first
  | with_reducible refine ws_if ?_
  | with_reducible refine ws_expr ?_
  | with_reducible refine ws_asgN rfl rfl ?_
  | with_reducible refine ws_asgG ?_
  | with_reducible refine ws_nil ?_
  | ((with_reducible refine' ws_retDN ?hh ?_); (case hh => exact rfl))
  | ((with_reducible refine' ws_retA ?hh ?_); (case hh => exact rfl))
  | with_reducible refine ws_ret ?_
  | with_reducible refine ws_nput ?_
  | with_reducible refine ws_setN ?_
  | ((with_reducible refine' ws_augN ?h1 ?h2 ?_); (case h1 => exact rfl); (case h2 => exact rfl))
  | with_reducible refine ws_par rfl rfl rfl rfl ?_
  | with_reducible refine ws_par3 rfl rfl rfl rfl rfl rfl ?_
  | fail "yS")
section
open PySem L2 Ab PySem.W
end
local macro_rules | `(tactic| walk_at "yT") => `(tactic| first
  | with_reducible refine wt_test ?_
  | with_reducible refine wt_B ?_
  | with_reducible refine wt_not ?_
  | with_reducible refine wt_and ?_
  | with_reducible refine wt_or ?_
  | with_reducible refine wt_yes ?_
  | fail "yT")
section
open PySem L2 Ab PySem.W
end
local macro_rules | `(tactic| walk_at "yG") => `(tactic| first
  | with_reducible refine wg_nameN rfl rfl ?_
  | ((with_reducible refine' wg_tup ?hh ?_); (case hh => exact rfl))
  | fail "yG")
section
open PySem L2 Ab PySem.W
end
local macro_rules | `(tactic| walk_at "yD") => `(tactic| first
  | with_reducible refine wd_cons ?_
  | with_reducible refine wd_nil ?_
  | fail "yD")
section
open PySem L2 Ab PySem.W
end
local macro_rules | `(tactic| walk_at "yW") => `(tactic| first
  | with_reducible refine wa_cons ?_
  | with_reducible refine wa_nil ?_
  | fail "yW")
section
open PySem L2 Ab PySem.W
end
local macro_rules | `(tactic| walk_at "yR") => `(tactic| first
  | with_reducible refine wo_none ?_
  | with_reducible refine wo_some ?_
  | fail "yR")
section
open PySem L2 Ab PySem.W
end
local macro_rules | `(tactic| walk_at "yP") => `(tactic| first
  | ((with_reducible refine' fldp ?h1 ?h2 ?h3 ?_); (case h1 => assumption); (case h2 => assumption); (case h3 => walk_at "lk"))
  | ((with_reducible refine' ixp ?h1 ?h2 ?_); (case h1 => exact rfl); (case h2 => assumption))
  | ((with_reducible refine' ixp ?h1 ?h2 ?_); (case h1 => exact rfl); (case h2 => exact rfl))
  | with_reducible refine eqp_st ?_
  | with_reducible refine nep_st ?_
  | ((with_reducible refine' eqp_sf ?h1 ?_); (case h1 => first | assumption | decide +kernel))
  | ((with_reducible refine' nep_sf ?h1 ?_); (case h1 => first | assumption | decide +kernel))
  | with_reducible refine eqp_i ?_
  | with_reducible refine nep_i ?_
  | with_reducible refine addp_i ?_
  | with_reducible refine ltp_i ?_
  | ((with_reducible refine' lenp ?hh ?_); (case hh => exact rfl))
  | ((with_reducible refine' metp ?h3 ?_); (case h3 => walk_at "lk"))
  | ((with_reducible refine' addp_tE ?hz ?h ?_); (case h => walk_at "nd"); (case hz => exact Nat.le_of_ble_eq_true rfl))
  | ((with_reducible refine' slp_tE ?h ?_); (case h => walk_at "nd"))
  | ((with_reducible refine' mulp_r ?h1 ?_); (case h1 => first | decide | omega | fail "m"))
  | ((with_reducible refine' mulp_l ?h1 ?_); (case h1 => first | decide | omega | fail "m"))
  | with_reducible refine intp_i ?_
  | with_reducible refine intp_b ?_
  | ((with_reducible refine' isi_own ?h1 ?h2 ?_); (case h1 => exact rfl); (case h2 => walk_at "kb"))
  | ((with_reducible refine' isi_val ?h1 ?h2 ?_); (case h1 => exact rfl); (case h2 => walk_at "kb"))
  | ((with_reducible refine' isi_new ?h2 ?_); (case h2 => walk_at "kb"))
  | ((with_reducible refine' isop ?h1 ?_); (case h1 => assumption))
  | ((with_reducible refine' lenp_s ?h1 ?_); (case h1 => assumption))
  | ((with_reducible refine' slp_s ?h1 ?_); (case h1 => assumption))
  | ((with_reducible refine' ixp_s ?h1 ?h2 ?_); (case h1 => assumption); (case h2 => assumption))
  | with_reducible refine wgs_cons ?_
  | with_reducible refine wgs_nil ?_
  | fail "yP")
section
open PySem L2 Ab PySem.W
end
local macro_rules | `(tactic| walk_at "yA") => `(tactic| first
  | (refine ⟨_, rfl, ⟨_, rfl⟩, ?_⟩)
  | (refine ⟨_, rfl, ?_⟩)
  | (refine ⟨_, _, _, rfl, rfl, rfl, ?_⟩)
  | (refine ⟨_, _, rfl, rfl, (Nat.le_of_ble_eq_true rfl : _ ≤ _), ?_⟩)
  | (refine ⟨_, _, rfl, rfl, ?_⟩)
  | (refine ⟨(Nat.le_of_ble_eq_true rfl : _ ≤ _), ?_⟩)
  | (refine ⟨(rfl : _ = true), ?_⟩)
  | ((refine' ⟨fun _ => ?_, fun hY => absurd hY ?k2⟩); (case k2 => walk_at "no"))
  | ((refine' ⟨fun hY => absurd hY ?k2, fun _ => ?_⟩); (case k2 => walk_at "no"))
  | (refine ⟨⟨(by omega), (by omega)⟩, ?_⟩)
  | (refine ⟨⟨(by decide), (by decide), (by decide)⟩, ?_⟩)
  | (refine ⟨(show (_ : Prop) from by first | decide | omega | fail "c"), ?_⟩)
  | fail "yA")
section
open PySem L2 Ab PySem.W
end
local macro_rules | `(tactic| walk_at "x") => `(tactic| first
  | ((with_reducible refine' norm_intro ?hn ?_); (case hn => walk_at "norm"))
  | ((with_reducible show Ab.WE _ _ _ _); walk_at "yE")
  | ((with_reducible show Ab.WS _ _ _ _ _); walk_at "yS")
  | ((with_reducible show Ab.WD _ _ _ _); walk_at "yD")
  | ((with_reducible show Ab.WT _ _ _ _); walk_at "yT")
  | ((with_reducible show Ab.WG _ _ _ _ _ _); walk_at "yG")
  | ((with_reducible show Ab.WA _ _ _ _); walk_at "yW")
  | ((with_reducible show Ab.WO _ _ _ _); walk_at "yR")
  | ((fail_if_success with_reducible show Ab.Hold _); (first | walk_at "yP" | walk_at "yA" | fail "p"))
  | fail "x")
section
open PySem L2 Ab PySem.W
end
local macro_rules | `(tactic| walk_at "e") => `(tactic| first | with_reducible refine ws_seq ?_ | walk_at "x" | fail "stop")
section
open PySem L2 Ab PySem.W
end
local macro_rules | `(tactic| walk_at "xs") => `(tactic| repeat' walk_at "x")
section
open PySem L2 Ab PySem.W
end
local macro_rules | `(tactic| walk_at "es") => `(tactic| repeat' walk_at "e")
section
open PySem L2 Ab PySem.W
end
local macro_rules | `(tactic| walk_at "len") => `(tactic| ((intro as Post h); (repeat (first | (obtain ⟨e, _⟩ := h; exact (congrArg List.length e).trans rfl) | (obtain ⟨_, h⟩ := h)))))
section
open PySem L2 Ab PySem.W
end
local macro_rules | `(tactic| walk_at "tk") => `(tactic| refine .a (tk (by assumption) (by omega) (by omega) (by omega) fun _ _ _ _ _ => ?_))
section
open PySem L2 Ab PySem.W
end
local macro_rules | `(tactic| walk_at "lk") => `(tactic| first | exact lk_Ink_cell_list | exact lk_Ink_known_cells | exact lk_Ink_left_ends | exact lk_Ink_right_ends | exact lk_Ink_no_cells | exact lk_Ink_no_moved | exact lk_Ink_no___len__ | exact lk_Ink_no___iter__ | exact lk_Ink_no___contains__ | exact lk_Ink_no___or__ | exact lk_Ink_no___and__ | exact lk_Ink_no___sub__ | exact lk_Ink_no___xor__ | fail "lk")
section
open PySem L2 Ab PySem.W
end
local macro_rules | `(tactic| walk_at "yE") => `(tactic| first
  | with_reducible refine we_makeP ?_
  | with_reducible refine we_inO ?_
  | with_reducible refine we_it ?_
  | with_reducible refine we_dnewK ?_
  | with_reducible refine we_dnotinK ?_
  | with_reducible refine we_dinK ?_
  | with_reducible refine we_dgetK ?_
  | fail "yEI")
section
open PySem L2 Ab PySem.W
end
local macro_rules | `(tactic| walk_at "yB") => `(tactic| first
  | with_reducible refine we_boxLen ?_
  | with_reducible refine we_boxList ?_
  | fail "yBI")
section
open PySem L2 Ab PySem.W
end
local macro_rules | `(tactic| walk_at "yS") => `(tactic| first
  | with_reducible refine ws_dputK ?_
  | fail "ySI")
section
open PySem L2 Ab PySem.W
structure IkOk (K : PySem.W.Frag) (c : Addr) : Prop where
  co : ClsOk K c
  n0 : NoAttr K c "cell_list"
  n1 : NoAttr K c "known_cells"
  n2 : NoAttr K c "left_ends"
  n3 : NoAttr K c "right_ends"
section
variable {K : PySem.W.Frag} {c : Addr} {w : World}
def ai_Ink (w : World) : AIP := fun as Post => ∃ cs : List Pt, as = [.acc (cs.map P2)] ∧ cs.length ≤ 900000 ∧ Post (inkF w (ordOf cs)) [.acc (cs.map P2)]
theorem len_ai {w : World} : ∀ as Post, ai_Ink w as Post → as.length + 1 = (["self", "cells"] : List Str).length := by
  rintro as Post ⟨cs, rfl, _⟩; rfl
theorem run_ikinit (ok : IkOk K c) (as : List Sl) (Post : List (Str × Dt) → List Sl → Prop) (h : ai_Ink w as Post) : WIP K c [1] (tq_Ink___init__ K w) ((.un :: as) ++ List.replicate (9 - (as.length + 1)) .un) [] (fun gs G => Post gs (exitFrom [1] G 1 as)) := by
  obtain ⟨cs, rfl, hn, k⟩ := h
  unfold tq_Ink___init__
  show WIP K c [1] _ [.un, .acc (cs.map P2), .un, .un, .un, .un, .un, .un, .un] [] _
  refine wip_seq (wip_ws ?_)
  walk_at "xs"
  refine ⟨rfl, ?_⟩
  refine wip_seq (wip_ws ?_)
  refine for_accT cs P2 (fun i G => ∃ s3 s4 : Sl, NC s3 ∧ NC s4 ∧ G = [.un, .acc (cs.map P2), .cel (.dN w (kvU (uniq ((cs.take i).map sw)))), s3, s4, .un, .un, .un, .un]) rfl ⟨.un, .un, nc_un, nc_un, rfl⟩ (fun i G h => by obtain ⟨_, _, _, _, rfl⟩ := h; rfl) ?_ ?_
  · rintro i p G hp ⟨s3, s4, n3, n4, rfl⟩
    have hi : i < cs.length := (List.getElem?_eq_some_iff.mp hp).1
    have hst : (cs.take (i + 1)).map sw = (cs.take i).map sw ++ [sw p] := by rw [List.take_add_one, hp, List.map_append]; rfl
    have hlen : (kvU (uniq ((cs.take i).map sw))).length < 10000000 := by
      unfold kvU
      rw [List.length_map]
      refine Nat.lt_of_le_of_lt len_uniq ?_
      rw [List.length_map, List.length_take]; omega
    show WG K _ _ (.tup [.int p.1, .int p.2]) _ _
    walk_at "xs"
    refine .a ⟨_, kP (sw p), congrArg Re.val (dtN_kP (sw p)).symm, ⟨_, rfl⟩, kP_depth _, rfl, hlen, ?_⟩
    rw [putE_kvU, ← uniq_snoc, ← hst]
    exact .a ⟨_, _, nc_val, nc_val, rfl⟩
  · rintro G ⟨s3, s4, n3, n4, rfl⟩
    refine ⟨rfl, ?_⟩
    rw [List.take_of_length_le (Nat.le_refl _)]
    refine wip_seq (wip_ws ?_)
    walk_at "xs"
    have hul : (uniq (cs.map sw)).length ≤ cs.length := Nat.le_trans len_uniq (by rw [List.length_map]; exact Nat.le_refl _)
    refine lc_two ((uniq (cs.map sw)).mergeSort (dataLe false encP)) P2 (fun p => P2 (sw p)) [0, 1, 2, 5, 6, 7, 8] (by decide) (fun j hj h6 h7 => ?_) (Nat.le_of_ble_eq_true rfl) (Nat.le_of_ble_eq_true rfl) (nc_at n4) (nc_at n3) ?_ ?_ ?_
    · have : j < 9 := hj
      have : j = 0 ∨ j = 1 ∨ j = 2 ∨ j = 5 ∨ j = 6 ∨ j = 7 ∨ j = 8 := by omega
      simpa using this
    · refine we_sortD0 P2 encP ?_
      walk_at "xs"
      refine .a ⟨kvU (uniq (cs.map sw)), rfl, ?_⟩
      rw [kv_keysU]
      refine .a ⟨uniq (cs.map sw), rfl, fun p _ => ⟨py_P p, depth_P p⟩, AllAlike.of alike_P, Sortable.tuples fun s => ⟨_, _, rfl⟩, ?_⟩
      exact .a ⟨rfl, by rw [(List.mergeSort_perm _ _).length_eq]; omega, rfl⟩
    · rintro p hp
      show WG K _ _ (.tup [.int p.1, .int p.2]) _ _
      walk_at "xs"
      refine ⟨⟨_, _, rfl⟩, ?_⟩
      walk_at "xs"
      exact ⟨rfl, rfl⟩
    · rw [show (((uniq (cs.map sw)).mergeSort (dataLe false encP)).map fun p => P2 (sw p)) = (ordOf cs).map P2 by unfold ordOf; rw [List.map_map]; rfl]
      refine ⟨rfl, ?_⟩
      generalize hO : ordOf cs = O
      have hOo : Ord O := hO ▸ ordOf_ord cs
      have hOl : O.length ≤ cs.length := hO ▸ len_ordOf
      refine wip_seq (wip_ws ?_)
      walk_at "xs"
      refine ⟨rfl, ?_⟩
      refine wip_seq (wip_ws ?_)
      walk_at "xs"
      refine ⟨rfl, ?_⟩
      refine wip_seq (wip_ws ?_)
      walk_at "xs"
      refine ⟨rfl, ?_⟩
      refine wip_seq (wip_ws ?_)
      refine for_accT O P2 (fun i G => ∃ s3 s4 : Sl, NC s3 ∧ NC s4 ∧ G = [.un, .acc (cs.map P2), .cel (.dN w (kvU (uniq (cs.map sw)))), s3, s4, .acc (O.map P2), .cel (.dK (leftsOf (O.take i))), .cel (.dK (rightsOf (O.take i))), .cel (.dN w (kvU (uniq (O.take i))))]) rfl ⟨_, _, n3, n4, rfl⟩ (fun i G h => by obtain ⟨_, _, _, _, rfl⟩ := h; rfl) ?_ ?_
      · rintro i p G hp ⟨s3, s4, n3, n4, rfl⟩
        have hi : i < O.length := (List.getElem?_eq_some_iff.mp hp).1
        have hst : O.take (i + 1) = O.take i ++ [p] := by rw [List.take_add_one, hp]; rfl
        have hlen : (kvU (uniq (O.take i))).length < 10000000 := by
          unfold kvU
          rw [List.length_map]
          refine Nat.lt_of_le_of_lt len_uniq ?_
          rw [List.length_take]; omega
        have hl6 : (leftsOf (O.take i)).length < 1000000 := Nat.lt_of_le_of_lt (len_lefts _) (by rw [List.length_take]; omega)
        have hl7 : (rightsOf (O.take i)).length < 1000000 := Nat.lt_of_le_of_lt (len_rights _) (by rw [List.length_take]; omega)
        have hR : rightsOf (O.take (i + 1)) = putE (rightsOf (O.take i)) (.inl p.2) (.int (p.1 + 1)) := by rw [hst, rights_snoc]; rfl
        show WG K _ _ (.tup [.int p.1, .int p.2]) _ _
        walk_at "es"
        refine ⟨_, .inl p.2, rfl, rfl, _, rfl, fun e => ?_, fun e => ?_⟩
        · have hL : leftsOf (O.take (i + 1)) = putE (leftsOf (O.take i)) (.inl p.2) (.int p.1) := by
            rw [hst, lefts_snoc]
            unfold leftE
            rw [if_neg (fun z => by rw [z] at e; exact absurd e (by decide))]
          walk_at "es"
          refine ⟨_, .inl p.2, rfl, rfl, hl6, ?_⟩
          walk_at "es"
          refine ⟨_, .inl p.2, rfl, rfl, hl7, ?_⟩
          walk_at "es"
          refine .a ⟨_, kP p, congrArg Re.val (dtN_kP p).symm, ⟨_, rfl⟩, kP_depth _, rfl, hlen, ?_⟩
          rw [putE_kvU, ← uniq_snoc, hL, hR, ← hst]
          exact .a ⟨.val (.int p.1), .val (.int p.2), nc_val, nc_val, rfl⟩
        · have hL : leftsOf (O.take (i + 1)) = leftsOf (O.take i) := by
            rw [hst, lefts_snoc]
            unfold leftE
            rw [if_pos (by cases q : (valD (leftsOf (O.take i)) (.inl p.2)).isSome with
              | true => rfl
              | false => rw [q] at e; exact absurd e (by decide))]
          walk_at "es"
          refine ⟨_, .inl p.2, rfl, rfl, hl7, ?_⟩
          walk_at "es"
          refine .a ⟨_, kP p, congrArg Re.val (dtN_kP p).symm, ⟨_, rfl⟩, kP_depth _, rfl, hlen, ?_⟩
          rw [putE_kvU, ← uniq_snoc, hL, hR, ← hst]
          exact .a ⟨.val (.int p.1), .val (.int p.2), nc_val, nc_val, rfl⟩
      · rintro G ⟨s3, s4, n3, n4, rfl⟩
        refine ⟨rfl, ?_⟩
        rw [List.take_of_length_le (Nat.le_refl _), uniq_of hOo.nodup]
        refine wip_seq (wip_set ok.co.cl ok.n0 rfl (Nat.le_of_ble_eq_true rfl) (we_move rfl ⟨_, rfl, rfl, ?_⟩))
        refine wip_seq (wip_set ok.co.cl ok.n1 (lk_miss ne_Ink_1_0) (Nat.le_of_ble_eq_true rfl) (we_move rfl ⟨_, rfl, rfl, ?_⟩))
        refine wip_seq (wip_set ok.co.cl ok.n2 ((lk_miss ne_Ink_2_0).trans (lk_miss ne_Ink_2_1)) (Nat.le_of_ble_eq_true rfl) (we_move rfl ⟨_, rfl, rfl, ?_⟩))
        refine wip_set ok.co.cl ok.n3 ((lk_miss ne_Ink_3_0).trans ((lk_miss ne_Ink_3_1).trans (lk_miss ne_Ink_3_2))) (Nat.le_of_ble_eq_true rfl) (we_move rfl ⟨_, rfl, rfl, ?_⟩)
        rw [hO] at k
        exact k
abbrev ap_cells (c : Addr) (w : World) : AP := fun as Post => ∃ l : List Pt, as = [.val (inkD c w l)] ∧ l.length ≤ 900000 ∧ Post (.new (l.map P2)) as
theorem run_cells (ok : IkOk K c) : RunOk K [] (tq_Ink_cells K) 1 (ap_cells c w) := by
  rintro as Post ⟨l, rfl, hl, k⟩
  obtain ⟨co, n0, n1, n2, n3⟩ := ok
  have cl := co.cl
  unfold tq_Ink_cells
  show WS K [] _ [.val (inkD c w l)] _
  walk_at "es"
  exact k
abbrev ap_in (c : Addr) (w : World) : AP := fun as Post => ∃ (l : List Pt) (p : Pt), as = [.val (inkD c w l), .val (P2 p)] ∧ Post (.val (.bl (decide (p ∈ l)))) as
theorem run_in (ok : IkOk K c) : RunOk K [] (tq_Ink___contains__ K w) 2 (ap_in c w) := by
  rintro as Post ⟨l, p, rfl, k⟩
  obtain ⟨co, n0, n1, n2, n3⟩ := ok
  have cl := co.cl
  unfold tq_Ink___contains__
  show WS K [] _ [.val (inkD c w l), .val (P2 p)] _
  walk_at "es"
  refine .a ⟨_, kP p, rfl, congrArg Re.val (dtN_kP p).symm, ⟨_, rfl⟩, kP_depth _, ?_⟩
  rw [valD_kvU]
  exact ⟨rfl, k⟩
abbrev ap_or (c : Addr) (w : World) : AP := fun as Post => ∃ (a b : List Pt), as = [.val (inkD c w a), .val (inkD c w b)] ∧ a.length + b.length ≤ 900000 ∧ Post (.val (inkD c w (ordOf (a ++ b)))) as
theorem run_or (ok : IkOk K c) : RunOk K [] (tq_Ink___or__ K c (ai_Ink w)) 2 (ap_or c w) := by
  rintro as Post ⟨a, b, rfl, hl, k⟩
  obtain ⟨co, n0, n1, n2, n3⟩ := ok
  have cl := co.cl
  unfold tq_Ink___or__
  show WS K [] _ [.val (inkD c w a), .val (inkD c w b)] _
  walk_at "es"
  refine addp_l rfl rfl rfl rfl (by rw [List.length_map, List.length_map]; omega) ?_
  walk_at "es"
  refine .a ⟨a ++ b, by rw [List.map_append]; rfl, by rw [List.length_append]; exact hl, ?_⟩
  exact ⟨rfl, k⟩
end
end
section
open PySem L2 Ab PySem.W
def pdP (p : Pt) : PD := .tup [.int p.1, .int p.2]
theorem pd_oks : ∀ l : List Pt, PD.oks (l.map pdP)
  | [] => by simp [PD.oks]
  | p :: l => by have := pd_oks l; simp [PD.oks, PD.ok, pdP] at *; exact this
theorem pd_deps : ∀ l : List Pt, PD.deps (l.map pdP) ≤ 3
  | [] => by simp [PD.deps]
  | p :: l => by have := pd_deps l; simp [PD.deps, PD.dep, pdP] at *; omega
theorem pd_dts : ∀ l : List Pt, PD.dts (l.map pdP) = l.map P2
  | [] => by simp [PD.dts]
  | p :: l => by have := pd_dts l; simp [PD.dts, PD.dt, pdP, P2] at *; exact this
theorem eqp_lstD {neg : Bool} {ra rb : Re} {Γ : List Sl} {Post : Re → List Sl → Prop} {as bs : List PD} (ha : PD.oks as) (hb : PD.oks bs) (la : PD.deps as ≤ 60) (lb : PD.deps bs ≤ 60) (h1 : ra.py Γ = (pyAll (PD.dts as)).map .list) (h2 : rb.py Γ = (pyAll (PD.dts bs)).map .list)
    (k : Post (.val (.bl (neg ^^ PD.eqs as bs))) Γ) : EqP neg ra rb Γ Post := by
  rw [PD.pys_dts] at h1 h2
  obtain ⟨a1, a2⟩ := PD.pys_ok as ha
  obtain ⟨b1, b2⟩ := PD.pys_ok bs hb
  refine eqp_d h1 h2 ?_ ?_ ?_
  · unfold SeqAt.shaped; rw [PyData.canLay0, PyData.depth, a1, decide_eq_true (by omega)]; rfl
  · unfold SeqAt.shaped; rw [PyData.canLay0, PyData.depth, b1, decide_eq_true (by omega)]; rfl
  · rw [PyData.eqv]; exact k
theorem eqp_cells {neg : Bool} {ra rb : Re} {Γ : List Sl} {Post : Re → List Sl → Prop} {l : List Pt} (h1 : ra.py Γ = (pyAll (l.map P2)).map .list) (h2 : rb.py Γ = (pyAll (l.map P2)).map .list) (k : Post (.val (.bl (neg ^^ true))) Γ) : EqP neg ra rb Γ Post := by
  refine eqp_lstD (pd_oks l) (pd_oks l) (Nat.le_trans (pd_deps l) (by decide)) (Nat.le_trans (pd_deps l) (by decide)) (by rw [pd_dts]; exact h1) (by rw [pd_dts]; exact h2) ?_
  rw [(PD.eqs_iff _ _).mpr rfl]
  exact k
def cdP (p : Pt) : Int := p.2 * 16384 + p.1 + 8192
def deco (c : Int) : Pt := (c % 16384 - 8192, c / 16384)
def InG (p : Pt) : Prop := -8192 ≤ p.1 ∧ p.1 < 8192
theorem deco_cdP {p : Pt} (h : InG p) : deco (cdP p) = p := by
  unfold InG at h
  refine Prod.ext ?_ ?_
  · show (p.2 * 16384 + p.1 + 8192) % 16384 - 8192 = p.1; omega
  · show (p.2 * 16384 + p.1 + 8192) / 16384 = p.2; omega
theorem cdP_lt {p q : Pt} (hp : InG p) (hq : InG q) : cdP p < cdP q ↔ ltYX p q := by
  unfold InG at *
  unfold cdP ltYX
  omega
def stepD (l : List Int) (k : Nat) : List Pt := if k = 0 ∨ l.getD k 0 ≠ l.getD (k - 1) 0 then [deco (l.getD k 0)] else []
def firstD (l : List Int) : Nat → List Pt
  | 0 => []
  | k + 1 => firstD l k ++ stepD l k
theorem firstD_spec {cs : List Pt} (hg : ∀ p ∈ cs, InG p) {l : List Int} (hl : l.Pairwise (· ≤ ·)) (hm : ∀ c, c ∈ l ↔ ∃ p ∈ cs, cdP p = c) : ∀ k, k ≤ l.length → Ord (firstD l k) ∧ (∀ p, p ∈ firstD l k ↔ ∃ j, j < k ∧ deco (l.getD j 0) = p) := by
  have at_ : ∀ j, j < l.length → ∃ p ∈ cs, cdP p = l.getD j 0 := fun j hj => by
    rw [← hm]
    simp only [List.getD_eq_getElem?_getD]
    rw [List.getElem?_eq_getElem hj]
    exact List.getElem_mem hj
  have mono : ∀ i j, i ≤ j → j < l.length → l.getD i 0 ≤ l.getD j 0 := fun i j hij hj => by
    simp only [List.getD_eq_getElem?_getD]
    rw [List.getElem?_eq_getElem hj, List.getElem?_eq_getElem (by omega)]
    rcases Nat.lt_or_eq_of_le hij with h | h
    · exact List.pairwise_iff_getElem.mp hl i j (by omega) hj h
    · subst h; exact Int.le_refl _
  intro k
  induction k with
  | zero => exact fun _ => ⟨List.Pairwise.nil, fun p => ⟨fun h => by simp [firstD] at h, fun ⟨j, h, _⟩ => absurd h (Nat.not_lt_zero _)⟩⟩
  | succ k ih =>
    intro hk
    obtain ⟨h1, h2⟩ := ih (by omega)
    obtain ⟨p, hp, ep⟩ := at_ k (by omega)
    have dk : deco (l.getD k 0) = p := by rw [← ep, deco_cdP (hg p hp)]
    unfold firstD stepD
    by_cases hc : k = 0 ∨ l.getD k 0 ≠ l.getD (k - 1) 0
    · rw [if_pos hc]
      refine ⟨List.pairwise_append.mpr ⟨h1, List.pairwise_singleton _ _, fun a ha b hb => ?_⟩, fun q => ?_⟩
      · rw [List.mem_singleton] at hb
        subst hb
        obtain ⟨j, hj, rfl⟩ := (h2 a).mp ha
        obtain ⟨pj, hpj, epj⟩ := at_ j (by omega)
        rw [dk, ← epj, deco_cdP (hg pj hpj), ← cdP_lt (hg pj hpj) (hg p hp), epj, ep]
        have m1 := mono j (k - 1) (by omega) (by omega)
        have m2 := mono (k - 1) k (by omega) (by omega)
        have : l.getD k 0 ≠ l.getD (k - 1) 0 := hc.resolve_left (by omega)
        omega
      · rw [List.mem_append, h2, List.mem_singleton]
        constructor
        · rintro (⟨j, hj, e⟩ | e)
          · exact ⟨j, by omega, e⟩
          · exact ⟨k, by omega, e.symm⟩
        · rintro ⟨j, hj, e⟩
          by_cases hjk : j = k
          · subst hjk; exact .inr e.symm
          · exact .inl ⟨j, by omega, e⟩
    · rw [if_neg hc, List.append_nil]
      refine ⟨h1, fun q => ?_⟩
      rw [h2]
      constructor
      · rintro ⟨j, hj, e⟩; exact ⟨j, by omega, e⟩
      · rintro ⟨j, hj, e⟩
        by_cases hjk : j = k
        · subst hjk
          have h0 : j ≠ 0 := fun z => hc (.inl z)
          have : l.getD j 0 = l.getD (j - 1) 0 := by
            by_cases z : l.getD j 0 = l.getD (j - 1) 0
            · exact z
            · exact absurd (.inr z) hc
          exact ⟨j - 1, by omega, by rw [← this]; exact e⟩
        · exact ⟨j, by omega, e⟩
theorem firstD_ord {cs : List Pt} (hg : ∀ p ∈ cs, InG p) {l : List Int} (hl : l.Pairwise (· ≤ ·)) (hm : ∀ c, c ∈ l ↔ ∃ p ∈ cs, cdP p = c) : firstD l l.length = ordOf cs := by
  obtain ⟨h1, h2⟩ := firstD_spec hg hl hm l.length (Nat.le_refl _)
  refine ord_ext h1 (ordOf_ord cs) fun p => ?_
  rw [h2, mem_ordOf]
  constructor
  · rintro ⟨j, hj, e⟩
    have : l.getD j 0 ∈ l := by
      simp only [List.getD_eq_getElem?_getD]
      rw [List.getElem?_eq_getElem hj]
      exact List.getElem_mem hj
    obtain ⟨q, hq, eq⟩ := (hm _).mp this
    rw [← e, ← eq, deco_cdP (hg q hq)]
    exact hq
  · intro hp
    obtain ⟨j, hj, e⟩ := List.mem_iff_getElem.mp ((hm (cdP p)).mpr ⟨p, hp, rfl⟩)
    refine ⟨j, hj, ?_⟩
    rw [List.getD_eq_getElem?_getD, List.getElem?_eq_getElem hj]
    show deco l[j] = p
    rw [e, deco_cdP (hg p hp)]
end
section
open PySem L2 Ab PySem.W
abbrev Spn := Int × Int
abbrev IRow := Int × List Spn
def spC (y : Int) (q : Spn) : List Pt := (List.range (q.2 - q.1).toNat).map fun k : Nat => (q.1 + (k : Int), y)
def rowC (r : IRow) : List Pt := r.2.flatMap (spC r.1)
structure GoodR (rs : List IRow) (l : List Pt) : Prop where
  cells : rs.reverse.flatMap rowC = l
  ne : ∀ r ∈ rs, r.2 ≠ []
  pos : ∀ r ∈ rs, ∀ q ∈ r.2, q.1 < q.2
  gap : ∀ r ∈ rs, r.2.Pairwise (fun a b => a.2 < b.1)
  desc : rs.Pairwise (fun a b => b.1 < a.1)
theorem spC_snoc {y a b : Int} (h : a ≤ b) : spC y (a, b + 1) = spC y (a, b) ++ [(b, y)] := by
  unfold spC
  simp only
  rw [show (b + 1 - a).toNat = (b - a).toNat + 1 by omega, List.range_succ, List.map_append]
  congr 1
  rw [List.map_singleton, show a + ((b - a).toNat : Int) = b by omega]
theorem mem_spC {y : Int} {q : Spn} {p : Pt} : p ∈ spC y q ↔ p.2 = y ∧ q.1 ≤ p.1 ∧ p.1 < q.2 := by
  unfold spC
  rw [List.mem_map]
  constructor
  · rintro ⟨k, hk, rfl⟩
    rw [List.mem_range] at hk
    exact ⟨rfl, by simp only; omega, by simp only; omega⟩
  · rintro ⟨h1, h2, h3⟩
    refine ⟨(p.1 - q.1).toNat, List.mem_range.mpr (by omega), Prod.ext ?_ h1.symm⟩
    simp only; omega
theorem len_spC {y : Int} {q : Spn} : (spC y q).length = (q.2 - q.1).toNat := by unfold spC; rw [List.length_map, List.length_range]
theorem flat_snoc {α β : Type} {f : α → List β} {l : List α} {x : α} : (l ++ [x]).flatMap f = l.flatMap f ++ f x := by simp
theorem valD_put {κ : Type} [DecidableEq κ] {kvs : List (κ × Dt)} {k k' : κ} {d : Dt} : valD (putE kvs k d) k' = if k' = k then some d else valD kvs k' := by
  unfold putE valD
  by_cases h : (kvs.any fun kv => decide (kv.1 = k)) = true
  · rw [if_pos h]
    induction kvs with
    | nil => simp at h
    | cons a r ih =>
      by_cases ha : a.1 = k
      · by_cases hk : k' = k
        · subst hk
          simp [ha]
        · rw [if_neg hk]
          have hak : ¬ a.1 = k' := fun z => hk (z ▸ ha)
          have hkk : ¬ k = k' := fun z => hk z.symm
          rw [List.map_cons, if_pos ha, List.find?_cons_of_neg (by simpa [ha] using hkk), List.find?_cons_of_neg (by simpa using hak)]
          by_cases hr : (r.any fun kv => decide (kv.1 = k)) = true
          · have := ih hr
            rw [if_neg hk] at this
            exact this
          · have hn : ∀ kv ∈ r, ¬ kv.1 = k := fun kv hkv e => hr (List.any_eq_true.mpr ⟨kv, hkv, decide_eq_true e⟩)
            have e : r.map (fun kv => if kv.1 = k then (kv.1, d) else kv) = r := by
              conv => rhs; rw [← List.map_id r]
              exact List.map_congr_left fun kv hkv => if_neg (hn kv hkv)
            rw [e]
      · have hr : (r.any fun kv => decide (kv.1 = k)) = true := by
          rw [List.any_cons, Bool.or_eq_true] at h
          exact h.resolve_left (by simpa using ha)
        have := ih hr
        rw [List.map_cons, if_neg ha]
        by_cases hk : a.1 = k'
        · have hkk : ¬ k' = k := fun z => ha (hk.trans z)
          rw [if_neg hkk, List.find?_cons_of_pos (by simpa using hk), List.find?_cons_of_pos (by simpa using hk)]
        · rw [List.find?_cons_of_neg (by simpa using hk), List.find?_cons_of_neg (by simpa using hk)]
          exact this
  · rw [if_neg h, List.find?_append]
    have hn : ∀ kv ∈ kvs, ¬ kv.1 = k := fun kv hkv e => h (List.any_eq_true.mpr ⟨kv, hkv, decide_eq_true e⟩)
    by_cases hk : k' = k
    · subst hk
      rw [if_pos rfl, List.find?_eq_none.mpr fun kv hkv => by simpa using hn kv hkv]
      simp
    · rw [if_neg hk]
      have : ¬ k = k' := fun z => hk z.symm
      simp [this]
theorem snoc_ind {α : Type} {Q : List α → Prop} (h0 : Q []) (h1 : ∀ l x, Q l → Q (l ++ [x])) : ∀ l, Q l := by
  have : ∀ n (l : List α), l.length = n → Q l := by
    intro n
    induction n with
    | zero => intro l h; rw [List.eq_nil_of_length_eq_zero h]; exact h0
    | succ n ih =>
      intro l h
      have hne : l ≠ [] := by intro z; subst z; simp at h
      have e := (List.dropLast_concat_getLast hne).symm
      rw [e]
      exact h1 _ _ (ih _ (by rw [List.length_dropLast]; omega))
  exact fun l => this _ l rfl
end
section
open PySem L2 Ab Strokes PySem.W
abbrev Out := Int × Int × List Stk
def ptsO (o : Out) : List Pt := (o.1, o.2.1) :: walkP (o.1, o.2.1) (allS o.2.2)
def outT (o : Out) : Dt := .tup [.int o.1, .int o.2.1, .tup (o.2.2.map Stk.dt)]
def edgeL (p q : Pt) : List Pt := if p.1 = q.1 then [(p.1, min p.2 q.2)] else []
def edgesK (pts : List Pt) (k : Nat) : List Pt := (List.range k).flatMap fun i => edgeL (pts.getD i (0, 0)) (pts.getD (i + 1) (0, 0))
theorem edgesK_succ (pts : List Pt) (k : Nat) : edgesK pts (k + 1) = edgesK pts k ++ edgeL (pts.getD k (0, 0)) (pts.getD (k + 1) (0, 0)) := by
  unfold edgesK; rw [List.range_succ, List.flatMap_append]; simp
def edgesO (o : Out) : List Pt := edgesK (ptsO o) (allS o.2.2).length
def allE (os : List Out) : List Pt := os.flatMap edgesO
theorem allE_snoc (os : List Out) (o : Out) : allE (os ++ [o]) = allE os ++ edgesO o := by unfold allE; simp
def Clo (o : Out) : Prop := endP (o.1, o.2.1) (allS o.2.2) = (o.1, o.2.1)
instance (o : Out) : Decidable (Clo o) := by unfold Clo; infer_instance
def OkO (o : Out) : Prop := (∀ st ∈ o.2.2, st.ok) ∧ (allS o.2.2).length ≤ 8000 ∧ -1900 < o.1 ∧ o.1 < 1900 ∧ -1900 < o.2.1 ∧ o.2.1 < 1900
abbrev CRow := Int × List Int
def addC (rows : List CRow) (e : Pt) : List CRow := if e.2 ∈ rows.map (·.1) then rows.map (fun r => if r.1 = e.2 then (r.1, r.2 ++ [e.1]) else r) else rows ++ [(e.2, [e.1])]
def crossC (E : List Pt) : List CRow := E.foldl addC []
theorem crossC_snoc (E : List Pt) (e : Pt) : crossC (E ++ [e]) = addC (crossC E) e := by unfold crossC; rw [List.foldl_append]; rfl
def onRow (E : List Pt) (y : Int) : List Int := (E.filter fun e => decide (e.2 = y)).map (·.1)
theorem onRow_snoc (E : List Pt) (e : Pt) (y : Int) : onRow (E ++ [e]) y = onRow E y ++ (if e.2 = y then [e.1] else []) := by
  unfold onRow
  rw [List.filter_append, List.map_append]
  congr 1
  by_cases h : e.2 = y <;> simp [h]
theorem addC_keys (rows : List CRow) (e : Pt) : (addC rows e).map (·.1) = if e.2 ∈ rows.map (·.1) then rows.map (·.1) else rows.map (·.1) ++ [e.2] := by
  unfold addC
  split
  · rw [List.map_map]
    refine List.map_congr_left fun r _ => ?_
    show (if r.1 = e.2 then (r.1, r.2 ++ [e.1]) else r).1 = r.1
    split <;> rfl
  · rw [List.map_append]; rfl
theorem cross_spec : ∀ E : List Pt, ((crossC E).map (·.1)).Nodup ∧ (∀ r ∈ crossC E, r.2 = onRow E r.1) ∧ ∀ y, y ∈ (crossC E).map (·.1) ↔ ∃ e ∈ E, e.2 = y := by
  refine snoc_ind ⟨List.nodup_nil, (fun _ h => nomatch h), fun y => ⟨(fun h => nomatch h), fun ⟨e, h, _⟩ => nomatch h⟩⟩ fun E e ih => ?_
  obtain ⟨h1, h2, h3⟩ := ih
  rw [crossC_snoc, addC_keys]
  by_cases hk : e.2 ∈ (crossC E).map (·.1)
  · rw [if_pos hk]
    refine ⟨h1, fun r hr => ?_, fun y => ?_⟩
    · unfold addC at hr
      rw [if_pos hk] at hr
      obtain ⟨r0, hr0, rfl⟩ := List.mem_map.mp hr
      rw [onRow_snoc]
      by_cases q : r0.1 = e.2
      · rw [if_pos q]
        show r0.2 ++ [e.1] = onRow E r0.1 ++ _
        rw [h2 r0 hr0, if_pos q.symm]
      · rw [if_neg q, h2 r0 hr0, if_neg (fun z => q z.symm), List.append_nil]
    · rw [h3]
      constructor
      · rintro ⟨e', he, rfl⟩; exact ⟨e', List.mem_append_left _ he, rfl⟩
      · rintro ⟨e', he, rfl⟩
        rcases List.mem_append.mp he with he | he
        · exact ⟨e', he, rfl⟩
        · rw [List.mem_singleton.mp he]; exact (h3 _).mp hk
  · rw [if_neg hk]
    refine ⟨List.nodup_append.mpr ⟨h1, by simp, fun a ha b hb => ?_⟩, fun r hr => ?_, fun y => ?_⟩
    · rw [List.mem_singleton] at hb
      subst hb
      intro z; subst z; exact hk ha
    · unfold addC at hr
      rw [if_neg hk] at hr
      rw [onRow_snoc]
      rcases List.mem_append.mp hr with hr | hr
      · have : e.2 ≠ r.1 := fun z => hk (z ▸ List.mem_map.mpr ⟨r, hr, rfl⟩)
        rw [h2 r hr, if_neg this, List.append_nil]
      · rw [List.mem_singleton.mp hr]
        show [e.1] = onRow E e.2 ++ _
        rw [if_pos rfl]
        have : onRow E e.2 = [] := by
          unfold onRow
          rw [List.map_eq_nil_iff, List.filter_eq_nil_iff]
          intro a ha z
          exact hk ((h3 _).mpr ⟨a, ha, of_decide_eq_true z⟩)
        rw [this]; rfl
    · rw [List.mem_append, h3, List.mem_singleton]
      constructor
      · rintro (⟨e', he, rfl⟩ | rfl)
        · exact ⟨e', List.mem_append_left _ he, rfl⟩
        · exact ⟨e, by simp, rfl⟩
      · rintro ⟨e', he, rfl⟩
        rcases List.mem_append.mp he with he | he
        · exact .inl ⟨e', he, rfl⟩
        · exact .inr (by rw [List.mem_singleton.mp he])
def pairC (y : Int) : List Int → List Pt
  | a :: b :: r => spC y (a, b) ++ pairC y r
  | _ => []
def srt (l : List Int) : List Int := l.mergeSort (dataLe false PyData.int)
theorem srt_perm (l : List Int) : (srt l).Perm l := List.mergeSort_perm _ _
theorem srt_le (l : List Int) : (srt l).Pairwise (· ≤ ·) := by
  unfold srt
  have e : (dataLe false PyData.int) = fun a b : Int => decide (a ≤ b) := dataLe_int (fun i : Int => i)
  rw [e]
  refine (List.pairwise_mergeSort (fun a b c h1 h2 => ?_) (fun a b => ?_) l).imp fun h => of_decide_eq_true h
  · simp only [decide_eq_true_eq] at *; omega
  · by_cases h : a ≤ b
    · simp [h]
    · have : b ≤ a := by omega
      simp [this]
def cnt (l : List Int) (x : Int) : Nat := l.countP fun a => decide (a ≤ x)
theorem mem_pairC (y : Int) (p : Pt) : ∀ (n : Nat) (l : List Int), l.length = n → l.Pairwise (· ≤ ·) → n % 2 = 0 → (p ∈ pairC y l ↔ p.2 = y ∧ cnt l p.1 % 2 = 1) := by
  intro n
  induction n using Nat.strongRecOn with
  | _ n ih =>
    intro l hl hs he
    match l, hl with
    | [], _ => simp [pairC, cnt]
    | [a], hl => simp at hl; omega
    | a :: b :: r, hl =>
      obtain ⟨h1, hs1⟩ := List.pairwise_cons.mp hs
      obtain ⟨h2, hs2⟩ := List.pairwise_cons.mp hs1
      have hab := h1 b List.mem_cons_self
      simp only [List.length_cons] at hl
      have i := ih r.length (by omega) r rfl hs2 (by omega)
      show p ∈ spC y (a, b) ++ pairC y r ↔ _
      rw [List.mem_append, mem_spC, i]
      have ec : cnt (a :: b :: r) p.1 = (if a ≤ p.1 then 1 else 0) + (if b ≤ p.1 then 1 else 0) + cnt r p.1 := by
        unfold cnt
        rw [List.countP_cons, List.countP_cons]
        simp only [decide_eq_true_eq]
        omega
      have ez : p.1 < b → cnt r p.1 = 0 := fun hb => by
        unfold cnt
        rw [List.countP_eq_zero]
        intro z hz
        have := h2 z hz
        simp only [decide_eq_true_eq]; omega
      rw [ec]
      simp only
      by_cases hb : b ≤ p.1
      · rw [if_pos hb, if_pos (by omega)]
        constructor
        · rintro (⟨q1, q2, q3⟩ | ⟨q1, q2⟩)
          · omega
          · exact ⟨q1, by omega⟩
        · rintro ⟨q1, q2⟩; exact .inr ⟨q1, by omega⟩
      · have e0 := ez (by omega)
        rw [if_neg hb, e0]
        by_cases ha : a ≤ p.1
        · rw [if_pos ha]
          constructor
          · rintro (⟨q1, q2, q3⟩ | ⟨q1, q2⟩)
            · exact ⟨q1, by omega⟩
            · omega
          · rintro ⟨q1, q2⟩; exact .inl ⟨q1, by omega, by omega⟩
        · rw [if_neg ha]
          constructor
          · rintro (⟨q1, q2, q3⟩ | ⟨q1, q2⟩) <;> omega
          · rintro ⟨q1, q2⟩; omega
theorem len_pairC (y lo hi : Int) : ∀ (n : Nat) (l : List Int), l.length = n → l.Pairwise (· ≤ ·) → lo ≤ hi → (∀ a ∈ l, lo ≤ a ∧ a ≤ hi) → ((pairC y l).length : Int) ≤ hi - lo := by
  intro n
  induction n using Nat.strongRecOn generalizing lo with
  | _ n ih =>
    intro l hl hs hlh hb
    match l, hl with
    | [], _ => show (0 : Int) ≤ _; omega
    | [a], _ => show (0 : Int) ≤ _; omega
    | a :: b :: r, hl =>
      obtain ⟨h1, hs1⟩ := List.pairwise_cons.mp hs
      obtain ⟨h2, hs2⟩ := List.pairwise_cons.mp hs1
      have hab := h1 b List.mem_cons_self
      simp only [List.length_cons] at hl
      have ba := hb a List.mem_cons_self
      have bb := hb b (by simp)
      have i := ih r.length (by omega) b r rfl hs2 bb.2 (fun z hz => ⟨h2 z hz, (hb z (by simp [hz])).2⟩)
      show (((spC y (a, b) ++ pairC y r).length : Nat) : Int) ≤ _
      rw [List.length_append, len_spC]
      simp only
      omega
def cellsE (E : List Pt) : List Pt := (srt ((crossC E).map (·.1))).flatMap fun y => pairC y (srt (onRow E y))
def cntE (E : List Pt) (p : Pt) : Nat := E.countP fun e => decide (e.2 = p.2 ∧ e.1 ≤ p.1)
theorem cnt_onRow (E : List Pt) (y x : Int) : cnt (onRow E y) x = cntE E (x, y) := by
  unfold cnt onRow cntE
  rw [List.countP_map, List.countP_filter]
  refine List.countP_congr fun e _ => ?_
  simp only [Function.comp, Bool.and_eq_true, decide_eq_true_eq]
  exact And.comm
theorem mem_cellsE {E : List Pt} (he : ∀ y, (onRow E y).length % 2 = 0) (p : Pt) : p ∈ cellsE E ↔ cntE E p % 2 = 1 := by
  obtain ⟨_, _, h3⟩ := cross_spec E
  unfold cellsE
  rw [List.mem_flatMap]
  have one : ∀ y, (p ∈ pairC y (srt (onRow E y)) ↔ p.2 = y ∧ cntE E (p.1, y) % 2 = 1) := fun y => by
    rw [mem_pairC y p _ _ rfl (srt_le _) (by rw [(srt_perm _).length_eq]; exact he y)]
    rw [show cnt (srt (onRow E y)) p.1 = cnt (onRow E y) p.1 from (srt_perm _).countP_eq _, cnt_onRow]
  constructor
  · rintro ⟨y, _, h⟩
    obtain ⟨rfl, h⟩ := (one y).mp h
    exact h
  · intro h
    refine ⟨p.2, ?_, (one _).mpr ⟨rfl, h⟩⟩
    rw [(srt_perm _).mem_iff, h3]
    have : 0 < cntE E p := by omega
    obtain ⟨e, he, hp⟩ := List.countP_pos_iff.mp this
    exact ⟨e, he, (of_decide_eq_true hp).1⟩
theorem asc_range (hi : Int) : ∀ (l : List Int) (lo : Int), l.Pairwise (· < ·) → (∀ a ∈ l, lo ≤ a ∧ a < hi) → l ≠ [] → (l.length : Int) ≤ hi - lo
  | [], _, _, _, h => absurd rfl h
  | a :: r, lo, hs, hb, _ => by
    obtain ⟨h1, hs1⟩ := List.pairwise_cons.mp hs
    have ba := hb a List.mem_cons_self
    rw [List.length_cons]
    by_cases hr : r = []
    · subst hr; simp only [List.length_nil]; omega
    · have := asc_range hi r (a + 1) hs1 (fun z hz => by have := h1 z hz; have := hb z (List.mem_cons_of_mem _ hz); omega) hr
      omega
theorem nodup_range {lo : Int} (n : Nat) (l : List Int) (hn : l.Nodup) (hb : ∀ a ∈ l, lo ≤ a ∧ a < lo + n) : l.length ≤ n := by
  have hs : (srt l).Pairwise (· < ·) := by
    have h2 : (srt l).Nodup := (srt_perm l).nodup_iff.mpr hn
    refine ((srt_le l).and h2).imp fun {a b} h => ?_
    obtain ⟨h1, h2⟩ := h
    omega
  rw [← (srt_perm l).length_eq]
  by_cases he : srt l = []
  · rw [he]; exact Nat.zero_le _
  · have := asc_range (lo + n) (srt l) lo hs (fun a ha => hb a ((srt_perm l).mem_iff.mp ha)) he
    omega
theorem len_flat {α β : Type} {f : α → List β} {m : Nat} : ∀ {l : List α}, (∀ a ∈ l, (f a).length ≤ m) → (l.flatMap f).length ≤ l.length * m
  | [], _ => by simp
  | a :: l, h => by
    have := len_flat (f := f) (m := m) (l := l) fun z hz => h z (List.mem_cons_of_mem _ hz)
    have h1 := h a List.mem_cons_self
    rw [List.flatMap_cons, List.length_append, List.length_cons, Nat.succ_mul]
    omega
def UnitS (s : Pt) : Prop := (s.1 = 0 ∧ (s.2 = 1 ∨ s.2 = -1)) ∨ (s.2 = 0 ∧ (s.1 = 1 ∨ s.1 = -1))
theorem sgn_cases {n : Int} (h : n ≠ 0) : sgn n = 1 ∨ sgn n = -1 := by
  unfold sgn
  by_cases h0 : 0 < n
  · rw [if_pos h0]; exact .inl rfl
  · rw [if_neg h0, if_pos (by omega)]; exact .inr rfl
theorem stepI_unit {dx dy : Int} (h : dx ≠ 0 ∨ dy ≠ 0) (k : Nat) : UnitS (Strokes.stepI dx dy k) := by
  unfold Strokes.stepI
  by_cases h0 : dx = 0
  · subst h0
    have e : ∀ k : Nat, lv 0 dy k = 0 := fun k => by unfold lv; simp [ab]
    rw [if_neg (by rw [e, e]; omega)]
    exact .inl ⟨rfl, sgn_cases (h.resolve_left (fun z => z rfl))⟩
  · by_cases h1 : dy = 0
    · subst h1
      have hp : ab dx ≠ 0 := by unfold ab; split <;> omega
      have e : ∀ k : Nat, lv dx 0 k = k := fun k => by
        unfold lv
        rw [show ab dx + ab 0 = ab dx by unfold ab; simp]
        exact Int.mul_ediv_cancel _ hp
      rw [if_pos (by rw [e, e]; omega)]
      exact .inr ⟨rfl, sgn_cases h0⟩
    · split
      · exact .inr ⟨rfl, sgn_cases h0⟩
      · exact .inl ⟨rfl, sgn_cases h1⟩
theorem steps_unit {st : Stk} (h : st.ok) : ∀ s ∈ st.steps, UnitS s := by
  cases st with
  | line dx dy =>
    intro s hs
    have hf : Fair dx dy := h
    have hs : s ∈ lineI dx dy := hs
    unfold lineI at hs
    obtain ⟨k, _, rfl⟩ := List.mem_map.mp hs
    exact stepI_unit hf.2.2.2.2 k
  | arc q dx dy r =>
    intro s hs
    have ha : Arc q dx dy r := h
    have hs : s ∈ arcI q dx dy r := hs
    unfold arcI at hs
    obtain ⟨k, _, rfl⟩ := List.mem_map.mp hs
    have hx : dx ≠ 0 := by have := ha.hx; have := ha.r0; omega
    have hy : dy ≠ 0 := by have := ha.hy; have := ha.r0; omega
    unfold pickI fst0 snd0
    split <;> split <;> first | exact .inr ⟨rfl, sgn_cases hx⟩ | exact .inl ⟨rfl, sgn_cases hy⟩
theorem allS_unit {sts : List Stk} (h : ∀ st ∈ sts, st.ok) : ∀ s ∈ allS sts, UnitS s := fun s hs => by
  unfold allS at hs
  obtain ⟨l, hl, hs⟩ := List.mem_flatten.mp hs
  obtain ⟨st, hst, rfl⟩ := List.mem_map.mp hl
  exact steps_unit (h st hst) s hs
theorem walk_at : ∀ (l : List Pt) (p : Pt) (k : Nat), k < l.length → ((p :: walkP p l).getD (k + 1) (0, 0)) = addP ((p :: walkP p l).getD k (0, 0)) (l.getD k (0, 0))
  | [], _, _, h => absurd h (Nat.not_lt_zero _)
  | s :: r, p, 0, _ => rfl
  | s :: r, p, k + 1, h => by
    have := walk_at r (addP p s) k (by simpa using h)
    exact this
theorem walk_end : ∀ (l : List Pt) (p : Pt), (p :: walkP p l).getD l.length (0, 0) = endP p l
  | [], _ => rfl
  | s :: r, p => walk_end r (addP p s)
theorem at_step {o : Out} (h : OkO o) {k : Nat} (hk : k < (allS o.2.2).length) : ∃ s, UnitS s ∧ (ptsO o).getD (k + 1) (0, 0) = addP ((ptsO o).getD k (0, 0)) s :=
  ⟨(allS o.2.2).getD k (0, 0), allS_unit h.1 _ (by rw [List.getD_eq_getElem?_getD, List.getElem?_eq_getElem hk]; exact List.getElem_mem hk), walk_at _ _ k hk⟩
def hiB (o : Out) (y : Int) (k : Nat) : Nat := if y < ((ptsO o).getD k (0, 0)).2 then 1 else 0
theorem edge_par {o : Out} (h : OkO o) (y : Int) : ∀ k, k ≤ (allS o.2.2).length → ((onRow (edgesK (ptsO o) k) y).length + hiB o y 0 + hiB o y k) % 2 = 0 := by
  intro k
  induction k with
  | zero => intro _; show (0 + _ + _) % 2 = 0; omega
  | succ k ih =>
    intro hk
    have i := ih (by omega)
    obtain ⟨s, us, e⟩ := at_step h (show k < _ by omega)
    have el : onRow (edgesK (ptsO o) (k + 1)) y = onRow (edgesK (ptsO o) k) y ++ onRow (edgeL ((ptsO o).getD k (0, 0)) ((ptsO o).getD (k + 1) (0, 0))) y := by
      rw [edgesK_succ]; unfold onRow; rw [List.filter_append, List.map_append]
    rw [el, List.length_append]
    unfold hiB at *
    rw [e]
    generalize (ptsO o).getD k (0, 0) = p at *
    have e2 : (onRow (edgeL p (addP p s)) y).length = if s.1 = 0 ∧ min p.2 (p.2 + s.2) = y then 1 else 0 := by
      unfold edgeL addP onRow
      simp only
      by_cases h0 : s.1 = 0
      · rw [if_pos (by omega)]
        by_cases h1 : min p.2 (p.2 + s.2) = y
        · simp [h0, h1]
        · simp [h0, h1]
      · rw [if_neg (by omega)]; simp [h0]
    rw [e2]
    unfold addP
    simp only
    generalize (onRow (edgesK (ptsO o) k) y).length = L at *
    generalize (if y < ((ptsO o).getD 0 (0, 0)).2 then 1 else 0) = A at *
    rcases us with ⟨a, b⟩ | ⟨a, b⟩
    · simp only [a, true_and]
      rcases b with b | b
      · rw [b, show min p.2 (p.2 + 1) = p.2 by omega]
        split at i <;> split <;> split <;> omega
      · rw [b, show min p.2 (p.2 + -1) = p.2 - 1 by omega]
        split at i <;> split <;> split <;> omega
    · have a0 : ¬ s.1 = 0 := by omega
      simp only [a0, false_and, if_false, a, Int.add_zero]
      omega
theorem edge_even {o : Out} (h : OkO o) (hc : Clo o) (y : Int) : (onRow (edgesO o) y).length % 2 = 0 := by
  have := edge_par h y _ (Nat.le_refl _)
  have e : hiB o y (allS o.2.2).length = hiB o y 0 := by
    unfold hiB
    rw [show (ptsO o).getD (allS o.2.2).length (0, 0) = endP (o.1, o.2.1) (allS o.2.2) from walk_end _ _, hc]; rfl
  rw [e] at this
  unfold edgesO
  omega
theorem all_even {os : List Out} (h : ∀ o ∈ os, OkO o) (hc : ∀ o ∈ os, Clo o) (y : Int) : (onRow (allE os) y).length % 2 = 0 := by
  induction os with
  | nil => rfl
  | cons o r ih =>
    have i := ih (fun z hz => h z (List.mem_cons_of_mem _ hz)) fun z hz => hc z (List.mem_cons_of_mem _ hz)
    have e := edge_even (h o List.mem_cons_self) (hc o List.mem_cons_self) y
    have : onRow (allE (o :: r)) y = onRow (edgesO o) y ++ onRow (allE r) y := by unfold allE onRow; rw [List.flatMap_cons, List.filter_append, List.map_append]
    rw [this, List.length_append]; omega
theorem near0 {o : Out} (h : OkO o) : ∀ k, k ≤ (allS o.2.2).length → o.1 - k ≤ ((ptsO o).getD k (0, 0)).1 ∧ ((ptsO o).getD k (0, 0)).1 ≤ o.1 + k ∧ o.2.1 - k ≤ ((ptsO o).getD k (0, 0)).2 ∧ ((ptsO o).getD k (0, 0)).2 ≤ o.2.1 + k := by
  intro k
  induction k with
  | zero => intro _; show o.1 - (0 : Nat) ≤ o.1 ∧ o.1 ≤ o.1 + (0 : Nat) ∧ o.2.1 - (0 : Nat) ≤ o.2.1 ∧ o.2.1 ≤ o.2.1 + (0 : Nat); omega
  | succ k ih =>
    intro hk
    have i := ih (by omega)
    obtain ⟨s, us, e⟩ := at_step h (show k < _ by omega)
    rw [e]
    unfold addP
    simp only
    rcases us with ⟨a, b⟩ | ⟨a, b⟩ <;> rcases b with b | b <;> omega
theorem box {o : Out} (h : OkO o) {k : Nat} (hk : k ≤ (allS o.2.2).length) : -9999 < ((ptsO o).getD k (0, 0)).1 ∧ ((ptsO o).getD k (0, 0)).1 < 9999 ∧ -9999 < ((ptsO o).getD k (0, 0)).2 ∧ ((ptsO o).getD k (0, 0)).2 < 9999 := by
  have a := near0 h k hk
  obtain ⟨_, h3, h4, h5, h6, h7⟩ := h
  omega
theorem edge_box {os : List Out} (h : ∀ o ∈ os, OkO o) : ∀ e ∈ allE os, -10000 ≤ e.1 ∧ e.1 ≤ 10000 ∧ -10000 ≤ e.2 ∧ e.2 < 10000 := fun e he => by
  unfold allE at he
  obtain ⟨o, ho, he⟩ := List.mem_flatMap.mp he
  unfold edgesO edgesK at he
  obtain ⟨k, hk, he⟩ := List.mem_flatMap.mp he
  rw [List.mem_range] at hk
  have b1 := box (h o ho) (show k ≤ _ by omega)
  have b2 := box (h o ho) (show k + 1 ≤ _ by omega)
  unfold edgeL at he
  split at he
  · rw [List.mem_singleton.mp he]; simp only; omega
  · exact nomatch he
def inkO (os : List Out) : List Pt := ordOf (cellsE (allE os))
end
section
open PySem L2 Ab Strokes PySem.W
abbrev Sd := Pt × Pt
def mvF : Fin 4 → Pt
  | 0 => (1, 0)
  | 1 => (0, 1)
  | 2 => (-1, 0)
  | 3 => (0, -1)
theorem mvF_inj : ∀ a b : Fin 4, mvF a = mvF b → a = b := by decide
def lfF : Fin 4 → Fin 4
  | 0 => 1
  | 1 => 2
  | 2 => 3
  | 3 => 0
theorem mvF_left : ∀ m : Fin 4, (-(mvF m).2, (mvF m).1) = mvF (lfF m) := by decide
def sideL (l : List Pt) (p : Pt) : List Sd :=
  (if (p.1, p.2 - 1) ∈ l then [] else [((p.1, p.2), (1, 0))]) ++ ((if (p.1 + 1, p.2) ∈ l then [] else [((p.1 + 1, p.2), (0, 1))]) ++
  ((if (p.1, p.2 + 1) ∈ l then [] else [((p.1 + 1, p.2 + 1), (-1, 0))]) ++ (if (p.1 - 1, p.2) ∈ l then [] else [((p.1, p.2 + 1), (0, -1))])))
def sides (l : List Pt) : List Sd := l.flatMap (sideL l)
def outB (m : Fin 4) (sw se ne nw : Bool) : Bool := match m with
  | 0 => ne && !se
  | 1 => nw && !ne
  | 2 => sw && !nw
  | 3 => se && !sw
def inB (m : Fin 4) (sw se ne nw : Bool) : Bool := match m with
  | 0 => nw && !sw
  | 1 => sw && !se
  | 2 => se && !ne
  | 3 => ne && !nw
def IsS (l : List Pt) (c : Pt) (m : Fin 4) : Prop := outB m (decide ((c.1 - 1, c.2 - 1) ∈ l)) (decide ((c.1, c.2 - 1) ∈ l)) (decide ((c.1, c.2) ∈ l)) (decide ((c.1 - 1, c.2) ∈ l)) = true
theorem mem_sideL {l : List Pt} {p : Pt} {s : Sd} : s ∈ sideL l p ↔ (s = ((p.1, p.2), (1, 0)) ∧ (p.1, p.2 - 1) ∉ l) ∨ (s = ((p.1 + 1, p.2), (0, 1)) ∧ (p.1 + 1, p.2) ∉ l) ∨ (s = ((p.1 + 1, p.2 + 1), (-1, 0)) ∧ (p.1, p.2 + 1) ∉ l) ∨ (s = ((p.1, p.2 + 1), (0, -1)) ∧ (p.1 - 1, p.2) ∉ l) := by
  unfold sideL
  rw [List.mem_append, List.mem_append, List.mem_append]
  have one : ∀ (q : Pt) (d : Sd), s ∈ (if q ∈ l then [] else [d]) ↔ s = d ∧ q ∉ l := fun q d => by
    by_cases h : q ∈ l <;> simp [h]
  rw [one, one, one, one]
theorem mem_sides {l : List Pt} {c : Pt} {m : Fin 4} : (c, mvF m) ∈ sides l ↔ IsS l c m := by
  unfold sides
  rw [List.mem_flatMap]
  unfold IsS
  obtain ⟨x, y⟩ := c
  match m with
  | 0 =>
    simp only [outB, mvF, Bool.and_eq_true, Bool.not_eq_true', decide_eq_true_eq, decide_eq_false_iff_not, mem_sideL, Prod.mk.injEq]
    constructor
    · rintro ⟨p, hp, h⟩
      rcases h with ⟨⟨⟨rfl, rfl⟩, _⟩, h⟩ | ⟨⟨_, h1, _⟩, _⟩ | ⟨⟨_, h1, _⟩, _⟩ | ⟨⟨_, h1, _⟩, _⟩
      · exact ⟨hp, h⟩
      all_goals omega
    · rintro ⟨h1, h2⟩
      exact ⟨(x, y), h1, .inl ⟨⟨⟨rfl, rfl⟩, trivial⟩, h2⟩⟩
  | 1 =>
    simp only [outB, mvF, Bool.and_eq_true, Bool.not_eq_true', decide_eq_true_eq, decide_eq_false_iff_not, mem_sideL, Prod.mk.injEq]
    constructor
    · rintro ⟨p, hp, h⟩
      rcases h with ⟨⟨_, h1, _⟩, _⟩ | ⟨⟨⟨rfl, rfl⟩, _⟩, h⟩ | ⟨⟨_, h1, _⟩, _⟩ | ⟨⟨_, h1, _⟩, _⟩
      · omega
      · rw [Int.add_sub_cancel]; exact ⟨hp, h⟩
      all_goals omega
    · rintro ⟨h1, h2⟩
      exact ⟨(x - 1, y), h1, .inr (.inl ⟨⟨⟨by simp only; omega, rfl⟩, trivial⟩, by simp only [Int.sub_add_cancel]; exact h2⟩)⟩
  | 2 =>
    simp only [outB, mvF, Bool.and_eq_true, Bool.not_eq_true', decide_eq_true_eq, decide_eq_false_iff_not, mem_sideL, Prod.mk.injEq]
    constructor
    · rintro ⟨p, hp, h⟩
      rcases h with ⟨⟨_, h1, _⟩, _⟩ | ⟨⟨_, h1, _⟩, _⟩ | ⟨⟨⟨rfl, rfl⟩, _⟩, h⟩ | ⟨⟨_, h1, _⟩, _⟩
      · omega
      · omega
      · rw [Int.add_sub_cancel, Int.add_sub_cancel]; exact ⟨hp, h⟩
      · omega
    · rintro ⟨h1, h2⟩
      exact ⟨(x - 1, y - 1), h1, .inr (.inr (.inl ⟨⟨⟨by simp only; omega, by simp only; omega⟩, trivial⟩, by simp only [Int.sub_add_cancel]; exact h2⟩))⟩
  | 3 =>
    simp only [outB, mvF, Bool.and_eq_true, Bool.not_eq_true', decide_eq_true_eq, decide_eq_false_iff_not, mem_sideL, Prod.mk.injEq]
    constructor
    · rintro ⟨p, hp, h⟩
      rcases h with ⟨⟨_, h1, _⟩, _⟩ | ⟨⟨_, h1, _⟩, _⟩ | ⟨⟨_, h1, _⟩, _⟩ | ⟨⟨⟨rfl, rfl⟩, _⟩, h⟩
      · omega
      · omega
      · omega
      · rw [Int.add_sub_cancel]; exact ⟨hp, h⟩
    · rintro ⟨h1, h2⟩
      exact ⟨(x, y - 1), h1, .inr (.inr (.inr ⟨⟨⟨rfl, by simp only; omega⟩, trivial⟩, h2⟩))⟩
theorem sides_mv {l : List Pt} {s : Sd} (h : s ∈ sides l) : ∃ m, s.2 = mvF m := by
  unfold sides at h
  obtain ⟨p, _, h⟩ := List.mem_flatMap.mp h
  rcases mem_sideL.mp h with ⟨rfl, _⟩ | ⟨rfl, _⟩ | ⟨rfl, _⟩ | ⟨rfl, _⟩
  · exact ⟨0, rfl⟩
  · exact ⟨1, rfl⟩
  · exact ⟨2, rfl⟩
  · exact ⟨3, rfl⟩
theorem IsS_end (l : List Pt) (c : Pt) (m : Fin 4) : IsS l c m ↔ inB m (decide (((c.1 + (mvF m).1) - 1, (c.2 + (mvF m).2) - 1) ∈ l)) (decide ((c.1 + (mvF m).1, (c.2 + (mvF m).2) - 1) ∈ l)) (decide ((c.1 + (mvF m).1, c.2 + (mvF m).2) ∈ l)) (decide (((c.1 + (mvF m).1) - 1, c.2 + (mvF m).2) ∈ l)) = true := by
  obtain ⟨x, y⟩ := c
  unfold IsS
  match m with
  | 0 => simp only [outB, inB, mvF, Int.add_zero, Int.add_sub_cancel]
  | 1 => simp only [outB, inB, mvF, Int.add_zero, Int.add_sub_cancel]
  | 2 => simp only [outB, inB, mvF, Int.add_zero]; rw [show x + -1 = x - 1 by omega]
  | 3 => simp only [outB, inB, mvF, Int.add_zero]; rw [show y + -1 = y - 1 by omega]
def movesAt (l : List Pt) (c : Pt) : List Pt := ((sides l).filter fun s => decide (s.1 = c)).map (·.2)
theorem mem_movesAt {l : List Pt} {c : Pt} {m : Fin 4} : mvF m ∈ movesAt l c ↔ IsS l c m := by
  rw [← mem_sides]
  unfold movesAt
  rw [List.mem_map]
  constructor
  · rintro ⟨s, hs, e⟩
    obtain ⟨h1, h2⟩ := List.mem_filter.mp hs
    rw [← e, ← of_decide_eq_true h2]; exact h1
  · intro h; exact ⟨_, List.mem_filter.mpr ⟨h, decide_eq_true rfl⟩, rfl⟩
theorem movesAt_mv {l : List Pt} {c q : Pt} (h : q ∈ movesAt l c) : ∃ m, q = mvF m ∧ IsS l c m := by
  have h' := h
  unfold movesAt at h
  obtain ⟨s, hs, rfl⟩ := List.mem_map.mp h
  obtain ⟨m, e⟩ := sides_mv (List.mem_filter.mp hs).1
  exact ⟨m, e, mem_movesAt.mp (e ▸ h')⟩
def nxM (l : List Pt) (r m : Pt) : Pt := if (-m.2, m.1) ∈ movesAt l r then (-m.2, m.1) else (movesAt l r).headD (0, 0)
def nxS (l : List Pt) (s : Sd) : Sd := ((s.1.1 + s.2.1, s.1.2 + s.2.2), nxM l (s.1.1 + s.2.1, s.1.2 + s.2.2) s.2)
def nxF (m : Fin 4) (sw se ne nw : Bool) : Fin 4 := if outB (lfF m) sw se ne nw then lfF m else if outB 0 sw se ne nw then 0 else if outB 1 sw se ne nw then 1 else if outB 2 sw se ne nw then 2 else 3
theorem nx_out : ∀ (m : Fin 4) (sw se ne nw : Bool), inB m sw se ne nw = true → outB (nxF m sw se ne nw) sw se ne nw = true := by decide
theorem nx_inj : ∀ (m m' : Fin 4) (sw se ne nw : Bool), inB m sw se ne nw = true → inB m' sw se ne nw = true → nxF m sw se ne nw = nxF m' sw se ne nw → m = m' := by decide
theorem nx_one : ∀ (m k : Fin 4) (sw se ne nw : Bool), inB m sw se ne nw = true → outB (lfF m) sw se ne nw = false → outB k sw se ne nw = true → nxF m sw se ne nw = k := by decide
theorem nx_left : ∀ (m : Fin 4) (sw se ne nw : Bool), outB (lfF m) sw se ne nw = true → nxF m sw se ne nw = lfF m := by decide
def swB (l : List Pt) (r : Pt) : Bool := decide ((r.1 - 1, r.2 - 1) ∈ l)
def seB (l : List Pt) (r : Pt) : Bool := decide ((r.1, r.2 - 1) ∈ l)
def neB (l : List Pt) (r : Pt) : Bool := decide ((r.1, r.2) ∈ l)
def nwB (l : List Pt) (r : Pt) : Bool := decide ((r.1 - 1, r.2) ∈ l)
theorem nxS_eq {l : List Pt} {c : Pt} {m : Fin 4} (h : IsS l c m) : nxS l (c, mvF m) = ((c.1 + (mvF m).1, c.2 + (mvF m).2), mvF (nxF m (swB l (c.1 + (mvF m).1, c.2 + (mvF m).2)) (seB l (c.1 + (mvF m).1, c.2 + (mvF m).2)) (neB l (c.1 + (mvF m).1, c.2 + (mvF m).2)) (nwB l (c.1 + (mvF m).1, c.2 + (mvF m).2)))) := by
  have hi := (IsS_end l c m).mp h
  unfold nxS
  simp only
  obtain ⟨r, hr⟩ : ∃ r : Pt, r = (c.1 + (mvF m).1, c.2 + (mvF m).2) := ⟨_, rfl⟩
  rw [← hr]
  have hi' : inB m (swB l r) (seB l r) (neB l r) (nwB l r) = true := by rw [hr]; exact hi
  congr 1
  unfold nxM
  rw [mvF_left]
  by_cases hL : outB (lfF m) (swB l r) (seB l r) (neB l r) (nwB l r) = true
  · rw [if_pos (mem_movesAt.mpr hL), nx_left _ _ _ _ _ hL]
  · rw [if_neg (fun z => hL (mem_movesAt.mp z))]
    have ho := nx_out _ _ _ _ _ hi'
    have hin : mvF (nxF m (swB l r) (seB l r) (neB l r) (nwB l r)) ∈ movesAt l r := mem_movesAt.mpr ho
    cases hm : movesAt l r with
    | nil => rw [hm] at hin; exact nomatch hin
    | cons q t =>
      obtain ⟨k, rfl, hk⟩ := movesAt_mv (l := l) (c := r) (q := q) (by rw [hm]; exact List.mem_cons_self)
      rw [Bool.not_eq_true] at hL
      rw [nx_one m k _ _ _ _ hi' hL hk]; rfl
theorem nxS_mem {l : List Pt} {s : Sd} (h : s ∈ sides l) : nxS l s ∈ sides l := by
  obtain ⟨c, q⟩ := s
  obtain ⟨m, rfl⟩ := sides_mv h
  have hs := mem_sides.mp h
  rw [nxS_eq hs]
  exact mem_sides.mpr (nx_out _ _ _ _ _ ((IsS_end l c m).mp hs))
theorem nxS_inj {l : List Pt} {s t : Sd} (h : s ∈ sides l) (h' : t ∈ sides l) (e : nxS l s = nxS l t) : s = t := by
  obtain ⟨c, q⟩ := s
  obtain ⟨c', q'⟩ := t
  obtain ⟨m, e1⟩ := sides_mv h
  obtain ⟨m', e2⟩ := sides_mv h'
  simp only at e1 e2
  subst e1 e2
  have hs := mem_sides.mp h
  have hs' := mem_sides.mp h'
  have i := (IsS_end l c m).mp hs
  have i' := (IsS_end l c' m').mp hs'
  rw [nxS_eq hs, nxS_eq hs'] at e
  have er := congrArg Prod.fst e
  have em := mvF_inj _ _ (congrArg Prod.snd e)
  simp only at er em
  have e1 := congrArg Prod.fst er
  have e2 := congrArg Prod.snd er
  simp only at e1 e2
  rw [← e1, ← e2] at i' em
  have hm := nx_inj m m' _ _ _ _ i i' em
  subst hm
  refine Prod.ext (Prod.ext ?_ ?_) rfl
  · simp only; omega
  · simp only; omega
end
section
open PySem L2 Ab Strokes PySem.W
theorem sub_len {α : Type} [DecidableEq α] : ∀ {a b : List α}, a.Nodup → (∀ x ∈ a, x ∈ b) → a.length ≤ b.length
  | [], _, _, _ => Nat.zero_le _
  | x :: r, b, hn, hs => by
    obtain ⟨h1, h2⟩ := List.nodup_cons.mp hn
    have hx := hs x List.mem_cons_self
    have := sub_len (a := r) (b := b.erase x) h2 fun y hy => (List.mem_erase_of_ne (fun z : y = x => h1 (by rw [← z]; exact hy))).mpr (hs y (List.mem_cons_of_mem _ hy))
    have h3 := List.length_erase_of_mem hx
    have h4 : 0 < b.length := List.length_pos_of_mem hx
    rw [List.length_cons]; omega
def itS (l : List Pt) (s : Sd) : Nat → Sd
  | 0 => s
  | k + 1 => nxS l (itS l s k)
theorem it_mem {l : List Pt} {s : Sd} (h : s ∈ sides l) : ∀ k, itS l s k ∈ sides l
  | 0 => h
  | k + 1 => nxS_mem (it_mem h k)
theorem it_back {l : List Pt} {s : Sd} (h : s ∈ sides l) : ∀ i j, itS l s i = itS l s (i + j) → itS l s j = s
  | 0, j, e => by rw [Nat.zero_add] at e; exact e.symm
  | i + 1, j, e => by
    rw [show i + 1 + j = (i + j) + 1 by omega] at e
    exact it_back h i j (nxS_inj (it_mem h i) (it_mem h (i + j)) e)
theorem it_returns {l : List Pt} {s : Sd} (h : s ∈ sides l) : ∃ n, 0 < n ∧ n ≤ (sides l).length ∧ itS l s n = s := by
  by_cases hd : ((List.range ((sides l).length + 1)).map (itS l s)).Nodup
  · have := sub_len hd fun x hx => by
      obtain ⟨k, _, rfl⟩ := List.mem_map.mp hx
      exact it_mem h k
    rw [List.length_map, List.length_range] at this
    omega
  · have : ∃ i j, i < j ∧ j < (sides l).length + 1 ∧ itS l s i = itS l s j := by
      by_cases q : ∃ i j, i < j ∧ j < (sides l).length + 1 ∧ itS l s i = itS l s j
      · exact q
      · refine absurd ?_ hd
        refine List.pairwise_map.mpr (List.pairwise_iff_getElem.mpr fun i j hi hj hij e => ?_)
        rw [List.getElem_range, List.getElem_range] at e
        rw [List.length_range] at hj
        exact q ⟨i, j, hij, hj, e⟩
    obtain ⟨i, j, h1, h2, e⟩ := this
    refine ⟨j - i, by omega, by omega, it_back h i (j - i) ?_⟩
    rw [show i + (j - i) = j by omega]; exact e
def perS (l : List Pt) (s : Sd) : Nat := ((List.range ((sides l).length + 1)).find? fun k => decide (0 < k ∧ itS l s k = s)).getD 0
theorem per_spec {l : List Pt} {s : Sd} (h : s ∈ sides l) : 0 < perS l s ∧ perS l s ≤ (sides l).length ∧ itS l s (perS l s) = s ∧ ∀ k, 0 < k → k < perS l s → itS l s k ≠ s := by
  obtain ⟨n, h1, h2, h3⟩ := it_returns h
  unfold perS
  cases e : (List.range ((sides l).length + 1)).find? fun k => decide (0 < k ∧ itS l s k = s) with
  | none =>
    rw [List.find?_eq_none] at e
    exact absurd (decide_eq_true ⟨h1, h3⟩) (e n (List.mem_range.mpr (by omega)))
  | some m =>
    rw [List.find?_range_eq_some] at e
    obtain ⟨a, b, c⟩ := e
    have a := of_decide_eq_true a
    rw [List.mem_range] at b
    refine ⟨a.1, by show m ≤ _; omega, a.2, fun k k1 k2 z => ?_⟩
    have := c k k2
    rw [decide_eq_true ⟨k1, z⟩] at this
    cases this
def ringS (l : List Pt) (s : Sd) : List Sd := (List.range (perS l s)).map (itS l s)
theorem ring_nodup {l : List Pt} {s : Sd} (h : s ∈ sides l) : (ringS l s).Nodup := by
  obtain ⟨p1, p2, p3, p4⟩ := per_spec h
  unfold ringS
  refine List.pairwise_map.mpr (List.pairwise_iff_getElem.mpr fun i j hi hj hij e => ?_)
  rw [List.getElem_range, List.getElem_range] at e
  rw [List.length_range] at hj
  refine p4 (j - i) (by omega) (by omega) (it_back h i (j - i) ?_)
  rw [show i + (j - i) = j by omega]; exact e
theorem ring_mem {l : List Pt} {s : Sd} (h : s ∈ sides l) : ∀ t ∈ ringS l s, t ∈ sides l := fun t ht => by
  unfold ringS at ht
  obtain ⟨k, _, rfl⟩ := List.mem_map.mp ht
  exact it_mem h k
theorem ring_next {l : List Pt} {s : Sd} (h : s ∈ sides l) {t : Sd} (ht : t ∈ ringS l s) : nxS l t ∈ ringS l s := by
  obtain ⟨p1, p2, p3, p4⟩ := per_spec h
  unfold ringS at *
  obtain ⟨k, hk, rfl⟩ := List.mem_map.mp ht
  rw [List.mem_range] at hk
  by_cases e : k + 1 = perS l s
  · exact List.mem_map.mpr ⟨0, List.mem_range.mpr p1, by show s = nxS l (itS l s k); rw [show nxS l (itS l s k) = itS l s (k + 1) from rfl, e, p3]⟩
  · exact List.mem_map.mpr ⟨k + 1, List.mem_range.mpr (by omega), rfl⟩
theorem ring_prev {l : List Pt} {s t : Sd} (h : s ∈ sides l) (ht : t ∈ sides l) (hn : nxS l t ∈ ringS l s) : t ∈ ringS l s := by
  obtain ⟨p1, p2, p3, p4⟩ := per_spec h
  unfold ringS at *
  obtain ⟨k, hk, e⟩ := List.mem_map.mp hn
  rw [List.mem_range] at hk
  cases k with
  | zero =>
    have e2 : nxS l (itS l s (perS l s - 1)) = nxS l t := by
      rw [← e]
      show itS l s (perS l s - 1 + 1) = s
      rw [Nat.sub_add_cancel p1]; exact p3
    have := nxS_inj (it_mem h _) ht e2
    exact List.mem_map.mpr ⟨perS l s - 1, List.mem_range.mpr (by omega), this⟩
  | succ k =>
    have := nxS_inj (it_mem h k) ht e
    exact List.mem_map.mpr ⟨k, List.mem_range.mpr (by omega), this⟩
def Whole (l : List Pt) (W : List Sd) : Prop := W.Nodup ∧ (∀ t ∈ W, t ∈ sides l) ∧ (∀ t ∈ W, nxS l t ∈ W) ∧ ∀ t ∈ sides l, nxS l t ∈ W → t ∈ W
theorem whole_nil (l : List Pt) : Whole l [] := ⟨List.nodup_nil, (fun _ h => nomatch h), (fun _ h => nomatch h), (fun _ _ h => nomatch h)⟩
theorem whole_it {l : List Pt} {W : List Sd} {s : Sd} (h : s ∈ sides l) (w : Whole l W) (hs : s ∉ W) : ∀ k, itS l s k ∉ W
  | 0 => hs
  | k + 1 => fun z => whole_it h w hs k (w.2.2.2 _ (it_mem h k) z)
theorem whole_ring {l : List Pt} {W : List Sd} {s : Sd} (h : s ∈ sides l) (w : Whole l W) (hs : s ∉ W) : Whole l (W ++ ringS l s) := by
  have hd : ∀ t ∈ ringS l s, t ∉ W := fun t ht => by
    unfold ringS at ht
    obtain ⟨k, _, rfl⟩ := List.mem_map.mp ht
    exact whole_it h w hs k
  refine ⟨List.nodup_append.mpr ⟨w.1, ring_nodup h, fun a ha b hb e => hd b hb (e ▸ ha)⟩, fun t ht => ?_, fun t ht => ?_, fun t ht hn => ?_⟩
  · rcases List.mem_append.mp ht with ht | ht
    · exact w.2.1 t ht
    · exact ring_mem h t ht
  · rcases List.mem_append.mp ht with ht | ht
    · exact List.mem_append_left _ (w.2.2.1 t ht)
    · exact List.mem_append_right _ (ring_next h ht)
  · rcases List.mem_append.mp hn with hn | hn
    · exact List.mem_append_left _ (w.2.2.2 t ht hn)
    · exact List.mem_append_right _ (ring_prev h ht hn)
theorem sum_perm {α : Type} (f : α → Int) {a b : List α} (h : a.Perm b) : (a.map f).sum = (b.map f).sum := by
  induction h with
  | nil => rfl
  | cons x _ ih => rw [List.map_cons, List.map_cons, List.sum_cons, List.sum_cons, ih]
  | swap x y l => simp only [List.map_cons, List.sum_cons]; omega
  | trans _ _ h1 h2 => exact h1.trans h2
theorem sum_flat {α β : Type} (f : β → Int) (g : α → List β) : ∀ l : List α, ((l.flatMap g).map f).sum = (l.map fun a => ((g a).map f).sum).sum
  | [] => rfl
  | a :: r => by rw [List.flatMap_cons, List.map_append, List.sum_append, List.map_cons, List.sum_cons, sum_flat f g r]
theorem sum_filter {α : Type} (f : α → Int) (p : α → Bool) : ∀ l : List α, ((l.filter p).map f).sum = (l.map fun a => if p a then f a else 0).sum
  | [] => rfl
  | a :: r => by
    rw [List.map_cons, List.sum_cons, ← sum_filter f p r]
    by_cases h : p a = true
    · rw [List.filter_cons_of_pos h, List.map_cons, List.sum_cons, if_pos h]
    · rw [List.filter_cons_of_neg h, if_neg h, Int.zero_add]
theorem sum_add {α : Type} (f g : α → Int) : ∀ l : List α, (l.map fun a => f a + g a).sum = (l.map f).sum + (l.map g).sum
  | [] => rfl
  | a :: r => by simp only [List.map_cons, List.sum_cons, sum_add f g r]; omega
end
section
open PySem L2 Ab PySem.W
section
variable {K : PySem.W.Frag} {c : Addr} {w : World}
theorem atI_snoc {α : Type} (l : List α) (x : α) : atI (l ++ [x]) (-1) = some x := by
  unfold atI ixN
  rw [if_neg (by omega), if_pos (by simp only [List.length_append, List.length_cons, List.length_nil]; omega)]
  show (l ++ [x])[((-1 : Int) + ((l ++ [x]).length : Int)).toNat]? = some x
  rw [show ((-1 : Int) + ((l ++ [x]).length : Int)).toNat = l.length by simp only [List.length_append, List.length_cons, List.length_nil]; omega]
  simp
theorem ixN_last {n : Nat} : ixN (n + 1) (-1) = some n := by
  unfold ixN
  rw [if_neg (by omega), if_pos (by omega)]
  congr 1; omega
end
end
section
open PySem L2 Ab Strokes PySem.W
def tq_crossings_of (K : PySem.W.Frag) (c_OpenOutline : Addr) (ap_corners : AP) (W : WX) : TS :=
    (tSeq (tAsg tDNewK (gName 1))
    (tSeq (tFor (iEnumT K (tCons (tVar 0) tNil)) (gTup K 2 (gCons (gName 2) (gCons (gName 3) gNil))) (tSeq (tAsg (tCall (toSp K ap_corners) [] E0 (tCons (tVar 3) tNil)) (gName 4))
    (tSeq (tIfS (tTest (tOp (rNeG K) (tOp (rIx K) (tVar 4) (tUn rNegI (tC (.int 1)))) (tOp (rIx K) (tVar 4) (tC (.int 0))))) (tRaiseO W c_OpenOutline (spE1 c_OpenOutline "place" fun _ => True) (tCons (tVar 2) tNil)) tNext)
    (tFor (iRng2 (tCons (tC (.int 1)) (tCons (tCB (rLenV K) (tCons (tVar 4) tNil)) tNil))) (gName 5) (tSeq (tPar 6 7 (tCons (tOp (rIx K) (tVar 4) (tOp rSubI (tVar 5) (tC (.int 1)))) (tCons (tOp (rIx K) (tVar 4) (tVar 5)) tNil)))
    (tIfS (tTest (tOp (rEqG K) (tOp (rIx K) (tVar 6) (tC (.int 0))) (tOp (rIx K) (tVar 7) (tC (.int 0))))) (tSeq (tAsg (tCB rMn2 (tCons (tOp (rIx K) (tVar 6) (tC (.int 1))) (tCons (tOp (rIx K) (tVar 7) (tC (.int 1))) tNil))) (gName 8))
    (tSeq (tIfS (tB (tDNotIn (tVar 8) (tVar 1))) (sDPut (tVar 1) (tVar 8) (tLst tNil)) tNext)
    (tDrop (tBM K "list" rAppend (tDGet (tVar 1) (tVar 8)) (tCons (tOp (rIx K) (tVar 6) (tC (.int 0))) tNil))))) tNext))))))
    (tRet (tVar 1))))
def tq_ink_of (K : PySem.W.Frag) (c_Ink : Addr) (ap_crossings_of : APX) (ai_Ink : AIP) (W : WX) : TS :=
    (tSeq (tAsg (tLst tNil) (gName 1))
    (tSeq (tAsg (tCallX K ap_crossings_of W (tCons (tVar 0) tNil)) (gName 2))
    (tSeq (tFor (iList K (tCB (rSortD0 K) (tCons (tCB rListD (tCons (tVar 2) tNil)) tNil))) (gName 3) (tSeq (tAsg (tCB (rSortD0 K) (tCons (tDGet (tVar 2) (tVar 3)) tNil)) (gName 4))
    (tFor (iRng3 (tCons (tC (.int 0)) (tCons (tCB (rLenV K) (tCons (tVar 4) tNil)) (tCons (tC (.int 2)) tNil)))) (gName 5) (tFor (iRng2 (tCons (tOp (rIx K) (tVar 4) (tVar 5)) (tCons (tOp (rIx K) (tVar 4) (tOp (rAddG K) (tVar 5) (tC (.int 1)))) tNil))) (gName 6) (tDrop (tBM K "list" rAppend (tVar 1) (tCons (tTup (tCons (tVar 6) (tCons (tVar 3) tNil))) tNil)))))))
    (tRet (tMake c_Ink (toSpIP K c_Ink ai_Ink) [] E0 (tCons (tVar 1) tNil))))))
end
local macro_rules | `(tactic| walk_at "yE") => `(tactic| first
  | with_reducible refine we_lenN ?_
  | with_reducible refine we_listD ?_
  | fail "yEI2")
section
open PySem L2 Ab Strokes PySem.W
section
variable {K : PySem.W.Frag} {pin : List Nat} {Γ : List Sl} {P : Ps} {g : TG} {tb' : TS}
theorem rg2 (m : Nat) (hm : m ≤ 500000) : RgC 0 ((2 * m : Nat) : Int) 2 m := by
  have e : Builtin.Range.rangeSize 0 ((2 * m : Nat) : Int) 2 = (m : Int) := by
    unfold Builtin.Range.rangeSize
    rw [if_pos (by omega)]
    split <;> omega
  refine ⟨by decide, by decide, ?_, e⟩
  unfold Builtin.Range.small
  rw [e]
  have f1 : ∀ z : Int, 0 ≤ z → z ≤ 1000000000 → Builtin.Range.rangeFitsLong z = true := fun z h1 h2 => by
    unfold Builtin.Range.rangeFitsLong
    rw [Bool.and_eq_true, decide_eq_true_eq, decide_eq_true_eq]
    have : (2 : Int) ^ 63 = 9223372036854775808 := by decide
    omega
  simp only [f1 0 (by omega) (by omega), f1 2 (by omega) (by omega), f1 (m : Int) (by omega) (by omega), f1 ((2 * m : Nat) : Int) (by omega) (by omega)]
  rw [if_pos (by decide), f1 (((2 * m : Nat) : Int) + (2 - 1)) (by omega) (by omega)]
  simp
theorem for_two {t1 : TA} (m : Nat) (hm : m ≤ 500000) (Inv : Nat → List Sl → Prop) (h : WD K t1 Γ fun ds Γ1 => Hold (ds = [.int 0, .int ((2 * m : Nat) : Int), .int 2] ∧ Inv 0 Γ1))
    (turn : ∀ (i : Nat) Γ', i < m → Inv i Γ' → WG K pin g (.int ((2 * i : Nat) : Int)) Γ' fun Γ2 => WS K pin tb' Γ2 ⟨fun G => Hold (Inv (i + 1) G), P.rt, P.nx, fun G => Hold (Inv (i + 1) G), P.ex⟩) (done : ∀ Γ', Inv m Γ' → P.nx Γ') : WS K pin (tFor (iRng3 t1) g tb') Γ P := fun σ B H D E n r b c xx => by
  refine h σ B H E _ fun vs B1 H1 ds Γ1 g1 k p => ?_
  obtain ⟨rfl, i0⟩ := p.get
  have ev : vs = [.int 0, .int ((2 * m : Nat) : Int), .int 2] := IsA.rawsI (xs := [.int 0, .int ((2 * m : Nat) : Int), .int 2]) k
  refine ⟨0, _, 2, m, ev, rg2 m hm, ?_⟩
  refine for_rangeC (lo := 0) (c := 2) (n := m) (fun i σ' H' => ∃ B' Γ', GoS K pin σ B H Γ σ' B' H' Γ' ∧ Inv i Γ') ⟨B1, Γ1, g1.s, i0⟩ ?_ ?_
  · rintro i σ' H' hi ⟨B', Γ', g2, inv⟩
    rw [show (0 : Int) + (i : Int) * 2 = ((2 * i : Nat) : Int) by omega]
    refine turn i Γ' hi inv σ' B' H' _ g2.env (.raw _) _ fun σ2 Γ2 g3 w => ?_
    exact ws_from w (g2.trans g3) (fun σ3 B3 H3 Γ3 g4 p => ⟨B3, Γ3, g4, p.get⟩) r (fun σ3 B3 H3 Γ3 g4 p => n σ3 B3 H3 Γ3 g4 p) (fun σ3 B3 H3 Γ3 g4 p => ⟨B3, Γ3, g4, p.get⟩) xx
  · rintro σ' H' ⟨B', Γ', g2, inv⟩
    exact n σ' B' H' Γ' g2 (done Γ' inv)
end
section
variable {K : PySem.W.Frag} {c cO : Addr} {w : World}
abbrev GC := Int × Addr × List Int
def gcK (R : List GC) : List (Key × Dt) := R.map fun r => (.inl r.1, .raw (.ref r.2.1))
def gcL (rows : List CRow) : List (Key × Dt) := rows.map fun r => (.inl r.1, .lst (r.2.map Dt.int))
def ghC (R : List GC) : Gs := R.reverse.map fun r => (r.2.1, r.2.2.map Dt.int)
def noC (R : List GC) : List CRow := R.map fun r => (r.1, r.2.2)
def ap_cro (cO : Addr) : APX := fun as Post XP => ∃ os : List Out, as = [.val (.tup (os.map outT))] ∧ ((∀ o ∈ os, OkO o) ∧ (allE os).length ≤ 9000) ∧
  (∀ i o, os[i]? = some o → ¬ Clo o → (∀ j z, j < i → os[j]? = some z → Clo z) → XP (.ref cO) [("place", .int (i : Nat))] as) ∧ ((∀ o ∈ os, Clo o) → Post (.nw (.dK (gcL (crossC (allE os))))) as)
theorem reach_pts (o : Out) : reach o.1 o.2.1 (allS o.2.2) = (ptsO o).map P2 := rfl
theorem pts_len (o : Out) : (ptsO o).length = (allS o.2.2).length + 1 := by unfold ptsO; rw [List.length_cons, walkP_len]
theorem eqp_P2 {neg : Bool} {p q : Pt} {Γ : List Sl} {Post : Re → List Sl → Prop} (k : Post (.val (.bl (neg ^^ decide (p = q)))) Γ) : EqP neg (.val (.tup [.int p.1, .int p.2])) (.val (.tup [.int q.1, .int q.2])) Γ Post := by
  have h := eqp_pd (a := pdP p) (b := pdP q) (neg := neg) (Γ := Γ) (Post := Post) (by simp [PD.ok, PD.oks, pdP]) (by simp [PD.ok, PD.oks, pdP]) (by simp [PD.dep, PD.deps, pdP]) (by simp [PD.dep, PD.deps, pdP])
  have e : PD.eq (pdP p) (pdP q) = decide (p = q) := by
    by_cases z : p = q
    · subst z; rw [(PD.eq_iff _ _).mpr rfl]; simp
    · have : ¬ PD.eq (pdP p) (pdP q) = true := fun y => z (by
        have := (PD.eq_iff _ _).mp y
        unfold pdP at this
        injection this with this
        injection this with h1 h2
        injection h2 with h2 _
        injection h1 with h1
        injection h2 with h2
        exact Prod.ext h1 h2)
      rw [Bool.not_eq_true] at this
      rw [this]; simp [z]
  rw [e] at h
  exact h k
theorem wh_cut2 {m0 : Addr → Prop} {B0 H0 : Hp} {t u : TS} {Γ : List Sl} {g : Gs} {P : Pg} (Q : List Sl → Gs → Prop) (h : WH K m0 B0 H0 t Γ g ⟨Q, P.ct, P.ex⟩) (h2 : ∀ G g', Q G g' → WH K m0 B0 H0 u G g' P) : WH K m0 B0 H0 (tSeq t u) Γ g P := wh_seq (wh_mono h h2 fun _ _ h => h)
theorem noC_keys (R : List GC) : (noC R).map (·.1) = R.map (·.1) := by unfold noC; rw [List.map_map]; rfl
theorem gcK_none {R : List GC} {y : Int} (h : y ∉ R.map (·.1)) : valD (gcK R) (.inl y) = none := by
  unfold gcK valD
  rw [Option.map_eq_none_iff, List.find?_eq_none]
  intro z hz
  obtain ⟨r, hr, rfl⟩ := List.mem_map.mp hz
  intro e
  simp only [decide_eq_true_eq] at e
  exact h (List.mem_map.mpr ⟨r, hr, Sum.inl.inj e⟩)
theorem gcK_some {R1 R2 : List GC} {y : Int} {a : Addr} {xs : List Int} (h : y ∉ R1.map (·.1)) : valD (gcK (R1 ++ (y, a, xs) :: R2)) (.inl y) = some (.raw (.ref a)) := by
  have e : gcK (R1 ++ (y, a, xs) :: R2) = gcK R1 ++ (.inl y, .raw (.ref a)) :: gcK R2 := by unfold gcK; rw [List.map_append]; rfl
  have n := gcK_none h
  rw [e]
  unfold valD at *
  rw [Option.map_eq_none_iff] at n
  rw [List.find?_append, n]
  simp
theorem split_key {R : List GC} {y : Int} (h : y ∈ R.map (·.1)) (hn : (R.map (·.1)).Nodup) : ∃ R1 a xs R2, R = R1 ++ (y, a, xs) :: R2 ∧ y ∉ R1.map (·.1) ∧ y ∉ R2.map (·.1) := by
  obtain ⟨r, hr, rfl⟩ := List.mem_map.mp h
  obtain ⟨R1, R2, rfl⟩ := List.append_of_mem hr
  obtain ⟨y, a, xs⟩ := r
  rw [List.map_append, List.map_cons, List.nodup_append] at hn
  refine ⟨R1, a, xs, R2, rfl, fun z => ?_, fun z => (List.nodup_cons.mp hn.2.1).1 z⟩
  exact hn.2.2 y z y List.mem_cons_self rfl
theorem addC_split {R1 R2 : List GC} {y x : Int} {a : Addr} {xs : List Int} (h1 : y ∉ R1.map (·.1)) (h2 : y ∉ R2.map (·.1)) : addC (noC (R1 ++ (y, a, xs) :: R2)) (x, y) = noC (R1 ++ (y, a, xs ++ [x]) :: R2) := by
  unfold addC
  rw [if_pos (by rw [noC_keys, List.map_append]; simp)]
  have same : ∀ R : List GC, y ∉ R.map (·.1) → (noC R).map (fun r => if r.1 = (x, y).2 then (r.1, r.2 ++ [(x, y).1]) else r) = noC R := fun R hR => by
    unfold noC
    rw [List.map_map]
    refine List.map_congr_left fun r hr => ?_
    show (if r.1 = y then _ else _) = _
    rw [if_neg (fun z => hR (List.mem_map.mpr ⟨r, hr, z⟩))]
  have e : ∀ R1 R2 : List GC, ∀ r, noC (R1 ++ r :: R2) = noC R1 ++ (r.1, r.2.2) :: noC R2 := fun R1 R2 r => by unfold noC; rw [List.map_append]; rfl
  rw [e, e, List.map_append, List.map_cons, same R1 h1, same R2 h2]
  simp only [if_true]
theorem addC_new {R : List GC} {y x : Int} {a : Addr} (h : y ∉ R.map (·.1)) : addC (noC R) (x, y) = noC (R ++ [(y, a, [x])]) := by
  unfold addC
  rw [if_neg (by rw [noC_keys]; exact h)]
  unfold noC
  rw [List.map_append]; rfl
theorem ghC_split (R1 R2 : List GC) (y : Int) (a : Addr) (xs : List Int) : ghC (R1 ++ (y, a, xs) :: R2) = ghC R2 ++ (a, xs.map Dt.int) :: ghC R1 := by
  unfold ghC
  rw [List.reverse_append, List.reverse_cons, List.map_append, List.map_append]; simp
theorem putE_new {kv : List (Key × Dt)} {k : Key} {v : Dt} (h : valD kv k = none) : putE kv k v = kv ++ [(k, v)] := by
  unfold putE
  rw [if_neg]
  intro z
  unfold valD at h
  rw [Option.map_eq_none_iff, List.find?_eq_none] at h
  obtain ⟨x, hx, hk⟩ := List.any_eq_true.mp z
  exact h x hx hk
theorem crossC_len : ∀ E : List Pt, (crossC E).length ≤ E.length := by
  refine snoc_ind (Nat.le_refl _) fun E e ih => ?_
  rw [crossC_snoc, List.length_append, List.length_singleton]
  unfold addC
  split
  · rw [List.length_map]; omega
  · rw [List.length_append, List.length_singleton]; omega
theorem edgesK_len (pts : List Pt) (k : Nat) : (edgesK pts k).length ≤ k := by
  unfold edgesK
  have := len_flat (f := fun i => edgeL (pts.getD i (0, 0)) (pts.getD (i + 1) (0, 0))) (m := 1) (l := List.range k) fun i _ => by unfold edgeL; split <;> simp
  rw [List.length_range] at this
  omega
theorem allE_take (os : List Out) (i : Nat) : (allE (os.take i)).length ≤ (allE os).length := by
  have e : allE os = allE (os.take i) ++ allE (os.drop i) := by unfold allE; rw [← List.flatMap_append, List.take_append_drop]
  rw [e, List.length_append]; omega
theorem onRow_len (E : List Pt) (y : Int) : (onRow E y).length ≤ E.length := by unfold onRow; rw [List.length_map]; exact List.length_filter_le _ _
theorem run_cro : RunOkX K [] (tq_crossings_of K cO ap_cor) 9 (ap_cro cO) := by
  rintro W as Post XP ⟨os, rfl, ⟨hok, hlen⟩, kx, k⟩
  unfold tq_crossings_of
  show WS K [] _ [.val (.tup (os.map outT)), .un, .un, .un, .un, .un, .un, .un, .un] _
  refine ws_seq ?_
  walk_at "xs"
  refine ws_seq (ws_wh fun m0 B0 H0 => ?_)
  refine wh_forE (os.map outT) (fun i G g => (∀ j z, j < i → os[j]? = some z → Clo z) ∧ ∃ (R : List GC) (s2 s3 s4 s5 s6 s7 s8 : Sl), G = [.val (.tup (os.map outT)), .cel (.dK (gcK R)), s2, s3, s4, s5, s6, s7, s8] ∧ g = ghC R ∧ noC R = crossC (allE (os.take i))) ?_ ?_ ?_
  · walk_at "es"
    exact .a ⟨rfl, (fun j z hj => absurd hj (Nat.not_lt_zero _)), [], _, _, _, _, _, _, _, rfl, rfl, rfl⟩
  · rintro i d G g hd ⟨hcl, R, s2, s3, s4, s5, s6, s7, s8, rfl, rfl, hR⟩
    rw [List.getElem?_map] at hd
    obtain ⟨o, ho, rfl⟩ : ∃ o, os[i]? = some o ∧ outT o = d := by
      cases e : os[i]? with
      | none => rw [e] at hd; cases hd
      | some o => rw [e] at hd; exact ⟨o, rfl, Option.some.inj hd⟩
    have hoo := hok o (List.mem_of_getElem? ho)
    show WG K _ _ (.tup [.int (i : Int), .tup [.int o.1, .int o.2.1, .tup (o.2.2.map Stk.dt)]]) _ _
    walk_at "es"
    refine wh_seq (wh_ws (pin := []) ?_)
    walk_at "es"
    refine .a ⟨o.1, o.2.1, o.2.2, rfl, hoo.1, Nat.le_trans hoo.2.1 (by decide), ?_⟩
    rw [reach_pts]
    walk_at "es"
    have hpl := pts_len o
    have hn := hoo.2.1
    have hEl : (allE (os.take i)).length ≤ 9000 := Nat.le_trans (allE_take os i) hlen
    have hst : allE (os.take (i + 1)) = allE (os.take i) ++ edgesO o := by rw [List.take_add_one, ho]; exact allE_snoc _ _
    have hat : atI ((ptsO o).map P2) (-1) = some (.tup [.int (endP (o.1, o.2.1) (allS o.2.2)).1, .int (endP (o.1, o.2.1) (allS o.2.2)).2]) := by
      have e : ptsO o = (ptsO o).dropLast ++ [endP (o.1, o.2.1) (allS o.2.2)] := by
        have hne : ptsO o ≠ [] := by unfold ptsO; exact List.cons_ne_nil _ _
        have h1 := (List.dropLast_concat_getLast hne).symm
        rw [List.getLast_eq_getElem] at h1
        have h2 := walk_end (allS o.2.2) (o.1, o.2.1)
        rw [List.getD_eq_getElem?_getD] at h2
        have h3 : (ptsO o)[(ptsO o).length - 1]'(by omega) = endP (o.1, o.2.1) (allS o.2.2) := by
          rw [← h2]
          show _ = ((ptsO o)[(allS o.2.2).length]?).getD _
          rw [List.getElem?_eq_getElem (by omega)]
          simp [hpl]
        rw [h3] at h1
        exact h1
      rw [e, List.map_append]
      exact atI_snoc _ _
    have h0 : atI ((ptsO o).map P2) 0 = some (.tup [.int (o.1, o.2.1).1, .int (o.1, o.2.1).2]) := by unfold ptsO; simp [atI, ixN, P2]
    refine wh_seq (wh_if ?_)
    walk_at "es"
    refine eqp_P2 ?_
    walk_at "es"
    refine ⟨fun e => ?_, fun e => ?_⟩
    · have hnc : ¬ Clo o := fun z => by unfold Clo at z; rw [decide_eq_true z] at e; cases e
      refine wh_ws (pin := []) (ws_raise1 rfl ?_)
      walk_at "xs"
      exact ⟨fun _ _ _ => trivial, kx i o ho hnc fun j z hj hz => hcl j z hj hz⟩
    have hcc : Clo o := by
      by_cases z : Clo o
      · exact z
      · unfold Clo at z; rw [decide_eq_false z] at e; cases e
    refine wh_next ?_
    refine wh_for2 1 ((ptsO o).length : Int) (fun j G g => ∃ (R : List GC) (s5 s6 s7 s8 : Sl), G = [.val (.tup (os.map outT)), .cel (.dK (gcK R)), .val (.int (i : Int)), .val (.tup [.int o.1, .int o.2.1, .tup (o.2.2.map Stk.dt)]), .acc ((ptsO o).map P2), s5, s6, s7, s8] ∧ g = ghC R ∧ noC R = crossC (allE (os.take i) ++ edgesK (ptsO o) j)) ?_ ?_ ?_
    · walk_at "es"
      exact .a ⟨by rw [List.length_map], by omega, R, _, _, _, _, rfl, rfl, by rw [hR]; show _ = crossC (_ ++ []); rw [List.append_nil]⟩
    · rintro j G g hj ⟨R, s5, s6, s7, s8, rfl, rfl, hR⟩
      have hj1 : j + 1 < (ptsO o).length := by omega
      obtain ⟨p, hp⟩ : ∃ p, (ptsO o)[j]? = some p := ⟨_, List.getElem?_eq_getElem (by omega)⟩
      obtain ⟨q, hq⟩ : ∃ q, (ptsO o)[j + 1]? = some q := ⟨_, List.getElem?_eq_getElem hj1⟩
      have hp1 : atI ((ptsO o).map P2) ((1 : Int) + (j : Int) - 1) = some (.tup [.int p.1, .int p.2]) := at_mapI (i := j) (by omega) hp
      have hq1 : atI ((ptsO o).map P2) ((1 : Int) + (j : Int)) = some (.tup [.int q.1, .int q.2]) := at_mapI (i := j + 1) (by omega) hq
      have hek : edgesK (ptsO o) (j + 1) = edgesK (ptsO o) j ++ edgeL p q := by
        rw [edgesK_succ, List.getD_eq_getElem?_getD, List.getD_eq_getElem?_getD, hp, hq]; rfl
      have hEj : (allE (os.take i) ++ edgesK (ptsO o) j).length ≤ 20000 := by
        have := edgesK_len (ptsO o) j
        rw [List.length_append]; omega
      rw [hek, ← List.append_assoc]
      generalize allE (os.take i) ++ edgesK (ptsO o) j = E at hR hEj
      walk_at "es"
      refine wh_seq (wh_ws (pin := []) ?_)
      walk_at "es"
      refine ⟨_, _, rfl, ?_⟩
      walk_at "es"
      by_cases hx : p.1 = q.1
      · refine wh_if ?_
        walk_at "es"
        refine wh_seq (wh_ws (pin := []) ?_)
        walk_at "es"
        have hmin : (if q.2 < p.2 then q.2 else p.2) = min p.2 q.2 := by split <;> omega
        rw [hmin, show edgeL p q = [(p.1, min p.2 q.2)] by unfold edgeL; rw [if_pos hx], crossC_snoc, ← hR]
        generalize min p.2 q.2 = y
        have hnod : (R.map (·.1)).Nodup := by rw [← noC_keys, hR]; exact (cross_spec E).1
        have hRl : R.length ≤ 20000 := by
          have h1 := crossC_len E
          rw [← hR] at h1
          unfold noC at h1
          rw [List.length_map] at h1
          omega
        have hxl : ∀ r ∈ R, r.2.2.length ≤ 20000 := fun r hr => by
          have h1 := (cross_spec E).2.1 (r.1, r.2.2) (by rw [← hR]; exact List.mem_map.mpr ⟨r, hr, rfl⟩)
          have h2 := onRow_len E r.1
          simp only at h1
          rw [h1]; omega
        refine wh_cut2 (fun G g => ∃ (R1 : List GC) (a : Addr) (xs : List Int) (R2 : List GC), y ∉ R1.map (·.1) ∧ y ∉ R2.map (·.1) ∧ G = [.val (.tup (os.map outT)), .cel (.dK (gcK (R1 ++ (y, a, xs) :: R2))), .val (.int (i : Int)), .val (.tup [.int o.1, .int o.2.1, .tup (o.2.2.map Stk.dt)]), .acc ((ptsO o).map P2), .val (.int (1 + (j : Int))), .val (.tup [.int p.1, .int p.2]), .val (.tup [.int q.1, .int q.2]), .val (.int y)] ∧ g = ghC (R1 ++ (y, a, xs) :: R2) ∧ addC (noC R) (p.1, y) = noC (R1 ++ (y, a, xs ++ [p.1]) :: R2) ∧ xs.length ≤ 20000) ?_ ?_
        · refine wh_if ?_
          walk_at "es"
          refine ⟨_, .inl y, rfl, rfl, _, rfl, fun e => ?_, fun e => ?_⟩
          · have hk : y ∉ R.map (·.1) := fun z => by
              obtain ⟨R1, a, xs, R2, rfl, h1, h2⟩ := split_key z hnod
              rw [gcK_some h1] at e; cases e
            refine wh_new (F := fun te => sDPut (tVar 1) (tVar 8) te) _ (fun te D σ H => rfl) fun a => ?_
            show WH K m0 B0 H0 (sDPut (tVar 1) (tVar 8) (tC (.ref a))) _ _ _
            refine wh_ws (pin := []) ?_
            walk_at "es"
            refine ⟨_, .inl y, rfl, rfl, by unfold gcK; rw [List.length_map]; omega, ?_⟩
            rw [putE_new (gcK_none hk)]
            refine ⟨R, a, [], [], hk, (fun z => nomatch z), by unfold gcK; rw [List.map_append]; rfl, by unfold ghC; rw [List.reverse_append]; rfl, addC_new hk, Nat.zero_le _⟩
          · have hk : y ∈ R.map (·.1) := by
              by_cases z : y ∈ R.map (·.1)
              · exact z
              · rw [gcK_none z] at e; cases e
            obtain ⟨R1, a, xs, R2, rfl, h1, h2⟩ := split_key hk hnod
            exact wh_next ⟨R1, a, xs, R2, h1, h2, rfl, rfl, addC_split h1 h2, hxl (y, a, xs) (by simp)⟩
        · rintro G g ⟨R1, a, xs, R2, h1, h2, rfl, rfl, hadd, hxs⟩
          refine wh_app ?_
          walk_at "es"
          refine ⟨_, .inl y, _, rfl, rfl, gcK_some h1, ?_⟩
          refine ⟨a, xs.map Dt.int, ghC R2, ghC R1, rfl, ghC_split _ _ _ _ _, by rw [List.length_map]; omega, ?_⟩
          walk_at "es"
          refine ⟨R1 ++ (y, a, xs ++ [p.1]) :: R2, _, _, _, _, by unfold gcK; rw [List.map_append, List.map_append]; rfl, ?_, hadd.symm⟩
          rw [ghC_split, List.map_append]; rfl
      · refine wh_if ?_
        walk_at "es"
        refine wh_next ?_
        rw [show edgeL p q = [] by unfold edgeL; rw [if_neg hx], List.append_nil]
        exact ⟨R, _, _, _, _, rfl, rfl, hR⟩
    · rintro G g ⟨R, s5, s6, s7, s8, rfl, rfl, hR⟩
      refine ⟨fun j z hj hz => ?_, R, _, _, _, _, _, _, _, rfl, rfl, ?_⟩
      · by_cases e : j = i
        · subst e
          rw [ho] at hz
          cases hz
          exact hcc
        · exact hcl j z (by omega) hz
      · rw [hR, hst]
        unfold edgesO
        rw [show ((((ptsO o).length : Int)) - 1).toNat = (allS o.2.2).length by omega]
  · rintro G g ⟨hcl, R, s2, s3, s4, s5, s6, s7, s8, rfl, rfl, hR⟩
    rw [List.length_map, List.take_of_length_le (Nat.le_refl _)] at hR
    rw [List.length_map] at hcl
    have hall : ∀ o ∈ os, Clo o := fun o ho => by
      obtain ⟨j, hj⟩ := List.mem_iff_getElem?.mp ho
      exact hcl j o (List.getElem?_eq_some_iff.mp hj).1 hj
    refine ⟨1, _, .dK (gcL (noC R)), rfl, ⟨?_, ?_, fun j x y hx hy => ?_⟩, ?_⟩
    · unfold gcK gcL noC; rw [List.map_map, List.map_map, List.map_map]; rfl
    · unfold gcK gcL noC; simp
    · unfold gcK gcL noC at *
      rw [List.map_map, List.getElem?_map] at hx
      rw [List.map_map, List.map_map, List.getElem?_map] at hy
      cases hr : R[j]? with
      | none => rw [hr] at hx; cases hx
      | some r =>
        rw [hr] at hx hy
        cases hx
        cases hy
        exact .inl (.inr ⟨r.2.1, r.2.2.map Dt.int, rfl, List.mem_map.mpr ⟨r, List.mem_reverse.mpr (List.mem_of_getElem? hr), rfl⟩, rfl⟩)
    · show WS K [] _ [.val (.tup (os.map outT)), .cel (.dK (gcL (noC R))), s2, s3, s4, s5, s6, s7, s8] _
      refine ws_retK rfl ?_
      rw [hR]
      exact k hall
theorem gcL_at {E : List Pt} {y : Int} (h : y ∈ (crossC E).map (·.1)) : valD (gcL (crossC E)) (.inl y) = some (.lst ((onRow E y).map Dt.int)) := by
  obtain ⟨h1, h2, _⟩ := cross_spec E
  have main : ∀ rows : List CRow, (rows.map (·.1)).Nodup → ∀ r ∈ rows, valD (gcL rows) (.inl r.1) = some (.lst (r.2.map Dt.int)) := by
    intro rows
    induction rows with
    | nil => intro _ r hr; exact nomatch hr
    | cons a t ih =>
      intro hn r hr
      rw [List.map_cons, List.nodup_cons] at hn
      unfold gcL valD at *
      rw [List.map_cons, List.find?_cons]
      rcases List.mem_cons.mp hr with rfl | hr
      · simp
      · have : ¬ a.1 = r.1 := fun z => hn.1 (z ▸ List.mem_map.mpr ⟨r, hr, rfl⟩)
        have : ¬ ((.inl a.1 : Key) = .inl r.1) := fun z => this (Sum.inl.inj z)
        simp only [this, decide_false]
        exact ih hn.2 r hr
  obtain ⟨r, hr, rfl⟩ := List.mem_map.mp h
  rw [main _ h1 r hr, h2 r hr]
theorem pair_step (y : Int) : ∀ (j : Nat) (l : List Int), 2 * j + 1 < l.length → pairC y (l.take (2 * (j + 1))) = pairC y (l.take (2 * j)) ++ spC y (l.getD (2 * j) 0, l.getD (2 * j + 1) 0) := by
  intro j
  induction j with
  | zero =>
    intro l h
    match l, h with
    | a :: b :: r, _ => show spC y (a, b) ++ pairC y (List.take 0 r) = [] ++ spC y (a, b); rw [List.take_zero]; show spC y (a, b) ++ [] = _; simp
    | [a], h => simp at h
    | [], h => simp at h
  | succ j ih =>
    intro l h
    match l, h with
    | a :: b :: r, h =>
      have i := ih r (by simp only [List.length_cons] at h; omega)
      rw [show 2 * (j + 1 + 1) = 2 * (j + 1) + 1 + 1 by omega, show 2 * (j + 1) = 2 * j + 1 + 1 by omega] at *
      show spC y (a, b) ++ pairC y (List.take (2 * j + 1 + 1) r) = (spC y (a, b) ++ pairC y (List.take (2 * j) r)) ++ spC y (r.getD (2 * j) 0, r.getD (2 * j + 1) 0)
      rw [i, List.append_assoc]
    | [a], h => simp at h
    | [], h => simp at h
def ap_ink (c : Addr) (cO : Addr) (w : World) : APX := fun as Post XP => ∃ os : List Out, as = [.val (.tup (os.map outT))] ∧ ((∀ o ∈ os, OkO o) ∧ (allE os).length ≤ 9000 ∧ ((∀ o ∈ os, Clo o) → (cellsE (allE os)).length ≤ 800000)) ∧
  (∀ i o, os[i]? = some o → ¬ Clo o → (∀ j z, j < i → os[j]? = some z → Clo z) → XP (.ref cO) [("place", .int (i : Nat))] as) ∧ ((∀ o ∈ os, Clo o) → Post (.val (inkD c w (inkO os))) as)
theorem row_ok2 {E : List Pt} (hb : ∀ e ∈ E, -10000 ≤ e.1 ∧ e.1 ≤ 10000 ∧ -10000 ≤ e.2 ∧ e.2 < 10000) (y : Int) : ∀ a ∈ srt (onRow E y), -10000 ≤ a ∧ a ≤ 10000 := fun a ha => by
  rw [(srt_perm _).mem_iff] at ha
  unfold onRow at ha
  obtain ⟨e, he, rfl⟩ := List.mem_map.mp ha
  have := hb e (List.mem_filter.mp he).1
  exact ⟨this.1, this.2.1⟩
theorem pref_len (E : List Pt) (i : Nat) : (((srt ((crossC E).map (·.1))).take i).flatMap fun y => pairC y (srt (onRow E y))).length ≤ (cellsE E).length := by
  have e : cellsE E = (((srt ((crossC E).map (·.1))).take i).flatMap fun y => pairC y (srt (onRow E y))) ++ (((srt ((crossC E).map (·.1))).drop i).flatMap fun y => pairC y (srt (onRow E y))) := by unfold cellsE; rw [← List.flatMap_append, List.take_append_drop]
  rw [e, List.length_append]; omega
theorem run_ink (ok : IkOk K c) : RunOkX K [] (tq_ink_of K c (ap_cro cO) (ai_Ink w)) 7 (ap_ink c cO w) := by
  rintro W as Post XP ⟨os, rfl, ⟨hok, hlen, hcl⟩, kx, k⟩
  obtain ⟨co, n0, n1, n2, n3⟩ := ok
  have cl := co.cl
  unfold tq_ink_of
  show WS K [] _ [.val (.tup (os.map outT)), .un, .un, .un, .un, .un, .un] _
  refine ws_seq ?_
  walk_at "xs"
  refine ws_seq (ws_asgX rfl rfl (wx_call rfl ?_))
  walk_at "xs"
  refine .a ⟨os, rfl, ⟨hok, hlen⟩, kx, fun hall => ?_⟩
  have hb := edge_box hok
  have hev := all_even hok hall
  have k := k hall
  have hEl := hlen
  have hcl := hcl hall
  unfold inkO at k
  generalize allE os = E at hb hev k hEl hcl
  walk_at "xs"
  refine ws_seq ?_
  refine for_lstT (srt ((crossC E).map (·.1))) Dt.int (fun i G => ∃ (s3 s4 s5 s6 : Sl), G = [.val (.tup (os.map outT)), .acc ((((srt ((crossC E).map (·.1))).take i).flatMap fun y => pairC y (srt (onRow E y))).map P2), .cel (.dK (gcL (crossC E))), s3, s4, s5, s6]) ?_ ?_ ?_
  · refine we_sortD0 Dt.int PyData.int ?_
    walk_at "xs"
    exact .a ⟨(crossC E).map (·.1), by unfold gcL; rw [List.map_map, List.map_map]; rfl, fun b _ => ⟨rfl, by simp [PyData.depth]⟩, AllAlike.of (fun x y => by simp [alike]), Sortable.others (fun b => ⟨(fun z => nomatch z), (fun _ z => nomatch z)⟩), .a ⟨rfl, _, _, _, _, rfl⟩⟩
  · rintro i y G hy ⟨s3, s4, s5, s6, rfl⟩
    have hin : y ∈ (crossC E).map (·.1) := (srt_perm _).mem_iff.mp (List.mem_of_getElem? hy)
    have hst : (srt ((crossC E).map (·.1))).take (i + 1) = (srt ((crossC E).map (·.1))).take i ++ [y] := by rw [List.take_add_one, hy]; rfl
    have hpl := Nat.le_trans (pref_len E i) hcl
    have hps := row_ok2 hb y
    have hpe : (srt (onRow E y)).length % 2 = 0 := by rw [(srt_perm _).length_eq]; exact hev y
    rw [hst, flat_snoc]
    generalize ((srt ((crossC E).map (·.1))).take i).flatMap (fun y => pairC y (srt (onRow E y))) = done at hpl
    walk_at "es"
    refine we_sortD0 Dt.int PyData.int ?_
    walk_at "xs"
    refine ⟨_, .inl y, _, rfl, rfl, gcL_at hin, ?_⟩
    refine .a ⟨onRow E y, rfl, fun b _ => ⟨rfl, by simp [PyData.depth]⟩, AllAlike.of (fun x y => by simp [alike]), Sortable.others (fun b => ⟨(fun z => nomatch z), (fun _ z => nomatch z)⟩), ?_⟩
    rw [show (onRow E y).mergeSort (dataLe false PyData.int) = srt (onRow E y) from rfl]
    have hpl2 : ∀ j, (pairC y ((srt (onRow E y)).take j)).length ≤ 20000 := fun j => by
      have := len_pairC y (-10000) 10000 _ ((srt (onRow E y)).take j) rfl ((srt_le _).sublist (List.take_sublist _ _)) (by omega) (fun a ha => hps a (List.mem_of_mem_take ha))
      omega
    have hso := srt_le (onRow E y)
    have hnl : (srt (onRow E y)).length ≤ 1000000 := by
      rw [(srt_perm _).length_eq]
      have := onRow_len E y
      omega
    generalize srt (onRow E y) = ps at hps hpe hpl2 hso hnl
    obtain ⟨m, hm⟩ : ∃ m, ps.length = 2 * m := ⟨ps.length / 2, by omega⟩
    walk_at "es"
    refine for_two m (by omega) (fun j G => ∃ s5 s6 : Sl, G = [.val (.tup (os.map outT)), .acc ((done ++ pairC y (ps.take (2 * j))).map P2), .cel (.dK (gcL (crossC E))), .val (.int y), .acc (ps.map Dt.int), s5, s6]) ?_ ?_ ?_
    · walk_at "es"
      exact .a ⟨by rw [List.length_map, hm], _, _, by rw [Nat.mul_zero, List.take_zero]; show _ = [_, Sl.acc ((done ++ []).map P2), _, _, _, _, _]; rw [List.append_nil]⟩
    · rintro j G hj ⟨s5, s6, rfl⟩
      have ha : atI (ps.map Dt.int) ((2 * j : Nat) : Int) = some (.int (ps.getD (2 * j) 0)) := by have := at_map (f := Dt.int) (xs := ps) (k := ((2 * j : Nat) : Int)) (by omega) (by omega) 0; rw [Int.toNat_natCast] at this; exact this
      have hb2 : atI (ps.map Dt.int) (((2 * j : Nat) : Int) + 1) = some (.int (ps.getD (2 * j + 1) 0)) := by have := at_map (f := Dt.int) (xs := ps) (k := ((2 * j : Nat) : Int) + 1) (by omega) (by omega) 0; rw [show ((((2 * j : Nat) : Int) + 1)).toNat = 2 * j + 1 by omega] at this; exact this
      have hin2 : ∀ n, n < ps.length → -10000 ≤ ps.getD n 0 ∧ ps.getD n 0 ≤ 10000 := fun n hn => by
        rw [List.getD_eq_getElem?_getD, List.getElem?_eq_getElem hn]
        exact hps _ (List.getElem_mem hn)
      have b0 := hin2 (2 * j) (by omega)
      have b1 := hin2 (2 * j + 1) (by omega)
      have hle : ps.getD (2 * j) 0 ≤ ps.getD (2 * j + 1) 0 := by
        rw [List.getD_eq_getElem?_getD, List.getD_eq_getElem?_getD, List.getElem?_eq_getElem (by omega), List.getElem?_eq_getElem (by omega)]
        exact List.pairwise_iff_getElem.mp hso (2 * j) (2 * j + 1) (by omega) (by omega) (by omega)
      have hpp := hpl2 (2 * j)
      rw [pair_step y j ps (by omega), ← List.append_assoc]
      generalize pairC y (ps.take (2 * j)) = pd at hpp
      generalize ps.getD (2 * j) 0 = a at ha b0 hle
      generalize ps.getD (2 * j + 1) 0 = b at hb2 b1 hle
      walk_at "es"
      refine for_range2 a b (fun t G => ∃ s6 : Sl, G = [.val (.tup (os.map outT)), .acc ((done ++ pd ++ spC y (a, a + (t : Int))).map P2), .cel (.dK (gcL (crossC E))), .val (.int y), .acc (ps.map Dt.int), .val (.int ((2 * j : Nat) : Int)), s6]) ?_ ?_ ?_
      · walk_at "es"
        refine .a ⟨rfl, ⟨by omega, by omega, by omega, by omega⟩, s6, ?_⟩
        rw [show spC y (a, a + ((0 : Nat) : Int)) = [] by unfold spC; simp, List.append_nil]
      · rintro t G ht ⟨s6, rfl⟩
        have hz : ((done ++ pd ++ spC y (a, a + (t : Int))).map P2).length < 1000000 := by
          rw [List.length_map, List.length_append, List.length_append, len_spC]
          simp only
          omega
        walk_at "es"
        refine .a ⟨.val (.int (a + (t : Int))), ?_⟩
        rw [show a + ((t + 1 : Nat) : Int) = a + (t : Int) + 1 by omega, spC_snoc (by omega : a ≤ a + (t : Int)), ← List.append_assoc, List.map_append (l₁ := done ++ pd ++ spC y (a, a + (t : Int)))]
        rfl
      · rintro G ⟨s6, rfl⟩
        rw [show a + ((b - a).toNat : Int) = b by omega]
        exact .a ⟨_, _, rfl⟩
    · rintro G ⟨s5, s6, rfl⟩
      rw [← hm, List.take_of_length_le (Nat.le_refl _)]
      exact .a ⟨_, _, _, _, rfl⟩
  · rintro G ⟨s3, s4, s5, s6, rfl⟩
    rw [List.take_of_length_le (Nat.le_refl _)]
    walk_at "es"
    refine .a ⟨cellsE E, rfl, Nat.le_trans hcl (by omega), ?_⟩
    exact ⟨rfl, k⟩
end
end
section
open PySem L2 Ab Strokes PySem.W
section
variable {κ β : Type} [DecidableEq κ]
def addK (rows : List (κ × List β)) (e : κ × β) : List (κ × List β) := if e.1 ∈ rows.map (·.1) then rows.map (fun r => if r.1 = e.1 then (r.1, r.2 ++ [e.2]) else r) else rows ++ [(e.1, [e.2])]
def grp (E : List (κ × β)) : List (κ × List β) := E.foldl addK []
theorem grp_snoc (E : List (κ × β)) (e : κ × β) : grp (E ++ [e]) = addK (grp E) e := by unfold grp; rw [List.foldl_append]; rfl
def atK (E : List (κ × β)) (k : κ) : List β := (E.filter fun e => decide (e.1 = k)).map (·.2)
theorem atK_snoc (E : List (κ × β)) (e : κ × β) (k : κ) : atK (E ++ [e]) k = atK E k ++ (if e.1 = k then [e.2] else []) := by
  unfold atK
  rw [List.filter_append, List.map_append]
  congr 1
  by_cases h : e.1 = k <;> simp [h]
theorem addK_keys (rows : List (κ × List β)) (e : κ × β) : (addK rows e).map (·.1) = if e.1 ∈ rows.map (·.1) then rows.map (·.1) else rows.map (·.1) ++ [e.1] := by
  unfold addK
  split
  · rw [List.map_map]
    refine List.map_congr_left fun r _ => ?_
    show (if r.1 = e.1 then (r.1, r.2 ++ [e.2]) else r).1 = r.1
    split <;> rfl
  · rw [List.map_append]; rfl
theorem grp_spec : ∀ E : List (κ × β), ((grp E).map (·.1)).Nodup ∧ (∀ r ∈ grp E, r.2 = atK E r.1) ∧ ∀ k, k ∈ (grp E).map (·.1) ↔ ∃ e ∈ E, e.1 = k := by
  refine snoc_ind ⟨List.nodup_nil, (fun _ h => nomatch h), fun y => ⟨(fun h => nomatch h), fun ⟨e, h, _⟩ => nomatch h⟩⟩ fun E e ih => ?_
  obtain ⟨h1, h2, h3⟩ := ih
  rw [grp_snoc, addK_keys]
  by_cases hk : e.1 ∈ (grp E).map (·.1)
  · rw [if_pos hk]
    refine ⟨h1, fun r hr => ?_, fun y => ?_⟩
    · unfold addK at hr
      rw [if_pos hk] at hr
      obtain ⟨r0, hr0, rfl⟩ := List.mem_map.mp hr
      rw [atK_snoc]
      by_cases q : r0.1 = e.1
      · rw [if_pos q]
        show r0.2 ++ [e.2] = atK E r0.1 ++ _
        rw [h2 r0 hr0, if_pos q.symm]
      · rw [if_neg q, h2 r0 hr0, if_neg (fun z => q z.symm), List.append_nil]
    · rw [h3]
      constructor
      · rintro ⟨e', he, rfl⟩; exact ⟨e', List.mem_append_left _ he, rfl⟩
      · rintro ⟨e', he, rfl⟩
        rcases List.mem_append.mp he with he | he
        · exact ⟨e', he, rfl⟩
        · rw [List.mem_singleton.mp he]; exact (h3 _).mp hk
  · rw [if_neg hk]
    refine ⟨List.nodup_append.mpr ⟨h1, by simp, fun a ha b hb => ?_⟩, fun r hr => ?_, fun y => ?_⟩
    · rw [List.mem_singleton] at hb
      subst hb
      intro z; subst z; exact hk ha
    · unfold addK at hr
      rw [if_neg hk] at hr
      rw [atK_snoc]
      rcases List.mem_append.mp hr with hr | hr
      · have : e.1 ≠ r.1 := fun z => hk (z ▸ List.mem_map.mpr ⟨r, hr, rfl⟩)
        rw [h2 r hr, if_neg this, List.append_nil]
      · rw [List.mem_singleton.mp hr]
        show [e.2] = atK E e.1 ++ _
        rw [if_pos rfl]
        have : atK E e.1 = [] := by
          unfold atK
          rw [List.map_eq_nil_iff, List.filter_eq_nil_iff]
          intro a ha z
          exact hk ((h3 _).mpr ⟨a, ha, of_decide_eq_true z⟩)
        rw [this]; rfl
    · rw [List.mem_append, h3, List.mem_singleton]
      constructor
      · rintro (⟨e', he, rfl⟩ | rfl)
        · exact ⟨e', List.mem_append_left _ he, rfl⟩
        · exact ⟨e, by simp, rfl⟩
      · rintro ⟨e', he, rfl⟩
        rcases List.mem_append.mp he with he | he
        · exact .inl ⟨e', he, rfl⟩
        · exact .inr (by rw [List.mem_singleton.mp he])
theorem grp_len : ∀ E : List (κ × β), (grp E).length ≤ E.length := by
  refine snoc_ind (Nat.le_refl _) fun E e ih => ?_
  rw [grp_snoc, List.length_append, List.length_singleton]
  unfold addK
  split
  · rw [List.length_map]; omega
  · rw [List.length_append, List.length_singleton]; omega
theorem atK_len (E : List (κ × β)) (k : κ) : (atK E k).length ≤ E.length := by unfold atK; rw [List.length_map]; exact List.length_filter_le _ _
end
abbrev GM := Pt × Addr × List Pt
def gmK (R : List GM) : List (NestedKey × Dt) := R.map fun r => (kP r.1, .raw (.ref r.2.1))
def gmL (rows : List (Pt × List Pt)) : List (NestedKey × Dt) := rows.map fun r => (kP r.1, .lst (r.2.map P2))
def ghM (R : List GM) : Gs := R.reverse.map fun r => (r.2.1, r.2.2.map P2)
def noM (R : List GM) : List (Pt × List Pt) := R.map fun r => (r.1, r.2.2)
theorem noM_keys (R : List GM) : (noM R).map (·.1) = R.map (·.1) := by unfold noM; rw [List.map_map]; rfl
theorem gmK_none {R : List GM} {y : Pt} (h : y ∉ R.map (·.1)) : valD (gmK R) (kP y) = none := by
  unfold gmK valD
  rw [Option.map_eq_none_iff, List.find?_eq_none]
  intro z hz
  obtain ⟨r, hr, rfl⟩ := List.mem_map.mp hz
  intro e
  simp only [decide_eq_true_eq] at e
  exact h (List.mem_map.mpr ⟨r, hr, kP_inj e⟩)
theorem gmK_some {R1 R2 : List GM} {y : Pt} {a : Addr} {xs : List Pt} (h : y ∉ R1.map (·.1)) : valD (gmK (R1 ++ (y, a, xs) :: R2)) (kP y) = some (.raw (.ref a)) := by
  have e : gmK (R1 ++ (y, a, xs) :: R2) = gmK R1 ++ (kP y, .raw (.ref a)) :: gmK R2 := by unfold gmK; rw [List.map_append]; rfl
  have n := gmK_none h
  rw [e]
  unfold valD at *
  rw [Option.map_eq_none_iff] at n
  rw [List.find?_append, n]
  simp
theorem splitM {R : List GM} {y : Pt} (h : y ∈ R.map (·.1)) (hn : (R.map (·.1)).Nodup) : ∃ R1 a xs R2, R = R1 ++ (y, a, xs) :: R2 ∧ y ∉ R1.map (·.1) ∧ y ∉ R2.map (·.1) := by
  obtain ⟨r, hr, rfl⟩ := List.mem_map.mp h
  obtain ⟨R1, R2, rfl⟩ := List.append_of_mem hr
  obtain ⟨y, a, xs⟩ := r
  rw [List.map_append, List.map_cons, List.nodup_append] at hn
  refine ⟨R1, a, xs, R2, rfl, fun z => ?_, fun z => (List.nodup_cons.mp hn.2.1).1 z⟩
  exact hn.2.2 y z y List.mem_cons_self rfl
theorem addM_split {R1 R2 : List GM} {y x : Pt} {a : Addr} {xs : List Pt} (h1 : y ∉ R1.map (·.1)) (h2 : y ∉ R2.map (·.1)) : addK (noM (R1 ++ (y, a, xs) :: R2)) (y, x) = noM (R1 ++ (y, a, xs ++ [x]) :: R2) := by
  unfold addK
  rw [if_pos (by rw [noM_keys, List.map_append]; simp)]
  have same : ∀ R : List GM, y ∉ R.map (·.1) → (noM R).map (fun r => if r.1 = (y, x).1 then (r.1, r.2 ++ [(y, x).2]) else r) = noM R := fun R hR => by
    unfold noM
    rw [List.map_map]
    refine List.map_congr_left fun r hr => ?_
    show (if r.1 = y then _ else _) = _
    rw [if_neg (fun z => hR (List.mem_map.mpr ⟨r, hr, z⟩))]
  have e : ∀ R1 R2 : List GM, ∀ r, noM (R1 ++ r :: R2) = noM R1 ++ (r.1, r.2.2) :: noM R2 := fun R1 R2 r => by unfold noM; rw [List.map_append]; rfl
  rw [e, e, List.map_append, List.map_cons, same R1 h1, same R2 h2]
  simp only [if_true]
theorem addM_new {R : List GM} {y x : Pt} {a : Addr} (h : y ∉ R.map (·.1)) : addK (noM R) (y, x) = noM (R ++ [(y, a, [x])]) := by
  unfold addK
  rw [if_neg (by rw [noM_keys]; exact h)]
  unfold noM
  rw [List.map_append]; rfl
theorem ghM_split (R1 R2 : List GM) (y : Pt) (a : Addr) (xs : List Pt) : ghM (R1 ++ (y, a, xs) :: R2) = ghM R2 ++ (a, xs.map P2) :: ghM R1 := by
  unfold ghM
  rw [List.reverse_append, List.reverse_cons, List.map_append, List.map_append]; simp
theorem putN_new {kv : List (NestedKey × Dt)} {k : NestedKey} {v : Dt} (h : valD kv k = none) : putE kv k v = kv ++ [(k, v)] := by
  unfold putE
  rw [if_neg]
  intro z
  unfold valD at h
  rw [Option.map_eq_none_iff, List.find?_eq_none] at h
  obtain ⟨x, hx, hk⟩ := List.any_eq_true.mp z
  exact h x hx hk
theorem gmL_at {E : List Sd} {y : Pt} (h : y ∈ (grp E).map (·.1)) : valD (gmL (grp E)) (kP y) = some (.lst ((atK E y).map P2)) := by
  obtain ⟨h1, h2, _⟩ := grp_spec E
  have main : ∀ rows : List (Pt × List Pt), (rows.map (·.1)).Nodup → ∀ r ∈ rows, valD (gmL rows) (kP r.1) = some (.lst (r.2.map P2)) := by
    intro rows
    induction rows with
    | nil => intro _ r hr; exact nomatch hr
    | cons a t ih =>
      intro hn r hr
      rw [List.map_cons, List.nodup_cons] at hn
      unfold gmL valD at *
      rw [List.map_cons, List.find?_cons]
      rcases List.mem_cons.mp hr with rfl | hr
      · simp
      · have : ¬ a.1 = r.1 := fun z => hn.1 (z ▸ List.mem_map.mpr ⟨r, hr, rfl⟩)
        have : ¬ (kP a.1 = kP r.1) := fun z => this (kP_inj z)
        simp only [this, decide_false]
        exact ih hn.2 r hr
  obtain ⟨r, hr, rfl⟩ := List.mem_map.mp h
  rw [main _ h1 r hr, h2 r hr]
end
section
open PySem L2 Ab Strokes PySem.W
def tq_cell_sides (K : PySem.W.Frag) (c_Ink : Addr) (c_RIGHT : Addr) (c_UP : Addr) (c_LEFT : Addr) (c_DOWN : Addr) (ap_Ink___contains__ : AP) : TS :=
    (tSeq (tAsg (tLst tNil) (gName 3))
    (tSeq (tIfS (tTest (tOp (rInO c_Ink (toSp K ap_Ink___contains__) E0 true) (tTup (tCons (tVar 0) (tCons (tOp rSubI (tVar 1) (tC (.int 1))) tNil))) (tVar 2))) (tDrop (tBM K "list" rAppend (tVar 3) (tCons (tTup (tCons (tTup (tCons (tVar 0) (tCons (tVar 1) tNil))) (tCons (tC (.ref c_RIGHT)) tNil))) tNil))) tNext)
    (tSeq (tIfS (tTest (tOp (rInO c_Ink (toSp K ap_Ink___contains__) E0 true) (tTup (tCons (tOp (rAddG K) (tVar 0) (tC (.int 1))) (tCons (tVar 1) tNil))) (tVar 2))) (tDrop (tBM K "list" rAppend (tVar 3) (tCons (tTup (tCons (tTup (tCons (tOp (rAddG K) (tVar 0) (tC (.int 1))) (tCons (tVar 1) tNil))) (tCons (tC (.ref c_UP)) tNil))) tNil))) tNext)
    (tSeq (tIfS (tTest (tOp (rInO c_Ink (toSp K ap_Ink___contains__) E0 true) (tTup (tCons (tVar 0) (tCons (tOp (rAddG K) (tVar 1) (tC (.int 1))) tNil))) (tVar 2))) (tDrop (tBM K "list" rAppend (tVar 3) (tCons (tTup (tCons (tTup (tCons (tOp (rAddG K) (tVar 0) (tC (.int 1))) (tCons (tOp (rAddG K) (tVar 1) (tC (.int 1))) tNil))) (tCons (tC (.ref c_LEFT)) tNil))) tNil))) tNext)
    (tSeq (tIfS (tTest (tOp (rInO c_Ink (toSp K ap_Ink___contains__) E0 true) (tTup (tCons (tOp rSubI (tVar 0) (tC (.int 1))) (tCons (tVar 1) tNil))) (tVar 2))) (tDrop (tBM K "list" rAppend (tVar 3) (tCons (tTup (tCons (tTup (tCons (tVar 0) (tCons (tOp (rAddG K) (tVar 1) (tC (.int 1))) tNil))) (tCons (tC (.ref c_DOWN)) tNil))) tNil))) tNext)
    (tRet (tVar 3)))))))
def tq_border_moves (K : PySem.W.Frag) (w : World) (c_Ink : Addr) (ap_Ink_cells : AP) (ap_cell_sides : AP) : TS :=
    (tSeq (tAsg (tNNew w) (gName 1))
    (tSeq (tFor (iList K (tMeth c_Ink "cells" (toSp K ap_Ink_cells) [] E0 (tVar 0) tNil)) (gTup K 2 (gCons (gName 2) (gCons (gName 3) gNil))) (tFor (iList K (tCall (toSp K ap_cell_sides) [] E0 (tCons (tVar 2) (tCons (tVar 3) (tCons (tVar 0) tNil))))) (gTup K 2 (gCons (gName 4) (gCons (gName 5) gNil))) (tSeq (tIfS (tB (tNNotIn K w (tVar 4) (tVar 1))) (sNPut K w (tVar 1) (tVar 4) (tLst tNil)) tNext)
    (tDrop (tBM K "list" rAppend (tNGet K w (tVar 1) (tVar 4)) (tCons (tVar 5) tNil))))))
    (tRet (tVar 1))))
def tq_next_move (K : PySem.W.Frag) : TS :=
    (tSeq (tAsg (tTup (tCons (tUn rNegI (tOp (rIx K) (tVar 1) (tC (.int 1)))) (tCons (tOp (rIx K) (tVar 1) (tC (.int 0))) tNil))) (gName 2))
    (tSeq (tIfS (tTest (tOp (rInD K) (tVar 2) (tVar 0))) (tRet (tVar 2)) tNext)
    (tRet (tOp (rIx K) (tVar 0) (tC (.int 0))))))
def tq_ring_moves (K : PySem.W.Frag) (w : World) (ap_next_move : AP) : TS :=
    (tSeq (tAsg (tTup (tCons (tVar 1) (tCons (tVar 2) tNil))) (gName 3))
    (tSeq (tAsg (tLst (tCons (tVar 3) tNil)) (gName 4))
    (tSeq (tAsg (tVar 3) (gName 5))
    (tWhile (tB (tC (.bl true))) (tSeq (tAsg (tVar 5) (gTup K 2 (gCons (gTup K 2 (gCons (gName 6) (gCons (gName 7) gNil))) (gCons (gTup K 2 (gCons (gName 8) (gCons (gName 9) gNil))) gNil))))
    (tSeq (tAsg (tTup (tCons (tOp (rAddG K) (tVar 6) (tVar 8)) (tCons (tOp (rAddG K) (tVar 7) (tVar 9)) tNil))) (gName 10))
    (tSeq (tAsg (tTup (tCons (tVar 10) (tCons (tCall (toSp K ap_next_move) [] E0 (tCons (tNGet K w (tVar 0) (tVar 10)) (tCons (tTup (tCons (tVar 8) (tCons (tVar 9) tNil))) tNil))) tNil))) (gName 5))
    (tSeq (tIfS (tTest (tOp (rEqG K) (tVar 5) (tVar 3))) (tRet (tVar 4)) tNext)
    (tDrop (tBM K "list" rAppend (tVar 4) (tCons (tVar 5) tNil)))))))))))
def tq_ring_strokes (K : PySem.W.Frag) : TS :=
    (tSeq (tAsg (tLst tNil) (gName 1))
    (tSeq (tAsg (tC .non) (gName 2))
    (tSeq (tFor (iList K (tVar 0)) (gName 3) (tSeq (tAsg (tOp (rIx K) (tVar 3) (tC (.int 1))) (gName 4))
    (tSeq (tAsg (tVar 4) (gTup K 2 (gCons (gName 5) (gCons (gName 6) gNil))))
    (tSeq (tIfS (tTest (tOp (rEqG K) (tVar 4) (tVar 2))) (tAsg (tTup (tCons (tC (.str "line")) (tCons (tOp (rAddG K) (tOp (rIx K) (tOp (rIx K) (tVar 1) (tUn rNegI (tC (.int 1)))) (tC (.int 1))) (tVar 5)) (tCons (tOp (rAddG K) (tOp (rIx K) (tOp (rIx K) (tVar 1) (tUn rNegI (tC (.int 1)))) (tC (.int 2))) (tVar 6)) tNil)))) (gSub (tVar 1) (tUn rNegI (tC (.int 1))) rSetL)) (tDrop (tBM K "list" rAppend (tVar 1) (tCons (tTup (tCons (tC (.str "line")) (tCons (tVar 5) (tCons (tVar 6) tNil)))) tNil))))
    (tAsg (tVar 4) (gName 2))))))
    (tRet (tCB (rTupleOf K) (tCons (tVar 1) tNil))))))
end
local macro_rules | `(tactic| walk_at "yE") => `(tactic| first
  | with_reducible refine we_nget2 ?_
  | with_reducible refine we_lenN ?_
  | with_reducible refine we_nlist ?_
  | with_reducible refine we_inD ?_
  | ((with_reducible refine' we_ktup ?h1 ?_); (case h1 => assumption))
  | fail "yEI2")
section
open PySem L2 Ab Strokes PySem.W
end
local macro_rules | `(tactic| walk_at "yS") => `(tactic| first
  | with_reducible refine ws_setN ?_
  | fail "ySI2")
section
open PySem L2 Ab Strokes PySem.W
section
variable {K : PySem.W.Frag} {c cR cU cL cD : Addr} {w : World}
structure MvOk (K : PySem.W.Frag) (cR cU cL cD : Addr) : Prop where
  r : KTup K cR [.int 1, .int 0]
  u : KTup K cU [.int 0, .int 1]
  l : KTup K cL [.int (-1), .int 0]
  d : KTup K cD [.int 0, .int (-1)]
def sdD (s : Sd) : Dt := .tup [P2 s.1, P2 s.2]
abbrev ap_csd (c : Addr) (w : World) : AP := fun as Post => ∃ (x y : Int) (l : List Pt), as = [.val (.int x), .val (.int y), .val (inkD c w l)] ∧ Post (.new ((sideL l (x, y)).map sdD)) as
theorem run_csd (ok : IkOk K c) (mv : MvOk K cR cU cL cD) : RunOk K [] (tq_cell_sides K c cR cU cL cD (ap_in c w)) 4 (ap_csd c w) := by
  rintro as Post ⟨x, y, l, rfl, k⟩
  obtain ⟨co, n0, n1, n2, n3⟩ := ok
  obtain ⟨kr, ku, kl, kd⟩ := mv
  have cl := co.cl
  unfold tq_cell_sides
  show WS K [] _ [.val (.int x), .val (.int y), .val (inkD c w l), .un] _
  unfold sideL at k
  simp only at k
  refine ws_seq ?_
  walk_at "xs"
  have hz0 : ([] : List Sd).length ≤ 0 := Nat.le_refl _
  refine ws_cut (fun G => G = [.val (.int x), .val (.int y), .val (inkD c w l), .acc ((([] : List Sd) ++ if (x, y - 1) ∈ l then [] else [(((x, y), (1, 0)) : Sd)]).map sdD)]) ?_ ?_
  · have hz : ((([] : List Sd)).map sdD).length < 1000000 := by rw [List.length_map]; omega
    walk_at "es"
    refine .a ⟨l, (x, y - 1), rfl, _, rfl, ?_⟩
    by_cases h : (x, y - 1) ∈ l
    · rw [decide_eq_true h, if_pos h, List.append_nil]
      walk_at "es"
      exact .a rfl
    · rw [decide_eq_false h, if_neg h, List.map_append]
      walk_at "es"
      exact .a rfl
  rintro G rfl
  obtain ⟨S1, hS1⟩ : ∃ S : List Sd, S = ([] : List Sd) ++ if (x, y - 1) ∈ l then [] else [(((x, y), (1, 0)) : Sd)] := ⟨_, rfl⟩
  have hz1 : S1.length ≤ 1 := by rw [hS1, List.length_append]; split <;> simp <;> omega
  rw [← hS1]
  refine ws_cut (fun G => G = [.val (.int x), .val (.int y), .val (inkD c w l), .acc ((S1 ++ if (x + 1, y) ∈ l then [] else [(((x + 1, y), (0, 1)) : Sd)]).map sdD)]) ?_ ?_
  · have hz : ((S1).map sdD).length < 1000000 := by rw [List.length_map]; omega
    walk_at "es"
    refine .a ⟨l, (x + 1, y), rfl, _, rfl, ?_⟩
    by_cases h : (x + 1, y) ∈ l
    · rw [decide_eq_true h, if_pos h, List.append_nil]
      walk_at "es"
      exact .a rfl
    · rw [decide_eq_false h, if_neg h, List.map_append]
      walk_at "es"
      exact .a rfl
  rintro G rfl
  obtain ⟨S2, hS2⟩ : ∃ S : List Sd, S = S1 ++ if (x + 1, y) ∈ l then [] else [(((x + 1, y), (0, 1)) : Sd)] := ⟨_, rfl⟩
  have hz2 : S2.length ≤ 2 := by rw [hS2, List.length_append]; split <;> simp <;> omega
  rw [← hS2]
  refine ws_cut (fun G => G = [.val (.int x), .val (.int y), .val (inkD c w l), .acc ((S2 ++ if (x, y + 1) ∈ l then [] else [(((x + 1, y + 1), (-1, 0)) : Sd)]).map sdD)]) ?_ ?_
  · have hz : ((S2).map sdD).length < 1000000 := by rw [List.length_map]; omega
    walk_at "es"
    refine .a ⟨l, (x, y + 1), rfl, _, rfl, ?_⟩
    by_cases h : (x, y + 1) ∈ l
    · rw [decide_eq_true h, if_pos h, List.append_nil]
      walk_at "es"
      exact .a rfl
    · rw [decide_eq_false h, if_neg h, List.map_append]
      walk_at "es"
      exact .a rfl
  rintro G rfl
  obtain ⟨S3, hS3⟩ : ∃ S : List Sd, S = S2 ++ if (x, y + 1) ∈ l then [] else [(((x + 1, y + 1), (-1, 0)) : Sd)] := ⟨_, rfl⟩
  have hz3 : S3.length ≤ 3 := by rw [hS3, List.length_append]; split <;> simp <;> omega
  rw [← hS3]
  refine ws_cut (fun G => G = [.val (.int x), .val (.int y), .val (inkD c w l), .acc ((S3 ++ if (x - 1, y) ∈ l then [] else [(((x, y + 1), (0, -1)) : Sd)]).map sdD)]) ?_ ?_
  · have hz : ((S3).map sdD).length < 1000000 := by rw [List.length_map]; omega
    walk_at "es"
    refine .a ⟨l, (x - 1, y), rfl, _, rfl, ?_⟩
    by_cases h : (x - 1, y) ∈ l
    · rw [decide_eq_true h, if_pos h, List.append_nil]
      walk_at "es"
      exact .a rfl
    · rw [decide_eq_false h, if_neg h, List.map_append]
      walk_at "es"
      exact .a rfl
  rintro G rfl
  obtain ⟨S4, hS4⟩ : ∃ S : List Sd, S = S3 ++ if (x - 1, y) ∈ l then [] else [(((x, y + 1), (0, -1)) : Sd)] := ⟨_, rfl⟩
  have hz4 : S4.length ≤ 4 := by rw [hS4, List.length_append]; split <;> simp <;> omega
  rw [← hS4]
  walk_at "es"
  rw [List.nil_append] at hS1
  rw [← hS1, ← List.append_assoc, ← hS2, ← List.append_assoc, ← hS3, ← hS4] at k
  exact k
theorem sideL_len (l : List Pt) (p : Pt) : (sideL l p).length ≤ 4 := by
  unfold sideL
  rw [List.length_append, List.length_append, List.length_append]
  split <;> split <;> split <;> split <;> simp
theorem sides_len (l m : List Pt) : (m.flatMap (sideL l)).length ≤ 4 * m.length := by
  have := len_flat (f := sideL l) (m := 4) (l := m) fun p _ => sideL_len l p
  omega
abbrev ap_bm (c : Addr) (w : World) : AP := fun as Post => ∃ l : List Pt, as = [.val (inkD c w l)] ∧ l.length ≤ 100000 ∧ Post (.nw (.dN w (gmL (grp (sides l))))) as
theorem run_bm (ok : IkOk K c) : RunOk K [] (tq_border_moves K w c (Ik.ap_cells c w) (ap_csd c w)) 6 (ap_bm c w) := by
  rintro as Post ⟨l, rfl, hl, k⟩
  obtain ⟨co, n0, n1, n2, n3⟩ := ok
  have cl := co.cl
  unfold tq_border_moves
  show WS K [] _ [.val (inkD c w l), .un, .un, .un, .un, .un] _
  refine ws_seq ?_
  walk_at "xs"
  refine ws_seq (ws_wh fun m0 B0 H0 => ?_)
  refine wh_forL l P2 (fun i G g => ∃ (R : List GM) (s2 s3 s4 s5 : Sl), G = [.val (inkD c w l), .cel (.dN w (gmK R)), s2, s3, s4, s5] ∧ g = ghM R ∧ noM R = grp ((l.take i).flatMap (sideL l))) ?_ ?_ ?_
  · walk_at "es"
    refine .a ⟨l, rfl, by omega, ?_⟩
    exact .a ⟨rfl, [], _, _, _, _, rfl, rfl, rfl⟩
  · rintro i p G g hp ⟨R, s2, s3, s4, s5, rfl, rfl, hR⟩
    have hi : i < l.length := (List.getElem?_eq_some_iff.mp hp).1
    have hst : (l.take (i + 1)).flatMap (sideL l) = (l.take i).flatMap (sideL l) ++ sideL l p := by rw [List.take_add_one, hp]; show ((l.take i) ++ [p]).flatMap _ = _; rw [List.flatMap_append]; simp
    have hEl : ((l.take i).flatMap (sideL l)).length ≤ 400000 := by
      have := sides_len l (l.take i)
      rw [List.length_take] at this
      omega
    rw [hst]
    generalize (l.take i).flatMap (sideL l) = E0 at hR hEl
    show WG K _ _ (.tup [.int p.1, .int p.2]) _ _
    walk_at "es"
    refine wh_forL (sideL l p) sdD (fun j G g => ∃ (R : List GM) (s4 s5 : Sl), G = [.val (inkD c w l), .cel (.dN w (gmK R)), .val (.int p.1), .val (.int p.2), s4, s5] ∧ g = ghM R ∧ noM R = grp (E0 ++ (sideL l p).take j)) ?_ ?_ ?_
    · walk_at "es"
      refine .a ⟨p.1, p.2, l, rfl, ?_⟩
      exact .a ⟨rfl, R, _, _, rfl, rfl, by rw [List.take_zero, List.append_nil]; exact hR⟩
    · rintro j s G g hs ⟨R, s4, s5, rfl, rfl, hR⟩
      have hst2 : E0 ++ (sideL l p).take (j + 1) = (E0 ++ (sideL l p).take j) ++ [s] := by rw [List.take_add_one, hs, List.append_assoc]; rfl
      have hE2 : (E0 ++ (sideL l p).take j).length ≤ 500000 := by
        rw [List.length_append, List.length_take]
        have := sideL_len l p
        omega
      rw [hst2, grp_snoc, ← hR]
      generalize E0 ++ (sideL l p).take j = E at hR hE2
      obtain ⟨y, x⟩ := s
      have hnod : (R.map (·.1)).Nodup := by rw [← noM_keys, hR]; exact (grp_spec E).1
      have hRl : R.length ≤ 500000 := by
        have h1 := grp_len E
        rw [← hR] at h1
        unfold noM at h1
        rw [List.length_map] at h1
        omega
      have hxl : ∀ r ∈ R, r.2.2.length ≤ 500000 := fun r hr => by
        have h1 := (grp_spec E).2.1 (r.1, r.2.2) (by rw [← hR]; exact List.mem_map.mpr ⟨r, hr, rfl⟩)
        have h2 := atK_len E r.1
        simp only at h1
        rw [h1]; omega
      show WG K _ _ (.tup [.tup [.int y.1, .int y.2], .tup [.int x.1, .int x.2]]) _ _
      walk_at "es"
      refine wh_cut2 (fun G g => ∃ (R1 : List GM) (a : Addr) (xs : List Pt) (R2 : List GM), y ∉ R1.map (·.1) ∧ y ∉ R2.map (·.1) ∧ G = [.val (inkD c w l), .cel (.dN w (gmK (R1 ++ (y, a, xs) :: R2))), .val (.int p.1), .val (.int p.2), .val (.tup [.int y.1, .int y.2]), .val (.tup [.int x.1, .int x.2])] ∧ g = ghM (R1 ++ (y, a, xs) :: R2) ∧ addK (noM R) (y, x) = noM (R1 ++ (y, a, xs ++ [x]) :: R2) ∧ xs.length ≤ 500000) ?_ ?_
      · refine wh_if ?_
        walk_at "es"
        refine .a ⟨_, kP y, rfl, congrArg Re.val (dtN_kP y).symm, ⟨_, rfl⟩, kP_depth _, _, rfl, fun e => ?_, fun e => ?_⟩
        · have hk : y ∉ R.map (·.1) := fun z => by
            obtain ⟨R1, a, xs, R2, rfl, h1, h2⟩ := splitM z hnod
            rw [gmK_some h1] at e; cases e
          refine wh_new (F := fun te => sNPut K w (tVar 1) (tVar 4) te) _ (fun te D σ H => rfl) fun a => ?_
          show WH K m0 B0 H0 (sNPut K w (tVar 1) (tVar 4) (tC (.ref a))) _ _ _
          refine wh_ws (pin := []) ?_
          walk_at "es"
          refine .a ⟨_, kP y, congrArg Re.val (dtN_kP y).symm, ⟨_, rfl⟩, kP_depth _, rfl, by unfold gmK; rw [List.length_map]; omega, ?_⟩
          rw [putN_new (gmK_none hk)]
          exact ⟨R, a, [], [], hk, (fun z => nomatch z), by unfold gmK; rw [List.map_append]; rfl, by unfold ghM; rw [List.reverse_append]; rfl, addM_new hk, Nat.zero_le _⟩
        · have hk : y ∈ R.map (·.1) := by
            by_cases z : y ∈ R.map (·.1)
            · exact z
            · rw [gmK_none z] at e; cases e
          obtain ⟨R1, a, xs, R2, rfl, h1, h2⟩ := splitM hk hnod
          exact wh_next ⟨R1, a, xs, R2, h1, h2, rfl, rfl, addM_split h1 h2, hxl (y, a, xs) (by simp)⟩
      · rintro G g ⟨R1, a, xs, R2, h1, h2, rfl, rfl, hadd, hxs⟩
        refine wh_app ?_
        walk_at "es"
        refine .a ⟨_, kP y, _, rfl, congrArg Re.val (dtN_kP y).symm, ⟨_, rfl⟩, kP_depth _, gmK_some h1, ?_⟩
        refine ⟨a, xs.map P2, ghM R2, ghM R1, rfl, ghM_split _ _ _ _ _, by rw [List.length_map]; omega, ?_⟩
        walk_at "es"
        refine ⟨R1 ++ (y, a, xs ++ [x]) :: R2, _, _, by unfold gmK; rw [List.map_append, List.map_append]; rfl, ?_, hadd.symm⟩
        rw [ghM_split, List.map_append]; rfl
    · rintro G g ⟨R, s4, s5, rfl, rfl, hR⟩
      rw [List.take_of_length_le (Nat.le_refl _)] at hR
      exact ⟨R, _, _, _, _, rfl, rfl, hR⟩
  · rintro G g ⟨R, s2, s3, s4, s5, rfl, rfl, hR⟩
    rw [List.take_of_length_le (Nat.le_refl _)] at hR
    refine ⟨1, _, .dN w (gmL (noM R)), rfl, ⟨rfl, ?_, ?_, fun j x y hx hy => ?_⟩, ?_⟩
    · unfold gmK gmL noM; rw [List.map_map, List.map_map, List.map_map]; rfl
    · unfold gmK gmL noM; simp
    · unfold gmK gmL noM at *
      rw [List.map_map, List.getElem?_map] at hx
      rw [List.map_map, List.map_map, List.getElem?_map] at hy
      cases hr : R[j]? with
      | none => rw [hr] at hx; cases hx
      | some r =>
        rw [hr] at hx hy
        cases hx
        cases hy
        exact .inl (.inr ⟨r.2.1, r.2.2.map P2, rfl, List.mem_map.mpr ⟨r, List.mem_reverse.mpr (List.mem_of_getElem? hr), rfl⟩, rfl⟩)
    · show WS K [] _ [.val (inkD c w l), .cel (.dN w (gmL (noM R))), s2, s3, s4, s5] _
      refine ws_retDN rfl ?_
      rw [hR]
      exact k
theorem eqv_pd (p q : Pt) : PyData.eqv (pdP p).py (pdP q).py = decide (p = q) := by
  show PD.eq (pdP p) (pdP q) = _
  by_cases z : p = q
  · subst z; rw [(PD.eq_iff _ _).mpr rfl]; simp
  · have : ¬ PD.eq (pdP p) (pdP q) = true := fun y => z (by
      have := (PD.eq_iff _ _).mp y
      unfold pdP at this
      injection this with this
      injection this with h1 h2
      injection h2 with h2 _
      injection h1 with h1
      injection h2 with h2
      exact Prod.ext h1 h2)
    rw [Bool.not_eq_true] at this
    rw [this]; simp [z]
theorem pys_map : ∀ l : List Pt, PD.pys (l.map pdP) = l.map fun p => (pdP p).py
  | [] => by simp [PD.pys]
  | p :: l => by have := pys_map l; simp [PD.pys] at *; exact this
theorem shp_P (p : Pt) : SeqAt.shaped (pdP p).py = true := by
  obtain ⟨a1, a2⟩ := PD.py_ok (pdP p) (by simp [PD.ok, PD.oks, pdP])
  have a3 : (pdP p).dep ≤ 64 := by simp [PD.dep, PD.deps, pdP]
  unfold SeqAt.shaped; rw [a1, decide_eq_true (by omega)]; rfl
theorem shp_Ps (l : List Pt) : SeqAt.shaped (.list (l.map fun p => (pdP p).py)) = true := by
  obtain ⟨a1, a2⟩ := PD.pys_ok (l.map pdP) (pd_oks l)
  have a3 := pd_deps l
  rw [pys_map] at a1 a2
  unfold SeqAt.shaped; rw [PyData.canLay0, PyData.depth, a1, decide_eq_true (by omega)]; rfl
theorem py_Ps (l : List Pt) : (Dt.lst (l.map P2)).py = some (.list (l.map fun p => (pdP p).py)) := by
  show (pyAll (l.map P2)).map PyData.list = _
  rw [← pd_dts, PD.pys_dts, pys_map]; rfl
theorem any_Ps (l : List Pt) (q : Pt) : ((l.map fun p => (pdP p).py).any fun z => PyData.eqv z (pdP q).py) = decide (q ∈ l) := by
  induction l with
  | nil => simp
  | cons a r ih =>
    rw [List.map_cons, List.any_cons, ih, eqv_pd]
    by_cases h : a = q
    · subst h; simp
    · have h' : ¬ q = a := fun z => h z.symm
      simp [h, h']
def nxL (ms : List Pt) (m : Pt) : Pt := if (-m.2, m.1) ∈ ms then (-m.2, m.1) else ms.headD (0, 0)
abbrev ap_nm : AP := fun as Post => ∃ (ms : List Pt) (m : Pt), as = [.val (.lst (ms.map P2)), .val (P2 m)] ∧ ms ≠ [] ∧ Post (.val (P2 (nxL ms m))) as
theorem run_nm : RunOk K [] (tq_next_move K) 3 ap_nm := by
  rintro as Post ⟨ms, m, rfl, hne, k⟩
  unfold tq_next_move
  show WS K [] _ [.val (.lst (ms.map P2)), .val (.tup [.int m.1, .int m.2]), .un] _
  refine ws_seq ?_
  walk_at "xs"
  refine ws_seq ?_
  walk_at "xs"
  refine .a ⟨_, (pdP (-m.2, m.1)).py, _, rfl, PD.py_dt (pdP (-m.2, m.1)), py_Ps ms, shp_P _, shp_Ps ms, ?_⟩
  rw [any_Ps]
  unfold nxL at k
  by_cases h : (-m.2, m.1) ∈ ms
  · rw [decide_eq_true h]
    rw [if_pos h] at k
    walk_at "es"
    exact k
  · rw [decide_eq_false h]
    rw [if_neg h] at k
    have h0 : atI (ms.map P2) 0 = some (P2 (ms.headD (0, 0))) := by
      cases ms with
      | nil => exact absurd rfl hne
      | cons a r => simp [atI, ixN]
    walk_at "es"
    exact k
def pdS (s : Sd) : PD := .tup [pdP s.1, pdP s.2]
theorem pdS_inj {s t : Sd} (h : pdS s = pdS t) : s = t := by
  obtain ⟨⟨a, b⟩, ⟨d, e⟩⟩ := s
  obtain ⟨⟨a', b'⟩, ⟨d', e'⟩⟩ := t
  simp [pdS, pdP] at h
  simp [h]
theorem eqp_sd {neg : Bool} {s t : Sd} {Γ : List Sl} {Post : Re → List Sl → Prop} (k : Post (.val (.bl (neg ^^ decide (s = t)))) Γ) : EqP neg (.val (.tup [.tup [.int s.1.1, .int s.1.2], .tup [.int s.2.1, .int s.2.2]])) (.val (.tup [.tup [.int t.1.1, .int t.1.2], .tup [.int t.2.1, .int t.2.2]])) Γ Post := by
  have h := eqp_pd (a := pdS s) (b := pdS t) (neg := neg) (Γ := Γ) (Post := Post) (by simp [PD.ok, PD.oks, pdS, pdP]) (by simp [PD.ok, PD.oks, pdS, pdP]) (by simp [PD.dep, PD.deps, pdS, pdP]) (by simp [PD.dep, PD.deps, pdS, pdP])
  have e : PD.eq (pdS s) (pdS t) = decide (s = t) := by
    by_cases z : s = t
    · subst z; rw [(PD.eq_iff _ _).mpr rfl]; simp
    · have : ¬ PD.eq (pdS s) (pdS t) = true := fun y => z (pdS_inj ((PD.eq_iff _ _).mp y))
      rw [Bool.not_eq_true] at this
      rw [this]; simp [z]
  rw [e] at h
  exact h k
theorem key_in {l : List Pt} {s : Sd} (h : s ∈ sides l) : s.1 ∈ (grp (sides l)).map (·.1) := ((grp_spec (sides l)).2.2 _).mpr ⟨s, h, rfl⟩
theorem at_ne {l : List Pt} {s : Sd} (h : s ∈ sides l) : atK (sides l) s.1 ≠ [] := fun z => by
  have : s.2 ∈ atK (sides l) s.1 := List.mem_map.mpr ⟨s, List.mem_filter.mpr ⟨h, decide_eq_true rfl⟩, rfl⟩
  rw [z] at this; exact nomatch this
abbrev ap_rm (w : World) : AP := fun as Post => ∃ (l : List Pt) (s : Sd), as = [.cel (.dN w (gmL (grp (sides l)))), .val (.tup [.int s.1.1, .int s.1.2]), .val (.tup [.int s.2.1, .int s.2.2])] ∧ (s ∈ sides l ∧ (sides l).length ≤ 400000) ∧ Post (.new ((ringS l s).map sdD)) [.cel (.dN w (gmL (grp (sides l)))), .val (.tup [.int s.1.1, .int s.1.2]), .val (.tup [.int s.2.1, .int s.2.2])]
theorem run_rm : RunOk K [0] (tq_ring_moves K w ap_nm) 11 (ap_rm w) := by
  rintro as Post ⟨l, s, rfl, ⟨hs, hl⟩, k⟩
  obtain ⟨p1, p2, p3, p4⟩ := per_spec hs
  unfold tq_ring_moves
  show WS K [0] _ [.cel (.dN w (gmL (grp (sides l)))), .val (.tup [.int s.1.1, .int s.1.2]), .val (.tup [.int s.2.1, .int s.2.2]), .un, .un, .un, .un, .un, .un, .un, .un] _
  walk_at "es"
  refine while_ab (fun m G => ∃ (k : Nat) (s6 s7 s8 s9 s10 : Sl), k < perS l s ∧ m = perS l s - 1 - k ∧ G = [.cel (.dN w (gmL (grp (sides l)))), .val (.tup [.int s.1.1, .int s.1.2]), .val (.tup [.int s.2.1, .int s.2.2]), .val (.tup [.tup [.int s.1.1, .int s.1.2], .tup [.int s.2.1, .int s.2.2]]), .acc (((List.range (k + 1)).map (itS l s)).map sdD), .val (.tup [.tup [.int (itS l s k).1.1, .int (itS l s k).1.2], .tup [.int (itS l s k).2.1, .int (itS l s k).2.2]]), s6, s7, s8, s9, s10]) (perS l s - 1) ⟨0, _, _, _, _, _, p1, rfl, rfl⟩ ?_
  rintro m G ⟨k0, s6, s7, s8, s9, s10, hk, rfl, rfl⟩
  have ht := it_mem hs k0
  have hn := it_mem hs (k0 + 1)
  have hnx : itS l s (k0 + 1) = nxS l (itS l s k0) := rfl
  have hz : (((List.range (k0 + 1)).map (itS l s)).map sdD).length < 1000000 := by rw [List.length_map, List.length_map, List.length_range]; omega
  have hsn : (List.range (k0 + 1 + 1)).map (itS l s) = (List.range (k0 + 1)).map (itS l s) ++ [itS l s (k0 + 1)] := by rw [List.range_succ, List.map_append]; rfl
  have hend : itS l s (k0 + 1) = s → k0 + 1 = perS l s := fun e => by
    by_cases q : k0 + 1 < perS l s
    · exact absurd e (p4 (k0 + 1) (by omega) q)
    · omega
  have hgo : ¬ itS l s (k0 + 1) = s → k0 + 1 < perS l s := fun e => by
    by_cases q : k0 + 1 < perS l s
    · exact q
    · exact absurd (by rw [show k0 + 1 = perS l s by omega]; exact p3) e
  rw [hnx] at hn hsn hend hgo
  generalize hT : itS l s k0 = t at ht hn hsn hend hgo
  obtain ⟨⟨a, b⟩, ⟨dx, dy⟩⟩ := t
  obtain ⟨n, hN⟩ : ∃ n : Sd, n = nxS l ((a, b), (dx, dy)) := ⟨_, rfl⟩
  have hn1 : n.1 = (a + dx, b + dy) := by rw [hN]; rfl
  have hn2 : n.2 = nxL (atK (sides l) (a + dx, b + dy)) (dx, dy) := by rw [hN]; rfl
  rw [← hN] at hn hsn hend hgo
  have hk1 := key_in hn
  have hne := at_ne hn
  rw [hn1] at hk1 hne
  have hIt : itS l s (k0 + 1) = n := by rw [hnx, hT, hN]
  clear hN hT hnx
  obtain ⟨⟨na, nb⟩, nm⟩ := n
  simp only [Prod.mk.injEq] at hn1
  obtain ⟨rfl, rfl⟩ := hn1
  simp only at hn2
  walk_at "es"
  refine .a ⟨_, kP (a + dx, b + dy), _, rfl, congrArg Re.val (dtN_kP (a + dx, b + dy)).symm, ⟨_, rfl⟩, kP_depth _, gmL_at hk1, ?_⟩
  walk_at "es"
  refine .a ⟨atK (sides l) (a + dx, b + dy), (dx, dy), rfl, hne, ?_⟩
  rw [← hn2]
  walk_at "es"
  refine eqp_sd (s := ((a + dx, b + dy), nm)) (t := s) ?_
  by_cases he : (((a + dx, b + dy), nm) : Sd) = s
  · rw [decide_eq_true he]
    have hp := hend he
    walk_at "es"
    rw [hp]
    exact k
  · rw [decide_eq_false he]
    have hp := hgo he
    walk_at "es"
    refine .a ⟨perS l s - 1 - (k0 + 1), by omega, k0 + 1, .val (.int a), .val (.int b), .val (.int dx), .val (.int dy), .val (.tup [.int (a + dx), .int (b + dy)]), hp, rfl, ?_⟩
    rw [hIt, hsn, List.map_append]; rfl
abbrev Run := Pt × Nat
def addR (rs : List Run) (m : Pt) : List Run := match rs.getLast? with
  | some q => if q.1 = m then rs.dropLast ++ [(q.1, q.2 + 1)] else rs ++ [(m, 1)]
  | none => rs ++ [(m, 1)]
def runsM (ms : List Pt) : List Run := ms.foldl addR []
theorem runsM_snoc (ms : List Pt) (m : Pt) : runsM (ms ++ [m]) = addR (runsM ms) m := by unfold runsM; rw [List.foldl_append]; rfl
theorem addR_snoc {rs : List Run} {q : Run} {m : Pt} : addR (rs ++ [q]) m = if q.1 = m then rs ++ [(q.1, q.2 + 1)] else rs ++ [q] ++ [(m, 1)] := by
  unfold addR
  rw [List.getLast?_concat]
  simp only
  rw [List.dropLast_concat]
theorem runsM_len : ∀ ms : List Pt, (runsM ms).length ≤ ms.length := by
  refine snoc_ind (Nat.le_refl _) fun ms m ih => ?_
  rw [runsM_snoc, List.length_append, List.length_singleton]
  rcases List.eq_nil_or_concat (runsM ms) with h | ⟨r, q, h⟩
  · rw [h]; show 1 ≤ _; omega
  · have e : (runsM ms).length = r.length + 1 := by rw [h]; simp
    rw [h, List.concat_eq_append, addR_snoc]
    split
    · rw [List.length_append, List.length_singleton]; omega
    · rw [List.length_append, List.length_append, List.length_singleton, List.length_singleton]; omega
def lnD (r : Run) : Dt := .tup [.str "line", .int (r.1.1 * (r.2 : Int)), .int (r.1.2 * (r.2 : Int))]
def befM (rs : List Run) : Dt := match rs.getLast? with
  | some q => .tup [.int q.1.1, .int q.1.2]
  | none => .non
abbrev ap_rst : AP := fun as Post => ∃ S : List Sd, as = [.acc (S.map sdD)] ∧ S.length ≤ 400000 ∧ Post (.val (.tup ((runsM (S.map (·.2))).map lnD))) [.acc (S.map sdD)]
theorem run_rst : RunOk K [0] (tq_ring_strokes K) 7 ap_rst := by
  rintro as Post ⟨S, rfl, hl, k⟩
  unfold tq_ring_strokes
  show WS K [0] _ [.acc (S.map sdD), .un, .un, .un, .un, .un, .un] _
  walk_at "es"
  refine for_accT S sdD (fun i G => ∃ s3 s4 s5 s6 : Sl, G = [.acc (S.map sdD), .acc ((runsM ((S.take i).map (·.2))).map lnD), .val (befM (runsM ((S.take i).map (·.2)))), s3, s4, s5, s6]) rfl ⟨_, _, _, _, rfl⟩ (fun i G h => by obtain ⟨_, _, _, _, rfl⟩ := h; rfl) ?_ ?_
  · rintro i t G ht ⟨s3, s4, s5, s6, rfl⟩
    have hi : i < S.length := (List.getElem?_eq_some_iff.mp ht).1
    have hst : (S.take (i + 1)).map (·.2) = (S.take i).map (·.2) ++ [t.2] := by rw [List.take_add_one, ht, List.map_append]; rfl
    have hrl := runsM_len ((S.take i).map (·.2))
    rw [List.length_map, List.length_take] at hrl
    rw [hst, runsM_snoc]
    generalize runsM ((S.take i).map (·.2)) = rs at hrl
    obtain ⟨c0, m⟩ := t
    rcases List.eq_nil_or_concat rs with rfl | ⟨r, q, rfl⟩
    · show WG K _ _ (.tup [.tup [.int c0.1, .int c0.2], .tup [.int m.1, .int m.2]]) [_, Sl.acc [], Sl.val .non, _, _, _, _] _
      walk_at "es"
      refine eqp_d (PD.py_dt (pdP m)) rfl (shp_P m) rfl ?_
      rw [show PyData.eqv (pdP m).py PyData.none = false from rfl]
      walk_at "es"
      exact .a ⟨_, _, _, _, by rw [show addR [] m = [(m, 1)] from rfl]; show _ = [_, Sl.acc [lnD (m, 1)], _, _, _, _, _]; unfold lnD; simp only [Int.ofNat_one, Int.mul_one]; rfl⟩
    · rw [List.concat_eq_append] at *
      rw [addR_snoc]
      have hb : befM (r ++ [q]) = .tup [.int q.1.1, .int q.1.2] := by unfold befM; rw [List.getLast?_concat]
      have hat : atI ((r ++ [q]).map lnD) (-1) = some (.tup [.str "line", .int (q.1.1 * (q.2 : Int)), .int (q.1.2 * (q.2 : Int))]) := by rw [List.map_append]; exact atI_snoc _ _
      have hz : ((r ++ [q]).map lnD).length < 1000000 := by rw [List.length_map]; omega
      rw [hb]
      show WG K _ _ (.tup [.tup [.int c0.1, .int c0.2], .tup [.int m.1, .int m.2]]) _ _
      walk_at "es"
      refine eqp_P2 (p := m) (q := q.1) ?_
      by_cases hm : m = q.1
      · subst hm
        rw [decide_eq_true rfl, if_pos rfl]
        walk_at "es"
        refine ⟨(r ++ [q]).map lnD, -1, r.length, rfl, rfl, by rw [List.length_map, List.length_append, List.length_singleton]; exact ixN_last, ?_⟩
        walk_at "es"
        have hs1 : ((r ++ [q]).map lnD).set r.length (.tup [.str "line", .int (q.1.1 * (q.2 : Int) + q.1.1), .int (q.1.2 * (q.2 : Int) + q.1.2)]) = (r ++ [(q.1, q.2 + 1)]).map lnD := by
          rw [List.map_append, List.map_append, List.set_append_right _ _ (by rw [List.length_map]; exact Nat.le_refl _), List.length_map, Nat.sub_self]
          unfold lnD
          simp only [List.map_cons, List.map_nil, List.set_cons_zero]
          rw [show q.1.1 * (q.2 : Int) + q.1.1 = q.1.1 * ((q.2 + 1 : Nat) : Int) by rw [show ((q.2 + 1 : Nat) : Int) = (q.2 : Int) + 1 by omega, Int.mul_add, Int.mul_one], show q.1.2 * (q.2 : Int) + q.1.2 = q.1.2 * ((q.2 + 1 : Nat) : Int) by rw [show ((q.2 + 1 : Nat) : Int) = (q.2 : Int) + 1 by omega, Int.mul_add, Int.mul_one]]
        rw [hs1, show befM (r ++ [(q.1, q.2 + 1)]) = .tup [.int q.1.1, .int q.1.2] by unfold befM; rw [List.getLast?_concat]]
        exact .a ⟨_, _, _, _, rfl⟩
      · rw [decide_eq_false hm, if_neg (fun z => hm z.symm)]
        walk_at "es"
        have h1 : ([((m : Pt), 1)] : List Run).map lnD = [.tup [.str "line", .int m.1, .int m.2]] := by simp [lnD]
        rw [List.map_append (l₁ := r ++ [q]), h1, show befM (r ++ [q] ++ [(m, 1)]) = .tup [.int m.1, .int m.2] by unfold befM; rw [List.getLast?_concat]]
        exact .a ⟨_, _, _, _, rfl⟩
  · rintro G ⟨s3, s4, s5, s6, rfl⟩
    rw [List.take_of_length_le (Nat.le_refl _)]
    walk_at "es"
    exact k
end
end
section
open PySem L2 Ab Strokes PySem.W
theorem sideL_nodup (l : List Pt) (p : Pt) : (sideL l p).Nodup := by
  unfold sideL
  by_cases h1 : (p.1, p.2 - 1) ∈ l <;> by_cases h2 : (p.1 + 1, p.2) ∈ l <;> by_cases h3 : (p.1, p.2 + 1) ∈ l <;> by_cases h4 : (p.1 - 1, p.2) ∈ l <;> simp [h1, h2, h3, h4]
theorem sideL_disj {l : List Pt} {p q : Pt} {s : Sd} (h : s ∈ sideL l p) (h' : s ∈ sideL l q) : p = q := by
  rcases mem_sideL.mp h with ⟨rfl, _⟩ | ⟨rfl, _⟩ | ⟨rfl, _⟩ | ⟨rfl, _⟩ <;> rcases mem_sideL.mp h' with ⟨e, _⟩ | ⟨e, _⟩ | ⟨e, _⟩ | ⟨e, _⟩ <;> simp only [Prod.mk.injEq] at e <;> refine Prod.ext ?_ ?_ <;> omega
theorem sides_nodup {l : List Pt} (h : l.Nodup) : (sides l).Nodup := by
  unfold sides
  refine List.pairwise_flatMap.mpr ⟨fun a _ => sideL_nodup l a, h.imp fun {a b} hab x hx y hy e => ?_⟩
  subst e
  exact hab (sideL_disj hx hy)
abbrev Run' := Pt × Nat
def spread (rs : List Run') : List Pt := rs.flatMap fun r => List.replicate r.2 r.1
theorem spread_snoc (rs : List Run') (r : Run') : spread (rs ++ [r]) = spread rs ++ List.replicate r.2 r.1 := by unfold spread; rw [List.flatMap_append]; simp
theorem line_unit (k : Fin 4) (n : Nat) (hn : 0 < n) : lineI ((mvF k).1 * (n : Int)) ((mvF k).2 * (n : Int)) = List.replicate n (mvF k) := by
  have hab : ab ((mvF k).1 * (n : Int)) + ab ((mvF k).2 * (n : Int)) = n := by
    match k with
    | 0 => simp only [mvF, Int.one_mul, Int.zero_mul]; unfold ab; rw [if_neg (by omega), if_neg (by omega)]; omega
    | 1 => simp only [mvF, Int.one_mul, Int.zero_mul]; unfold ab; rw [if_neg (by omega), if_neg (by omega)]; omega
    | 2 => simp only [mvF, Int.neg_mul, Int.one_mul, Int.zero_mul]; unfold ab; rw [if_pos (by omega), if_neg (by omega)]; omega
    | 3 => simp only [mvF, Int.neg_mul, Int.one_mul, Int.zero_mul]; unfold ab; rw [if_neg (by omega), if_pos (by omega)]; omega
  unfold lineI
  rw [hab, Int.toNat_natCast]
  refine List.eq_replicate_iff.mpr ⟨by rw [List.length_map, List.length_range], fun b hb => ?_⟩
  obtain ⟨j, hj, rfl⟩ := List.mem_map.mp hb
  have hn0 : (n : Int) ≠ 0 := by omega
  unfold Strokes.stepI lv
  rw [hab]
  match k with
  | 0 =>
    simp only [mvF, Int.one_mul, Int.zero_mul]
    have ha : ab (n : Int) = n := by unfold ab; rw [if_neg (by omega)]
    rw [ha, Int.mul_ediv_cancel _ hn0, Int.mul_ediv_cancel _ hn0, if_pos (by omega)]
    unfold sgn; rw [if_pos (by omega)]
  | 1 =>
    simp only [mvF, Int.one_mul, Int.zero_mul]
    have ha : ab (0 : Int) = 0 := by unfold ab; rw [if_neg (by omega)]
    rw [ha, Int.mul_zero, Int.mul_zero, if_neg (by omega)]
    unfold sgn; rw [if_pos (by omega)]
  | 2 =>
    simp only [mvF, Int.neg_mul, Int.one_mul, Int.zero_mul]
    have ha : ab (-(n : Int)) = n := by unfold ab; rw [if_pos (by omega)]; omega
    rw [ha, Int.mul_ediv_cancel _ hn0, Int.mul_ediv_cancel _ hn0, if_pos (by omega)]
    unfold sgn; rw [if_neg (by omega), if_pos (by omega)]
  | 3 =>
    simp only [mvF, Int.neg_mul, Int.one_mul, Int.zero_mul]
    have ha : ab (0 : Int) = 0 := by unfold ab; rw [if_neg (by omega)]
    rw [ha, Int.mul_zero, Int.mul_zero, if_neg (by omega)]
    unfold sgn; rw [if_neg (by omega), if_pos (by omega)]
end
section
open PySem L2 Ab Strokes PySem.W
theorem runs_facts : ∀ ms : List Pt, spread (runsM ms) = ms ∧ (∀ r ∈ runsM ms, 0 < r.2) ∧ (∀ r ∈ runsM ms, r.1 ∈ ms) := by
  refine snoc_ind ⟨rfl, (fun _ h => nomatch h), (fun _ h => nomatch h)⟩ fun ms m ih => ?_
  obtain ⟨h1, h2, h3⟩ := ih
  rw [runsM_snoc]
  rcases List.eq_nil_or_concat (runsM ms) with h | ⟨r, q, h⟩
  · rw [h] at h1 h2 h3 ⊢
    rw [show addR [] m = [(m, 1)] from rfl]
    refine ⟨by rw [← h1]; rfl, fun r hr => ?_, fun r hr => ?_⟩
    · rw [List.mem_singleton.mp hr]; exact Nat.zero_lt_one
    · rw [List.mem_singleton.mp hr]; simp
  · rw [List.concat_eq_append] at h
    rw [h] at h1 h2 h3 ⊢
    rw [addR_snoc]
    rw [spread_snoc] at h1
    by_cases e : q.1 = m
    · rw [if_pos e]
      refine ⟨?_, fun r' hr => ?_, fun r' hr => ?_⟩
      · rw [spread_snoc]
        simp only
        rw [List.replicate_succ', ← List.append_assoc, h1, e]
      · rcases List.mem_append.mp hr with hr | hr
        · exact h2 r' (List.mem_append_left _ hr)
        · rw [List.mem_singleton.mp hr]; exact Nat.succ_pos _
      · rcases List.mem_append.mp hr with hr | hr
        · exact List.mem_append_left _ (h3 r' (List.mem_append_left _ hr))
        · rw [List.mem_singleton.mp hr]; simp [e]
    · rw [if_neg e]
      refine ⟨?_, fun r' hr => ?_, fun r' hr => ?_⟩
      · rw [spread_snoc, spread_snoc, h1]; rfl
      · rcases List.mem_append.mp hr with hr | hr
        · exact h2 r' hr
        · rw [List.mem_singleton.mp hr]; exact Nat.zero_lt_one
      · rcases List.mem_append.mp hr with hr | hr
        · exact List.mem_append_left _ (h3 r' hr)
        · rw [List.mem_singleton.mp hr]; simp
def stkR (r : Run) : Stk := .line (r.1.1 * (r.2 : Int)) (r.1.2 * (r.2 : Int))
theorem all_runs {rs : List Run} (h : ∀ r ∈ rs, 0 < r.2 ∧ ∃ k, r.1 = mvF k) : allS (rs.map stkR) = spread rs := by
  induction rs with
  | nil => rfl
  | cons r t ih =>
    have i := ih fun z hz => h z (List.mem_cons_of_mem _ hz)
    obtain ⟨hp, k, e⟩ := h r List.mem_cons_self
    have : allS ((r :: t).map stkR) = (stkR r).steps ++ allS (t.map stkR) := by unfold allS; simp
    rw [this, i]
    show lineI (r.1.1 * (r.2 : Int)) (r.1.2 * (r.2 : Int)) ++ spread t = List.replicate r.2 r.1 ++ spread t
    rw [e, line_unit k r.2 hp]
theorem ring_lines {l : List Pt} {S : List Sd} (h : ∀ s ∈ S, s ∈ sides l) : allS ((runsM (S.map (·.2))).map stkR) = S.map (·.2) := by
  obtain ⟨h1, h2, h3⟩ := runs_facts (S.map (·.2))
  rw [all_runs fun r hr => ⟨h2 r hr, by
    obtain ⟨s, hs, e⟩ := List.mem_map.mp (h3 r hr)
    rw [← e]
    exact sides_mv (h s hs)⟩, h1]
theorem ring_walk (l : List Pt) (s : Sd) : ∀ n, walkP s.1 (((List.range n).map (itS l s)).map (·.2)) = ((List.range n).map fun k => (itS l s (k + 1)).1) ∧ endP s.1 (((List.range n).map (itS l s)).map (·.2)) = (itS l s n).1
  | 0 => ⟨rfl, rfl⟩
  | n + 1 => by
    obtain ⟨i1, i2⟩ := ring_walk l s n
    rw [List.range_succ, List.map_append, List.map_append, List.map_append]
    have e : addP (itS l s n).1 (itS l s n).2 = (itS l s (n + 1)).1 := rfl
    constructor
    · show walkP s.1 (_ ++ [(itS l s n).2]) = _
      rw [walkP_snoc, i1, i2, e]; rfl
    · show endP s.1 (_ ++ [(itS l s n).2]) = _
      rw [endP_snoc, i2, e]
theorem ring_closed {l : List Pt} {s : Sd} (h : s ∈ sides l) : endP s.1 ((ringS l s).map (·.2)) = s.1 := by
  obtain ⟨_, _, p3, _⟩ := per_spec h
  unfold ringS
  rw [(ring_walk l s (perS l s)).2, p3]
end
section
open PySem L2 Ab Strokes PySem.W
def tr_outlines_of (K : PySem.W.Frag) (w : World) (ap_border_moves : AP) (ap_ring_moves : AP) (ap_ring_strokes : AP) : TS :=
    (tSeq (tAsg (tCall (toSp K ap_border_moves) [] E0 (tCons (tVar 0) tNil)) (gName 1))
    (tSeq (tAsg (tNNew w) (gName 2))
    (tSeq (tAsg (tLst tNil) (gName 3))
    (tSeq (tFor (iList K (tCB (rSortD0 K) (tCons (tLockE (tLc (iKeysN w (tVar 1)) (gName 9) tYes (tTup (tCons (tOp (rIx K) (tVar 9) (tC (.int 1))) (tCons (tOp (rIx K) (tVar 9) (tC (.int 0))) tNil))) [9])) tNil))) (gTup K 2 (gCons (gName 4) (gCons (gName 5) gNil))) (tFor (iList K (tNGet K w (tVar 1) (tTup (tCons (tVar 5) (tCons (tVar 4) tNil))))) (gName 6) (tSeq (tIfS (tB (tNIn K w (tTup (tCons (tTup (tCons (tVar 5) (tCons (tVar 4) tNil))) (tCons (tVar 6) tNil))) (tVar 2))) tCont tNext)
    (tSeq (tAsg (tCall (toSp K ap_ring_moves) [] E0 (tCons (tVar 1) (tCons (tTup (tCons (tVar 5) (tCons (tVar 4) tNil))) (tCons (tVar 6) tNil)))) (gName 7))
    (tSeq (tFor (iList K (tVar 7)) (gName 8) (sNPut K w (tVar 2) (tVar 8) (tC (.bl true))))
    (tDrop (tBM K "list" rAppend (tVar 3) (tCons (tTup (tCons (tVar 5) (tCons (tVar 4) (tCons (tCall (toSp K ap_ring_strokes) [] E0 (tCons (tVar 7) tNil)) tNil)))) tNil))))))))
    (tRet (tCB (rTupleOf K) (tCons (tVar 3) tNil)))))))
section
variable {K : PySem.W.Frag} {c : Addr} {w : World}
def kS (s : Sd) : NestedKey := .tup [kP s.1, kP s.2]
theorem kS_inj {s t : Sd} (h : kS s = kS t) : s = t := by
  unfold kS at h
  injection h with h
  injection h with h1 h2
  injection h2 with h2 _
  exact Prod.ext (kP_inj h1) (kP_inj h2)
theorem kS_depth (s : Sd) : (kS s).depth ≤ 8 := by
  unfold kS kP
  simp [NestedKey.depth, NestedKey.depthAll]
theorem dtN_kS (s : Sd) : dtN (kS s) = .tup [.tup [.int s.1.1, .int s.1.2], .tup [.int s.2.1, .int s.2.2]] := by
  have h1 := dtN_kP s.1
  have h2 := dtN_kP s.2
  unfold P2 at h1 h2
  simp [kS, dtN, dtNs, h1, h2]
def kvW (W : List Sd) : List (NestedKey × Dt) := W.map fun s => (kS s, .bl true)
theorem kvW_val (W : List Sd) (s : Sd) : (valD (kvW W) (kS s)).isSome = decide (s ∈ W) := by
  unfold kvW valD
  induction W with
  | nil => rfl
  | cons q r ih =>
    rw [List.map_cons, List.find?_cons]
    by_cases h : q = s
    · subst h; simp
    · have : ¬ kS q = kS s := fun z => h (kS_inj z)
      simp only [this, decide_false]
      rw [ih]
      have h' : ¬ s = q := fun z => h z.symm
      simp [h']
theorem kvW_put {W : List Sd} {s : Sd} (h : s ∉ W) : putE (kvW W) (kS s) (.bl true) = kvW (W ++ [s]) := by
  have hn : valD (kvW W) (kS s) = none := by
    have := kvW_val W s
    rw [decide_eq_false h] at this
    cases e : valD (kvW W) (kS s) with
    | none => rfl
    | some d => rw [e] at this; cases this
  rw [putN_new hn]
  unfold kvW
  rw [List.map_append]; rfl
def cornS (l : List Pt) : List Pt := ((((grp (sides l)).map (·.1)).map sw).mergeSort (dataLe false encP)).map sw
def visF (l : List Pt) (st : List Sd × List (Pt × List Sd)) (s : Sd) : List Sd × List (Pt × List Sd) := if s ∈ st.1 then st else (st.1 ++ ringS l s, st.2 ++ [(s.1, ringS l s)])
def visC (l : List Pt) (c : Pt) : List Sd := (atK (sides l) c).map fun m => (c, m)
def visA (l : List Pt) : List Sd × List (Pt × List Sd) := ((cornS l).flatMap (visC l)).foldl (visF l) ([], [])
def outR (o : Pt × List Sd) : Dt := .tup [.int o.1.1, .int o.1.2, .tup ((runsM (o.2.map (·.2))).map lnD)]
theorem mem_cornS {l : List Pt} {c : Pt} : c ∈ cornS l ↔ ∃ s ∈ sides l, s.1 = c := by
  rw [← (grp_spec (sides l)).2.2]
  unfold cornS
  rw [List.mem_map]
  constructor
  · rintro ⟨q, hq, rfl⟩
    rw [(List.mergeSort_perm _ _).mem_iff] at hq
    obtain ⟨p, hp, rfl⟩ := List.mem_map.mp hq
    exact hp
  · intro h
    exact ⟨sw c, (List.mergeSort_perm _ _).mem_iff.mpr (List.mem_map.mpr ⟨c, h, rfl⟩), rfl⟩
theorem mem_vis {l : List Pt} {s : Sd} : s ∈ (cornS l).flatMap (visC l) ↔ s ∈ sides l := by
  rw [List.mem_flatMap]
  constructor
  · rintro ⟨c, _, h⟩
    unfold visC atK at h
    obtain ⟨m, hm, rfl⟩ := List.mem_map.mp h
    obtain ⟨t, ht, rfl⟩ := List.mem_map.mp hm
    obtain ⟨h1, h2⟩ := List.mem_filter.mp ht
    rw [← of_decide_eq_true h2]; exact h1
  · intro h
    refine ⟨s.1, mem_cornS.mpr ⟨s, h, rfl⟩, ?_⟩
    unfold visC atK
    exact List.mem_map.mpr ⟨s.2, List.mem_map.mpr ⟨s, List.mem_filter.mpr ⟨h, decide_eq_true rfl⟩, rfl⟩, rfl⟩
theorem vis_whole {l : List Pt} : ∀ V : List Sd, (∀ s ∈ V, s ∈ sides l) → Whole l (V.foldl (visF l) ([], [])).1 ∧ (∀ s ∈ V, s ∈ (V.foldl (visF l) ([], [])).1) ∧ (V.foldl (visF l) ([], [])).1 = (V.foldl (visF l) ([], [])).2.flatMap (·.2) ∧ ∀ o ∈ (V.foldl (visF l) ([], [])).2, ∃ s ∈ sides l, o = (s.1, ringS l s) := by
  refine snoc_ind (fun _ => ⟨whole_nil l, (fun _ h => nomatch h), rfl, (fun _ h => nomatch h)⟩) fun V s ih h => ?_
  obtain ⟨i1, i2, i3, i4⟩ := ih fun t ht => h t (List.mem_append_left _ ht)
  have hs := h s (by simp)
  rw [List.foldl_append]
  show Whole l (visF l (V.foldl (visF l) ([], [])) s).1 ∧ _
  generalize V.foldl (visF l) ([], []) = st at i1 i2 i3 i4
  show Whole l (visF l st s).1 ∧ (∀ t ∈ V ++ [s], t ∈ (visF l st s).1) ∧ (visF l st s).1 = (visF l st s).2.flatMap (·.2) ∧ ∀ o ∈ (visF l st s).2, ∃ s ∈ sides l, o = (s.1, ringS l s)
  unfold visF
  by_cases hw : s ∈ st.1
  · rw [if_pos hw]
    refine ⟨i1, fun t ht => ?_, i3, i4⟩
    rcases List.mem_append.mp ht with ht | ht
    · exact i2 t ht
    · rw [List.mem_singleton.mp ht]; exact hw
  · rw [if_neg hw]
    refine ⟨whole_ring hs i1 hw, fun t ht => ?_, ?_, fun o ho => ?_⟩
    · rcases List.mem_append.mp ht with ht | ht
      · exact List.mem_append_left _ (i2 t ht)
      · rw [List.mem_singleton.mp ht]
        refine List.mem_append_right _ (List.mem_map.mpr ⟨0, List.mem_range.mpr (per_spec hs).1, rfl⟩)
    · show st.1 ++ ringS l s = (st.2 ++ [(s.1, ringS l s)]).flatMap (·.2)
      rw [List.flatMap_append, ← i3]; simp
    · rcases List.mem_append.mp ho with ho | ho
      · exact i4 o ho
      · exact ⟨s, hs, List.mem_singleton.mp ho⟩
theorem vis_perm {l : List Pt} (hn : l.Nodup) : ((visA l).2.flatMap (·.2)).Perm (sides l) := by
  obtain ⟨h1, h2, h3, _⟩ := vis_whole ((cornS l).flatMap (visC l)) fun s hs => mem_vis.mp hs
  refine (List.perm_ext_iff_of_nodup ?_ (sides_nodup hn)).mpr fun s => ?_
  · unfold visA; rw [← h3]; exact h1.1
  · unfold visA
    rw [← h3]
    exact ⟨fun h => h1.2.1 s h, fun h => h2 s (mem_vis.mpr h)⟩
def fK : NestedKey → Dt
  | .tup [.num a, .num b] => .tup [.int b, .int a]
  | _ => .non
theorem keys_fK (rows : List (Pt × List Pt)) : ((gmL rows).map fun kv => fK kv.1) = ((rows.map (·.1)).map sw).map P2 := by
  unfold gmL
  rw [List.map_map, List.map_map, List.map_map]
  exact List.map_congr_left fun r _ => rfl
theorem len_le_flat : ∀ {L : List (Pt × List Sd)}, (∀ o ∈ L, 0 < o.2.length) → L.length ≤ (L.flatMap (·.2)).length
  | [], _ => Nat.le_refl _
  | o :: r, h => by
    have i := len_le_flat (L := r) fun z hz => h z (List.mem_cons_of_mem _ hz)
    have h1 := h o List.mem_cons_self
    rw [List.flatMap_cons, List.length_append, List.length_cons]; omega
theorem st_len {l : List Pt} (V : List Sd) (hV : ∀ s ∈ V, s ∈ sides l) : (V.foldl (visF l) ([], [])).1.length ≤ (sides l).length ∧ (V.foldl (visF l) ([], [])).2.length ≤ (sides l).length := by
  obtain ⟨h1, _, h3, h4⟩ := vis_whole V hV
  have a := sub_len h1.1 h1.2.1
  refine ⟨a, Nat.le_trans (len_le_flat fun o ho => ?_) (h3 ▸ a)⟩
  obtain ⟨s, hs, rfl⟩ := h4 o ho
  show 0 < (ringS l s).length
  unfold ringS
  rw [List.length_map, List.length_range]; exact (per_spec hs).1
abbrev ap_out (c : Addr) (w : World) : AP := fun as Post => ∃ l : List Pt, as = [.val (inkD c w l)] ∧ l.length ≤ 100000 ∧ Post (.val (.tup ((visA l).2.map outR))) as
theorem run_out (ok : IkOk K c) : RunOk K [] (tr_outlines_of K w (ap_bm c w) (ap_rm w) ap_rst) 10 (ap_out c w) := by
  rintro as Post ⟨l, rfl, hl, k⟩
  obtain ⟨co, n0, n1, n2, n3⟩ := ok
  have cl := co.cl
  unfold tr_outlines_of
  show WS K [] _ [.val (inkD c w l), .un, .un, .un, .un, .un, .un, .un, .un, .un] _
  walk_at "es"
  refine .a ⟨l, rfl, hl, ?_⟩
  refine ws_seq ?_
  walk_at "xs"
  refine ws_seq ?_
  walk_at "xs"
  refine ws_seq ?_
  walk_at "xs"
  have hsl : (sides l).length ≤ 400000 := by have := sides_len l l; unfold sides; omega
  have hgl : (gmL (grp (sides l))).length ≤ 1000000 := by unfold gmL; rw [List.length_map]; have := grp_len (sides l); omega
  refine for_lstT (((grp (sides l)).map (·.1)).map sw |>.mergeSort (dataLe false encP)) P2 (fun i G => ∃ (s4 s5 s6 s7 s8 : Sl), G = [.val (inkD c w l), .cel (.dN w (gmL (grp (sides l)))), .cel (.dN w (kvW ((((cornS l).take i).flatMap (visC l)).foldl (visF l) ([], [])).1)), .acc (((((cornS l).take i).flatMap (visC l)).foldl (visF l) ([], [])).2.map outR), s4, s5, s6, s7, s8, .un]) ?_ ?_ ?_
  · refine we_sortD0 P2 encP ?_
    refine we_lockKN fK rfl rfl hgl (fun kv hkv => ?_) ?_
    · unfold gmL at hkv
      obtain ⟨r, _, rfl⟩ := List.mem_map.mp hkv
      have e : dtN (kP r.1) = .tup [.int r.1.1, .int r.1.2] := dtN_kP r.1
      show WE K _ [_, _, _, _, _, _, _, _, _, .val (dtN (kP r.1))] _
      rw [e]
      walk_at "xs"
      exact ⟨rfl, rfl⟩
    · rw [keys_fK]
      refine .a ⟨_, rfl, fun p _ => ⟨py_P p, depth_P p⟩, AllAlike.of alike_P, Sortable.tuples fun s => ⟨_, _, rfl⟩, ?_⟩
      exact .a ⟨rfl, _, _, _, _, _, rfl⟩
  · rintro i q G hq ⟨s4, s5, s6, s7, s8, rfl⟩
    have hci : (cornS l)[i]? = some (q.2, q.1) := by unfold cornS; rw [List.getElem?_map, hq]; rfl
    have hst : ((cornS l).take (i + 1)).flatMap (visC l) = ((cornS l).take i).flatMap (visC l) ++ visC l (q.2, q.1) := by rw [List.take_add_one, hci]; show ((cornS l).take i ++ [_]).flatMap _ = _; rw [List.flatMap_append]; simp
    have hV : ∀ s ∈ ((cornS l).take i).flatMap (visC l), s ∈ sides l := fun s hs => by
      obtain ⟨cc, hc, h⟩ := List.mem_flatMap.mp hs
      exact mem_vis.mp (List.mem_flatMap.mpr ⟨cc, List.mem_of_mem_take hc, h⟩)
    have hC : ∀ s ∈ visC l (q.2, q.1), s ∈ sides l := fun s hs => mem_vis.mp (List.mem_flatMap.mpr ⟨_, List.mem_of_getElem? hci, hs⟩)
    have hkin : ((q.2, q.1) : Pt) ∈ (grp (sides l)).map (·.1) := ((grp_spec (sides l)).2.2 _).mpr (mem_cornS.mp (List.mem_of_getElem? hci))
    rw [hst]
    generalize ((cornS l).take i).flatMap (visC l) = V at hV
    show WG K _ _ (.tup [.int q.1, .int q.2]) _ _
    walk_at "es"
    refine for_lstT (atK (sides l) (q.2, q.1)) P2 (fun j G => ∃ (s6 s7 s8 : Sl), G = [.val (inkD c w l), .cel (.dN w (gmL (grp (sides l)))), .cel (.dN w (kvW ((V ++ (visC l (q.2, q.1)).take j).foldl (visF l) ([], [])).1)), .acc (((V ++ (visC l (q.2, q.1)).take j).foldl (visF l) ([], [])).2.map outR), .val (.int q.1), .val (.int q.2), s6, s7, s8, .un]) ?_ ?_ ?_
    · walk_at "es"
      refine .a ⟨_, kP (q.2, q.1), _, rfl, congrArg Re.val (dtN_kP (q.2, q.1)).symm, ⟨_, rfl⟩, kP_depth _, gmL_at hkin, ?_⟩
      exact .a ⟨rfl, _, _, _, by rw [List.take_zero, List.append_nil]⟩
    · rintro j m G hm ⟨s6, s7, s8, rfl⟩
      have hvj : (visC l (q.2, q.1))[j]? = some ((q.2, q.1), m) := by unfold visC; rw [List.getElem?_map, hm]; rfl
      have hst2 : V ++ (visC l (q.2, q.1)).take (j + 1) = (V ++ (visC l (q.2, q.1)).take j) ++ [((q.2, q.1), m)] := by rw [List.take_add_one, hvj, List.append_assoc]; rfl
      have hV2 : ∀ s ∈ V ++ (visC l (q.2, q.1)).take j, s ∈ sides l := fun s hs => (List.mem_append.mp hs).elim (hV s) fun h => hC s (List.mem_of_mem_take h)
      obtain ⟨w1, w2, w3, w4⟩ := vis_whole _ hV2
      obtain ⟨l1, l2⟩ := st_len _ hV2
      have hs : (((q.2, q.1), m) : Sd) ∈ sides l := hC _ (List.mem_of_getElem? hvj)
      have hf : ((V ++ (visC l (q.2, q.1)).take j) ++ [((q.2, q.1), m)]).foldl (visF l) ([], []) = visF l ((V ++ (visC l (q.2, q.1)).take j).foldl (visF l) ([], [])) ((q.2, q.1), m) := by rw [List.foldl_append]; rfl
      rw [hst2, hf]
      show WG K _ _ (.tup [.int m.1, .int m.2]) _ _
      generalize (V ++ (visC l (q.2, q.1)).take j).foldl (visF l) ([], []) = st at w1 w2 w3 w4 l1 l2
      walk_at "es"
      refine .a ⟨_, kS ((q.2, q.1), m), rfl, congrArg Re.val (dtN_kS ((q.2, q.1), m)).symm, ⟨_, rfl⟩, kS_depth _, ?_⟩
      rw [kvW_val]
      unfold visF
      by_cases hw : (((q.2, q.1), m) : Sd) ∈ st.1
      · rw [decide_eq_true hw, if_pos hw]
        walk_at "es"
        exact ws_cont (.a ⟨_, _, _, rfl⟩)
      · rw [decide_eq_false hw, if_neg hw]
        have w5 := whole_ring hs w1 hw
        walk_at "es"
        refine .a ⟨l, ((q.2, q.1), m), rfl, ⟨hs, hsl⟩, ?_⟩
        have hS : (ringS l ((q.2, q.1), m)).length ≤ 400000 := by
          have := (per_spec hs).2.1
          unfold ringS; rw [List.length_map, List.length_range]; omega
        have nd := w5.1
        walk_at "es"
        generalize hR : ringS l ((q.2, q.1), m) = R at nd hS ⊢
        refine for_accT (k := 7) R sdD (fun i G => ∃ s8 : Sl, G = [.val (inkD c w l), .cel (.dN w (gmL (grp (sides l)))), .cel (.dN w (kvW (st.1 ++ R.take i))), .acc (st.2.map outR), .val (.int q.1), .val (.int q.2), .val (.tup [.int m.1, .int m.2]), .acc (R.map sdD), s8, .un]) rfl ⟨_, by rw [List.take_zero, List.append_nil]⟩ (fun i G h => by obtain ⟨_, rfl⟩ := h; rfl) ?_ ?_
        · rintro i t G ht ⟨s8, rfl⟩
          have hi : i < R.length := (List.getElem?_eq_some_iff.mp ht).1
          have htk : R.take (i + 1) = R.take i ++ [t] := by rw [List.take_add_one, ht]; rfl
          have hn : t ∉ st.1 ++ R.take i := by
            have e : st.1 ++ R = (st.1 ++ R.take i) ++ (t :: R.drop (i + 1)) := by
              rw [List.append_assoc]
              congr 1
              have : R.drop i = t :: R.drop (i + 1) := by
                rw [List.drop_eq_getElem_cons hi, (List.getElem?_eq_some_iff.mp ht).2]
              rw [← this, List.take_append_drop]
            rw [e] at nd
            intro hh
            exact (List.nodup_append.mp nd).2.2 t hh t List.mem_cons_self rfl
          show WG K _ _ (.tup [.tup [.int t.1.1, .int t.1.2], .tup [.int t.2.1, .int t.2.2]]) _ _
          walk_at "es"
          refine .a ⟨_, kS t, congrArg Re.val (dtN_kS t).symm, ⟨_, rfl⟩, kS_depth _, rfl, ?_, ?_⟩
          · unfold kvW; rw [List.length_map, List.length_append, List.length_take]; omega
          · exact .a ⟨_, by rw [htk, ← List.append_assoc, ← kvW_put hn]; rfl⟩
        · rintro G ⟨s8, rfl⟩
          rw [List.take_length]
          walk_at "es"
          refine .a ⟨R, rfl, hS, ?_⟩
          walk_at "es"
          refine ⟨by rw [List.length_map]; omega, ?_⟩
          exact .a ⟨_, _, _, by show _ = [_, _, _, Sl.acc (List.map outR (st.2 ++ [((q.2, q.1), R)])), _, _, _, _, _, _]; rw [List.map_append]; rfl⟩
    · rintro G ⟨s6, s7, s8, rfl⟩
      rw [show (visC l (q.2, q.1)).take (atK (sides l) (q.2, q.1)).length = visC l (q.2, q.1) from List.take_of_length_le (by unfold visC; rw [List.length_map]; exact Nat.le_refl _)]
      exact .a ⟨_, _, _, _, _, rfl⟩
  · rintro G ⟨s4, s5, s6, s7, s8, rfl⟩
    rw [List.take_of_length_le (by unfold cornS; rw [List.length_map]; exact Nat.le_refl _)]
    walk_at "es"
    exact k
end
end
section
open PySem L2 Ab Strokes PySem.W
def kQ (s : Sd) : NestedKey := .tup [.num s.1.1, .num s.1.2, .num s.2.1, .num s.2.2]
theorem kQ_inj {s t : Sd} (h : kQ s = kQ t) : s = t := by
  unfold kQ at h
  injection h with h
  injection h with h1 h
  injection h with h2 h
  injection h with h3 h
  injection h with h4 h
  injection h1 with h1
  injection h2 with h2
  injection h3 with h3
  injection h4 with h4
  exact Prod.ext (Prod.ext h1 h2) (Prod.ext h3 h4)
theorem kQ_depth (s : Sd) : (kQ s).depth ≤ 8 := by simp [kQ, NestedKey.depth, NestedKey.depthAll]
theorem dtN_kQ (s : Sd) : dtN (kQ s) = .tup [.int s.1.1, .int s.1.2, .int s.2.1, .int s.2.2] := by simp [kQ, dtN, dtNs]
def kvQ (W : List Sd) : List (NestedKey × Dt) := W.map fun s => (kQ s, .bl true)
theorem kvQ_len (W : List Sd) : (kvQ W).length = W.length := by unfold kvQ; rw [List.length_map]
theorem kvQ_val (W : List Sd) (s : Sd) : (valD (kvQ W) (kQ s)).isSome = decide (s ∈ W) := by
  unfold kvQ valD
  induction W with
  | nil => rfl
  | cons q r ih =>
    rw [List.map_cons, List.find?_cons]
    by_cases h : q = s
    · subst h; simp
    · have : ¬ kQ q = kQ s := fun z => h (kQ_inj z)
      simp only [this, decide_false]
      rw [ih]
      have h' : ¬ s = q := fun z => h z.symm
      simp [h']
theorem kvQ_put {W : List Sd} {s : Sd} (h : s ∉ W) : putE (kvQ W) (kQ s) (.bl true) = kvQ (W ++ [s]) := by
  have hn : valD (kvQ W) (kQ s) = none := by
    have := kvQ_val W s
    rw [decide_eq_false h] at this
    cases e : valD (kvQ W) (kQ s) with
    | none => rfl
    | some d => rw [e] at this; cases this
  rw [putN_new hn]
  unfold kvQ
  rw [List.map_append]; rfl
def sides0 (l a : List Pt) : List Sd := a.flatMap (sideL l)
theorem ln_num (k : Fin 4) {n : Nat} (h : 0 < n) : (((mvF k).1 * (n : Int) = 0 ∧ (mvF k).2 * (n : Int) ≠ 0) ∨ ((mvF k).1 * (n : Int) ≠ 0 ∧ (mvF k).2 * (n : Int) = 0)) ∧ ab ((mvF k).1 * (n : Int)) + ab ((mvF k).2 * (n : Int)) = n ∧ sgn ((mvF k).1 * (n : Int)) = (mvF k).1 ∧ sgn ((mvF k).2 * (n : Int)) = (mvF k).2 ∧ -(n : Int) ≤ (mvF k).1 * (n : Int) ∧ (mvF k).1 * (n : Int) ≤ n ∧ -(n : Int) ≤ (mvF k).2 * (n : Int) ∧ (mvF k).2 * (n : Int) ≤ n := by
  have s0 : sgn 0 = 0 := rfl
  have s1 : sgn (n : Int) = 1 := by unfold sgn; rw [if_pos (by omega)]
  have s2 : sgn (-(n : Int)) = -1 := by unfold sgn; rw [if_neg (by omega), if_pos (by omega)]
  have a0 : ab 0 = 0 := rfl
  have a1 : ab (n : Int) = n := by unfold ab; rw [if_neg (by omega)]
  have a2 : ab (-(n : Int)) = n := by unfold ab; rw [if_pos (by omega)]; omega
  match k with
  | 0 => simp only [mvF, Int.one_mul, Int.zero_mul]; rw [s0, s1, a0, a1]; refine ⟨?_, ?_, ?_, ?_, ?_, ?_, ?_, ?_⟩ <;> first | rfl | omega | exact .inr ⟨by omega, trivial⟩ | exact .inl ⟨trivial, by omega⟩
  | 1 => simp only [mvF, Int.one_mul, Int.zero_mul]; rw [s0, s1, a0, a1]; refine ⟨?_, ?_, ?_, ?_, ?_, ?_, ?_, ?_⟩ <;> first | rfl | omega | exact .inr ⟨by omega, trivial⟩ | exact .inl ⟨trivial, by omega⟩
  | 2 => simp only [mvF, Int.neg_mul, Int.one_mul, Int.zero_mul]; rw [s0, s2, a0, a2]; refine ⟨?_, ?_, ?_, ?_, ?_, ?_, ?_, ?_⟩ <;> first | rfl | omega | exact .inr ⟨by omega, trivial⟩ | exact .inl ⟨trivial, by omega⟩
  | 3 => simp only [mvF, Int.neg_mul, Int.one_mul, Int.zero_mul]; rw [s0, s2, a0, a2]; refine ⟨?_, ?_, ?_, ?_, ?_, ?_, ?_, ?_⟩ <;> first | rfl | omega | exact .inr ⟨by omega, trivial⟩ | exact .inl ⟨trivial, by omega⟩
theorem spread_len_le {rs : List Run} {r : Run} (h : r ∈ rs) : r.2 ≤ (spread rs).length := by
  obtain ⟨a, b, rfl⟩ := List.append_of_mem h
  unfold spread
  rw [List.flatMap_append, List.flatMap_cons, List.length_append, List.length_append, List.length_replicate]
  omega
theorem spread_take {rs : List Run} {i : Nat} {r : Run} (h : rs[i]? = some r) : spread (rs.take (i + 1)) = spread (rs.take i) ++ List.replicate r.2 r.1 := by
  rw [List.take_add_one, h]
  exact spread_snoc _ _
theorem spread_at {rs : List Run} {i j : Nat} {r : Run} (h : rs[i]? = some r) (hj : j < r.2) : (spread rs)[(spread (rs.take i)).length + j]? = some r.1 := by
  have e : spread rs = spread (rs.take (i + 1)) ++ spread (rs.drop (i + 1)) := by unfold spread; rw [← List.flatMap_append, List.take_append_drop]
  rw [e, spread_take h, List.append_assoc, List.getElem?_append_right (by omega), Nat.add_sub_cancel_left, List.getElem?_append_left (by rw [List.length_replicate]; exact hj), List.getElem?_replicate, if_pos hj]
def mvR (l : List Pt) (s : Sd) : List Pt := (ringS l s).map (·.2)
theorem mvR_len (l : List Pt) (s : Sd) : (mvR l s).length = (ringS l s).length := by unfold mvR; rw [List.length_map]
theorem ring_len (l : List Pt) (s : Sd) : (ringS l s).length = perS l s := by unfold ringS; rw [List.length_map, List.length_range]
theorem ring_at {l : List Pt} {s : Sd} {n : Nat} (hn : n < (ringS l s).length) : (ringS l s)[n]? = some (itS l s n) := by
  rw [ring_len] at hn
  unfold ringS
  rw [List.getElem?_map, List.getElem?_range hn]; rfl
theorem mvR_take {l : List Pt} {s : Sd} {n : Nat} (hn : n ≤ (ringS l s).length) : (mvR l s).take n = ((List.range n).map (itS l s)).map (·.2) := by
  rw [ring_len] at hn
  unfold mvR ringS
  rw [← List.map_take, ← List.map_take, List.take_range, Nat.min_eq_left hn]
theorem ring_end {l : List Pt} {s : Sd} {n : Nat} (hn : n ≤ (ringS l s).length) : endP s.1 ((mvR l s).take n) = (itS l s n).1 := by
  rw [mvR_take hn, (ring_walk l s n).2]
theorem ring_here {l : List Pt} {s : Sd} {n : Nat} {q : Pt} (hq : (mvR l s)[n]? = some q) : (ringS l s)[n]? = some (endP s.1 ((mvR l s).take n), q) := by
  have hn : n < (mvR l s).length := (List.getElem?_eq_some_iff.mp hq).1
  rw [mvR_len] at hn
  have h := ring_at hn
  rw [ring_end (Nat.le_of_lt hn), h]
  unfold mvR at hq
  rw [List.getElem?_map, h] at hq
  rw [← Option.some.inj hq]
theorem ring_fresh {l : List Pt} {s t : Sd} {W : List Sd} {n : Nat} (hnd : (W ++ ringS l s).Nodup) (ht : (ringS l s)[n]? = some t) : t ∉ W ++ (ringS l s).take n := by
  have hi : n < (ringS l s).length := (List.getElem?_eq_some_iff.mp ht).1
  have e : W ++ ringS l s = (W ++ (ringS l s).take n) ++ (t :: (ringS l s).drop (n + 1)) := by
    rw [List.append_assoc]
    congr 1
    have : (ringS l s).drop n = t :: (ringS l s).drop (n + 1) := by
      rw [List.drop_eq_getElem_cons hi, (List.getElem?_eq_some_iff.mp ht).2]
    rw [← this, List.take_append_drop]
  rw [e] at hnd
  intro hh
  exact (List.nodup_append.mp hnd).2.2 t hh t List.mem_cons_self rfl
theorem pts_at {l : List Pt} {s : Sd} {n : Nat} (hn : n ≤ (ringS l s).length) : (s.1 :: walkP s.1 (mvR l s))[n]? = some (itS l s n).1 := by
  have e : walkP s.1 (mvR l s) = (List.range (perS l s)).map fun k => (itS l s (k + 1)).1 := (ring_walk l s (perS l s)).1
  rw [e]
  rw [ring_len] at hn
  cases n with
  | zero => rfl
  | succ n => rw [List.getElem?_cons_succ, List.getElem?_map, List.getElem?_range (by omega)]; rfl
theorem vis_nodup {l : List Pt} (hn : l.Nodup) : ((visA l).2.flatMap (·.2)).Nodup := (vis_perm hn).nodup_iff.mpr (sides_nodup hn)
theorem vis_one {l : List Pt} {o : Pt × List Sd} (ho : o ∈ (visA l).2) : ∃ s ∈ sides l, o = (s.1, ringS l s) :=
  (vis_whole _ fun s hs => mem_vis.mp hs).2.2.2 o ho
theorem ring_runs {l : List Pt} {s : Sd} (h : s ∈ sides l) : runsM (mvR l s) ≠ [] ∧ (∀ r ∈ runsM (mvR l s), 0 < r.2 ∧ r.2 ≤ (ringS l s).length ∧ ∃ k, r.1 = mvF k) ∧ spread (runsM (mvR l s)) = mvR l s := by
  obtain ⟨h1, h2, h3⟩ := runs_facts (mvR l s)
  have hp : 0 < (ringS l s).length := by rw [ring_len]; exact (per_spec h).1
  refine ⟨fun z => ?_, fun r hr => ⟨h2 r hr, ?_, ?_⟩, h1⟩
  · rw [z] at h1
    have : (mvR l s).length = 0 := by rw [← h1]; rfl
    rw [mvR_len] at this; omega
  · have := spread_len_le hr
    rw [h1, mvR_len] at this; exact this
  · obtain ⟨t, ht, e⟩ := List.mem_map.mp (h3 r hr)
    rw [← e]
    exact sides_mv (ring_mem h t ht)
def pdL (r : Run) : PD := .tup [.str "line", .int (r.1.1 * (r.2 : Int)), .int (r.1.2 * (r.2 : Int))]
def pdO (o : Pt × List Sd) : PD := .tup [.int o.1.1, .int o.1.2, .tup ((runsM (o.2.map (·.2))).map pdL)]
theorem pdL_dt (r : Run) : (pdL r).dt = lnD r := by simp [pdL, PD.dt, PD.dts, lnD]
theorem pdO_dt (o : Pt × List Sd) : (pdO o).dt = outR o := by
  simp only [pdO, PD.dt, PD.dts, outR]
  rw [PD.dts_map, List.map_map]
  rw [show (runsM (o.2.map (·.2))).map (PD.dt ∘ pdL) = (runsM (o.2.map (·.2))).map lnD from List.map_congr_left fun r _ => pdL_dt r]
theorem pdO_dep (o : Pt × List Sd) : (pdO o).dep ≤ 3 := by
  have h : PD.deps ((runsM (o.2.map (·.2))).map pdL) ≤ 1 := PD.deps_le.mpr fun x hx => by
    obtain ⟨r, _, rfl⟩ := List.mem_map.mp hx
    simp [pdL, PD.dep, PD.deps]
  simp only [pdO, PD.dep, PD.deps]
  omega
theorem cs_line : CS ("line" : Str) := by unfold CS; decide +kernel
theorem pdO_ok {o : Pt × List Sd} (h : o.2.length ≤ 1000000) : (pdO o).ok := by
  have hl : ((runsM (o.2.map (·.2))).map pdL).length ≤ 1000000 := by
    rw [List.length_map]; have := runsM_len (o.2.map (·.2)); rw [List.length_map] at this; omega
  have ho : PD.oks ((runsM (o.2.map (·.2))).map pdL) := PD.oks_iff.mpr fun x hx => by
    obtain ⟨r, _, rfl⟩ := List.mem_map.mp hx
    simp [pdL, PD.ok, PD.oks, cs_line]
  simp only [pdO, PD.ok, PD.oks]
  exact ⟨by simp, trivial, trivial, ⟨hl, ho⟩, trivial⟩
end
section
open PySem L2 Ab Strokes PySem.W
def outO (o : Pt × List Sd) : Out := (o.1.1, o.1.2, (runsM (o.2.map (·.2))).map stkR)
theorem outO_dt (o : Pt × List Sd) : outT (outO o) = outR o := by
  unfold outT outO outR
  simp only
  rw [List.map_map]; rfl
theorem flat_congr {α β : Type} {f g : α → List β} : ∀ {l : List α}, (∀ a ∈ l, f a = g a) → l.flatMap f = l.flatMap g
  | [], _ => rfl
  | a :: l, h => by rw [List.flatMap_cons, List.flatMap_cons, h a List.mem_cons_self, flat_congr fun z hz => h z (List.mem_cons_of_mem _ hz)]
def edS (t : Sd) : List Pt := if t.2.1 = 0 then [(t.1.1, min t.1.2 (t.1.2 + t.2.2))] else []
theorem allS_ring {l : List Pt} {s : Sd} (hs : s ∈ sides l) : allS (outO (s.1, ringS l s)).2.2 = mvR l s := ring_lines fun t ht => ring_mem hs t ht
theorem pts_ring {l : List Pt} {s : Sd} (hs : s ∈ sides l) : ptsO (outO (s.1, ringS l s)) = s.1 :: walkP s.1 (mvR l s) := by
  unfold ptsO
  rw [allS_ring hs]; rfl
theorem edges_ring {l : List Pt} {s : Sd} (hs : s ∈ sides l) : edgesO (outO (s.1, ringS l s)) = (ringS l s).flatMap edS := by
  unfold edgesO edgesK
  rw [allS_ring hs, pts_ring hs, mvR_len, ring_len]
  unfold ringS
  rw [List.flatMap_map]
  refine flat_congr fun i hi => ?_
  rw [List.mem_range] at hi
  rw [List.getD_eq_getElem?_getD, List.getD_eq_getElem?_getD, pts_at (n := i) (by rw [ring_len]; omega), pts_at (n := i + 1) (by rw [ring_len]; omega)]
  show edgeL (itS l s i).1 (itS l s (i + 1)).1 = edS (itS l s i)
  unfold edgeL edS
  show (if (itS l s i).1.1 = (itS l s i).1.1 + (itS l s i).2.1 then [((itS l s i).1.1, min (itS l s i).1.2 ((itS l s i).1.2 + (itS l s i).2.2))] else []) = _
  by_cases h : (itS l s i).2.1 = 0
  · rw [if_pos h, if_pos (by omega)]
  · rw [if_neg h, if_neg (by omega)]
theorem edges_all {l : List Pt} : ∀ O : List (Pt × List Sd), (∀ o ∈ O, ∃ s ∈ sides l, o = (s.1, ringS l s)) → allE (O.map outO) = (O.flatMap (·.2)).flatMap edS
  | [], _ => rfl
  | o :: O, h => by
    have i := edges_all O fun z hz => h z (List.mem_cons_of_mem _ hz)
    obtain ⟨s, hs, rfl⟩ := h o List.mem_cons_self
    rw [List.flatMap_cons, List.flatMap_append, ← i]
    unfold allE
    rw [List.map_cons, List.flatMap_cons, edges_ring hs]
def wtE (p e : Pt) : Int := if e.2 = p.2 ∧ e.1 ≤ p.1 then 1 else 0
theorem cnt_sum (p : Pt) : ∀ E : List Pt, (cntE E p : Int) = (E.map (wtE p)).sum
  | [] => rfl
  | e :: E => by
    have i := cnt_sum p E
    unfold cntE at *
    rw [List.countP_cons, List.map_cons, List.sum_cons, ← i]
    unfold wtE
    by_cases h : e.2 = p.2 ∧ e.1 ≤ p.1
    · rw [if_pos h, if_pos (decide_eq_true h)]; omega
    · rw [if_neg h, if_neg (fun z => h (of_decide_eq_true z))]; omega
theorem edge_cell (l : List Pt) (p q : Pt) : ((sideL l q).map fun s => ((edS s).map (wtE p)).sum).sum + ((if decide ((q.1 + 1, q.2) ∈ l) then wtE p (q.1 + 1, q.2) else 0) + (if decide ((q.1 - 1, q.2) ∈ l) then wtE p q else 0)) = wtE p (q.1 + 1, q.2) + wtE p q := by
  obtain ⟨x, y⟩ := q
  have e1 : min y (y + 1) = y := by omega
  have e2 : min (y + 1) (y + 1 + -1) = y := by omega
  unfold sideL edS
  simp only
  by_cases h1 : (x, y - 1) ∈ l <;> by_cases h2 : (x + 1, y) ∈ l <;> by_cases h3 : (x, y + 1) ∈ l <;> by_cases h4 : (x - 1, y) ∈ l <;> simp [h1, h2, h3, h4, e1, e2] <;> omega
theorem wt_step (p q : Pt) : wtE p q = wtE p (q.1 + 1, q.2) + if q = p then 1 else 0 := by
  unfold wtE
  by_cases h : q = p
  · subst h; simp; omega
  · rw [if_neg h]
    by_cases h1 : q.2 = p.2
    · have : q.1 ≠ p.1 := fun z => h (Prod.ext z h1)
      simp only [h1, true_and]
      by_cases h2 : q.1 ≤ p.1
      · rw [if_pos h2, if_pos (by omega)]; rfl
      · rw [if_neg h2, if_neg (by omega)]; rfl
    · simp [h1]
theorem sum_is (p : Pt) : ∀ {l : List Pt}, l.Nodup → (l.map fun q => if q = p then (1 : Int) else 0).sum = if p ∈ l then 1 else 0
  | [], _ => rfl
  | a :: l, h => by
    obtain ⟨h1, h2⟩ := List.nodup_cons.mp h
    rw [List.map_cons, List.sum_cons, sum_is p h2]
    by_cases e : a = p
    · subst e; simp [h1]
    · have e' : p ≠ a := fun z => e z.symm
      simp [e, e']
theorem cnt_sides {l : List Pt} (hn : l.Nodup) (p : Pt) : ∃ m : Int, (((sides l).map fun s => ((edS s).map (wtE p)).sum).sum) = 2 * m + if p ∈ l then 1 else 0 := by
  unfold sides
  rw [sum_flat]
  have e1 := congrArg List.sum (List.map_congr_left (l := l) (f := fun q => ((sideL l q).map fun s => ((edS s).map (wtE p)).sum).sum + ((if decide ((q.1 + 1, q.2) ∈ l) then wtE p (q.1 + 1, q.2) else 0) + (if decide ((q.1 - 1, q.2) ∈ l) then wtE p q else 0))) (g := fun q => wtE p (q.1 + 1, q.2) + (wtE p (q.1 + 1, q.2) + if q = p then 1 else 0)) fun q _ => by rw [edge_cell, ← wt_step])
  rw [sum_add, sum_add, sum_add, sum_add, sum_is p hn] at e1
  have a4 := sum_filter (fun q : Pt => wtE p (q.1 + 1, q.2)) (fun q => decide ((q.1 + 1, q.2) ∈ l)) l
  have a5 := sum_filter (fun q : Pt => wtE p q) (fun q => decide ((q.1 - 1, q.2) ∈ l)) l
  rw [← a4, ← a5] at e1
  have hp : ((l.filter fun p => decide ((p.1 + 1, p.2) ∈ l)).map fun p : Pt => ((p.1 + 1, p.2) : Pt)).Perm (l.filter fun p => decide ((p.1 - 1, p.2) ∈ l)) := by
    refine (List.perm_ext_iff_of_nodup ?_ (List.Pairwise.filter _ hn)).mpr fun q => ?_
    · refine List.pairwise_map.mpr ((List.Pairwise.filter _ hn).imp fun {a b} h e => h ?_)
      have := congrArg Prod.fst e
      have := congrArg Prod.snd e
      simp only at *
      exact Prod.ext (by omega) (by omega)
    · rw [List.mem_map, List.mem_filter, decide_eq_true_eq]
      constructor
      · rintro ⟨p, hp, rfl⟩
        obtain ⟨h1, h2⟩ := List.mem_filter.mp hp
        refine ⟨of_decide_eq_true h2, ?_⟩
        simp only [Int.add_sub_cancel]; exact h1
      · rintro ⟨h1, h2⟩
        refine ⟨(q.1 - 1, q.2), List.mem_filter.mpr ⟨h2, ?_⟩, by simp only [Int.sub_add_cancel]⟩
        simp only [Int.sub_add_cancel]; exact decide_eq_true h1
  have e3 := sum_perm (wtE p) hp
  rw [List.map_map] at e3
  have e4 : ((l.filter fun q => decide ((q.1 + 1, q.2) ∈ l)).map fun q : Pt => wtE p (q.1 + 1, q.2)).sum = ((l.filter fun q => decide ((q.1 - 1, q.2) ∈ l)).map fun q : Pt => wtE p q).sum := e3
  refine ⟨(l.map fun q : Pt => wtE p (q.1 + 1, q.2)).sum - ((l.filter fun q => decide ((q.1 - 1, q.2) ∈ l)).map fun q : Pt => wtE p q).sum, ?_⟩
  generalize (l.map fun q => ((sideL l q).map fun s => ((edS s).map (wtE p)).sum).sum).sum = A at *
  generalize (if p ∈ l then (1 : Int) else 0) = B at *
  omega
theorem cnt_rings {l : List Pt} (hn : l.Nodup) (p : Pt) : cntE (allE ((visA l).2.map outO)) p % 2 = 1 ↔ p ∈ l := by
  rw [edges_all _ fun o ho => vis_one ho]
  obtain ⟨m, hm⟩ := cnt_sides hn p
  have h1 := cnt_sum p (((visA l).2.flatMap (·.2)).flatMap edS)
  rw [sum_flat, sum_perm _ (vis_perm hn), hm] at h1
  by_cases h : p ∈ l
  · rw [if_pos h] at h1
    exact ⟨fun _ => h, fun _ => by omega⟩
  · rw [if_neg h] at h1
    exact ⟨fun z => by omega, fun z => absurd z h⟩
theorem spC_nodup (y : Int) (q : Spn) : (spC y q).Nodup := by
  unfold spC
  refine List.pairwise_map.mpr (List.nodup_range.imp fun {a b} h e => h ?_)
  have := congrArg Prod.fst e
  simp only at this
  omega
theorem pairC_nodup (y : Int) : ∀ (n : Nat) (l : List Int), l.length = n → l.Pairwise (· ≤ ·) → (pairC y l).Nodup ∧ ∀ lo, (∀ a ∈ l, lo ≤ a) → ∀ p ∈ pairC y l, lo ≤ p.1 ∧ p.2 = y := by
  intro n
  induction n using Nat.strongRecOn with
  | _ n ih =>
    intro l hl hs
    match l, hl with
    | [], _ => exact ⟨List.nodup_nil, fun _ _ p h => nomatch h⟩
    | [a], _ => exact ⟨List.nodup_nil, fun _ _ p h => nomatch h⟩
    | a :: b :: r, hl =>
      obtain ⟨h1, hs1⟩ := List.pairwise_cons.mp hs
      obtain ⟨h2, hs2⟩ := List.pairwise_cons.mp hs1
      simp only [List.length_cons] at hl
      obtain ⟨i1, i2⟩ := ih r.length (by omega) r rfl hs2
      refine ⟨?_, fun lo hlo p hp => ?_⟩
      · show (spC y (a, b) ++ pairC y r).Nodup
        refine List.nodup_append.mpr ⟨spC_nodup _ _, i1, fun p hp q hq e => ?_⟩
        subst e
        have z1 := (mem_spC.mp hp).2.2
        have z2 := (i2 b h2 p hq).1
        simp only at z1
        omega
      · rcases List.mem_append.mp (show p ∈ spC y (a, b) ++ pairC y r from hp) with hp | hp
        · obtain ⟨z1, z2, _⟩ := mem_spC.mp hp
          have := hlo a List.mem_cons_self
          simp only at z2
          exact ⟨by omega, z1⟩
        · exact i2 lo (fun z hz => hlo z (by simp [hz])) p hp
theorem nodup_flat {α β : Type} {f : α → List β} {key : β → α} : ∀ {l : List α}, l.Nodup → (∀ a ∈ l, (f a).Nodup) → (∀ a ∈ l, ∀ b ∈ f a, key b = a) → (l.flatMap f).Nodup
  | [], _, _, _ => List.nodup_nil
  | a :: l, h, hf, hk => by
    obtain ⟨h1, h2⟩ := List.nodup_cons.mp h
    rw [List.flatMap_cons]
    refine List.nodup_append.mpr ⟨hf a List.mem_cons_self, nodup_flat h2 (fun z hz => hf z (List.mem_cons_of_mem _ hz)) (fun z hz => hk z (List.mem_cons_of_mem _ hz)), fun p hp q hq e => ?_⟩
    subst e
    obtain ⟨z, hz, hp2⟩ := List.mem_flatMap.mp hq
    have e1 := hk a List.mem_cons_self p hp
    have e2 := hk z (List.mem_cons_of_mem _ hz) p hp2
    exact h1 (e1 ▸ e2 ▸ hz)
theorem cellsE_nodup (E : List Pt) : (cellsE E).Nodup := by
  unfold cellsE
  refine nodup_flat (key := fun p : Pt => p.2) ((srt_perm _).nodup_iff.mpr (cross_spec E).1) (fun y _ => (pairC_nodup y _ _ rfl (srt_le _)).1) fun y _ p hp => ?_
  cases h : srt (onRow E y) with
  | nil => rw [h] at hp; exact nomatch hp
  | cons a r =>
    have hs := srt_le (onRow E y)
    rw [h] at hp hs
    exact ((pairC_nodup y _ _ rfl hs).2 a (fun z hz => (List.mem_cons.mp hz).elim (fun e => by omega) fun hz => (List.pairwise_cons.mp hs).1 z hz) p hp).2
theorem side_near {l : List Pt} {s : Sd} (h : s ∈ sides l) : ∃ p ∈ l, p.1 ≤ s.1.1 ∧ s.1.1 ≤ p.1 + 1 ∧ p.2 ≤ s.1.2 ∧ s.1.2 ≤ p.2 + 1 := by
  unfold sides at h
  obtain ⟨p, hp, h⟩ := List.mem_flatMap.mp h
  refine ⟨p, hp, ?_⟩
  rcases mem_sideL.mp h with ⟨rfl, _⟩ | ⟨rfl, _⟩ | ⟨rfl, _⟩ | ⟨rfl, _⟩ <;> simp only <;> omega
theorem clo_ring {l : List Pt} {s : Sd} (hs : s ∈ sides l) : Clo (outO (s.1, ringS l s)) := by
  unfold Clo
  rw [allS_ring hs]
  exact ring_closed hs
theorem ok_ring {l : List Pt} {s : Sd} (hl : (sides l).length ≤ 8000) (hb : ∀ p ∈ l, -1500 ≤ p.1 ∧ p.1 ≤ 1500 ∧ -1500 ≤ p.2 ∧ p.2 ≤ 1500) (hs : s ∈ sides l) : OkO (outO (s.1, ringS l s)) := by
  have hr : (ringS l s).length ≤ 8000 := by rw [ring_len]; exact Nat.le_trans (per_spec hs).2.1 hl
  obtain ⟨r1, r2, r3⟩ := ring_runs hs
  obtain ⟨p, hp, q1, q2, q3, q4⟩ := side_near hs
  have hbp := hb p hp
  refine ⟨fun st hst => ?_, by rw [allS_ring hs, mvR_len]; exact hr, ?_⟩
  · obtain ⟨r, hr2, rfl⟩ := List.mem_map.mp (show st ∈ (runsM (mvR l s)).map stkR from hst)
    obtain ⟨a1, a2, k, a3⟩ := r2 r hr2
    obtain ⟨b1, _, _, _, b2, b3, b4, b5⟩ := ln_num k a1
    rw [← a3] at b1 b2 b3 b4 b5
    show Fair _ _
    unfold Fair
    generalize r.1.1 * (r.2 : Int) = A at *
    generalize r.1.2 * (r.2 : Int) = B at *
    omega
  · show -1900 < s.1.1 ∧ s.1.1 < 1900 ∧ -1900 < s.1.2 ∧ s.1.2 < 1900
    omega
theorem ink_back {l : List Pt} (ho : Ord l) (hl : (sides l).length ≤ 8000) (hll : l.length ≤ 800000) (hb : ∀ p ∈ l, -1500 ≤ p.1 ∧ p.1 ≤ 1500 ∧ -1500 ≤ p.2 ∧ p.2 ≤ 1500) :
    ((∀ o ∈ (visA l).2.map outO, OkO o) ∧ (allE ((visA l).2.map outO)).length ≤ 9000 ∧ ((∀ o ∈ (visA l).2.map outO, Clo o) → (cellsE (allE ((visA l).2.map outO))).length ≤ 800000)) ∧ (∀ o ∈ (visA l).2.map outO, Clo o) ∧ inkO ((visA l).2.map outO) = l := by
  have hn := ho.nodup
  have h1 : ∀ o ∈ (visA l).2.map outO, OkO o := fun o h => by
    obtain ⟨z, hz, rfl⟩ := List.mem_map.mp h
    obtain ⟨s, hs, rfl⟩ := vis_one hz
    exact ok_ring hl hb hs
  have h2 : ∀ o ∈ (visA l).2.map outO, Clo o := fun o h => by
    obtain ⟨z, hz, rfl⟩ := List.mem_map.mp h
    obtain ⟨s, hs, rfl⟩ := vis_one hz
    exact clo_ring hs
  have hmem : ∀ p, p ∈ cellsE (allE ((visA l).2.map outO)) ↔ p ∈ l := fun p => by
    rw [mem_cellsE (all_even h1 h2)]
    exact cnt_rings hn p
  refine ⟨⟨h1, ?_, fun _ => ?_⟩, h2, ?_⟩
  · rw [edges_all _ fun o ho => vis_one ho]
    have e1 := (vis_perm hn).length_eq
    have e2 := len_flat (f := edS) (m := 1) (l := (visA l).2.flatMap (·.2)) fun t _ => by unfold edS; split <;> simp
    omega
  · exact Nat.le_trans (sub_len (cellsE_nodup _) fun p hp => (hmem p).mp hp) hll
  · unfold inkO
    refine ord_ext (ordOf_ord _) ho fun p => ?_
    rw [mem_ordOf, hmem]
end
section
open PySem L2 Ab Strokes PySem.W
def cLe (p q : Pt) : Prop := ¬ ltYX q p
theorem ring_self {l : List Pt} {s : Sd} (h : s ∈ sides l) : s ∈ ringS l s := List.mem_map.mpr ⟨0, List.mem_range.mpr (per_spec h).1, rfl⟩
theorem least_out {l : List Pt} {c : Pt} {m : Fin 4} (hs : (c, mvF m) ∈ sides l) (h : ∀ t ∈ ringS l (c, mvF m), cLe c t.1) : m = 0 ∨ m = 1 := by
  have hn := h _ (ring_next hs (ring_self hs))
  have e : (nxS l (c, mvF m)).1 = (c.1 + (mvF m).1, c.2 + (mvF m).2) := rfl
  rw [e] at hn
  unfold cLe ltYX at hn
  match m with
  | 0 => exact .inl rfl
  | 1 => exact .inr rfl
  | 2 => simp only [mvF] at hn; omega
  | 3 => simp only [mvF] at hn; omega
theorem least_in {l : List Pt} {b : Sd} {c : Pt} {j : Fin 4} (e : b.2 = mvF j) (hc : (nxS l b).1 = c) (h : cLe c b.1) : j = 2 ∨ j = 3 := by
  have e2 : (nxS l b).1 = (b.1.1 + b.2.1, b.1.2 + b.2.2) := rfl
  rw [e2, e] at hc
  subst hc
  unfold cLe ltYX at h
  match j with
  | 0 => simp only [mvF] at h; omega
  | 1 => simp only [mvF] at h; omega
  | 2 => exact .inl rfl
  | 3 => exact .inr rfl
theorem not_both (sw se ne nw : Bool) : ¬ (outB 0 sw se ne nw = true ∧ outB 1 sw se ne nw = true) := by
  revert sw se ne nw; decide
theorem one_begin {l : List Pt} {s t : Sd} (hs : s ∈ sides l) (ht : t ∈ sides l) (e : s.1 = t.1) (h1 : ∀ q ∈ ringS l s, cLe s.1 q.1) (h2 : ∀ q ∈ ringS l t, cLe t.1 q.1) : s = t := by
  obtain ⟨c, a⟩ := s
  obtain ⟨c', b⟩ := t
  simp only at e
  subst e
  obtain ⟨m, em⟩ := sides_mv hs
  obtain ⟨k, ek⟩ := sides_mv ht
  simp only at em ek
  subst em
  subst ek
  have a1 := mem_sides.mp hs
  have a2 := mem_sides.mp ht
  unfold IsS at a1 a2
  rcases least_out hs h1 with rfl | rfl <;> rcases least_out ht h2 with rfl | rfl
  · rfl
  · exact absurd ⟨a1, a2⟩ (not_both _ _ _ _)
  · exact absurd ⟨a2, a1⟩ (not_both _ _ _ _)
  · rfl
theorem corn_ord (l : List Pt) : Ord (cornS l) := by
  have h : cornS l = ordOf ((grp (sides l)).map (·.1)) := by
    unfold cornS ordOf
    rw [uniq_of]
    exact List.pairwise_map.mpr ((grp_spec (sides l)).1.imp fun {a b} h e => h (by
      have h3 := congrArg sw e
      exact h3))
  rw [h]
  exact ordOf_ord _
theorem vis_sorted (l : List Pt) : ((cornS l).flatMap (visC l)).Pairwise fun s t => cLe s.1 t.1 := by
  have one : ∀ c, ∀ s ∈ visC l c, s.1 = c := fun c s hs => by
    unfold visC at hs
    obtain ⟨m, _, rfl⟩ := List.mem_map.mp hs
    rfl
  rw [List.pairwise_flatMap]
  refine ⟨fun c _ => ?_, (corn_ord l).imp fun {a b} h s hs t ht => ?_⟩
  · unfold visC
    refine List.pairwise_map.mpr ?_
    exact List.pairwise_iff_forall_sublist.mpr fun {a b} _ => ltYX_irrefl
  · rw [one a s hs, one b t ht]
    exact fun z => ltYX_asymm h z
theorem vis_order {l : List Pt} : ∀ V : List Sd, ∀ R, V ++ R = (cornS l).flatMap (visC l) →
    (∀ o ∈ (V.foldl (visF l) ([], [])).2, ∃ s ∈ V, o = (s.1, ringS l s) ∧ ∀ t ∈ ringS l s, cLe s.1 t.1) ∧ (V.foldl (visF l) ([], [])).2.Pairwise fun a b => ltYX a.1 b.1 := by
  refine snoc_ind (fun R _ => ⟨(fun _ h => nomatch h), List.Pairwise.nil⟩) fun V s ih R hR => ?_
  rw [List.append_assoc] at hR
  obtain ⟨i1, i2⟩ := ih _ hR
  have hso := vis_sorted l
  rw [← hR] at hso
  obtain ⟨_, hso2, hso3⟩ := List.pairwise_append.mp hso
  have hV : ∀ t ∈ V, t ∈ sides l := fun t ht => mem_vis.mp (hR ▸ List.mem_append_left _ ht)
  have hs : s ∈ sides l := mem_vis.mp (hR ▸ List.mem_append_right _ (by simp))
  obtain ⟨w1, w2, _, _⟩ := vis_whole V hV
  rw [List.foldl_append]
  show (∀ o ∈ (visF l (V.foldl (visF l) ([], [])) s).2, _) ∧ _
  generalize V.foldl (visF l) ([], []) = st at i1 i2 w1 w2
  show (∀ o ∈ (visF l st s).2, ∃ q ∈ V ++ [s], o = (q.1, ringS l q) ∧ ∀ t ∈ ringS l q, cLe q.1 t.1) ∧ (visF l st s).2.Pairwise fun a b => ltYX a.1 b.1
  have up : ∀ o ∈ st.2, ∃ q ∈ V ++ [s], o = (q.1, ringS l q) ∧ ∀ t ∈ ringS l q, cLe q.1 t.1 := fun o ho => by
    obtain ⟨q, hq, h⟩ := i1 o ho
    exact ⟨q, List.mem_append_left _ hq, h⟩
  unfold visF
  by_cases hw : s ∈ st.1
  · rw [if_pos hw]; exact ⟨up, i2⟩
  · rw [if_neg hw]
    have hleast : ∀ t ∈ ringS l s, cLe s.1 t.1 := fun t ht => by
      have htV : t ∉ V := fun z => by
        obtain ⟨n, _, rfl⟩ := List.mem_map.mp ht
        exact whole_it hs w1 hw n (w2 _ z)
      have htS := mem_vis.mpr (ring_mem hs t ht)
      rw [← hR] at htS
      rcases List.mem_append.mp htS with z | z
      · exact absurd z htV
      · rcases List.mem_cons.mp (show t ∈ s :: R from z) with rfl | z
        · exact ltYX_irrefl
        · exact (List.pairwise_cons.mp (show (s :: R).Pairwise _ from hso2)).1 t z
    refine ⟨fun o ho => ?_, List.pairwise_append.mpr ⟨i2, List.pairwise_singleton _ _, fun a ha b hb => ?_⟩⟩
    · rcases List.mem_append.mp ho with ho | ho
      · exact up o ho
      · exact ⟨s, by simp, List.mem_singleton.mp ho, hleast⟩
    · rw [List.mem_singleton.mp hb]
      obtain ⟨q, hq, rfl, hql⟩ := i1 a ha
      have h1 := hso3 q hq s (by simp)
      have hne : q.1 ≠ s.1 := fun e => hw (one_begin (hV q hq) hs e hql hleast ▸ w2 q hq)
      show ltYX q.1 s.1
      have h2 : ¬ (q.1.1 = s.1.1 ∧ q.1.2 = s.1.2) := fun ⟨x, y⟩ => hne (Prod.ext x y)
      unfold cLe ltYX at *
      omega
theorem vis_least {l : List Pt} : (∀ o ∈ (visA l).2, ∃ s ∈ sides l, o = (s.1, ringS l s) ∧ ∀ t ∈ ringS l s, cLe s.1 t.1) ∧ (visA l).2.Pairwise fun a b => ltYX a.1 b.1 := by
  obtain ⟨h1, h2⟩ := vis_order (l := l) ((cornS l).flatMap (visC l)) [] (List.append_nil _)
  refine ⟨fun o ho => ?_, h2⟩
  obtain ⟨s, hs, h⟩ := h1 o ho
  exact ⟨s, mem_vis.mp hs, h⟩
theorem two_turn : ∀ (m a b : Fin 4) (sw se ne nw : Bool), a ≠ b → outB a sw se ne nw = true → outB b sw se ne nw = true → inB m sw se ne nw = true → outB (lfF m) sw se ne nw = true := by decide
def begS (l : List Pt) (c : Pt) : Nat := (sides l).countP fun s => decide (s.1 = c)
theorem turned {l : List Pt} (hn : l.Nodup) {b : Sd} (hb : b ∈ sides l) (h : 1 < begS l (nxS l b).1) : (nxS l b).2 = (-b.2.2, b.2.1) := by
  obtain ⟨c, q⟩ := b
  obtain ⟨m, em⟩ := sides_mv hb
  simp only at em
  subst em
  have hin := (IsS_end l c m).mp (mem_sides.mp hb)
  show nxM l (c.1 + (mvF m).1, c.2 + (mvF m).2) (mvF m) = _
  have h' : 1 < ((sides l).filter fun s => decide (s.1 = (c.1 + (mvF m).1, c.2 + (mvF m).2))).length := by
    rw [← List.countP_eq_length_filter]; exact h
  have hnd : ((sides l).filter fun s => decide (s.1 = (c.1 + (mvF m).1, c.2 + (mvF m).2))).Nodup := (sides_nodup hn).sublist List.filter_sublist
  have hall : ∀ s ∈ (sides l).filter fun s => decide (s.1 = (c.1 + (mvF m).1, c.2 + (mvF m).2)), s ∈ sides l ∧ s.1 = (c.1 + (mvF m).1, c.2 + (mvF m).2) := fun s hs => ⟨(List.mem_filter.mp hs).1, of_decide_eq_true (List.mem_filter.mp hs).2⟩
  have key : mvF (lfF m) ∈ movesAt l (c.1 + (mvF m).1, c.2 + (mvF m).2) := by
    generalize (sides l).filter (fun s => decide (s.1 = (c.1 + (mvF m).1, c.2 + (mvF m).2))) = F at h' hnd hall
    match F, h', hnd, hall with
    | [], h', _, _ => simp at h'
    | [_], h', _, _ => simp at h'
    | s :: t :: r, _, hnd, hall =>
      obtain ⟨s1, s2⟩ := hall s (by simp)
      obtain ⟨t1, t2⟩ := hall t (by simp)
      obtain ⟨i, ei⟩ := sides_mv s1
      obtain ⟨j, ej⟩ := sides_mv t1
      have hij : i ≠ j := fun z => by
        have : s = t := Prod.ext (s2.trans t2.symm) (by rw [ei, ej, z])
        exact (List.nodup_cons.mp hnd).1 (this ▸ List.mem_cons_self)
      have es : s = ((c.1 + (mvF m).1, c.2 + (mvF m).2), mvF i) := Prod.ext s2 ei
      have et : t = ((c.1 + (mvF m).1, c.2 + (mvF m).2), mvF j) := Prod.ext t2 ej
      have a1 := mem_sides.mp (es ▸ s1)
      have a2 := mem_sides.mp (et ▸ t1)
      rw [mem_movesAt]
      unfold IsS at a1 a2 ⊢
      exact two_turn m i j _ _ _ _ hij a1 a2 hin
  unfold nxM
  rw [mvF_left, if_pos key]
theorem runs_diff : ∀ (ms : List Pt) (k : Nat) (r q : Run), (runsM ms)[k]? = some r → (runsM ms)[k + 1]? = some q → r.1 ≠ q.1 := by
  refine snoc_ind (fun k r q h => nomatch h) fun ms m ih k r q h h' => ?_
  rw [runsM_snoc] at h h'
  rcases List.eq_nil_or_concat (runsM ms) with e | ⟨rs, z, e⟩
  · rw [e] at h'
    rw [show addR [] m = [(m, 1)] from rfl] at h'
    simp at h'
  · rw [List.concat_eq_append] at e
    rw [e] at h h' ih
    rw [addR_snoc] at h h'
    by_cases hz : z.1 = m
    · rw [if_pos hz] at h h'
      have hk : k + 1 < (rs ++ [(z.1, z.2 + 1)]).length := (List.getElem?_eq_some_iff.mp h').1
      simp only [List.length_append, List.length_cons, List.length_nil] at hk
      rw [List.getElem?_append_left (by omega)] at h
      have h1 : (rs ++ [z])[k]? = some r := by rw [List.getElem?_append_left (by omega)]; exact h
      by_cases hk2 : k + 1 < rs.length
      · rw [List.getElem?_append_left hk2] at h'
        exact ih k r q h1 (by rw [List.getElem?_append_left hk2]; exact h')
      · have hk3 : k + 1 = rs.length := by omega
        rw [hk3, List.getElem?_append_right (Nat.le_refl _)] at h'
        simp at h'
        have := ih k r z h1 (by rw [hk3, List.getElem?_append_right (Nat.le_refl _)]; simp)
        rw [← h']; exact this
    · rw [if_neg hz] at h h'
      have hk : k + 1 < (rs ++ [z] ++ [(m, 1)]).length := (List.getElem?_eq_some_iff.mp h').1
      simp only [List.length_append, List.length_cons, List.length_nil] at hk
      rw [List.getElem?_append_left (by simp; omega)] at h
      by_cases hk2 : k + 1 < (rs ++ [z]).length
      · rw [List.getElem?_append_left hk2] at h'
        exact ih k r q h h'
      · simp only [List.length_append, List.length_cons, List.length_nil] at hk2
        have hk3 : k = rs.length := by omega
        rw [List.getElem?_append_right (by simp; omega)] at h'
        rw [hk3, List.getElem?_append_right (Nat.le_refl _)] at h
        simp [hk3] at h h'
        rw [← h, ← h']; exact hz
theorem runs_ends {ms : List Pt} {a b : Run} (ha : (runsM ms)[0]? = some a) (hb : (runsM ms)[(runsM ms).length - 1]? = some b) : ms[0]? = some a.1 ∧ ms[ms.length - 1]? = some b.1 := by
  obtain ⟨h1, h2, _⟩ := runs_facts ms
  have pa := h2 a (List.mem_of_getElem? ha)
  have pb := h2 b (List.mem_of_getElem? hb)
  have x1 := spread_at ha pa
  have hlt : (runsM ms).length - 1 < (runsM ms).length := (List.getElem?_eq_some_iff.mp hb).1
  have x2 := spread_at hb (show b.2 - 1 < b.2 by omega)
  have x3 := spread_take hb
  rw [show (runsM ms).length - 1 + 1 = (runsM ms).length by omega, List.take_of_length_le (Nat.le_refl _), h1] at x3
  rw [h1] at x1 x2
  have x4 := congrArg List.length x3
  rw [List.length_append, List.length_replicate] at x4
  refine ⟨by simpa [spread] using x1, ?_⟩
  rw [x4, show (spread ((runsM ms).take ((runsM ms).length - 1))).length + b.2 - 1 = (spread ((runsM ms).take ((runsM ms).length - 1))).length + (b.2 - 1) by omega]
  exact x2
theorem ring_turns {l : List Pt} {s : Sd} (hs : s ∈ sides l) (h : ∀ t ∈ ringS l s, cLe s.1 t.1) {a b : Run} (ha : (runsM (mvR l s))[0]? = some a) (hb : (runsM (mvR l s))[(runsM (mvR l s)).length - 1]? = some b) : b.1 ≠ a.1 := by
  obtain ⟨h1, h2⟩ := runs_ends ha hb
  obtain ⟨p1, p2, p3, _⟩ := per_spec hs
  have hl := ring_len l s
  rw [mvR_len] at h2
  have ra : (mvR l s)[0]? = some s.2 := by
    unfold mvR; rw [List.getElem?_map, ring_at (by omega)]; rfl
  have rb : (mvR l s)[(ringS l s).length - 1]? = some (itS l s ((ringS l s).length - 1)).2 := by
    unfold mvR; rw [List.getElem?_map, ring_at (by omega)]; rfl
  rw [ra] at h1
  rw [rb] at h2
  rw [← Option.some.inj h1, ← Option.some.inj h2]
  have hlast := List.mem_of_getElem? (ring_at (l := l) (s := s) (n := (ringS l s).length - 1) (by omega))
  have hnx : nxS l (itS l s ((ringS l s).length - 1)) = s := by
    have : itS l s ((ringS l s).length - 1 + 1) = s := by rw [show (ringS l s).length - 1 + 1 = perS l s by omega]; exact p3
    exact this
  obtain ⟨j, ej⟩ := sides_mv (ring_mem hs _ hlast)
  obtain ⟨c, q⟩ := s
  obtain ⟨m, em⟩ := sides_mv hs
  simp only at em
  subst em
  have hj := least_in ej (by rw [hnx]) (h _ hlast)
  have hm := least_out hs h
  rw [ej]
  intro z
  have := mvF_inj _ _ z
  rcases hj with rfl | rfl <;> rcases hm with rfl | rfl <;> exact absurd this (by decide)
end
namespace Lk32
open PySem L2 Ab Ik Strokes PySem.W
local macro_rules | `(tactic| walk_at "lk") => `(tactic| first | exact lk_Ink_cell_list | exact lk_Ink_known_cells | exact lk_Ink_left_ends | exact lk_Ink_right_ends | exact lk_Ink_no_cells | exact lk_Ink_no___contains__ | fail "lk")
local macro_rules | `(tactic| walk_at "yE") => `(tactic| first
  | with_reducible refine we_nlist ?_
  | with_reducible refine we_lenN ?_
  | fail "yEI2")
section
variable {K : PySem.W.Frag} {c : Addr} {w : World}
def InB (p : Pt) : Prop := -1000 ≤ p.1 ∧ p.1 ≤ 1000 ∧ -1000 ≤ p.2 ∧ p.2 ≤ 1000
def ap_plate : AP := fun as Post => ∃ ds cc, as = [.acc ds] ∧ PoolIs cc ds ∧ 0 ≤ cc ∧ cc ≤ 100 ∧ ∀ ds' (cs : List Pt), cs.length ≤ 1001 → (∀ p ∈ cs, InB p) → Post (.new (cs.map P2)) [.acc ds']
theorem run_plate : RunOk K [0] (t__law_plate K ap_take) 12 ap_plate := by
  rintro as Post ⟨ds, cc, rfl, hd, c0, c1, k⟩
  unfold t__law_plate
  show WS K [0] _ [.acc ds, .un, .un, .un, .un, .un, .un, .un, .un, .un, .un, .un] _
  walk_at "es"
  refine .a ⟨ds, cc, 16, rfl, hd, by omega, by omega, by omega, by omega, fun d1 g1 h1 g10 g11 => ?_⟩
  walk_at "es"
  refine .a ⟨d1, cc + 1, 5, rfl, h1, by omega, by omega, by omega, by omega, fun d2 g2 h2 g20 g21 => ?_⟩
  walk_at "es"
  refine .a ⟨d2, cc + 1 + 1, 19, rfl, h2, by omega, by omega, by omega, by omega, fun d3 g3 h3 g30 g31 => ?_⟩
  walk_at "es"
  refine ⟨fun e => ?_, fun e => ?_⟩
  · walk_at "es"
    refine for_range1 (1 + g3 % 3) (fun i G => ∃ (d : List Dt) (c3 : Int) (cs : List Pt) (s5 s6 s7 s8 s9 s10 s11 : Sl), NC s11 ∧ PoolIs c3 d ∧ 0 ≤ c3 ∧ c3 ≤ 200 + 4 * i ∧ cs.length ≤ 150 * i ∧ (∀ p ∈ cs, InB p) ∧ G = [.acc d, .val (.int g1), .val (.int (2 + g2)), .val (.int g3), .acc (cs.map P2), s5, s6, s7, s8, s9, s10, s11]) ?_ ?_ ?_
    · walk_at "es"
      exact .a ⟨rfl, by omega, by omega, d3, _, [], _, _, _, _, _, _, _, nc_un, h3, by omega, by omega, Nat.zero_le _, (fun _ h => nomatch h), rfl⟩
    · rintro i G hi ⟨d, c3, cs, s5, s6, s7, s8, s9, s10, s11, n11, h3, c30, c31, hl, hb, rfl⟩
      walk_at "es"
      refine .a ⟨d, c3, 9, rfl, h3, by omega, by omega, by omega, by omega, fun d4 x h4 x0 x1 => ?_⟩
      walk_at "es"
      refine .a ⟨d4, c3 + 1, 9, rfl, h4, by omega, by omega, by omega, by omega, fun d5 y h5 y0 y1 => ?_⟩
      walk_at "xs"
      refine ws_cut (fun G => ∃ (d6 : List Dt) (wd : Int), PoolIs (c3 + 1 + 1 + 1) d6 ∧ 1 ≤ wd ∧ wd ≤ 30 ∧ G = [.acc d6, .val (.int g1), .val (.int (2 + g2)), .val (.int g3), .acc (cs.map P2), .val (.int (i : Nat)), .val (.int (x - 4)), .val (.int (y - 4)), .val (.int wd), s9, s10, s11]) ?_ ?_
      · by_cases h0 : i = 0
        · have hix : (if decide ((i : Int) = 0) = true then (1 : Int) else 0) = 1 := by rw [decide_eq_true (by omega)]; rfl
          walk_at "es"
          rw [hix]
          walk_at "es"
          refine .a ⟨d5, c3 + 1 + 1, 30, rfl, h5, by omega, by omega, by omega, by omega, fun d6 g6 h6 g60 g61 => ?_⟩
          walk_at "es"
          exact .a ⟨d6, _, h6, by omega, by omega, rfl⟩
        · have hix : (if decide ((i : Int) = 0) = true then (1 : Int) else 0) = 0 := by rw [decide_eq_false (by omega)]; rfl
          walk_at "es"
          rw [hix]
          walk_at "es"
          refine .a ⟨d5, c3 + 1 + 1, 6, rfl, h5, by omega, by omega, by omega, by omega, fun d6 g6 h6 g60 g61 => ?_⟩
          walk_at "es"
          exact .a ⟨d6, _, h6, by omega, by omega, rfl⟩
      · rintro G ⟨d6, wd, h6, w0, w1, rfl⟩
        walk_at "es"
        refine .a ⟨d6, _, 5, rfl, h6, by omega, by omega, by omega, by omega, fun d7 hg h7 q0 q1 => ?_⟩
        walk_at "es"
        refine for_range1 (1 + hg) (fun i2 G => ∃ (cs' : List Pt) (s10 s11 : Sl), NC s11 ∧ cs'.length ≤ 150 * i + 30 * i2 ∧ (∀ p ∈ cs', InB p) ∧ G = [.acc d7, .val (.int g1), .val (.int (2 + g2)), .val (.int g3), .acc (cs'.map P2), .val (.int (i : Nat)), .val (.int (x - 4)), .val (.int (y - 4)), .val (.int wd), .val (.int (1 + hg)), s10, s11]) ?_ ?_ ?_
        · walk_at "es"
          exact .a ⟨rfl, by omega, by omega, cs, _, _, n11, by omega, hb, rfl⟩
        · rintro i2 G hi2 ⟨cs', s10, s11, n11, hl2, hb2, rfl⟩
          walk_at "es"
          refine we_extend rfl ?_
          have hna : notAcc (some s11) = true := by
            cases s11 with
            | un => rfl
            | val d => rfl
            | cel c => exact absurd rfl (n11 c)
          have hke : keepV (some s11) = s11 := by
            cases s11 with
            | un => rfl
            | val d => rfl
            | cel c => exact absurd rfl (n11 c)
          refine lc_range1 wd.toNat (fun j es G => ∃ ns : List Pt, es = ns.map P2 ∧ ns.length = j ∧ (∀ p ∈ ns, InB p) ∧ G = [.acc d7, .val (.int g1), .val (.int (2 + g2)), .val (.int g3), .acc (cs'.map P2), .val (.int (i : Nat)), .val (.int (x - 4)), .val (.int (y - 4)), .val (.int wd), .val (.int (1 + hg)), .val (.int (i2 : Nat)), s11]) ?_ ?_ ?_
          · walk_at "es"
            exact .a ⟨by rw [show ((wd.toNat : Nat) : Int) = wd by omega], by omega, rfl, hna, rfl, [], rfl, rfl, (fun _ h => nomatch h), rfl⟩
          · rintro j es G hj ⟨ns, rfl, hnl, hnb, rfl⟩
            walk_at "es"
            refine .a ⟨ns ++ [(x - 4 + (j : Int), y - 4 + (i2 : Int))], by rw [List.map_append]; rfl, by simp [hnl], fun p hp => ?_, by show List.set (List.set _ 11 _) 11 (keepV (some s11)) = _; rw [hke]; rfl⟩
            rcases List.mem_append.mp hp with hp | hp
            · exact hnb p hp
            · rw [List.mem_singleton.mp hp]
              unfold InB
              simp only
              omega
          · rintro es G ⟨ns, rfl, hnl, hnb, rfl⟩
            refine ⟨ns.map P2, cs'.map P2, rfl, rfl, rfl, by rw [List.length_map, List.length_map]; omega, ?_⟩
            walk_at "es"
            refine .a ⟨cs' ++ ns, _, _, n11, by rw [List.length_append]; omega, fun p hp => (List.mem_append.mp hp).elim (hb2 p) (hnb p), by rw [List.map_append]⟩
        · rintro G ⟨cs', s10, s11, n11, hl2, hb2, rfl⟩
          exact .a ⟨d7, _, cs', _, _, _, _, _, _, _, n11, h7, by omega, by omega, by omega, hb2, rfl⟩
    · rintro G ⟨d, c3, cs, s5, s6, s7, s8, s9, s10, s11, n11, h3, c30, c31, hl, hb, rfl⟩
      walk_at "es"
      exact k d cs (by omega) hb
  · refine ws_nil ?_
    refine ws_cut (fun G => ∃ (d : List Dt) (c4 sp m : Int), PoolIs c4 d ∧ 0 ≤ c4 ∧ c4 ≤ 200 ∧ 1 ≤ sp ∧ sp ≤ 2001 ∧ 0 ≤ m ∧ m ≤ 1000 ∧ G = [.acc d, .val (.int g1), .val (.int sp), .val (.int m), .acc [], .un, .un, .un, .un, .un, .un, .un]) ?_ ?_
    · walk_at "es"
      refine ⟨fun e => ?_, fun e => ?_⟩
      · walk_at "es"
        refine .a ⟨d3, _, 1001, rfl, h3, by omega, by omega, by omega, by omega, fun d4 g4 h4 g40 g41 => ?_⟩
        walk_at "es"
        refine .a ⟨d4, _, 2001, rfl, h4, by omega, by omega, by omega, by omega, fun d5 g5 h5 g50 g51 => ?_⟩
        walk_at "es"
        exact .a ⟨d5, _, _, _, h5, by omega, by omega, by omega, by omega, by omega, by omega, rfl⟩
      · walk_at "es"
        exact .a ⟨d3, _, _, _, h3, by omega, by omega, by omega, by omega, by omega, by omega, rfl⟩
    · rintro G ⟨d4, c4, sp, m, h4, c40, c41, s0, s1, m0, m1, rfl⟩
      refine ws_seq ?_
      refine for_range1 m (fun i G => ∃ (d : List Dt) (c3 : Int) (cs : List Pt) (s6 s11 : Sl), PoolIs c3 d ∧ 0 ≤ c3 ∧ c3 ≤ 200 + 2 * i ∧ cs.length = i ∧ (∀ p ∈ cs, InB p) ∧ G = [.acc d, .val (.int g1), .val (.int sp), .val (.int m), .acc (cs.map P2), .un, s6, .un, .un, .un, .un, s11]) ?_ ?_ ?_
      · walk_at "es"
        exact .a ⟨rfl, by omega, by omega, d4, _, [], .un, .un, h4, by omega, by omega, rfl, (fun _ h => nomatch h), rfl⟩
      · rintro i G hi ⟨d, c3, cs, s6, s11, h3, c30, c31, hl, hb, rfl⟩
        have hz : (cs.map P2).length < 1000000 := by rw [List.length_map]; omega
        walk_at "es"
        refine .a ⟨d, c3, sp, rfl, h3, by omega, by omega, by omega, by omega, fun d6 g6 h6 g60 g61 => ?_⟩
        walk_at "es"
        refine .a ⟨d6, c3 + 1, sp, rfl, h6, by omega, by omega, by omega, by omega, fun d7 g7 h7 g70 g71 => ?_⟩
        walk_at "es"
        refine .a ⟨d7, _, cs ++ [(g6 - sp / 2, g7 - sp / 2)], _, _, h7, by omega, by omega, by simp [hl], fun p hp => ?_, by rw [List.map_append]; rfl⟩
        rcases List.mem_append.mp hp with hp | hp
        · exact hb p hp
        · rw [List.mem_singleton.mp hp]
          unfold InB
          simp only
          omega
      · rintro G ⟨d, c3, cs, s6, s11, h3, c30, c31, hl, hb, rfl⟩
        walk_at "es"
        exact k d cs (by omega) hb
abbrev ap_integer : AP := fun as Post => ∃ n : Int, as = [.val (.int n)] ∧ Post (.val (.bl true)) as
theorem run_integer : RunOk K [] (t__law_integer K) 1 ap_integer := by
  rintro as Post ⟨n, rfl, k⟩
  unfold t__law_integer
  show WS K [] _ [.val (.int n)] _
  walk_at "es"
  exact k
theorem run_lsign : RunOk K [] (t__law_sign K) 1 ap_sign := by
  rintro as Post ⟨n, rfl, p⟩
  unfold t__law_sign
  show WS K [] _ [.val (.int n)] _
  walk_at "es"
  have e : sgn n = (if decide (0 < n) = true then 1 else 0) - (if decide (n < 0) = true then 1 else 0) := by
    unfold sgn
    by_cases h1 : 0 < n
    · have h2 : ¬ n < 0 := by omega
      simp [h1, h2]
    · by_cases h2 : n < 0
      · simp [h1, h2]
      · simp [h1, h2]
  rw [e] at p
  exact p
abbrev ap_form : AP := fun as Post => ∃ (x y : Int) (rs : List Ik.Run) (n : Nat), as = [.val (.tup [.int x, .int y, .tup (rs.map lnD)]), .val (.int (n : Int))] ∧ rs ≠ [] ∧ rs.length ≤ 900000 ∧ (∀ r ∈ rs, 0 < r.2 ∧ r.2 ≤ n ∧ ∃ k, r.1 = mvF k) ∧ n ≤ 1000000 ∧ Post (.val (.bl true)) as
theorem run_form : RunOk K [] (t__law_formed K ap_integer) 3 ap_form := by
  rintro as Post ⟨x, y, rs, n, rfl, hne, hrl, hr, hn, k⟩
  unfold t__law_formed
  have hpos : 0 < rs.length := List.length_pos_iff.mpr hne
  show WS K [] _ [.val (.tup [.int x, .int y, .tup (rs.map lnD)]), .val (.int (n : Int)), .un] _
  walk_at "es"
  refine ⟨fun _ => ?_, fun e => ?_⟩
  case refine_2 => simp at e
  walk_at "es"
  refine .a ⟨x, rfl, ?_⟩
  walk_at "es"
  refine .a ⟨y, rfl, ?_⟩
  walk_at "es"
  refine ⟨fun e => ?_, fun _ => ?_⟩
  · rw [List.length_map] at e
    have := of_decide_eq_true e
    omega
  walk_at "es"
  refine for_tupT rs lnD (fun i G => ∃ s2 : Sl, G = [.val (.tup [.int x, .int y, .tup (rs.map lnD)]), .val (.int (n : Int)), s2]) ?_ ?_ ?_
  · walk_at "es"
    exact .a ⟨rfl, _, rfl⟩
  · rintro i r G hi ⟨s2, rfl⟩
    obtain ⟨rp, rl, kk, rk⟩ := hr r (List.mem_of_getElem? hi)
    obtain ⟨q1, q2, _⟩ := ln_num kk rp
    rw [← rk] at q1 q2
    obtain ⟨m, N⟩ := r
    simp only at *
    show WG K _ _ (.tup [.str "line", .int (m.1 * (N : Int)), .int (m.2 * (N : Int))]) _ _
    generalize hA : m.1 * (N : Int) = A at *
    generalize hB : m.2 * (N : Int) = B at *
    walk_at "es"
    refine ⟨fun _ => ?_, fun e => ?_⟩
    case refine_2 => simp at e
    walk_at "es"
    refine .a ⟨A, rfl, ?_⟩
    walk_at "es"
    refine .a ⟨B, rfl, ?_⟩
    have a0 := ab_nonneg A
    have a1 := ab_nonneg B
    have hle : ab A + ab B ≤ n := by omega
    unfold ab at hle
    rcases q1 with ⟨z1, z2⟩ | ⟨z1, z2⟩
    · have d1 : decide (A = 0) = true := decide_eq_true z1
      have d2 : decide (B = 0) = false := decide_eq_false z2
      walk_at "es"
      rw [d1, d2]
      refine eqp_s rfl ?_
      walk_at "es"
      exact .a ⟨_, rfl⟩
    · have d1 : decide (A = 0) = false := decide_eq_false z1
      have d2 : decide (B = 0) = true := decide_eq_true z2
      walk_at "es"
      rw [d1, d2]
      refine eqp_s rfl ?_
      walk_at "es"
      exact .a ⟨_, rfl⟩
  · rintro G ⟨s2, rfl⟩
    walk_at "es"
    exact k
theorem one_fresh {A : List Sd} {s : Sd} (h : (A ++ [s]).Nodup) : s ∉ A := fun hs => (List.nodup_append.mp h).2.2 s hs s (List.mem_singleton.mpr rfl) rfl
abbrev ap_sides (w : World) : AP := fun as Post => ∃ kn : List Pt, as = [.cel (.dN w (kvU kn))] ∧ kn.Nodup ∧ kn.length ≤ 100000 ∧ Post (.nw (.dN w (kvQ (sides kn)))) [.cel (.dN w (kvU kn))]
theorem run_sides : RunOk K [0] (t__law_sides K w) 5 (ap_sides w) := by
  rintro as Post ⟨kn, rfl, hnd, hl, k⟩
  unfold t__law_sides
  show WS K [0] _ [.cel (.dN w (kvU kn)), .un, .un, .un, .un] _
  refine ws_seq ?_
  walk_at "xs"
  refine ws_seq ?_
  refine for_lstT kn P2 (fun i G => ∃ s2 s3 s4 : Sl, G = [.cel (.dN w (kvU kn)), .cel (.dN w (kvQ (sides0 kn (kn.take i)))), s2, s3, s4]) ?_ ?_ ?_
  · walk_at "xs"
    refine .a ⟨kvU kn, rfl, ?_⟩
    rw [kv_keysU]
    exact .a ⟨rfl, _, _, _, rfl⟩
  · rintro i p G hp ⟨s2, s3, s4, rfl⟩
    have hst : sides0 kn (kn.take (i + 1)) = sides0 kn (kn.take i) ++ sideL kn p := by rw [List.take_add_one, hp]; unfold sides0; show (kn.take i ++ [p]).flatMap _ = _; rw [List.flatMap_append]; simp
    have hnd2 : (sides0 kn (kn.take (i + 1))).Nodup := by
      have e : sides kn = sides0 kn (kn.take (i + 1)) ++ sides0 kn (kn.drop (i + 1)) := by unfold sides0; rw [← List.flatMap_append, List.take_append_drop]; rfl
      have := sides_nodup hnd
      rw [e] at this
      exact (List.nodup_append.mp this).1
    have hlA : (sides0 kn (kn.take i)).length ≤ 400000 := by
      have := sides_len kn (kn.take i)
      unfold sides0
      rw [List.length_take] at this
      omega
    rw [hst] at hnd2
    rw [hst]
    generalize sides0 kn (kn.take i) = A at hnd2 hlA
    unfold sideL at hnd2
    obtain ⟨x, y⟩ := p
    show WG K _ _ (.tup [.int x, .int y]) _ _
    simp only at hnd2
    walk_at "xs"
    refine ws_seq ?_
    walk_at "xs"
    refine ws_seq ?_
    walk_at "xs"
    obtain ⟨X1, hX1⟩ : ∃ S : List Sd, S = A ++ if (x, y - 1) ∈ kn then [] else [(((x, y), (1, 0)) : Sd)] := ⟨_, rfl⟩
    obtain ⟨X2, hX2⟩ : ∃ S : List Sd, S = X1 ++ if (x + 1, y) ∈ kn then [] else [(((x + 1, y), (0, 1)) : Sd)] := ⟨_, rfl⟩
    obtain ⟨X3, hX3⟩ : ∃ S : List Sd, S = X2 ++ if (x, y + 1) ∈ kn then [] else [(((x + 1, y + 1), (-1, 0)) : Sd)] := ⟨_, rfl⟩
    obtain ⟨X4, hX4⟩ : ∃ S : List Sd, S = X3 ++ if (x - 1, y) ∈ kn then [] else [(((x, y + 1), (0, -1)) : Sd)] := ⟨_, rfl⟩
    have hz1 : X1.length ≤ A.length + 1 := by rw [hX1, List.length_append]; split <;> simp
    have hz2 : X2.length ≤ X1.length + 1 := by rw [hX2, List.length_append]; split <;> simp
    have hz3 : X3.length ≤ X2.length + 1 := by rw [hX3, List.length_append]; split <;> simp
    unfold sideL
    simp only
    rw [← List.append_assoc, ← List.append_assoc, ← List.append_assoc, ← hX1, ← hX2, ← hX3, ← hX4] at hnd2 ⊢
    have hd4 := hnd2
    rw [hX4] at hd4
    have hd3 := (List.nodup_append.mp hd4).1
    rw [hX3] at hd3
    have hd2 := (List.nodup_append.mp hd3).1
    rw [hX2] at hd2
    have hd1 := (List.nodup_append.mp hd2).1
    rw [hX1] at hd1
    refine ws_cut (fun G => G = [.cel (.dN w (kvU kn)), .cel (.dN w (kvQ X1)), .val (.tup [.int x, .int y]), .val (.int x), .val (.int y)]) ?_ ?_
    · have hz : (kvQ A).length < 10000000 := by rw [kvQ_len]; omega
      walk_at "es"
      refine .a ⟨kvU kn, kP (x, y - 1), rfl, congrArg Re.val (dtN_kP (x, y - 1)).symm, ⟨_, rfl⟩, kP_depth _, ?_⟩
      rw [valD_kvU]
      by_cases h : (x, y - 1) ∈ kn
      · rw [if_pos h, List.append_nil] at hX1
        rw [decide_eq_true h, hX1]
        walk_at "es"
        exact .a rfl
      · rw [if_neg h] at hX1 hd1
        rw [decide_eq_false h, hX1, ← kvQ_put (one_fresh hd1)]
        walk_at "es"
        refine .a ⟨kvQ A, kQ ((x, y), (1, 0)), congrArg Re.val (dtN_kQ ((x, y), (1, 0))).symm, ⟨_, rfl⟩, kQ_depth _, rfl, hz, ?_⟩
        exact .a rfl
    rintro G rfl
    refine ws_cut (fun G => G = [.cel (.dN w (kvU kn)), .cel (.dN w (kvQ X2)), .val (.tup [.int x, .int y]), .val (.int x), .val (.int y)]) ?_ ?_
    · have hz : (kvQ X1).length < 10000000 := by rw [kvQ_len]; omega
      walk_at "es"
      refine .a ⟨kvU kn, kP (x + 1, y), rfl, congrArg Re.val (dtN_kP (x + 1, y)).symm, ⟨_, rfl⟩, kP_depth _, ?_⟩
      rw [valD_kvU]
      by_cases h : (x + 1, y) ∈ kn
      · rw [if_pos h, List.append_nil] at hX2
        rw [decide_eq_true h, hX2]
        walk_at "es"
        exact .a rfl
      · rw [if_neg h] at hX2 hd2
        rw [decide_eq_false h, hX2, ← kvQ_put (one_fresh hd2)]
        walk_at "es"
        refine .a ⟨kvQ X1, kQ ((x + 1, y), (0, 1)), congrArg Re.val (dtN_kQ ((x + 1, y), (0, 1))).symm, ⟨_, rfl⟩, kQ_depth _, rfl, hz, ?_⟩
        exact .a rfl
    rintro G rfl
    refine ws_cut (fun G => G = [.cel (.dN w (kvU kn)), .cel (.dN w (kvQ X3)), .val (.tup [.int x, .int y]), .val (.int x), .val (.int y)]) ?_ ?_
    · have hz : (kvQ X2).length < 10000000 := by rw [kvQ_len]; omega
      walk_at "es"
      refine .a ⟨kvU kn, kP (x, y + 1), rfl, congrArg Re.val (dtN_kP (x, y + 1)).symm, ⟨_, rfl⟩, kP_depth _, ?_⟩
      rw [valD_kvU]
      by_cases h : (x, y + 1) ∈ kn
      · rw [if_pos h, List.append_nil] at hX3
        rw [decide_eq_true h, hX3]
        walk_at "es"
        exact .a rfl
      · rw [if_neg h] at hX3 hd3
        rw [decide_eq_false h, hX3, ← kvQ_put (one_fresh hd3)]
        walk_at "es"
        refine .a ⟨kvQ X2, kQ ((x + 1, y + 1), (-1, 0)), congrArg Re.val (dtN_kQ ((x + 1, y + 1), (-1, 0))).symm, ⟨_, rfl⟩, kQ_depth _, rfl, hz, ?_⟩
        exact .a rfl
    rintro G rfl
    · have hz : (kvQ X3).length < 10000000 := by rw [kvQ_len]; omega
      walk_at "es"
      refine .a ⟨kvU kn, kP (x - 1, y), rfl, congrArg Re.val (dtN_kP (x - 1, y)).symm, ⟨_, rfl⟩, kP_depth _, ?_⟩
      rw [valD_kvU]
      by_cases h : (x - 1, y) ∈ kn
      · rw [if_pos h, List.append_nil] at hX4
        rw [decide_eq_true h, hX4]
        walk_at "es"
        exact .a ⟨_, _, _, rfl⟩
      · rw [if_neg h] at hX4 hd4
        rw [decide_eq_false h, hX4, ← kvQ_put (one_fresh hd4)]
        walk_at "es"
        refine .a ⟨kvQ X3, kQ ((x, y + 1), (0, -1)), congrArg Re.val (dtN_kQ ((x, y + 1), (0, -1))).symm, ⟨_, rfl⟩, kQ_depth _, rfl, hz, ?_⟩
        exact .a ⟨_, _, _, rfl⟩
  · rintro G ⟨s2, s3, s4, rfl⟩
    rw [List.take_of_length_le (Nat.le_refl _)]
    walk_at "es"
    exact k
def ap_told : AP := fun as Post => ∃ l : List Pt, as = [.acc (l.map P2), .acc (l.map P2)] ∧ l.length ≤ 500000 ∧ Post (.val (.bl true)) [.acc (l.map P2), .acc (l.map P2)]
theorem run_told : RunOk K [0, 1] (t__law_told K) 4 ap_told := by
  rintro as Post ⟨l, rfl, hl, k⟩
  unfold t__law_told
  show WS K [0, 1] _ [.acc (l.map P2), .acc (l.map P2), .un, .un] _
  refine ws_seq ?_
  walk_at "xs"
  refine ws_seq ?_
  refine for_accT l P2 (fun i G => ∃ s2 s3 : Sl, G = [.acc (l.map P2), .acc (l.map P2), s2, s3]) rfl ⟨_, _, rfl⟩ (fun i G h => by obtain ⟨_, _, rfl⟩ := h; rfl) ?_ ?_
  · rintro i p G hp ⟨s2, s3, rfl⟩
    show WG K _ _ (.tup [.int p.1, .int p.2]) _ _
    walk_at "es"
    refine ⟨fun e => ?_, fun _ => ?_⟩
    · simp at e
    walk_at "es"
    refine for_tupT [p.1, p.2] Dt.int (fun j G => ∃ s3 : Sl, G = [.acc (l.map P2), .acc (l.map P2), .val (.tup [.int p.1, .int p.2]), s3]) ?_ ?_ ?_
    · walk_at "xs"
      exact .a ⟨rfl, _, rfl⟩
    · rintro j x G hx ⟨s3, rfl⟩
      walk_at "es"
      exact .a ⟨_, rfl⟩
    · rintro G ⟨s3, rfl⟩
      exact .a ⟨_, _, rfl⟩
  · rintro G ⟨s2, s3, rfl⟩
    walk_at "es"
    refine eqp_cells rfl rfl ?_
    walk_at "es"
    exact k
def ap_order : AP := fun as Post => ∃ cs : List Pt, as = [.acc (cs.map P2)] ∧ cs.length ≤ 100000 ∧ (∀ p ∈ cs, InG p) ∧ Post (.new ((ordOf cs).map P2)) [.acc (cs.map P2)]
theorem run_order : RunOk K [0] (t__law_order K) 5 ap_order := by
  rintro as Post ⟨cs, rfl, hl, hg, k⟩
  unfold t__law_order
  show WS K [0] _ [.acc (cs.map P2), .un, .un, .un, .un] _
  refine ws_seq ?_
  walk_at "xs"
  refine we_sortD0 Dt.int PyData.int ?_
  refine lc_accP cs P2 (fun p => .int (cdP p)) (fun _ => true) rfl (by omega) rfl rfl ?_ ?_
  · rintro p hp
    show WT K _ [.acc (cs.map P2), .un, .un, .un, .val (.tup [.int p.1, .int p.2])] _
    walk_at "xs"
    exact .a ⟨rfl, rfl, rfl⟩
  · rw [List.filter_eq_self.mpr (fun _ _ => rfl)]
    refine .a ⟨cs.map cdP, by rw [List.map_map]; rfl, fun b _ => ⟨rfl, by simp [PyData.depth]⟩, AllAlike.of (fun x y => by simp [alike]), Sortable.others (fun b => ⟨(fun z => nomatch z), (fun _ z => nomatch z)⟩), ?_⟩
    have hso : ∀ xs : List Int, (xs.mergeSort (dataLe false PyData.int)).Pairwise (· ≤ ·) := fun xs => by
      have e : (dataLe false PyData.int) = fun a b : Int => decide (a ≤ b) := dataLe_int (fun i : Int => i)
      rw [e]
      refine (List.pairwise_mergeSort (fun a b c h1 h2 => ?_) (fun a b => ?_) xs).imp fun h => of_decide_eq_true h
      · simp only [decide_eq_true_eq] at *; omega
      · by_cases h : a ≤ b
        · simp [h]
        · have : b ≤ a := by omega
          simp [this]
    have h1 := hso (cs.map cdP)
    have h2 : ∀ z, z ∈ (cs.map cdP).mergeSort (dataLe false PyData.int) ↔ ∃ p ∈ cs, cdP p = z := fun z => by
      rw [(List.mergeSort_perm _ _).mem_iff, List.mem_map]
    have h3 : ((cs.map cdP).mergeSort (dataLe false PyData.int)).length = cs.length := by rw [(List.mergeSort_perm _ _).length_eq, List.length_map]
    generalize (cs.map cdP).mergeSort (dataLe false PyData.int) = L at h1 h2 h3
    have hO := firstD_ord hg h1 h2
    have hfl : ∀ i, (firstD L i).length ≤ i := fun i => by
      induction i with
      | zero => exact Nat.le_refl _
      | succ i ih =>
        unfold firstD stepD
        rw [List.length_append]
        split <;> simp <;> omega
    walk_at "es"
    refine for_range1 (L.length : Int) (fun i G => ∃ s3 : Sl, G = [.acc (cs.map P2), .acc (L.map Dt.int), .acc ((firstD L i).map P2), s3, .un]) ?_ ?_ ?_
    · walk_at "es"
      exact .a ⟨by rw [List.length_map], by omega, by omega, .un, rfl⟩
    · rintro i G hi ⟨s3, rfl⟩
      have hil : i < L.length := by omega
      have hz : ((firstD L i).map P2).length < 1000000 := by rw [List.length_map]; have := hfl i; omega
      have hat : atI (L.map Dt.int) (i : Int) = some (.int (L.getD i 0)) := by have := at_map (f := Dt.int) (xs := L) (k := (i : Int)) (by omega) (by omega) 0; simpa using this
      have hat1 : 0 < i → atI (L.map Dt.int) ((i : Int) - 1) = some (.int (L.getD (i - 1) 0)) := fun h => by have := at_map (f := Dt.int) (xs := L) (k := (i : Int) - 1) (by omega) (by omega) 0; rw [show ((i : Int) - 1).toNat = i - 1 by omega] at this; exact this
      by_cases h0 : i = 0
      · subst h0
        have hs : stepD L 0 = [deco (L.getD 0 0)] := by unfold stepD; rw [if_pos (.inl rfl)]
        walk_at "es"
        exact .a ⟨.val (.int (0 : Nat)), by unfold firstD; rw [hs, List.map_append]; rfl⟩
      · have hat1 := hat1 (by omega)
        walk_at "es"
        refine ⟨fun e => ?_, fun e => ?_⟩
        · have hs : stepD L i = [deco (L.getD i 0)] := by unfold stepD; rw [if_pos (.inr (by simpa using e))]
          walk_at "es"
          exact .a ⟨.val (.int (i : Nat)), by rw [show firstD L (i + 1) = firstD L i ++ stepD L i from rfl, hs, List.map_append]; rfl⟩
        · have hs : stepD L i = [] := by unfold stepD; rw [if_neg (fun z => by rcases z with z | z; exact h0 z; exact z (by simpa using e))]
          walk_at "es"
          exact .a ⟨.val (.int (i : Nat)), by rw [show firstD L (i + 1) = firstD L i ++ stepD L i from rfl, hs, List.append_nil]⟩
    · rintro G ⟨s3, rfl⟩
      rw [Int.toNat_natCast, hO]
      walk_at "es"
      exact k
end
end Lk32

namespace Lk32
open PySem L2 Ab Ik Strokes PySem.W
local macro_rules | `(tactic| walk_at "lk") => `(tactic| first | exact lk_Ink_cell_list | exact lk_Ink_known_cells | exact lk_Ink_left_ends | exact lk_Ink_right_ends | exact lk_Ink_no_cells | exact lk_Ink_no___contains__ | fail "lk")
local macro_rules | `(tactic| walk_at "yE") => `(tactic| first
  | with_reducible refine we_nlist ?_
  | with_reducible refine we_lenN ?_
  | with_reducible refine we_nget2 ?_
  | fail "yEI2")
section
variable {K : PySem.W.Frag} {c : Addr} {w : World}
def qD (t : Sd) : Dt := .tup [.int t.1.1, .int t.1.2, .int t.2.1, .int t.2.2]
abbrev ap_walk (w : World) : AP := fun as Post => ∃ (l : List Pt) (s : Sd) (S W : List Sd), as = [.val (outR (s.1, ringS l s)), .cel (.dN w (kvQ S)), .cel (.dN w (kvQ W))] ∧ s ∈ sides l ∧ (∀ t ∈ sides l, t ∈ S) ∧ (W ++ ringS l s).Nodup ∧ W.length + (ringS l s).length ≤ 400000 ∧
  Post (.new ((ringS l s).map qD)) [.val (outR (s.1, ringS l s)), .cel (.dN w (kvQ S)), .cel (.dN w (kvQ (W ++ ringS l s)))]
theorem run_walk : RunOk K [1, 2] (t__law_walk K w ap_sign) 11 (ap_walk w) := by
  rintro as Post ⟨l, s, S, W, rfl, hs, hS, hnd, hlen, k⟩
  unfold t__law_walk
  show WS K [1, 2] _ [.val (.tup [.int s.1.1, .int s.1.2, .tup ((runsM (mvR l s)).map lnD)]), .cel (.dN w (kvQ S)), .cel (.dN w (kvQ W)), .un, .un, .un, .un, .un, .un, .un, .un] _
  obtain ⟨r1, r2, r3⟩ := ring_runs hs
  have hml := mvR_len l s
  have hcl : endP s.1 (mvR l s) = s.1 := ring_closed hs
  generalize hrs : runsM (mvR l s) = rs at r1 r2 r3
  walk_at "es"
  refine for_tupT rs lnD (fun i G => ∃ s6 s7 s8 s9 s10 : Sl, G = [.val (.tup [.int s.1.1, .int s.1.2, .tup (rs.map lnD)]), .cel (.dN w (kvQ S)), .cel (.dN w (kvQ (W ++ (ringS l s).take (spread (rs.take i)).length))), .val (.int (endP s.1 ((mvR l s).take (spread (rs.take i)).length)).1), .val (.int (endP s.1 ((mvR l s).take (spread (rs.take i)).length)).2), .acc (((ringS l s).take (spread (rs.take i)).length).map qD), s6, s7, s8, s9, s10]) ?_ ?_ ?_
  · walk_at "es"
    exact .a ⟨rfl, _, _, _, _, _, by show _ = [_, _, Sl.cel (.dN w (kvQ (W ++ []))), _, _, _, _, _, _, _, _]; rw [List.append_nil]; rfl⟩
  · rintro i r G hr ⟨s6, s7, s8, s9, s10, rfl⟩
    obtain ⟨rp, rl, kk, rk⟩ := r2 r (List.mem_of_getElem? hr)
    have hat : ∀ j, j < r.2 → (mvR l s)[(spread (rs.take i)).length + j]? = some r.1 := fun j hj => by
      rw [← r3]; exact spread_at hr hj
    have hsl : (spread (rs.take (i + 1))).length = (spread (rs.take i)).length + r.2 := by rw [spread_take hr, List.length_append, List.length_replicate]
    rw [hsl]
    obtain ⟨q1, q2, q3, q4, _⟩ := ln_num kk rp
    rw [← rk] at q1 q2 q3 q4
    generalize (spread (rs.take i)).length = n0 at hat
    obtain ⟨m, N⟩ := r
    simp only at *
    show WG K _ _ (.tup [.str "line", .int (m.1 * (N : Int)), .int (m.2 * (N : Int))]) _ _
    generalize hA : m.1 * (N : Int) = A at *
    generalize hB : m.2 * (N : Int) = B at *
    walk_at "es"
    refine .a ⟨A, rfl, ?_⟩
    rw [q3]
    walk_at "es"
    refine .a ⟨B, rfl, ?_⟩
    rw [q4]
    walk_at "es"
    refine for_range1 (ab A + ab B) (fun j G => ∃ s9 s10 : Sl, G = [.val (.tup [.int s.1.1, .int s.1.2, .tup (rs.map lnD)]), .cel (.dN w (kvQ S)), .cel (.dN w (kvQ (W ++ (ringS l s).take (n0 + j)))), .val (.int (endP s.1 ((mvR l s).take (n0 + j))).1), .val (.int (endP s.1 ((mvR l s).take (n0 + j))).2), .acc (((ringS l s).take (n0 + j)).map qD), .val (.tup [.str "line", .int A, .int B]), .val (.int m.1), .val (.int m.2), s9, s10]) ?_ ?_ ?_
    · have a0 := ab_nonneg A
      have a1 := ab_nonneg B
      have hN : (N : Int) ≤ 400000 := by
        have := hat (N - 1) (by omega)
        have := (List.getElem?_eq_some_iff.mp this).1
        omega
      have q2' : (if A < 0 then -A else A) + (if B < 0 then -B else B) = (N : Int) := q2
      walk_at "es"
      exact .a ⟨rfl, by omega, by omega, _, _, rfl⟩
    · rintro j G hj ⟨s9, s10, rfl⟩
      have hq := hat j (by omega)
      have hlt : n0 + j < (mvR l s).length := (List.getElem?_eq_some_iff.mp hq).1
      have hh := ring_here hq
      have hfr := ring_fresh hnd hh
      have hin := hS _ (ring_mem hs _ (List.mem_of_getElem? hh))
      have e1 : (mvR l s).take (n0 + (j + 1)) = (mvR l s).take (n0 + j) ++ [m] := by rw [← Nat.add_assoc, List.take_add_one, hq]; rfl
      have e2 : (ringS l s).take (n0 + (j + 1)) = (ringS l s).take (n0 + j) ++ [(endP s.1 ((mvR l s).take (n0 + j)), m)] := by rw [← Nat.add_assoc, List.take_add_one, hh]; rfl
      rw [e1, e2, endP_snoc, ← List.append_assoc, ← kvQ_put hfr]
      have hkl : (kvQ (W ++ (ringS l s).take (n0 + j))).length < 10000000 := by
        rw [kvQ_len, List.length_append, List.length_take]; omega
      have hwl : (((ringS l s).take (n0 + j)).map qD).length < 1000000 := by
        rw [List.length_map, List.length_take]; omega
      generalize endP s.1 ((mvR l s).take (n0 + j)) = p at *
      have hv1 := kvQ_val S (p, m)
      have hv2 := kvQ_val (W ++ (ringS l s).take (n0 + j)) (p, m)
      rw [decide_eq_true hin] at hv1
      rw [decide_eq_false hfr] at hv2
      generalize W ++ (ringS l s).take (n0 + j) = V at *
      generalize (ringS l s).take (n0 + j) = Rn at *
      walk_at "es"
      refine .a ⟨kvQ S, kQ (p, m), rfl, congrArg Re.val (dtN_kQ (p, m)).symm, ⟨_, rfl⟩, kQ_depth _, ?_⟩
      rw [hv1]
      walk_at "es"
      refine .a ⟨kvQ V, kQ (p, m), rfl, congrArg Re.val (dtN_kQ (p, m)).symm, ⟨_, rfl⟩, kQ_depth _, ?_⟩
      rw [hv2]
      walk_at "es"
      refine .a ⟨kvQ V, kQ (p, m), congrArg Re.val (dtN_kQ (p, m)).symm, ⟨_, rfl⟩, kQ_depth _, rfl, hkl, ?_⟩
      walk_at "es"
      exact .a ⟨_, _, by rw [List.map_append]; rfl⟩
    · rintro G ⟨s9, s10, rfl⟩
      rw [q2, Int.toNat_natCast]
      exact .a ⟨_, _, _, _, _, rfl⟩
  · rintro G ⟨s6, s7, s8, s9, s10, rfl⟩
    rw [List.take_of_length_le (Nat.le_refl _), r3, List.take_of_length_le (Nat.le_refl _), List.take_of_length_le (by omega), hcl]
    walk_at "es"
    exact k
def BegOk (l : List Pt) (kv : List (NestedKey × Dt)) : Prop := ∀ t ∈ sides l, valD kv (kP t.1) = some (.int (begS l t.1 : Int))
abbrev ap_rr (w : World) : AP := fun as Post => ∃ (l : List Pt) (s : Sd) (kv : List (NestedKey × Dt)), as = [.val (outR (s.1, ringS l s)), .acc ((ringS l s).map qD), .cel (.dN w kv)] ∧ l.Nodup ∧ s ∈ sides l ∧ (ringS l s).length ≤ 400000 ∧ (∀ t ∈ ringS l s, cLe s.1 t.1) ∧ BegOk l kv ∧ Post (.val (.bl true)) as
theorem run_rr : RunOk K [1, 2] (t__law_ring_right K w ap_sign) 9 (ap_rr w) := by
  rintro as Post ⟨l, s, kv, rfl, hn, hs, hlen, hle, hbeg, k⟩
  unfold t__law_ring_right
  show WS K [1, 2] _ [.val (.tup [.int s.1.1, .int s.1.2, .tup ((runsM (mvR l s)).map lnD)]), .acc ((ringS l s).map qD), .cel (.dN w kv), .un, .un, .un, .un, .un, .un] _
  obtain ⟨r1, r2, r3⟩ := ring_runs hs
  have hdif := runs_diff (mvR l s)
  have htrn := fun a b => ring_turns hs hle (a := a) (b := b)
  have hrn := runsM_len (mvR l s)
  rw [mvR_len] at hrn
  have hpos : 0 < (ringS l s).length := by rw [ring_len]; exact (per_spec hs).1
  generalize hrs : runsM (mvR l s) = rs at r1 r2 r3 hdif htrn hrn
  have hlast : atI ((ringS l s).map qD) (-1) = some (qD (itS l s ((ringS l s).length - 1))) := by
    have h1 := ring_at (l := l) (s := s) (n := (ringS l s).length - 1) (by omega)
    generalize ringS l s = R at h1 hpos
    unfold atI ixN
    rw [if_neg (by omega), if_pos (by rw [List.length_map]; omega)]
    show (R.map qD)[((-1 : Int) + ((R.map qD).length : Int)).toNat]? = some _
    rw [show ((-1 : Int) + ((R.map qD).length : Int)).toNat = R.length - 1 by rw [List.length_map]; omega, List.getElem?_map, h1]; rfl
  refine ws_seq ?_
  walk_at "xs"
  refine ws_seq ?_
  refine for_accT (k := 1) (ringS l s) qD (fun i G => ∃ (b : Sd) (s4 s5 : Sl), b ∈ sides l ∧ nxS l b = itS l s i ∧ G = [.val (.tup [.int s.1.1, .int s.1.2, .tup (rs.map lnD)]), .acc ((ringS l s).map qD), .cel (.dN w kv), .val (qD b), s4, s5, .un, .un, .un]) rfl ⟨itS l s ((ringS l s).length - 1), .un, .un, it_mem hs _, ?_, rfl⟩ (fun i G h => by obtain ⟨_, _, _, _, _, rfl⟩ := h; rfl) ?_ ?_
  · have h3 := (per_spec hs).2.2.1
    have : itS l s ((ringS l s).length - 1 + 1) = s := by rw [show (ringS l s).length - 1 + 1 = perS l s by rw [ring_len]; rw [ring_len] at hpos; omega]; exact h3
    exact this
  · rintro i t G ht ⟨b, s4, s5, hb, hnx, rfl⟩
    have hi : i < (ringS l s).length := (List.getElem?_eq_some_iff.mp ht).1
    have et : t = itS l s i := by rw [ring_at hi] at ht; exact (Option.some.inj ht).symm
    rw [← et] at hnx
    have hnx2 : nxS l t = itS l s (i + 1) := by rw [et]; rfl
    have htm := ring_mem hs t (List.mem_of_getElem? ht)
    have hc := hle t (List.mem_of_getElem? ht)
    have hv := hbeg t htm
    have htu : 1 < begS l t.1 → t.2 = (-b.2.2, b.2.1) := fun h => by
      have := turned hn hb (by rw [hnx]; exact h)
      rw [hnx] at this; exact this
    unfold cLe ltYX at hc
    have c1 : decide (t.1.2 < s.1.2) = false := decide_eq_false (by omega)
    show WG K _ _ (.tup [.int t.1.1, .int t.1.2, .int t.2.1, .int t.2.2]) _ _
    show WG K _ _ _ [_, _, _, .val (.tup [.int b.1.1, .int b.1.2, .int b.2.1, .int b.2.2]), _, _, _, _, _] _
    walk_at "xs"
    refine ws_cut (fun G => G = [.val (.tup [.int s.1.1, .int s.1.2, .tup (rs.map lnD)]), .acc ((ringS l s).map qD), .cel (.dN w kv), .val (.tup [.int b.1.1, .int b.1.2, .int b.2.1, .int b.2.2]), .val (.tup [.int t.1.1, .int t.1.2, .int t.2.1, .int t.2.2]), s5, .un, .un, .un]) ?_ ?_
    · walk_at "es"
      refine ⟨fun e => ?_, fun e => ?_⟩
      · have e' := of_decide_eq_true e
        have c2 : ¬ t.1.1 < s.1.1 := fun z => hc (.inr ⟨e', z⟩)
        walk_at "es"
        exact .a rfl
      · walk_at "es"
        exact .a rfl
    · rintro G rfl
      refine ws_cut (fun G => G = [.val (.tup [.int s.1.1, .int s.1.2, .tup (rs.map lnD)]), .acc ((ringS l s).map qD), .cel (.dN w kv), .val (.tup [.int b.1.1, .int b.1.2, .int b.2.1, .int b.2.2]), .val (.tup [.int t.1.1, .int t.1.2, .int t.2.1, .int t.2.2]), .val (.bl (decide (t.2.1 = -b.2.2 ∧ t.2.2 = b.2.1))), .un, .un, .un]) ?_ ?_
      · walk_at "es"
        refine ⟨fun e => ?_, fun e => ?_⟩
        · walk_at "es"
          have e1 := of_decide_eq_true e
          have e2 : decide (t.2.1 = -b.2.2 ∧ t.2.2 = b.2.1) = decide (t.2.2 = b.2.1) := by simp [e1]
          rw [e2]
          exact .a rfl
        · walk_at "es"
          have e1 := of_decide_eq_false e
          have e2 : decide (t.2.1 = -b.2.2 ∧ t.2.2 = b.2.1) = false := by simp [e1]
          rw [e2]
          exact .a rfl
      · rintro G rfl
        walk_at "es"
        refine .a ⟨kv, kP t.1, _, rfl, congrArg Re.val (dtN_kP t.1).symm, ⟨_, rfl⟩, kP_depth _, hv, ?_⟩
        by_cases hb1 : 1 < begS l t.1
        · have e1 := htu hb1
          have c3 : decide ((1 : Int) < (begS l t.1 : Int)) = true := decide_eq_true (by omega)
          have c4 : decide (t.2.1 = -b.2.2 ∧ t.2.2 = b.2.1) = true := decide_eq_true (by rw [e1]; exact ⟨rfl, rfl⟩)
          rw [c4]
          walk_at "es"
          exact .a ⟨t, _, _, htm, hnx2, rfl⟩
        · have c3 : decide ((1 : Int) < (begS l t.1 : Int)) = false := decide_eq_false (by omega)
          walk_at "es"
          exact .a ⟨t, _, _, htm, hnx2, rfl⟩
  · rintro G ⟨b, s4, s5, hb, hnx, rfl⟩
    refine ws_seq ?_
    walk_at "xs"
    refine ws_seq ?_
    have hrl : 0 < rs.length := List.length_pos_iff.mpr r1
    refine for_range1 (rs.length : Int) (fun i G => ∃ s7 s8 : Sl, G = [.val (.tup [.int s.1.1, .int s.1.2, .tup (rs.map lnD)]), .acc ((ringS l s).map qD), .cel (.dN w kv), .val (qD b), s4, s5, .val (.tup (rs.map lnD)), s7, s8]) ?_ ?_ ?_
    · walk_at "xs"
      exact .a ⟨by rw [List.length_map], by omega, by omega, _, _, rfl⟩
    · rintro i G hi ⟨s7, s8, rfl⟩
      obtain ⟨r, hr⟩ : ∃ r, rs[i]? = some r := ⟨_, List.getElem?_eq_getElem (by omega)⟩
      obtain ⟨rp, rl, kk, rk⟩ := r2 r (List.mem_of_getElem? hr)
      obtain ⟨q, hq, hqr⟩ : ∃ q : Ik.Run, atI (rs.map lnD) ((i : Int) - 1) = some (lnD q) ∧ q ∈ rs ∧ q.1 ≠ r.1 := by
        by_cases h0 : i = 0
        · subst h0
          obtain ⟨q, hq⟩ : ∃ q, rs[rs.length - 1]? = some q := ⟨_, List.getElem?_eq_getElem (by omega)⟩
          refine ⟨q, ?_, List.mem_of_getElem? hq, htrn r q hr hq⟩
          show atI (rs.map lnD) (-1) = _
          unfold atI ixN
          rw [if_neg (by omega), if_pos (by rw [List.length_map]; omega)]
          show (rs.map lnD)[((-1 : Int) + ((rs.map lnD).length : Int)).toNat]? = some _
          rw [show ((-1 : Int) + ((rs.map lnD).length : Int)).toNat = rs.length - 1 by rw [List.length_map]; omega, List.getElem?_map, hq]; rfl
        · obtain ⟨q, hq⟩ : ∃ q, rs[i - 1]? = some q := ⟨_, List.getElem?_eq_getElem (by omega)⟩
          exact ⟨q, at_mapI (i := i - 1) (by omega) hq, List.mem_of_getElem? hq, hdif (i - 1) q r hq (by rw [show i - 1 + 1 = i by omega]; exact hr)⟩
      obtain ⟨qp, ql, k2, qk⟩ := r2 q hqr.1
      have hne := hqr.2
      obtain ⟨_, _, q3, q4, _⟩ := ln_num kk rp
      obtain ⟨_, _, q5, q6, _⟩ := ln_num k2 qp
      rw [← rk] at q3 q4
      rw [← qk] at q5 q6
      have hat : atI (rs.map lnD) (i : Int) = some (lnD r) := at_mapI (i := i) rfl hr
      obtain ⟨m, N⟩ := r
      obtain ⟨m2, N2⟩ := q
      unfold lnD at hat hq
      simp only at *
      generalize m.1 * (N : Int) = A at *
      generalize m.2 * (N : Int) = B at *
      generalize m2.1 * (N2 : Int) = A2 at *
      generalize m2.2 * (N2 : Int) = B2 at *
      walk_at "es"
      refine .a ⟨A, rfl, ?_⟩
      rw [q3]
      walk_at "es"
      refine .a ⟨B, rfl, ?_⟩
      rw [q4]
      walk_at "es"
      refine .a ⟨A2, rfl, ?_⟩
      rw [q5]
      walk_at "es"
      refine .a ⟨B2, rfl, ?_⟩
      rw [q6]
      walk_at "es"
      refine eqp_pair ?_
      rw [show decide (m.1 = m2.1 ∧ m.2 = m2.2) = false from decide_eq_false fun z => hne (Prod.ext z.1.symm z.2.symm)]
      walk_at "es"
      exact .a ⟨_, _, rfl⟩
    · rintro G ⟨s7, s8, rfl⟩
      walk_at "es"
      exact k
end
end Lk32

namespace Lk32
open PySem L2 Ab Ik Strokes PySem.W
local macro_rules | `(tactic| walk_at "lk") => `(tactic| first | exact lk_Ink_cell_list | exact lk_Ink_known_cells | exact lk_Ink_left_ends | exact lk_Ink_right_ends | exact lk_Ink_no_cells | exact lk_Ink_no___contains__ | fail "lk")
local macro_rules | `(tactic| walk_at "yE") => `(tactic| first
  | with_reducible refine we_nlist ?_
  | with_reducible refine we_lenN ?_
  | with_reducible refine we_nget2 ?_
  | with_reducible refine we_leD ?_
  | with_reducible refine we_callN ?_
  | fail "yEI2")
section
variable {K : PySem.W.Frag} {c cO : Addr} {w : World}
theorem keysQ (S : List Sd) : ((kvQ S).map fun kv => dtN kv.1) = S.map qD := by
  unfold kvQ
  rw [List.map_map]
  exact List.map_congr_left fun s _ => dtN_kQ s
abbrev ap_or (w : World) : AP := fun as Post => ∃ l : List Pt, as = [.val (.tup ((visA l).2.map outR)), .cel (.dN w (kvQ (sides l)))] ∧ l.Nodup ∧ l.length ≤ 2000 ∧ Post (.val (.bl true)) [.val (.tup ((visA l).2.map outR)), .cel (.dN w (kvQ (sides l)))]
theorem run_or : RunOk K [1] (t__law_outlines_right K w ap_form (ap_walk w) (ap_rr w)) 8 (ap_or w) := by
  rintro as Post ⟨l, rfl, hnd, hl, k⟩
  unfold t__law_outlines_right
  show WS K [1] _ [.val (.tup ((visA l).2.map outR)), .cel (.dN w (kvQ (sides l))), .un, .un, .un, .un, .un, .un] _
  have hsz : (sides l).length ≤ 8000 := by have := sides_len l l; unfold sides; omega
  have hvn := vis_nodup hnd
  have hvp := vis_perm hnd
  obtain ⟨hvo, hva⟩ := vis_least (l := l)
  generalize (visA l).2 = O at hvn hvp hvo hva k ⊢
  refine ws_seq ?_
  walk_at "xs"
  refine ws_seq ?_
  refine for_lstT (sides l) qD (fun i G => ∃ (kv : List (NestedKey × Dt)) (s3 : Sl), (∀ cc : Pt, valD kv (kP cc) = if ((sides l).take i).countP (fun s => decide (s.1 = cc)) = 0 then none else some (.int ((((sides l).take i).countP fun s => decide (s.1 = cc) : Nat) : Int))) ∧ kv.length ≤ i ∧ G = [.val (.tup (O.map outR)), .cel (.dN w (kvQ (sides l))), .cel (.dN w kv), s3, .un, .un, .un, .un]) ?_ ?_ ?_
  · walk_at "xs"
    refine .a ⟨kvQ (sides l), rfl, ?_⟩
    rw [keysQ]
    exact .a ⟨rfl, [], _, (fun _ => rfl), Nat.le_refl _, rfl⟩
  · rintro i t G ht ⟨kv, s3, hkv, hkl, rfl⟩
    have hst : (sides l).take (i + 1) = (sides l).take i ++ [t] := by rw [List.take_add_one, ht]; rfl
    show WG K _ _ (.tup [.int t.1.1, .int t.1.2, .int t.2.1, .int t.2.2]) _ _
    walk_at "xs"
    refine ⟨⟨kv, rfl⟩, ?_⟩
    walk_at "xs"
    refine .a ⟨kv, kP t.1, .int 0, rfl, congrArg Re.val (dtN_kP t.1).symm, ⟨_, rfl⟩, kP_depth _, rfl, ?_⟩
    have hg : (valD kv (kP t.1)).getD (.int 0) = .int ((((sides l).take i).countP fun s => decide (s.1 = t.1) : Nat) : Int) := by
      rw [hkv]
      by_cases h : ((sides l).take i).countP (fun s => decide (s.1 = t.1)) = 0
      · rw [if_pos h, h]; rfl
      · rw [if_neg h]; rfl
    rw [hg]
    have hi : i < (sides l).length := (List.getElem?_eq_some_iff.mp ht).1
    walk_at "xs"
    refine .a ⟨kv, kP t.1, congrArg Re.val (dtN_kP t.1).symm, ⟨_, rfl⟩, kP_depth _, rfl, by omega, ?_⟩
    refine .a ⟨_, _, fun cc => ?_, Nat.le_trans (Ik.putE_len _ _ _) (by omega), rfl⟩
    rw [valD_put, hst, List.countP_append, List.countP_cons, List.countP_nil]
    by_cases h : cc = t.1
    · subst h
      rw [if_pos rfl, decide_eq_true rfl, if_pos rfl, if_neg (by omega)]
      congr 2
    · rw [if_neg (fun z => h (kP_inj z)), hkv, decide_eq_false (fun z => h z.symm)]
      simp
  · rintro G ⟨kv, s3, hkv, hkl, rfl⟩
    rw [List.take_of_length_le (Nat.le_refl _)] at hkv
    have hbeg : BegOk l kv := fun t ht => by
      have h0 : 0 < (sides l).countP fun s => decide (s.1 = t.1) := List.countP_pos_iff.mpr ⟨t, ht, decide_eq_true rfl⟩
      rw [hkv, if_neg (by omega)]; rfl
    refine ws_seq ?_
    walk_at "xs"
    refine ws_seq ?_
    walk_at "xs"
    refine ws_seq ?_
    walk_at "xs"
    refine ws_seq ?_
    refine for_tupT O outR (fun i G => ∃ s5 s6 s7 : Sl, ((i = 0 ∧ s5 = .val .non) ∨ (∃ o, O[i - 1]? = some o ∧ 0 < i ∧ s5 = .val (.tup [.int o.1.2, .int o.1.1]))) ∧ G = [.val (.tup (O.map outR)), .cel (.dN w (kvQ (sides l))), .cel (.dN w kv), s3, .cel (.dN w (kvQ ((O.take i).flatMap (·.2)))), s5, s6, s7]) ?_ ?_ ?_
    · walk_at "xs"
      exact .a ⟨rfl, _, _, _, .inl ⟨rfl, rfl⟩, rfl⟩
    · rintro i o G ho ⟨s5, s6, s7, h5, rfl⟩
      obtain ⟨s, hs, rfl, hle⟩ := hvo o (List.mem_of_getElem? ho)
      have hst : (O.take (i + 1)).flatMap (·.2) = (O.take i).flatMap (·.2) ++ ringS l s := by rw [List.take_add_one, ho]; show (O.take i ++ [_]).flatMap _ = _; rw [List.flatMap_append]; simp
      have hpre : ((O.take (i + 1)).flatMap (·.2)).Nodup ∧ ((O.take (i + 1)).flatMap (·.2)).length ≤ (sides l).length := by
        have e : O.flatMap (·.2) = (O.take (i + 1)).flatMap (·.2) ++ (O.drop (i + 1)).flatMap (·.2) := by rw [← List.flatMap_append, List.take_append_drop]
        have h1 := hvp.length_eq
        rw [e] at hvn h1
        rw [List.length_append] at h1
        exact ⟨(List.nodup_append.mp hvn).1, by omega⟩
      obtain ⟨hp1, hp2⟩ := hpre
      rw [hst] at hp1 hp2
      rw [hst]
      rw [List.length_append] at hp2
      generalize (O.take i).flatMap (·.2) = W at hp1 hp2
      obtain ⟨r1, r2, r3⟩ := ring_runs hs
      have hml := mvR_len l s
      have hrn := runsM_len (mvR l s)
      have hpos : 0 < (ringS l s).length := by rw [ring_len]; exact (per_spec hs).1
      generalize hrs : runsM (mvR l s) = rs at r1 r2 r3 hrn
      have hout : outR (s.1, ringS l s) = .tup [.int s.1.1, .int s.1.2, .tup (rs.map lnD)] := by rw [← hrs]; rfl
      show WG K _ _ (outR (s.1, ringS l s)) _ _
      rw [hout]
      walk_at "es"
      refine .a ⟨kvQ (sides l), rfl, ?_⟩
      walk_at "es"
      refine .a ⟨s.1.1, s.1.2, rs, (kvQ (sides l)).length, rfl, r1, by omega, fun r hr => ?_, by rw [kvQ_len]; omega, ?_⟩
      · obtain ⟨a, b, cc⟩ := r2 r hr
        exact ⟨a, by rw [kvQ_len]; omega, cc⟩
      walk_at "es"
      refine .a ⟨l, s, sides l, W, by rw [hout]; rfl, hs, (fun _ h => h), hp1, by omega, ?_⟩
      rw [hout]
      have hz : ((ringS l s).map qD).length = (ringS l s).length := by rw [List.length_map]
      walk_at "es"
      refine .a ⟨l, s, kv, by rw [hout]; rfl, hnd, hs, by omega, hle, hbeg, ?_⟩
      walk_at "es"
      rcases h5 with ⟨h0, rfl⟩ | ⟨o, ho2, h0, rfl⟩
      · walk_at "es"
        exact .a ⟨_, _, _, .inr ⟨(s.1, ringS l s), ho, by omega, rfl⟩, rfl⟩
      · have hlt : ltYX o.1 s.1 := by
          have h1 := List.pairwise_iff_getElem.mp hva (i - 1) i (List.getElem?_eq_some_iff.mp ho2).1 (List.getElem?_eq_some_iff.mp ho).1 (by omega)
          rw [(List.getElem?_eq_some_iff.mp ho2).2, (List.getElem?_eq_some_iff.mp ho).2] at h1
          exact h1
        walk_at "es"
        refine ⟨fun _ => ?_, fun e => ?_⟩
        case refine_2 => first | cases e | simp [isNonR] at e
        walk_at "es"
        refine .a ⟨_, encP (sw s.1), encP (sw o.1), rfl, py_P (sw s.1), py_P (sw o.1), alike_P _ _, (fun z => nomatch z), depth_P _, ?_⟩
        rw [show dataLt (encP (sw o.1)) (encP (sw s.1)) = true by unfold encP; rw [dataLt_ii]; exact decide_eq_true hlt]
        walk_at "es"
        exact .a ⟨_, _, _, .inr ⟨(s.1, ringS l s), ho, by omega, rfl⟩, rfl⟩
    · rintro G ⟨s5, s6, s7, h5, rfl⟩
      rw [List.take_of_length_le (Nat.le_refl _)]
      have hfl : (kvQ (O.flatMap (·.2))).length = (kvQ (sides l)).length := by rw [kvQ_len, kvQ_len, hvp.length_eq]
      walk_at "es"
      refine .a ⟨kvQ (O.flatMap (·.2)), rfl, ?_⟩
      rw [hfl]
      walk_at "es"
      refine .a ⟨kvQ (sides l), rfl, ?_⟩
      walk_at "es"
      rw [decide_eq_true rfl]
      exact k
end
end Lk32

namespace Lk32
open PySem L2 Ab Ik Strokes PySem.W
local macro_rules | `(tactic| walk_at "lk") => `(tactic| first | exact lk_Ink_cell_list | exact lk_Ink_known_cells | exact lk_Ink_left_ends | exact lk_Ink_right_ends | exact lk_Ink_no_cells | exact lk_Ink_no___contains__ | fail "lk")
local macro_rules | `(tactic| walk_at "yE") => `(tactic| first
  | with_reducible refine we_nlist ?_
  | with_reducible refine we_lenN ?_
  | with_reducible refine we_callN ?_
  | fail "yEI2")
section
variable {K : PySem.W.Frag} {c cO : Addr} {w : World}
theorem len_kvU (l : List Pt) : (kvU l).length = l.length := by unfold kvU; rw [List.length_map]
theorem eqp_outs {neg : Bool} {O : List (Pt × List Sd)} {Γ : List Sl} {Post : Re → List Sl → Prop} (h : ∀ o ∈ O, o.2.length ≤ 1000000) (hl : O.length ≤ 1000000) (k : Post (.val (.bl (neg ^^ true))) Γ) : EqP neg (.val (.tup (O.map outR))) (.val (.tup (O.map outR))) Γ Post := by
  have hd : (PD.tup (O.map pdO)).dt = .tup (O.map outR) := by
    simp only [PD.dt]
    rw [PD.dts_map, List.map_map]
    congr 1
    exact List.map_congr_left fun o _ => pdO_dt o
  have hdep : (PD.tup (O.map pdO)).dep ≤ 4 := by
    have : PD.deps (O.map pdO) ≤ 3 := PD.deps_le.mpr fun x hx => by
      obtain ⟨o, _, rfl⟩ := List.mem_map.mp hx
      exact pdO_dep o
    simp only [PD.dep]; omega
  have hok : (PD.tup (O.map pdO)).ok := by
    simp only [PD.ok]
    refine ⟨by rw [List.length_map]; exact hl, PD.oks_iff.mpr fun x hx => ?_⟩
    obtain ⟨o, ho, rfl⟩ := List.mem_map.mp hx
    exact pdO_ok (h o ho)
  have := eqp_pd (a := .tup (O.map pdO)) (b := .tup (O.map pdO)) (neg := neg) (Γ := Γ) (Post := Post) hok hok (by omega) (by omega)
  rw [hd, (PD.eq_iff _ _).mpr rfl] at this
  exact this k
def InC (p : Pt) : Prop := -1001 ≤ p.1 ∧ p.1 ≤ 1001 ∧ -1001 ≤ p.2 ∧ p.2 ≤ 1001
def ap_law : AP := fun as Post => ∃ ns, as = [.val (.scr ns)] ∧ Post (.val (.bl true)) [.val (.scr ns)]
theorem run_law (ok : IkOk K c) : RunOk K [] (t_law K w c ap_take ap_pool ap_plate ap_order (ap_sides w) (ai_Ink w) (ap_out c w) (ap_or w) (ap_ink c cO w) ap_told (ap_cells c w)) 12 ap_law := by
  rintro as Post ⟨ns, rfl, post⟩
  obtain ⟨co, n0, n1, n2, n3⟩ := ok
  have cl := co.cl
  unfold t_law
  show WS K [] _ [.val (.scr ns), .un, .un, .un, .un, .un, .un, .un, .un, .un, .un, .un] _
  walk_at "es"
  refine .a ⟨ns, 0, rfl, by omega, by omega, fun d2 h2 => ?_⟩
  walk_at "es"
  refine .a ⟨d2, 0, 4, rfl, h2, by omega, by omega, by omega, by omega, fun d3 g3 h3 g30 g31 => ?_⟩
  walk_at "es"
  refine .a ⟨ns, 1, rfl, by omega, by omega, fun d0 h0 => ?_⟩
  walk_at "es"
  refine .a ⟨d0, 0, rfl, h0, by omega, by omega, fun d1 ha za ga => ?_⟩
  walk_at "xs"
  refine ws_cut (fun G => ∃ cs : List Pt, cs.length ≤ 1001 ∧ (∀ p ∈ cs, InB p) ∧ G = [.val (.scr ns), .val (.int g3), .acc (cs.map P2), .un, .un, .un, .un, .un, .un, .un, .un, .un]) ?_ ?_
  · walk_at "es"
    refine ⟨fun e => ?_, fun e => ?_⟩
    · walk_at "es"
      refine lc_accP ha P2 P2 (fun p => decide ((p.1 + p.2) % 2 = 0)) rfl (by omega) rfl rfl ?_ ?_
      · rintro p hp
        show WT K _ [_, _, _, Sl.val (.tup [.int p.1, .int p.2]), _, _, _, _, _, _, _, _] _
        walk_at "xs"
        refine ⟨fun e => ?_, fun e => .a ⟨e, rfl⟩⟩
        exact we_var rfl ⟨_, rfl, .a ⟨e, rfl, rfl⟩⟩
      · walk_at "es"
        exact .a ⟨_, Nat.le_trans (List.length_filter_le _ _) za, fun p hp => ga p (List.mem_filter.mp hp).1, rfl⟩
    · walk_at "es"
      exact .a ⟨ha, za, ga, rfl⟩
  rintro G ⟨cs, zc, gc, rfl⟩
  refine ws_cut (fun G => ∃ (cs : List Pt) (s4 : Sl), cs.length ≤ 1001 ∧ (∀ p ∈ cs, InC p) ∧ G = [.val (.scr ns), .val (.int g3), .acc (cs.map P2), .un, s4, .un, .un, .un, .un, .un, .un, .un]) ?_ ?_
  · have none : Hold (∃ (cs' : List Pt) (s4 : Sl), cs'.length ≤ 1001 ∧ (∀ p ∈ cs', InC p) ∧ ([.val (.scr ns), .val (.int g3), .acc (cs.map P2), .un, .un, .un, .un, .un, .un, .un, .un, .un] : List Sl) = [.val (.scr ns), .val (.int g3), .acc (cs'.map P2), .un, s4, .un, .un, .un, .un, .un, .un, .un]) :=
      .a ⟨cs, _, zc, fun p hp => by have := gc p hp; unfold InB at this; unfold InC; omega, rfl⟩
    walk_at "es"
    refine ⟨fun e => ?_, fun e => ?_⟩
    · walk_at "es"
      refine ⟨fun e2 => ?_, fun e2 => ?_⟩
      · have hc5 : cs.length ≤ 500 := by have := of_decide_eq_true e2; rw [List.length_map] at this; omega
        walk_at "es"
        refine lc_accP cs P2 P2 (fun p => decide (p.1 < 1000) && decide (p.2 < 1000)) rfl (by omega) rfl rfl ?_ ?_
        · rintro p hp
          show WT K _ [_, _, _, Sl.val (.tup [.int p.1, .int p.2]), _, _, _, _, _, _, _, _] _
          walk_at "xs"
          refine ⟨fun e1 => ?_, fun e1 => ⟨(fun z => nomatch z), fun _ => .a ⟨by rw [e1]; rfl, rfl⟩⟩⟩
          walk_at "xs"
          exact ⟨fun e2 => we_var rfl ⟨_, rfl, .a ⟨by rw [e1, e2]; rfl, rfl, rfl⟩⟩, fun e2 => .a ⟨by rw [e1, e2]; rfl, rfl⟩⟩
        · have hlow : ∀ p ∈ cs.filter fun p => decide (p.1 < 1000) && decide (p.2 < 1000), p ∈ cs ∧ p.1 < 1000 ∧ p.2 < 1000 := fun p hp => by
            obtain ⟨h1, h2⟩ := List.mem_filter.mp hp
            rw [Bool.and_eq_true, decide_eq_true_eq, decide_eq_true_eq] at h2
            exact ⟨h1, h2.1, h2.2⟩
          have hll : (cs.filter fun p => decide (p.1 < 1000) && decide (p.2 < 1000)).length ≤ 500 := Nat.le_trans (List.length_filter_le _ _) hc5
          generalize cs.filter (fun p => decide (p.1 < 1000) && decide (p.2 < 1000)) = low at hlow hll
          walk_at "es"
          refine lc_accP low P2 (fun p => P2 (p.1 + 1, p.2 + 1)) (fun _ => true) rfl (by omega) rfl rfl ?_ ?_
          · rintro p hp
            show WT K _ [_, _, _, Sl.val (.tup [.int p.1, .int p.2]), _, _, _, _, _, _, _, _] _
            walk_at "xs"
            exact .a ⟨rfl, rfl, rfl⟩
          · rw [List.filter_eq_self.mpr (fun _ _ => rfl)]
            refine addp_l rfl rfl rfl rfl (by rw [List.length_map, List.length_map]; omega) ?_
            rw [show low.map (fun p => P2 (p.1 + 1, p.2 + 1)) = (low.map fun p : Pt => ((p.1 + 1, p.2 + 1) : Pt)).map P2 by rw [List.map_map]; rfl, ← List.map_append]
            walk_at "es"
            refine .a ⟨_, _, by rw [List.length_append, List.length_map]; omega, fun p hp => ?_, rfl⟩
            rcases List.mem_append.mp hp with hp | hp
            · have := gc p hp; unfold InB at this; unfold InC; omega
            · obtain ⟨q, hq, rfl⟩ := List.mem_map.mp hp
              obtain ⟨h1, h2, h3⟩ := hlow q hq
              have := gc q h1
              unfold InB at this
              unfold InC
              simp only
              omega
      · walk_at "es"
        exact none
    · walk_at "es"
      exact none
  rintro G ⟨cs, s4, zc, gc, rfl⟩
  have hG : ∀ p ∈ cs, InG p := fun p hp => by have := gc p hp; unfold InC at this; unfold InG; omega
  walk_at "es"
  refine .a ⟨cs, rfl, by omega, hG, ?_⟩
  refine ws_seq ?_
  walk_at "xs"
  have ol : Ord (ordOf cs) := ordOf_ord cs
  have ll : (ordOf cs).length ≤ 1001 := Nat.le_trans len_ordOf zc
  have hb : ∀ p ∈ ordOf cs, -1500 ≤ p.1 ∧ p.1 ≤ 1500 ∧ -1500 ≤ p.2 ∧ p.2 ≤ 1500 := fun p hp => by
    have := gc p (mem_ordOf.mp hp)
    unfold InC at this
    omega
  generalize hl : ordOf cs = l at ol ll hb
  have hn : l.Nodup := ol.nodup
  have hsz : (sides l).length ≤ 8000 := by have := sides_len l l; unfold sides; omega
  obtain ⟨hink, hclo, hback⟩ := ink_back ol hsz (by omega) hb
  have hO : ∀ o ∈ (visA l).2, o.2.length ≤ 1000000 := fun o ho => by
    obtain ⟨s, hs, rfl⟩ := vis_one ho
    show (ringS l s).length ≤ _
    rw [ring_len]
    exact Nat.le_trans (per_spec hs).2.1 (by omega)
  have hOl : (visA l).2.length ≤ 1000000 := by
    have h1 := (vis_perm hn).length_eq
    have h3 := len_le_flat (L := (visA l).2) fun o ho => by
      obtain ⟨s, hs, rfl⟩ := vis_one ho
      show 0 < (ringS l s).length
      rw [ring_len]; exact (per_spec hs).1
    omega
  have hot : (visA l).2.map outR = ((visA l).2.map outO).map outT := by
    rw [List.map_map]
    exact List.map_congr_left fun o _ => (outO_dt o).symm
  refine ws_seq ?_
  show WS K [] _ [.val (.scr ns), .val (.int g3), .acc (cs.map P2), .un, s4, .acc (l.map P2), .cel (.dN w (kvU (uniq (l.take 0)))), .un, .un, .un, .un, .un] _
  refine for_accT l P2 (fun i G => ∃ s3 : Sl, G = [.val (.scr ns), .val (.int g3), .acc (cs.map P2), s3, s4, .acc (l.map P2), .cel (.dN w (kvU (uniq (l.take i)))), .un, .un, .un, .un, .un]) rfl ⟨_, rfl⟩ (fun i G h => by obtain ⟨_, rfl⟩ := h; rfl) ?_ ?_
  · rintro i p G hp ⟨s3, rfl⟩
    have hi : i < l.length := (List.getElem?_eq_some_iff.mp hp).1
    have hst : l.take (i + 1) = l.take i ++ [p] := by rw [List.take_add_one, hp]; rfl
    have hlen : (kvU (uniq (l.take i))).length < 10000000 := by
      rw [len_kvU]
      refine Nat.lt_of_le_of_lt len_uniq ?_
      rw [List.length_take]; omega
    walk_at "xs"
    refine .a ⟨_, kP p, congrArg Re.val (dtN_kP p).symm, ⟨_, rfl⟩, kP_depth _, rfl, hlen, ?_⟩
    rw [putE_kvU, ← uniq_snoc, ← hst]
    exact .a ⟨_, rfl⟩
  · rintro G ⟨s3, rfl⟩
    rw [List.take_of_length_le (Nat.le_refl _), uniq_of hn]
    walk_at "es"
    refine .a ⟨l, rfl, hn, by omega, ?_⟩
    walk_at "es"
    refine .a ⟨cs, rfl, by omega, ?_⟩
    rw [hl]
    walk_at "es"
    refine .a ⟨l, rfl, by omega, ?_⟩
    walk_at "es"
    refine .a ⟨l, rfl, hn, by omega, ?_⟩
    walk_at "es"
    refine .a ⟨(visA l).2.map outO, by rw [← hot]; rfl, hink, fun i o ho hno _ => absurd (hclo o (List.mem_of_getElem? ho)) hno, fun _ => ?_⟩
    rw [hback]
    walk_at "es"
    refine .a ⟨l, rfl, by omega, ?_⟩
    walk_at "es"
    refine .a ⟨l, rfl, by omega, ?_⟩
    walk_at "es"
    refine .a ⟨l, rfl, by omega, ?_⟩
    walk_at "es"
    refine .a ⟨l, rfl, hn, by omega, ?_⟩
    walk_at "es"
    refine eqp_outs hO hOl ?_
    walk_at "es"
    refine .a ⟨l, rfl, by omega, ?_⟩
    walk_at "es"
    refine .a ⟨l, rfl, by omega, ?_⟩
    walk_at "es"
    exact post
end
end Lk32

namespace Lk32
open PySem L2 Ab Ik Strokes PySem.W
local macro_rules | `(tactic| walk_at "lk") => `(tactic| first | exact lk_Ink_cell_list | exact lk_Ink_known_cells | exact lk_Ink_left_ends | exact lk_Ink_right_ends | exact lk_Ink_no_cells | exact lk_Ink_no___contains__ | fail "lk")
section
variable {P : Program} {w : World} {K : PySem.W.Frag} {mg : Str → Option Value} {base : Heap}
theorem ikT (T : Txt P K mg) : IkOk K T.c_Ink := ⟨T.co_Ink, T.na_Ink_cell_list, T.na_Ink_known_cells, T.na_Ink_left_ends, T.na_Ink_right_ends⟩
theorem mvT (T : Txt P K mg) : MvOk K T.c_RIGHT T.c_UP T.c_LEFT T.c_DOWN := ⟨T.k_RIGHT, T.k_UP, T.k_LEFT, T.k_DOWN⟩
theorem ok_next_move (T : Txt P K mg) : FnOk P w K mg base CX0 1 T.f_next_move T.fd_next_move ["choices", "move"] (toSp K (Ik.ap_nm)) := by
  exact fn_ab [] T.F_next_move sc_next_move (by walk_at "len") rfl (fun cdv A outer s H E hr => ⟨_, tm_next_move T cdv A outer s H E hr, Ik.run_nm⟩)
theorem ok_ring_moves (T : Txt P K mg) : FnOk P w K mg base CX0 2 T.f_ring_moves T.fd_ring_moves ["moves", "corner", "move"] (toSp K (Ik.ap_rm w)) := by
  have G_next_move := ok_next_move (P := P) (w := w) (base := base) T
  exact fn_ab [0] T.F_ring_moves sc_ring_moves (by walk_at "len") rfl (fun cdv A outer s H E hr => ⟨_, tm_ring_moves T G_next_move cdv A outer s H E hr, Ik.run_rm⟩)
theorem ok_ring_strokes (T : Txt P K mg) : FnOk P w K mg base CX0 1 T.f_ring_strokes T.fd_ring_strokes ["ring"] (toSp K (Ik.ap_rst)) := by
  exact fn_ab [0] T.F_ring_strokes sc_ring_strokes (by walk_at "len") rfl (fun cdv A outer s H E hr => ⟨_, tm_ring_strokes T cdv A outer s H E hr, Ik.run_rst⟩)
theorem ok_sign (T : Txt P K mg) : FnOk P w K mg base CX0 1 T.f_sign T.fd_sign ["number"] (toSp K (ap_sign)) := by
  exact fn_ab [] T.F_sign sc_sign (by walk_at "len") rfl (fun cdv A outer s H E hr => ⟨_, tm_sign T cdv A outer s H E hr, run_tSign⟩)
theorem ok_line_steps (T : Txt P K mg) : FnOk P w K mg base CX0 2 T.f_line_steps T.fd_line_steps ["dx", "dy"] (toSp K (ap_line)) := by
  have G_sign := ok_sign (P := P) (w := w) (base := base) T
  exact fn_ab [] T.F_line_steps sc_line_steps (by walk_at "len") rfl (fun cdv A outer s H E hr => ⟨_, tm_line_steps T G_sign cdv A outer s H E hr, run_tLine⟩)
theorem ok_takes_first_move (T : Txt P K mg) : FnOk P w K mg base CX0 1 T.f_takes_first_move T.fd_takes_first_move ["a", "b", "radius"] (toSp K (ap_tf)) := by
  exact fn_ab [] T.F_takes_first_move sc_takes_first_move (by walk_at "len") rfl (fun cdv A outer s H E hr => ⟨_, tm_takes_first_move T cdv A outer s H E hr, run_tTf⟩)
theorem ok_arc_steps (T : Txt P K mg) : FnOk P w K mg base CX0 2 T.f_arc_steps T.fd_arc_steps ["first", "second", "radius"] (toSp K (ap_arc)) := by
  have G_takes_first_move := ok_takes_first_move (P := P) (w := w) (base := base) T
  exact fn_ab [] T.F_arc_steps sc_arc_steps (by walk_at "len") rfl (fun cdv A outer s H E hr => ⟨_, tm_arc_steps T G_takes_first_move cdv A outer s H E hr, run_tArc⟩)
theorem ok_unit_steps (T : Txt P K mg) : FnOk P w K mg base CX0 3 T.f_unit_steps T.fd_unit_steps ["stroke"] (toSp K (ap_unit)) := by
  have G_line_steps := ok_line_steps (P := P) (w := w) (base := base) T
  have G_sign := ok_sign (P := P) (w := w) (base := base) T
  have G_arc_steps := ok_arc_steps (P := P) (w := w) (base := base) T
  exact fn_ab [] T.F_unit_steps sc_unit_steps (by walk_at "len") rfl (fun cdv A outer s H E hr => ⟨_, tm_unit_steps T G_line_steps G_sign G_arc_steps cdv A outer s H E hr, run_tUnit⟩)
theorem ok_corners (T : Txt P K mg) : FnOk P w K mg base CX0 4 T.f_corners T.fd_corners ["outline"] (toSp K (ap_cor)) := by
  have G_unit_steps := ok_unit_steps (P := P) (w := w) (base := base) T
  exact fn_ab [] T.F_corners sc_corners (by walk_at "len") rfl (fun cdv A outer s H E hr => ⟨_, tm_corners T G_unit_steps cdv A outer s H E hr, run_corners⟩)
theorem ok_Ink___init__ (T : Txt P K mg) : FnOk P w K mg base CX0 1 T.f_Ink___init__ T.fd_Ink___init__ ["self", "cells"] (toSpIP K T.c_Ink (Ik.ai_Ink w)) := by
  exact fn_initP [1] T.F_Ink___init__ sc_Ink___init__ Ik.len_ai rfl (fun cdv A outer s H E hr => ⟨_, tm_Ink___init__ T cdv A outer s H E hr, Ik.run_ikinit (ikT T)⟩)
theorem ok_Ink_cells (T : Txt P K mg) : FnOk P w K mg base CX0 1 T.f_Ink_cells T.fd_Ink_cells ["self"] (toSp K (Ik.ap_cells T.c_Ink w)) := by
  exact fn_ab [] T.F_Ink_cells sc_Ink_cells (by walk_at "len") rfl (fun cdv A outer s H E hr => ⟨_, tm_Ink_cells T cdv A outer s H E hr, Ik.run_cells (ikT T)⟩)
theorem ok_Ink___contains__ (T : Txt P K mg) : FnOk P w K mg base CX0 1 T.f_Ink___contains__ T.fd_Ink___contains__ ["self", "cell"] (toSp K (Ik.ap_in T.c_Ink w)) := by
  exact fn_ab [] T.F_Ink___contains__ sc_Ink___contains__ (by walk_at "len") rfl (fun cdv A outer s H E hr => ⟨_, tm_Ink___contains__ T cdv A outer s H E hr, Ik.run_in (ikT T)⟩)
theorem ok_cell_sides (T : Txt P K mg) : FnOk P w K mg base CX0 2 T.f_cell_sides T.fd_cell_sides ["x", "y", "ink"] (toSp K (Ik.ap_csd T.c_Ink w)) := by
  have G_Ink___contains__ := ok_Ink___contains__ (P := P) (w := w) (base := base) T
  exact fn_ab [] T.F_cell_sides sc_cell_sides (by walk_at "len") rfl (fun cdv A outer s H E hr => ⟨_, tm_cell_sides T G_Ink___contains__ cdv A outer s H E hr, Ik.run_csd (ikT T) (mvT T)⟩)
theorem ok_border_moves (T : Txt P K mg) : FnOk P w K mg base CX0 3 T.f_border_moves T.fd_border_moves ["ink"] (toSp K (Ik.ap_bm T.c_Ink w)) := by
  have G_Ink_cells := ok_Ink_cells (P := P) (w := w) (base := base) T
  have G_cell_sides := ok_cell_sides (P := P) (w := w) (base := base) T
  exact fn_ab [] T.F_border_moves sc_border_moves (by walk_at "len") rfl (fun cdv A outer s H E hr => ⟨_, tm_border_moves T G_Ink_cells G_cell_sides cdv A outer s H E hr, Ik.run_bm (ikT T)⟩)
theorem ok_outlines_of (T : Txt P K mg) : FnOk P w K mg base CX0 4 T.f_outlines_of T.fd_outlines_of ["ink"] (toSp K (Ik.ap_out T.c_Ink w)) := by
  have G_border_moves := ok_border_moves (P := P) (w := w) (base := base) T
  have G_ring_moves := ok_ring_moves (P := P) (w := w) (base := base) T
  have G_ring_strokes := ok_ring_strokes (P := P) (w := w) (base := base) T
  exact fn_ab [] T.F_outlines_of sc_outlines_of (by walk_at "len") rfl (fun cdv A outer s H E hr => ⟨_, tm_outlines_of T G_border_moves G_ring_moves G_ring_strokes cdv A outer s H E hr, Ik.run_out (ikT T)⟩)
theorem ok_crossings_of (T : Txt P K mg) : FnOk P w K mg base (L2.CX P w) 5 T.f_crossings_of T.fd_crossings_of ["outlines"] (toSpX K (Ik.ap_cro T.c_OpenOutline)) := by
  have G_corners := ok_corners (P := P) (w := w) (base := base) T
  have GE_OpenOutline := okE_OpenOutline (P := P) (w := w) (base := base) T
  exact fn_abX [] T.F_crossings_of sc_crossings_of (by first | (rintro as Post XP ⟨g, r, rfl, _⟩; rfl) | (rintro as Post XP ⟨g, rfl, _⟩; rfl)) rfl _ (fun cdv A outer s H E hr => tm_crossings_of T G_corners GE_OpenOutline cdv A outer s H E hr) (Ik.run_cro)
theorem ok_ink_of (T : Txt P K mg) : FnOk P w K mg base (L2.CX P w) 6 T.f_ink_of T.fd_ink_of ["outlines"] (toSpX K (Ik.ap_ink T.c_Ink T.c_OpenOutline w)) := by
  have G_crossings_of := ok_crossings_of (P := P) (w := w) (base := base) T
  have G_Ink___init__ := ok_Ink___init__ (P := P) (w := w) (base := base) T
  exact fn_abX [] T.F_ink_of sc_ink_of (by first | (rintro as Post XP ⟨g, r, rfl, _⟩; rfl) | (rintro as Post XP ⟨g, rfl, _⟩; rfl)) rfl _ (fun cdv A outer s H E hr => tm_ink_of T G_crossings_of G_Ink___init__ cdv A outer s H E hr) (Ik.run_ink (ikT T))
theorem ok__law_pool (T : Txt P K mg) : FnOk P w K mg base CX0 1 T.f__law_pool T.fd__law_pool ["_law_script", "_law_at"] (toSp K (ap_pool)) := by
  exact fn_ab [] T.F__law_pool sc__law_pool (by walk_at "len") rfl (fun cdv A outer s H E hr => ⟨_, tm__law_pool T cdv A outer s H E hr, run_tPool⟩)
theorem ok__law_take (T : Txt P K mg) : FnOk P w K mg base CX0 1 T.f__law_take T.fd__law_take ["_law_pool_here", "_law_many"] (toSp K (ap_take)) := by
  exact fn_ab [0] T.F__law_take sc__law_take (by walk_at "len") rfl (fun cdv A outer s H E hr => ⟨_, tm__law_take T cdv A outer s H E hr, run_tTakeC⟩)
theorem ok__law_plate (T : Txt P K mg) : FnOk P w K mg base CX0 2 T.f__law_plate T.fd__law_plate ["_law_pool_here"] (toSp K (ap_plate)) := by
  have G__law_take := ok__law_take (P := P) (w := w) (base := base) T
  exact fn_ab [0] T.F__law_plate sc__law_plate (by walk_at "len") rfl (fun cdv A outer s H E hr => ⟨_, tm__law_plate T G__law_take cdv A outer s H E hr, run_plate⟩)
theorem ok__law_sides (T : Txt P K mg) : FnOk P w K mg base CX0 1 T.f__law_sides T.fd__law_sides ["_law_known"] (toSp K (ap_sides w)) := by
  exact fn_ab [0] T.F__law_sides sc__law_sides (by walk_at "len") rfl (fun cdv A outer s H E hr => ⟨_, tm__law_sides T cdv A outer s H E hr, run_sides⟩)
theorem ok__law_integer (T : Txt P K mg) : FnOk P w K mg base CX0 1 T.f__law_integer T.fd__law_integer ["_law_told_here"] (toSp K (ap_integer)) := by
  exact fn_ab [] T.F__law_integer sc__law_integer (by walk_at "len") rfl (fun cdv A outer s H E hr => ⟨_, tm__law_integer T cdv A outer s H E hr, run_integer⟩)
theorem ok__law_sign (T : Txt P K mg) : FnOk P w K mg base CX0 1 T.f__law_sign T.fd__law_sign ["_law_number"] (toSp K (ap_sign)) := by
  exact fn_ab [] T.F__law_sign sc__law_sign (by walk_at "len") rfl (fun cdv A outer s H E hr => ⟨_, tm__law_sign T cdv A outer s H E hr, run_lsign⟩)
theorem ok__law_formed (T : Txt P K mg) : FnOk P w K mg base CX0 2 T.f__law_formed T.fd__law_formed ["_law_outline", "_law_most"] (toSp K (ap_form)) := by
  have G__law_integer := ok__law_integer (P := P) (w := w) (base := base) T
  exact fn_ab [] T.F__law_formed sc__law_formed (by walk_at "len") rfl (fun cdv A outer s H E hr => ⟨_, tm__law_formed T G__law_integer cdv A outer s H E hr, run_form⟩)
theorem ok__law_told (T : Txt P K mg) : FnOk P w K mg base CX0 1 T.f__law_told T.fd__law_told ["_law_told_here", "_law_due"] (toSp K (ap_told)) := by
  exact fn_ab [0, 1] T.F__law_told sc__law_told (by walk_at "len") rfl (fun cdv A outer s H E hr => ⟨_, tm__law_told T cdv A outer s H E hr, run_told⟩)
theorem ok__law_order (T : Txt P K mg) : FnOk P w K mg base CX0 1 T.f__law_order T.fd__law_order ["_law_cells"] (toSp K (ap_order)) := by
  exact fn_ab [0] T.F__law_order sc__law_order (by walk_at "len") rfl (fun cdv A outer s H E hr => ⟨_, tm__law_order T cdv A outer s H E hr, run_order⟩)
theorem ok__law_walk (T : Txt P K mg) : FnOk P w K mg base CX0 2 T.f__law_walk T.fd__law_walk ["_law_outline", "_law_sides_here", "_law_walked"] (toSp K (ap_walk w)) := by
  have G__law_sign := ok__law_sign (P := P) (w := w) (base := base) T
  exact fn_ab [1, 2] T.F__law_walk sc__law_walk (by walk_at "len") rfl (fun cdv A outer s H E hr => ⟨_, tm__law_walk T G__law_sign cdv A outer s H E hr, run_walk⟩)
theorem ok__law_ring_right (T : Txt P K mg) : FnOk P w K mg base CX0 2 T.f__law_ring_right T.fd__law_ring_right ["_law_outline", "_law_steps", "_law_begun"] (toSp K (ap_rr w)) := by
  have G__law_sign := ok__law_sign (P := P) (w := w) (base := base) T
  exact fn_ab [1, 2] T.F__law_ring_right sc__law_ring_right (by walk_at "len") rfl (fun cdv A outer s H E hr => ⟨_, tm__law_ring_right T G__law_sign cdv A outer s H E hr, run_rr⟩)
theorem ok__law_outlines_right (T : Txt P K mg) : FnOk P w K mg base CX0 3 T.f__law_outlines_right T.fd__law_outlines_right ["_law_told_here", "_law_sides_here"] (toSp K (ap_or w)) := by
  have G__law_formed := ok__law_formed (P := P) (w := w) (base := base) T
  have G__law_walk := ok__law_walk (P := P) (w := w) (base := base) T
  have G__law_ring_right := ok__law_ring_right (P := P) (w := w) (base := base) T
  exact fn_ab [1] T.F__law_outlines_right sc__law_outlines_right (by walk_at "len") rfl (fun cdv A outer s H E hr => ⟨_, tm__law_outlines_right T G__law_formed G__law_walk G__law_ring_right cdv A outer s H E hr, run_or⟩)
theorem ok_law (T : Txt P K mg) : FnOk P w K mg base CX0 7 T.f_law T.fd_law ["_law_script"] (toSp K (ap_law)) := by
  have G__law_take := ok__law_take (P := P) (w := w) (base := base) T
  have G__law_pool := ok__law_pool (P := P) (w := w) (base := base) T
  have G__law_plate := ok__law_plate (P := P) (w := w) (base := base) T
  have G__law_order := ok__law_order (P := P) (w := w) (base := base) T
  have G__law_sides := ok__law_sides (P := P) (w := w) (base := base) T
  have G_Ink___init__ := ok_Ink___init__ (P := P) (w := w) (base := base) T
  have G_outlines_of := ok_outlines_of (P := P) (w := w) (base := base) T
  have G__law_outlines_right := ok__law_outlines_right (P := P) (w := w) (base := base) T
  have G_ink_of := ok_ink_of (P := P) (w := w) (base := base) T
  have G__law_told := ok__law_told (P := P) (w := w) (base := base) T
  have G_Ink_cells := ok_Ink_cells (P := P) (w := w) (base := base) T
  exact fn_ab [] T.F_law sc_law (by walk_at "len") rfl (fun cdv A outer s H E hr => ⟨_, tm_law T G__law_take G__law_pool G__law_plate G__law_order G__law_sides G_Ink___init__ G_outlines_of G__law_outlines_right G_ink_of G__law_told G_Ink_cells cdv A outer s H E hr, run_law (cO := T.c_OpenOutline) (ikT T)⟩)
end
theorem law_pre {ns : List Int} (hl : ns.length ≤ 63) {Post : Re → List Sl → Prop} (hp : ∀ as, Post (.val (.bl true)) as) : ap_law [.val (.scr ns)] Post := ⟨ns, rfl, hp _⟩
end Lk32

namespace Lk32
open PySem L2 Ab
theorem fin_mk {l : PySem.W.OpenLaw} {w : World} {K : PySem.W.Frag} {h : Heap} {mg : Str → Option Value} {fa : Addr} (X : K.In h) (G : h.Ns mainGlobals mg) (hfa : mg "law" = some (.ref fa))
    {c_Ink : Addr} (aInk : PySem.W.nsIn K mainGlobals "Ink" = some (some (.ref c_Ink)))
    (pgInk : PySem.W.plainGet K c_Ink Str.empty = true) (hdInk : PySem.W.hasDictIn K c_Ink = true) (poInk : PySem.W.plainOver K c_Ink = true) (saInk : PySem.W.findIn K (.ref c_Ink) "__setattr__" = some (some (.builtin "object.__setattr__"))) (mkInk : PySem.W.makesIn K c_Ink = true) (kcInk : PySem.W.keepIn K (.ref c_Ink) = true)
    (haInk : PySem.W.findIn K (.ref c_Ink) "__class__" = some (some (.builtin "object.__class__"))) (hmInk : PySem.W.mroIn K c_Ink (.type "object") = some true)
    (naInk_cell_list : PySem.W.findIn K (.ref c_Ink) "cell_list" = some none)
    (naInk_known_cells : PySem.W.findIn K (.ref c_Ink) "known_cells" = some none)
    (naInk_left_ends : PySem.W.findIn K (.ref c_Ink) "left_ends" = some none)
    (naInk_right_ends : PySem.W.findIn K (.ref c_Ink) "right_ends" = some none)
    (hnO : PySem.W.specialIn K (.builtin "object.__class__") "__get__" = some (some (.builtin "getset_descriptor.__get__"))) (htO : PySem.W.takesIn K (.builtin "object.__class__") = some true)
    {f0 : Addr} {od0 an0 : Option Addr} {sl0 : Array (Option Value)} {oc0 kV0 dc0 pm0 cd0 ct0 : Value}
    (a0 : PySem.W.nsIn K mainGlobals "cell_sides" = some (some (.ref f0))) (l0 : K.lookup f0 = some ⟨oc0, od0, .func (PySem.W.fnOf "cell_sides" "cell_sides" (defArgs s_cell_sides) (defBody s_cell_sides) (defScope s_cell_sides) .none kV0 dc0 pm0 an0 cd0 ct0), sl0⟩) (c0 : PySem.W.codeIn K cd0 "cell_sides" = true) (k0 : PySem.W.keepIn K (.ref f0) = true)
    {f1 : Addr} {od1 an1 : Option Addr} {sl1 : Array (Option Value)} {oc1 kV1 dc1 pm1 cd1 ct1 : Value}
    (a1 : PySem.W.nsIn K mainGlobals "border_moves" = some (some (.ref f1))) (l1 : K.lookup f1 = some ⟨oc1, od1, .func (PySem.W.fnOf "border_moves" "border_moves" (defArgs s_border_moves) (defBody s_border_moves) (defScope s_border_moves) .none kV1 dc1 pm1 an1 cd1 ct1), sl1⟩) (c1 : PySem.W.codeIn K cd1 "border_moves" = true) (k1 : PySem.W.keepIn K (.ref f1) = true)
    {f2 : Addr} {od2 an2 : Option Addr} {sl2 : Array (Option Value)} {oc2 kV2 dc2 pm2 cd2 ct2 : Value}
    (a2 : PySem.W.nsIn K mainGlobals "next_move" = some (some (.ref f2))) (l2 : K.lookup f2 = some ⟨oc2, od2, .func (PySem.W.fnOf "next_move" "next_move" (defArgs s_next_move) (defBody s_next_move) (defScope s_next_move) .none kV2 dc2 pm2 an2 cd2 ct2), sl2⟩) (c2 : PySem.W.codeIn K cd2 "next_move" = true) (k2 : PySem.W.keepIn K (.ref f2) = true)
    {f3 : Addr} {od3 an3 : Option Addr} {sl3 : Array (Option Value)} {oc3 kV3 dc3 pm3 cd3 ct3 : Value}
    (a3 : PySem.W.nsIn K mainGlobals "ring_moves" = some (some (.ref f3))) (l3 : K.lookup f3 = some ⟨oc3, od3, .func (PySem.W.fnOf "ring_moves" "ring_moves" (defArgs s_ring_moves) (defBody s_ring_moves) (defScope s_ring_moves) .none kV3 dc3 pm3 an3 cd3 ct3), sl3⟩) (c3 : PySem.W.codeIn K cd3 "ring_moves" = true) (k3 : PySem.W.keepIn K (.ref f3) = true)
    {f4 : Addr} {od4 an4 : Option Addr} {sl4 : Array (Option Value)} {oc4 kV4 dc4 pm4 cd4 ct4 : Value}
    (a4 : PySem.W.nsIn K mainGlobals "ring_strokes" = some (some (.ref f4))) (l4 : K.lookup f4 = some ⟨oc4, od4, .func (PySem.W.fnOf "ring_strokes" "ring_strokes" (defArgs s_ring_strokes) (defBody s_ring_strokes) (defScope s_ring_strokes) .none kV4 dc4 pm4 an4 cd4 ct4), sl4⟩) (c4 : PySem.W.codeIn K cd4 "ring_strokes" = true) (k4 : PySem.W.keepIn K (.ref f4) = true)
    {f5 : Addr} {od5 an5 : Option Addr} {sl5 : Array (Option Value)} {oc5 kV5 dc5 pm5 cd5 ct5 : Value}
    (a5 : PySem.W.nsIn K mainGlobals "outlines_of" = some (some (.ref f5))) (l5 : K.lookup f5 = some ⟨oc5, od5, .func (PySem.W.fnOf "outlines_of" "outlines_of" (defArgs s_outlines_of) (defBody s_outlines_of) (defScope s_outlines_of) .none kV5 dc5 pm5 an5 cd5 ct5), sl5⟩) (c5 : PySem.W.codeIn K cd5 "outlines_of" = true) (k5 : PySem.W.keepIn K (.ref f5) = true)
    {f6 : Addr} {od6 an6 : Option Addr} {sl6 : Array (Option Value)} {oc6 kV6 dc6 pm6 cd6 ct6 : Value}
    (a6 : PySem.W.nsIn K mainGlobals "sign" = some (some (.ref f6))) (l6 : K.lookup f6 = some ⟨oc6, od6, .func (PySem.W.fnOf "sign" "sign" (defArgs s_sign) (defBody s_sign) (defScope s_sign) .none kV6 dc6 pm6 an6 cd6 ct6), sl6⟩) (c6 : PySem.W.codeIn K cd6 "sign" = true) (k6 : PySem.W.keepIn K (.ref f6) = true)
    {f7 : Addr} {od7 an7 : Option Addr} {sl7 : Array (Option Value)} {oc7 kV7 dc7 pm7 cd7 ct7 : Value}
    (a7 : PySem.W.nsIn K mainGlobals "line_steps" = some (some (.ref f7))) (l7 : K.lookup f7 = some ⟨oc7, od7, .func (PySem.W.fnOf "line_steps" "line_steps" (defArgs s_line_steps) (defBody s_line_steps) (defScope s_line_steps) .none kV7 dc7 pm7 an7 cd7 ct7), sl7⟩) (c7 : PySem.W.codeIn K cd7 "line_steps" = true) (k7 : PySem.W.keepIn K (.ref f7) = true)
    {f8 : Addr} {od8 an8 : Option Addr} {sl8 : Array (Option Value)} {oc8 kV8 dc8 pm8 cd8 ct8 : Value}
    (a8 : PySem.W.nsIn K mainGlobals "takes_first_move" = some (some (.ref f8))) (l8 : K.lookup f8 = some ⟨oc8, od8, .func (PySem.W.fnOf "takes_first_move" "takes_first_move" (defArgs s_takes_first_move) (defBody s_takes_first_move) (defScope s_takes_first_move) .none kV8 dc8 pm8 an8 cd8 ct8), sl8⟩) (c8 : PySem.W.codeIn K cd8 "takes_first_move" = true) (k8 : PySem.W.keepIn K (.ref f8) = true)
    {f9 : Addr} {od9 an9 : Option Addr} {sl9 : Array (Option Value)} {oc9 kV9 dc9 pm9 cd9 ct9 : Value}
    (a9 : PySem.W.nsIn K mainGlobals "arc_steps" = some (some (.ref f9))) (l9 : K.lookup f9 = some ⟨oc9, od9, .func (PySem.W.fnOf "arc_steps" "arc_steps" (defArgs s_arc_steps) (defBody s_arc_steps) (defScope s_arc_steps) .none kV9 dc9 pm9 an9 cd9 ct9), sl9⟩) (c9 : PySem.W.codeIn K cd9 "arc_steps" = true) (k9 : PySem.W.keepIn K (.ref f9) = true)
    {f10 : Addr} {od10 an10 : Option Addr} {sl10 : Array (Option Value)} {oc10 kV10 dc10 pm10 cd10 ct10 : Value}
    (a10 : PySem.W.nsIn K mainGlobals "unit_steps" = some (some (.ref f10))) (l10 : K.lookup f10 = some ⟨oc10, od10, .func (PySem.W.fnOf "unit_steps" "unit_steps" (defArgs s_unit_steps) (defBody s_unit_steps) (defScope s_unit_steps) .none kV10 dc10 pm10 an10 cd10 ct10), sl10⟩) (c10 : PySem.W.codeIn K cd10 "unit_steps" = true) (k10 : PySem.W.keepIn K (.ref f10) = true)
    {f11 : Addr} {od11 an11 : Option Addr} {sl11 : Array (Option Value)} {oc11 kV11 dc11 pm11 cd11 ct11 : Value}
    (a11 : PySem.W.nsIn K mainGlobals "corners" = some (some (.ref f11))) (l11 : K.lookup f11 = some ⟨oc11, od11, .func (PySem.W.fnOf "corners" "corners" (defArgs s_corners) (defBody s_corners) (defScope s_corners) .none kV11 dc11 pm11 an11 cd11 ct11), sl11⟩) (c11 : PySem.W.codeIn K cd11 "corners" = true) (k11 : PySem.W.keepIn K (.ref f11) = true)
    {f12 : Addr} {od12 an12 : Option Addr} {sl12 : Array (Option Value)} {oc12 kV12 dc12 pm12 cd12 ct12 : Value}
    (a12 : PySem.W.findIn K (.ref c_Ink) "__init__" = some (some (.ref f12))) (l12 : K.lookup f12 = some ⟨oc12, od12, .func (PySem.W.fnOf "__init__" "Ink.__init__" (defArgs s_Ink___init__) (defBody s_Ink___init__) (defScope s_Ink___init__) .none kV12 dc12 pm12 an12 cd12 ct12), sl12⟩) (c12 : PySem.W.codeIn K cd12 "Ink.__init__" = true) (k12 : PySem.W.keepIn K (.ref f12) = true)
    (i12 : PySem.W.isFn K (.ref f12) = true)
    {f13 : Addr} {od13 an13 : Option Addr} {sl13 : Array (Option Value)} {oc13 kV13 dc13 pm13 cd13 ct13 : Value}
    (a13 : PySem.W.findIn K (.ref c_Ink) "cells" = some (some (.ref f13))) (l13 : K.lookup f13 = some ⟨oc13, od13, .func (PySem.W.fnOf "cells" "Ink.cells" (defArgs s_Ink_cells) (defBody s_Ink_cells) (defScope s_Ink_cells) .none kV13 dc13 pm13 an13 cd13 ct13), sl13⟩) (c13 : PySem.W.codeIn K cd13 "Ink.cells" = true) (k13 : PySem.W.keepIn K (.ref f13) = true)
    (i13 : PySem.W.isFn K (.ref f13) = true)
    {f14 : Addr} {od14 an14 : Option Addr} {sl14 : Array (Option Value)} {oc14 kV14 dc14 pm14 cd14 ct14 : Value}
    (a14 : PySem.W.findIn K (.ref c_Ink) "__contains__" = some (some (.ref f14))) (l14 : K.lookup f14 = some ⟨oc14, od14, .func (PySem.W.fnOf "__contains__" "Ink.__contains__" (defArgs s_Ink___contains__) (defBody s_Ink___contains__) (defScope s_Ink___contains__) .none kV14 dc14 pm14 an14 cd14 ct14), sl14⟩) (c14 : PySem.W.codeIn K cd14 "Ink.__contains__" = true) (k14 : PySem.W.keepIn K (.ref f14) = true)
    (i14 : PySem.W.isFn K (.ref f14) = true)
    {f15 : Addr} {od15 an15 : Option Addr} {sl15 : Array (Option Value)} {oc15 kV15 dc15 pm15 cd15 ct15 : Value}
    (a15 : PySem.W.nsIn K mainGlobals "crossings_of" = some (some (.ref f15))) (l15 : K.lookup f15 = some ⟨oc15, od15, .func (PySem.W.fnOf "crossings_of" "crossings_of" (defArgs s_crossings_of) (defBody s_crossings_of) (defScope s_crossings_of) .none kV15 dc15 pm15 an15 cd15 ct15), sl15⟩) (c15 : PySem.W.codeIn K cd15 "crossings_of" = true) (k15 : PySem.W.keepIn K (.ref f15) = true)
    {f16 : Addr} {od16 an16 : Option Addr} {sl16 : Array (Option Value)} {oc16 kV16 dc16 pm16 cd16 ct16 : Value}
    (a16 : PySem.W.nsIn K mainGlobals "ink_of" = some (some (.ref f16))) (l16 : K.lookup f16 = some ⟨oc16, od16, .func (PySem.W.fnOf "ink_of" "ink_of" (defArgs s_ink_of) (defBody s_ink_of) (defScope s_ink_of) .none kV16 dc16 pm16 an16 cd16 ct16), sl16⟩) (c16 : PySem.W.codeIn K cd16 "ink_of" = true) (k16 : PySem.W.keepIn K (.ref f16) = true)
    {f17 : Addr} {od17 an17 : Option Addr} {sl17 : Array (Option Value)} {oc17 kV17 dc17 pm17 cd17 ct17 : Value}
    (a17 : PySem.W.nsIn K mainGlobals "_law_pool" = some (some (.ref f17))) (l17 : K.lookup f17 = some ⟨oc17, od17, .func (PySem.W.fnOf "_law_pool" "_law_pool" (defArgs s__law_pool) (defBody s__law_pool) (defScope s__law_pool) .none kV17 dc17 pm17 an17 cd17 ct17), sl17⟩) (c17 : PySem.W.codeIn K cd17 "_law_pool" = true) (k17 : PySem.W.keepIn K (.ref f17) = true)
    {f18 : Addr} {od18 an18 : Option Addr} {sl18 : Array (Option Value)} {oc18 kV18 dc18 pm18 cd18 ct18 : Value}
    (a18 : PySem.W.nsIn K mainGlobals "_law_take" = some (some (.ref f18))) (l18 : K.lookup f18 = some ⟨oc18, od18, .func (PySem.W.fnOf "_law_take" "_law_take" (defArgs s__law_take) (defBody s__law_take) (defScope s__law_take) .none kV18 dc18 pm18 an18 cd18 ct18), sl18⟩) (c18 : PySem.W.codeIn K cd18 "_law_take" = true) (k18 : PySem.W.keepIn K (.ref f18) = true)
    {f19 : Addr} {od19 an19 : Option Addr} {sl19 : Array (Option Value)} {oc19 kV19 dc19 pm19 cd19 ct19 : Value}
    (a19 : PySem.W.nsIn K mainGlobals "_law_plate" = some (some (.ref f19))) (l19 : K.lookup f19 = some ⟨oc19, od19, .func (PySem.W.fnOf "_law_plate" "_law_plate" (defArgs s__law_plate) (defBody s__law_plate) (defScope s__law_plate) .none kV19 dc19 pm19 an19 cd19 ct19), sl19⟩) (c19 : PySem.W.codeIn K cd19 "_law_plate" = true) (k19 : PySem.W.keepIn K (.ref f19) = true)
    {f20 : Addr} {od20 an20 : Option Addr} {sl20 : Array (Option Value)} {oc20 kV20 dc20 pm20 cd20 ct20 : Value}
    (a20 : PySem.W.nsIn K mainGlobals "_law_sides" = some (some (.ref f20))) (l20 : K.lookup f20 = some ⟨oc20, od20, .func (PySem.W.fnOf "_law_sides" "_law_sides" (defArgs s__law_sides) (defBody s__law_sides) (defScope s__law_sides) .none kV20 dc20 pm20 an20 cd20 ct20), sl20⟩) (c20 : PySem.W.codeIn K cd20 "_law_sides" = true) (k20 : PySem.W.keepIn K (.ref f20) = true)
    {f21 : Addr} {od21 an21 : Option Addr} {sl21 : Array (Option Value)} {oc21 kV21 dc21 pm21 cd21 ct21 : Value}
    (a21 : PySem.W.nsIn K mainGlobals "_law_integer" = some (some (.ref f21))) (l21 : K.lookup f21 = some ⟨oc21, od21, .func (PySem.W.fnOf "_law_integer" "_law_integer" (defArgs s__law_integer) (defBody s__law_integer) (defScope s__law_integer) .none kV21 dc21 pm21 an21 cd21 ct21), sl21⟩) (c21 : PySem.W.codeIn K cd21 "_law_integer" = true) (k21 : PySem.W.keepIn K (.ref f21) = true)
    {f22 : Addr} {od22 an22 : Option Addr} {sl22 : Array (Option Value)} {oc22 kV22 dc22 pm22 cd22 ct22 : Value}
    (a22 : PySem.W.nsIn K mainGlobals "_law_sign" = some (some (.ref f22))) (l22 : K.lookup f22 = some ⟨oc22, od22, .func (PySem.W.fnOf "_law_sign" "_law_sign" (defArgs s__law_sign) (defBody s__law_sign) (defScope s__law_sign) .none kV22 dc22 pm22 an22 cd22 ct22), sl22⟩) (c22 : PySem.W.codeIn K cd22 "_law_sign" = true) (k22 : PySem.W.keepIn K (.ref f22) = true)
    {f23 : Addr} {od23 an23 : Option Addr} {sl23 : Array (Option Value)} {oc23 kV23 dc23 pm23 cd23 ct23 : Value}
    (a23 : PySem.W.nsIn K mainGlobals "_law_formed" = some (some (.ref f23))) (l23 : K.lookup f23 = some ⟨oc23, od23, .func (PySem.W.fnOf "_law_formed" "_law_formed" (defArgs s__law_formed) (defBody s__law_formed) (defScope s__law_formed) .none kV23 dc23 pm23 an23 cd23 ct23), sl23⟩) (c23 : PySem.W.codeIn K cd23 "_law_formed" = true) (k23 : PySem.W.keepIn K (.ref f23) = true)
    {f24 : Addr} {od24 an24 : Option Addr} {sl24 : Array (Option Value)} {oc24 kV24 dc24 pm24 cd24 ct24 : Value}
    (a24 : PySem.W.nsIn K mainGlobals "_law_told" = some (some (.ref f24))) (l24 : K.lookup f24 = some ⟨oc24, od24, .func (PySem.W.fnOf "_law_told" "_law_told" (defArgs s__law_told) (defBody s__law_told) (defScope s__law_told) .none kV24 dc24 pm24 an24 cd24 ct24), sl24⟩) (c24 : PySem.W.codeIn K cd24 "_law_told" = true) (k24 : PySem.W.keepIn K (.ref f24) = true)
    {f25 : Addr} {od25 an25 : Option Addr} {sl25 : Array (Option Value)} {oc25 kV25 dc25 pm25 cd25 ct25 : Value}
    (a25 : PySem.W.nsIn K mainGlobals "_law_order" = some (some (.ref f25))) (l25 : K.lookup f25 = some ⟨oc25, od25, .func (PySem.W.fnOf "_law_order" "_law_order" (defArgs s__law_order) (defBody s__law_order) (defScope s__law_order) .none kV25 dc25 pm25 an25 cd25 ct25), sl25⟩) (c25 : PySem.W.codeIn K cd25 "_law_order" = true) (k25 : PySem.W.keepIn K (.ref f25) = true)
    {f26 : Addr} {od26 an26 : Option Addr} {sl26 : Array (Option Value)} {oc26 kV26 dc26 pm26 cd26 ct26 : Value}
    (a26 : PySem.W.nsIn K mainGlobals "_law_walk" = some (some (.ref f26))) (l26 : K.lookup f26 = some ⟨oc26, od26, .func (PySem.W.fnOf "_law_walk" "_law_walk" (defArgs s__law_walk) (defBody s__law_walk) (defScope s__law_walk) .none kV26 dc26 pm26 an26 cd26 ct26), sl26⟩) (c26 : PySem.W.codeIn K cd26 "_law_walk" = true) (k26 : PySem.W.keepIn K (.ref f26) = true)
    {f27 : Addr} {od27 an27 : Option Addr} {sl27 : Array (Option Value)} {oc27 kV27 dc27 pm27 cd27 ct27 : Value}
    (a27 : PySem.W.nsIn K mainGlobals "_law_ring_right" = some (some (.ref f27))) (l27 : K.lookup f27 = some ⟨oc27, od27, .func (PySem.W.fnOf "_law_ring_right" "_law_ring_right" (defArgs s__law_ring_right) (defBody s__law_ring_right) (defScope s__law_ring_right) .none kV27 dc27 pm27 an27 cd27 ct27), sl27⟩) (c27 : PySem.W.codeIn K cd27 "_law_ring_right" = true) (k27 : PySem.W.keepIn K (.ref f27) = true)
    {f28 : Addr} {od28 an28 : Option Addr} {sl28 : Array (Option Value)} {oc28 kV28 dc28 pm28 cd28 ct28 : Value}
    (a28 : PySem.W.nsIn K mainGlobals "_law_outlines_right" = some (some (.ref f28))) (l28 : K.lookup f28 = some ⟨oc28, od28, .func (PySem.W.fnOf "_law_outlines_right" "_law_outlines_right" (defArgs s__law_outlines_right) (defBody s__law_outlines_right) (defScope s__law_outlines_right) .none kV28 dc28 pm28 an28 cd28 ct28), sl28⟩) (c28 : PySem.W.codeIn K cd28 "_law_outlines_right" = true) (k28 : PySem.W.keepIn K (.ref f28) = true)
    {f29 : Addr} {od29 an29 : Option Addr} {sl29 : Array (Option Value)} {oc29 kV29 dc29 pm29 cd29 ct29 : Value}
    (a29 : PySem.W.nsIn K mainGlobals "law" = some (some (.ref f29))) (l29 : K.lookup f29 = some ⟨oc29, od29, .func (PySem.W.fnOf "law" "law" (defArgs s_law) (defBody s_law) (defScope s_law) .none kV29 dc29 pm29 an29 cd29 ct29), sl29⟩) (c29 : PySem.W.codeIn K cd29 "law" = true) (k29 : PySem.W.keepIn K (.ref f29) = true)
    (z_abs : PySem.W.nsIn K mainGlobals "abs" = some none)
    (z_bool : PySem.W.nsIn K mainGlobals "bool" = some none)
    (z_enumerate : PySem.W.nsIn K mainGlobals "enumerate" = some none)
    (z_int : PySem.W.nsIn K mainGlobals "int" = some none)
    (z_isinstance : PySem.W.nsIn K mainGlobals "isinstance" = some none)
    (z_len : PySem.W.nsIn K mainGlobals "len" = some none)
    (z_list : PySem.W.nsIn K mainGlobals "list" = some none)
    (z_min : PySem.W.nsIn K mainGlobals "min" = some none)
    (z_range : PySem.W.nsIn K mainGlobals "range" = some none)
    (z_sorted : PySem.W.nsIn K mainGlobals "sorted" = some none)
    (z_str : PySem.W.nsIn K mainGlobals "str" = some none)
    (z_super : PySem.W.nsIn K mainGlobals "super" = some none)
    (z_tuple : PySem.W.nsIn K mainGlobals "tuple" = some none)
    {c_RIGHT : Addr} {od_RIGHT : Option Addr} {its_RIGHT : Array Value} {n_RIGHT : Nat} {sl_RIGHT : Array (Option Value)} (a_RIGHT : PySem.W.nsIn K mainGlobals "RIGHT" = some (some (.ref c_RIGHT))) (l_RIGHT : K.lookup c_RIGHT = some ⟨.type "tuple", od_RIGHT, .seq its_RIGHT n_RIGHT, sl_RIGHT⟩) (s_RIGHT : its_RIGHT.size ≤ sizeLine) (v_RIGHT : Vals [.int 1, .int 0] its_RIGHT.toList)
    {c_UP : Addr} {od_UP : Option Addr} {its_UP : Array Value} {n_UP : Nat} {sl_UP : Array (Option Value)} (a_UP : PySem.W.nsIn K mainGlobals "UP" = some (some (.ref c_UP))) (l_UP : K.lookup c_UP = some ⟨.type "tuple", od_UP, .seq its_UP n_UP, sl_UP⟩) (s_UP : its_UP.size ≤ sizeLine) (v_UP : Vals [.int 0, .int 1] its_UP.toList)
    {c_LEFT : Addr} {od_LEFT : Option Addr} {its_LEFT : Array Value} {n_LEFT : Nat} {sl_LEFT : Array (Option Value)} (a_LEFT : PySem.W.nsIn K mainGlobals "LEFT" = some (some (.ref c_LEFT))) (l_LEFT : K.lookup c_LEFT = some ⟨.type "tuple", od_LEFT, .seq its_LEFT n_LEFT, sl_LEFT⟩) (s_LEFT : its_LEFT.size ≤ sizeLine) (v_LEFT : Vals [.int (-1), .int 0] its_LEFT.toList)
    {c_DOWN : Addr} {od_DOWN : Option Addr} {its_DOWN : Array Value} {n_DOWN : Nat} {sl_DOWN : Array (Option Value)} (a_DOWN : PySem.W.nsIn K mainGlobals "DOWN" = some (some (.ref c_DOWN))) (l_DOWN : K.lookup c_DOWN = some ⟨.type "tuple", od_DOWN, .seq its_DOWN n_DOWN, sl_DOWN⟩) (s_DOWN : its_DOWN.size ≤ sizeLine) (v_DOWN : Vals [.int 0, .int (-1)] its_DOWN.toList)
    {c_OpenOutline : Addr} (a_OpenOutline : PySem.W.nsIn K mainGlobals "OpenOutline" = some (some (.ref c_OpenOutline))) (bs_OpenOutline : PySem.W.subIn K (.ref c_OpenOutline) (.type "BaseException") = some true) (tx_OpenOutline : PySem.W.typeIn K (.ref c_OpenOutline) = some (.type "type")) (hd_OpenOutline : PySem.W.hasDictIn K c_OpenOutline = true)
    (ga_OpenOutline : PySem.W.findIn K (.ref c_OpenOutline) "__getattribute__" = some (some (.builtin "BaseException.__getattribute__"))) (gg_OpenOutline : PySem.W.findIn K (.ref c_OpenOutline) "__getattr__" = some none) (cl_OpenOutline : PySem.W.findIn K (.ref c_OpenOutline) "__class__" = some (some (.builtin "object.__class__"))) (mo_OpenOutline : PySem.W.mroIn K c_OpenOutline (.type "object") = some true) (kx_OpenOutline : PySem.W.keepIn K (.ref c_OpenOutline) = true)
    (va_OpenOutline : PySem.W.subIn K (.ref c_OpenOutline) (.type "ValueError") = some true)
    (ks_ev : subTab K [c_OpenOutline] = true)
    (opq : PySem.W.nsIn K cStatics "thirdparty.any" = some none) (top0 : (l.prog.main.scope.names.lookup ("super" : Str)).isSome = false)
    {nm_OpenOutline qn_OpenOutline : Str} {N_OpenOutline : Addr} {bs__OpenOutline bm_OpenOutline : List Value} {sn_OpenOutline : List Str} {sub_OpenOutline : List Value} {ab_OpenOutline : Bool} {col_OpenOutline : Option Bool} {dd_OpenOutline : Option Addr} {k0_OpenOutline k1_OpenOutline k2_OpenOutline k3_OpenOutline k5_OpenOutline : Option Value} (oc_OpenOutline : K.lookup c_OpenOutline = some (excClassObj nm_OpenOutline qn_OpenOutline c_OpenOutline N_OpenOutline bs__OpenOutline bm_OpenOutline true sn_OpenOutline sub_OpenOutline ab_OpenOutline col_OpenOutline dd_OpenOutline k0_OpenOutline k1_OpenOutline k2_OpenOutline k3_OpenOutline k5_OpenOutline "ValueError.__new__")) (rv_OpenOutline : PySem.HandSPX.refsVE bm_OpenOutline = true) (oa_OpenOutline : PySem.W.findIn K (.ref c_OpenOutline) "__setattr__" = some (some (.builtin "object.__setattr__")))
    {fi_OpenOutline cc_OpenOutline cda_OpenOutline : Addr} {fo_OpenOutline kV_OpenOutline dc_OpenOutline pm_OpenOutline ct_OpenOutline ccl_OpenOutline cl__OpenOutline : Value} {fd_OpenOutline an_OpenOutline cdd_OpenOutline cld_OpenOutline : Option Addr} {fs_OpenOutline ccs_OpenOutline csl_OpenOutline : Array (Option Value)} {vs_OpenOutline : Array Value} {file_OpenOutline : Str} {tf_OpenOutline : Tok} (ic_OpenOutline : PySem.W.findIn K (.ref c_OpenOutline) "__init__" = some (some (.ref fi_OpenOutline))) (ti_OpenOutline : PySem.W.typeIn K (.ref fi_OpenOutline) = some (.type "function"))
    (lk_OpenOutline : K.lookup fi_OpenOutline = some ⟨fo_OpenOutline, fd_OpenOutline, .func (PySem.W.fnX "__init__" "OpenOutline.__init__" (defArgs s_OpenOutline___init__) (defBody s_OpenOutline___init__) (defScope s_OpenOutline___init__) [("__class__", cc_OpenOutline)] .none kV_OpenOutline dc_OpenOutline pm_OpenOutline an_OpenOutline (.ref cda_OpenOutline) ct_OpenOutline), fs_OpenOutline⟩) (cq_OpenOutline : PySem.W.codeIn K (.ref cda_OpenOutline) "OpenOutline.__init__" = true)
    (co_OpenOutline : K.lookup cda_OpenOutline = some ⟨ccl_OpenOutline, cdd_OpenOutline, .fields vs_OpenOutline, ccs_OpenOutline⟩) (fv_OpenOutline : vs_OpenOutline[2]? = some (.str file_OpenOutline tf_OpenOutline)) (fe_OpenOutline : ((l.prog.main.file : Str) == file_OpenOutline) = true) (ce_OpenOutline : K.lookup cc_OpenOutline = some ⟨cl__OpenOutline, cld_OpenOutline, .cell (some (.ref c_OpenOutline)), csl_OpenOutline⟩) (su_OpenOutline : PySem.W.ks_superIn K c_OpenOutline c_OpenOutline "__init__" = some (some (.builtin "ValueError.__init__")))
    (na_OpenOutline_place : PySem.W.findIn K (.ref c_OpenOutline) "place" = some none)
    : ∃ fd : FuncData, (∀ (s : Shared) (v : Value), BindsTo s fd ⟨[v], []⟩ [("_law_script", v)]) ∧ ∀ base : Heap, K.In base → base.Ns mainGlobals mg → FnOk l.prog w K mg base CX0 7 fa fd ["_law_script"] (toSp K ap_law) := by
  obtain ⟨T, e, hb⟩ := txt_mk X G aInk pgInk hdInk poInk saInk mkInk kcInk haInk hmInk naInk_cell_list naInk_known_cells naInk_left_ends naInk_right_ends hnO htO a0 l0 c0 k0 a1 l1 c1 k1 a2 l2 c2 k2 a3 l3 c3 k3 a4 l4 c4 k4 a5 l5 c5 k5 a6 l6 c6 k6 a7 l7 c7 k7 a8 l8 c8 k8 a9 l9 c9 k9 a10 l10 c10 k10 a11 l11 c11 k11 a12 l12 c12 k12 i12 a13 l13 c13 k13 i13 a14 l14 c14 k14 i14 a15 l15 c15 k15 a16 l16 c16 k16 a17 l17 c17 k17 a18 l18 c18 k18 a19 l19 c19 k19 a20 l20 c20 k20 a21 l21 c21 k21 a22 l22 c22 k22 a23 l23 c23 k23 a24 l24 c24 k24 a25 l25 c25 k25 a26 l26 c26 k26 a27 l27 c27 k27 a28 l28 c28 k28 a29 l29 c29 k29 z_abs z_bool z_enumerate z_int z_isinstance z_len z_list z_min z_range z_sorted z_str z_super z_tuple a_RIGHT l_RIGHT s_RIGHT v_RIGHT a_UP l_UP s_UP v_UP a_LEFT l_LEFT s_LEFT v_LEFT a_DOWN l_DOWN s_DOWN v_DOWN a_OpenOutline bs_OpenOutline tx_OpenOutline hd_OpenOutline ga_OpenOutline gg_OpenOutline cl_OpenOutline mo_OpenOutline kx_OpenOutline va_OpenOutline ks_ev opq top0 oc_OpenOutline rv_OpenOutline oa_OpenOutline ic_OpenOutline ti_OpenOutline lk_OpenOutline cq_OpenOutline co_OpenOutline fv_OpenOutline fe_OpenOutline ce_OpenOutline su_OpenOutline na_OpenOutline_place
  have e2 : T.f_law = fa := by
    have := T.g_law
    rw [hfa] at this
    cases this
    rfl
  exact ⟨T.fd_law, hb, fun base _ _ => by rw [← e2]; exact ok_law T⟩
end Lk32

end Ik
open PySem PySem.W PyProof.Rows
set_option maxRecDepth 100000 in
set_option maxHeartbeats 0 in
theorem PySem.Challenge.cw_stylepages_k32_whole_outlines_there_and_holds : PySem.Challenge.rw_stylepages_k32_whole_outlines_there_and.Holds := by
  w_on; o_law; k_head; (case hw => w_witness2)
  k_fill
  refine L2.walk_of (l := PySem.Challenge.rw_stylepages_k32_whole_outlines_there_and) (n := 63) (k := 7) (x := "_law_script") (CX := fun _ => L2.CX0) (sp := fun w => Ab.toSp _ Ik.Lk32.ap_law) rfl (by decide) rfl ⟨rfl, by decide, by decide⟩ (fun w h Y => PySem.W.kIn_of Y) ?F (fun _ _ a ns hl _ hS => Ab.law_sp hS (fun Post hp => Ik.Lk32.law_pre hl hp)) (fun _ _ _ _ _ h => h)
  case F =>
    intro w mg fa h KX G hmg
    refine' Ik.Lk32.fin_mk KX G hmg ?aInk ?pgInk ?hdInk ?poInk ?saInk ?mkInk ?kcInk ?haInk ?hmInk ?naInk_cell_list ?naInk_known_cells ?naInk_left_ends ?naInk_right_ends ?hnO ?htO ?a0 ?l0 ?c0 ?k0 ?a1 ?l1 ?c1 ?k1 ?a2 ?l2 ?c2 ?k2 ?a3 ?l3 ?c3 ?k3 ?a4 ?l4 ?c4 ?k4 ?a5 ?l5 ?c5 ?k5 ?a6 ?l6 ?c6 ?k6 ?a7 ?l7 ?c7 ?k7 ?a8 ?l8 ?c8 ?k8 ?a9 ?l9 ?c9 ?k9 ?a10 ?l10 ?c10 ?k10 ?a11 ?l11 ?c11 ?k11 ?a12 ?l12 ?c12 ?k12 ?i12 ?a13 ?l13 ?c13 ?k13 ?i13 ?a14 ?l14 ?c14 ?k14 ?i14 ?a15 ?l15 ?c15 ?k15 ?a16 ?l16 ?c16 ?k16 ?a17 ?l17 ?c17 ?k17 ?a18 ?l18 ?c18 ?k18 ?a19 ?l19 ?c19 ?k19 ?a20 ?l20 ?c20 ?k20 ?a21 ?l21 ?c21 ?k21 ?a22 ?l22 ?c22 ?k22 ?a23 ?l23 ?c23 ?k23 ?a24 ?l24 ?c24 ?k24 ?a25 ?l25 ?c25 ?k25 ?a26 ?l26 ?c26 ?k26 ?a27 ?l27 ?c27 ?k27 ?a28 ?l28 ?c28 ?k28 ?a29 ?l29 ?c29 ?k29 ?z_abs ?z_bool ?z_enumerate ?z_int ?z_isinstance ?z_len ?z_list ?z_min ?z_range ?z_sorted ?z_str ?z_super ?z_tuple ?a_RIGHT ?l_RIGHT ?s_RIGHT ?v_RIGHT ?a_UP ?l_UP ?s_UP ?v_UP ?a_LEFT ?l_LEFT ?s_LEFT ?v_LEFT ?a_DOWN ?l_DOWN ?s_DOWN ?v_DOWN ?a_OpenOutline ?bs_OpenOutline ?tx_OpenOutline ?hd_OpenOutline ?ga_OpenOutline ?gg_OpenOutline ?cl_OpenOutline ?mo_OpenOutline ?kx_OpenOutline ?va_OpenOutline ?ks_ev ?opq ?top0 ?oc_OpenOutline ?rv_OpenOutline ?oa_OpenOutline ?ic_OpenOutline ?ti_OpenOutline ?lk_OpenOutline ?cq_OpenOutline ?co_OpenOutline ?fv_OpenOutline ?fe_OpenOutline ?ce_OpenOutline ?su_OpenOutline ?na_OpenOutline_place
    (case aInk => k_is); (case pgInk => k_is); (case hdInk => k_is); (case poInk => k_is); (case saInk => k_is); (case mkInk => k_is); (case kcInk => k_is); (case haInk => k_is); (case hmInk => k_is); (case naInk_cell_list => k_is); (case naInk_known_cells => k_is); (case naInk_left_ends => k_is); (case naInk_right_ends => k_is); (case hnO => k_is); (case htO => k_is); (case a0 => k_is); (case l0 => k_is); (case c0 => k_is); (case k0 => k_is); (case a1 => k_is); (case l1 => k_is); (case c1 => k_is); (case k1 => k_is); (case a2 => k_is); (case l2 => k_is); (case c2 => k_is); (case k2 => k_is); (case a3 => k_is); (case l3 => k_is); (case c3 => k_is); (case k3 => k_is); (case a4 => k_is); (case l4 => k_is); (case c4 => k_is); (case k4 => k_is); (case a5 => k_is); (case l5 => k_is); (case c5 => k_is); (case k5 => k_is); (case a6 => k_is); (case l6 => k_is); (case c6 => k_is); (case k6 => k_is); (case a7 => k_is); (case l7 => k_is); (case c7 => k_is); (case k7 => k_is); (case a8 => k_is); (case l8 => k_is); (case c8 => k_is); (case k8 => k_is); (case a9 => k_is); (case l9 => k_is); (case c9 => k_is); (case k9 => k_is); (case a10 => k_is); (case l10 => k_is); (case c10 => k_is); (case k10 => k_is); (case a11 => k_is); (case l11 => k_is); (case c11 => k_is); (case k11 => k_is); (case a12 => k_is); (case l12 => k_is); (case c12 => k_is); (case k12 => k_is); (case i12 => k_is); (case a13 => k_is); (case l13 => k_is); (case c13 => k_is); (case k13 => k_is); (case i13 => k_is); (case a14 => k_is); (case l14 => k_is); (case c14 => k_is); (case k14 => k_is); (case i14 => k_is); (case a15 => k_is); (case l15 => k_is); (case c15 => k_is); (case k15 => k_is); (case a16 => k_is); (case l16 => k_is); (case c16 => k_is); (case k16 => k_is); (case a17 => k_is); (case l17 => k_is); (case c17 => k_is); (case k17 => k_is); (case a18 => k_is); (case l18 => k_is); (case c18 => k_is); (case k18 => k_is); (case a19 => k_is); (case l19 => k_is); (case c19 => k_is); (case k19 => k_is); (case a20 => k_is); (case l20 => k_is); (case c20 => k_is); (case k20 => k_is); (case a21 => k_is); (case l21 => k_is); (case c21 => k_is); (case k21 => k_is); (case a22 => k_is); (case l22 => k_is); (case c22 => k_is); (case k22 => k_is); (case a23 => k_is); (case l23 => k_is); (case c23 => k_is); (case k23 => k_is); (case a24 => k_is); (case l24 => k_is); (case c24 => k_is); (case k24 => k_is); (case a25 => k_is); (case l25 => k_is); (case c25 => k_is); (case k25 => k_is); (case a26 => k_is); (case l26 => k_is); (case c26 => k_is); (case k26 => k_is); (case a27 => k_is); (case l27 => k_is); (case c27 => k_is); (case k27 => k_is); (case a28 => k_is); (case l28 => k_is); (case c28 => k_is); (case k28 => k_is); (case a29 => k_is); (case l29 => k_is); (case c29 => k_is); (case k29 => k_is); (case z_abs => k_is); (case z_bool => k_is); (case z_enumerate => k_is); (case z_int => k_is); (case z_isinstance => k_is); (case z_len => k_is); (case z_list => k_is); (case z_min => k_is); (case z_range => k_is); (case z_sorted => k_is); (case z_str => k_is); (case z_super => k_is); (case z_tuple => k_is); (case a_RIGHT => k_is); (case l_RIGHT => k_is); (case s_RIGHT => first | decide +kernel | exact (.cons ⟨_, rfl⟩ (.cons ⟨_, rfl⟩ .nil))); (case v_RIGHT => first | decide +kernel | exact (.cons ⟨_, rfl⟩ (.cons ⟨_, rfl⟩ .nil))); (case a_UP => k_is); (case l_UP => k_is); (case s_UP => first | decide +kernel | exact (.cons ⟨_, rfl⟩ (.cons ⟨_, rfl⟩ .nil))); (case v_UP => first | decide +kernel | exact (.cons ⟨_, rfl⟩ (.cons ⟨_, rfl⟩ .nil))); (case a_LEFT => k_is); (case l_LEFT => k_is); (case s_LEFT => first | decide +kernel | exact (.cons ⟨_, rfl⟩ (.cons ⟨_, rfl⟩ .nil))); (case v_LEFT => first | decide +kernel | exact (.cons ⟨_, rfl⟩ (.cons ⟨_, rfl⟩ .nil))); (case a_DOWN => k_is); (case l_DOWN => k_is); (case s_DOWN => first | decide +kernel | exact (.cons ⟨_, rfl⟩ (.cons ⟨_, rfl⟩ .nil))); (case v_DOWN => first | decide +kernel | exact (.cons ⟨_, rfl⟩ (.cons ⟨_, rfl⟩ .nil))); (case a_OpenOutline => k_is); (case bs_OpenOutline => k_is); (case tx_OpenOutline => k_is); (case hd_OpenOutline => k_is); (case ga_OpenOutline => k_is); (case gg_OpenOutline => k_is); (case cl_OpenOutline => k_is); (case mo_OpenOutline => k_is); (case kx_OpenOutline => k_is); (case va_OpenOutline => k_is); (case ks_ev => first | rfl | decide +kernel | k_is); (case opq => k_is); (case top0 => first | rfl | decide +kernel | k_is); (case oc_OpenOutline => k_is); (case rv_OpenOutline => first | rfl | decide +kernel | k_is); (case oa_OpenOutline => k_is); (case ic_OpenOutline => k_is); (case ti_OpenOutline => k_is); (case lk_OpenOutline => k_is); (case cq_OpenOutline => k_is); (case co_OpenOutline => k_is); (case fv_OpenOutline => first | rfl | decide +kernel | k_is); (case fe_OpenOutline => first | rfl | decide +kernel | k_is); (case ce_OpenOutline => k_is); (case su_OpenOutline => first | rfl | decide +kernel | k_is); (case na_OpenOutline_place => k_is)
