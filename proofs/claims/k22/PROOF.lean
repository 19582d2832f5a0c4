import PyProof.Rows.All
import Wide.All
import OpenK.AllK
import Wide.FinOn
import HandS.ForMost
import HandS.IsInst
import HandS.TupAny
import HandS.Wide
import HandS.Flow
import HandS.Exc
import HandS.ExcOwn
import HandS.TryOnly
import HandS.TryMany
import HandS.ExcIs
import HandS.ExcField
import HandS.WordsExc
import HandS.ExcInit
import KE.KDictKeyed
import KE.KTupSum
import HandS.MakeKwOnly
import HandS.ClsMeth
import HandS.TupMul
import KE.GoesEnum
import HandS.RaiseMore
import HandS.ReCall
import HandS.More
import HandS.Rev
import HandS.Conv
import HandS.Text
import KE.KDictLaws
import KE.KTops
import HandS.List
import KE.KUnpackStar
import HandS.NoneIn
import HandS.GenList
import HandS.Spec
import HandS.DictComp
import HandS.Nested
import KE.KExcSuper
import HandS.ExcValue
import KE.KExcIs
import PyProof.ListStr
import HandS.StrMore
import HandS.SlotsOwn
import HandS.Style
import KE.GoesComp
import HandS.IterVal
import HandS.OwnIter
import KE.KOpsOwn
import OpenK.KMeth
import HandS.Star
import KE.KxAffix
import PySem.Challenge.RW_stylepages_k22_sheets_as_rows_of_rules
set_option Elab.async false
set_option linter.all false
set_option maxRecDepth 100000
set_option maxHeartbeats 4000000
namespace Ab
open PySem L2

inductive Dt where
  | raw (v : V)
  | tup (ds : List Dt)
  | lst (ds : List Dt)
  | obj (C : Addr) (fs : List (Str × Dt))
  | scr (ns : List Int)
  | dK (kvs : List (Key × Dt))
  | dT (kvs : List (List Key × Dt))
  | exn (a : Addr) (d : Option Addr) (fs : List (Str × Dt))
  | err (C : Addr) (fs : List (Str × Dt))
  | dN (w : World) (kvs : List (NestedKey × Dt))
  | fz (kvs : List (Key × Dt))
abbrev Dt.int (i : Int) : Dt := .raw (.int i)
abbrev Dt.bl (b : Bool) : Dt := .raw (.bl b)
abbrev Dt.str (s : Str) : Dt := .raw (.str s)
abbrev Dt.non : Dt := .raw .non

mutual
def dtN : NestedKey → Dt
  | .none => .raw .non
  | .num i => .raw (.int i)
  | .text x => .raw (.str x)
  | .tup ks => .tup (dtNs ks)
def dtNs : List NestedKey → List Dt
  | [] => []
  | k :: r => dtN k :: dtNs r
end
def DNOk (w : World) (a : Addr) (xs : List (NestedKey × Addr × V)) (h : Heap) : Prop :=
  xs.length ≤ sizeLine ∧ (a == sysModules) = false ∧ (∀ x ∈ xs, x.1.depth ≤ 8) ∧
  ∃ ys : List (NestedKey × Addr × Value), Paired (fun p q => p.1 = q.1 ∧ p.2.1 = q.2.1 ∧ RelV p.2.2 q.2.2) xs ys ∧
    ∃ o es ep, h.get? a = some o ∧ o.ExactDict ∧ o.data = .dict es ep ∧ es.toList = ys.map (fun y => (⟨y.1.hash w, .ref y.2.1, y.2.2⟩ : DictEntry)) ∧ (ys.map (·.1)).Nodup
def dNO (w : World) (a : Addr) (xs : List (NestedKey × Addr × V)) : HO := .ext (DNOk w a xs)

inductive Is (K : PySem.W.Frag) (B : Hp) : V → Dt → Prop where
  | raw (v : V) : Is K B v (.raw v)
  | tup {a : Addr} {xs : List V} {ds : List Dt} (h : SqT K B a xs) (hl : xs.length = ds.length) (hi : ∀ (i : Nat) v d, xs[i]? = some v → ds[i]? = some d → Is K B v d) : Is K B (.ref a) (.tup ds)
  | lst {a : Addr} {xs : List V} {ds : List Dt} (h : B a = some (.lst xs)) (hl : xs.length = ds.length) (hi : ∀ (i : Nat) v d, xs[i]? = some v → ds[i]? = some d → Is K B v d) : Is K B (.ref a) (.lst ds)
  | obj {a dx C : Addr} {fs : List (Str × V)} {gs : List (Str × Dt)} (h : B a = some (.ins C dx fs)) (hk : ∀ f : Str, (fs.lookup f).isSome = (gs.lookup f).isSome) (hi : ∀ (f : Str) v d, fs.lookup f = some v → gs.lookup f = some d → Is K B v d) : Is K B (.ref a) (.obj C gs)
  | scr {a : Addr} {ns : List Int} (h : SqL K B a (ns.map V.int)) : Is K B (.ref a) (.scr ns)
  | dK {a : Addr} {xs : List (Key × V)} {kvs : List (Key × Dt)} (h : B a = some (.dK xs)) (hk : xs.map (·.1) = kvs.map (·.1)) (hi : ∀ (i : Nat) v d, (xs.map (·.2))[i]? = some v → (kvs.map (·.2))[i]? = some d → Is K B v d) : Is K B (.ref a) (.dK kvs)
  | dT {a : Addr} {xs : List (List Key × V)} {kvs : List (List Key × Dt)} (h : B a = some (.dT xs)) (hk : xs.map (·.1) = kvs.map (·.1)) (hi : ∀ (i : Nat) v d, (xs.map (·.2))[i]? = some v → (kvs.map (·.2))[i]? = some d → Is K B v d) : Is K B (.ref a) (.dT kvs)
  | exn0 {a : Addr} : Is K B (.ref a) (.exn a none [])
  | exnD {a dd : Addr} {fs : List (Str × V)} {gs : List (Str × Dt)} (h : B dd = some (.xd fs)) (hk : ∀ f : Str, (fs.lookup f).isSome = (gs.lookup f).isSome) (hi : ∀ (f : Str) v d, fs.lookup f = some v → gs.lookup f = some d → Is K B v d) : Is K B (.ref a) (.exn a (some dd) gs)
  | err0 {a C : Addr} (h : B a = some (exo a C none)) : Is K B (.ref a) (.err C [])
  | errD {a dd C : Addr} {fs : List (Str × V)} {gs : List (Str × Dt)} (h : B a = some (exo a C (some dd))) (hd : B dd = some (exd dd fs)) (hk : ∀ f : Str, (fs.lookup f).isSome = (gs.lookup f).isSome) (hi : ∀ (f : Str) v d, fs.lookup f = some v → gs.lookup f = some d → Is K B v d) : Is K B (.ref a) (.err C gs)
  | dN {a : Addr} {w : World} {xs : List (NestedKey × Addr × V)} {kvs : List (NestedKey × Dt)} (h : B a = some (dNO w a xs)) (hk : xs.map (·.1) = kvs.map (·.1)) (hq : ∀ (i : Nat) x, xs[i]? = some x → Is K B (.ref x.2.1) (dtN x.1)) (hi : ∀ (i : Nat) v d, (xs.map (·.2.2))[i]? = some v → (kvs.map (·.2))[i]? = some d → Is K B v d) : Is K B (.ref a) (.dN w kvs)
  | fz {a : Addr} {xs : List (Key × V)} {kvs : List (Key × Dt)} (h : Rd B a (.dK xs)) (hk : xs.map (·.1) = kvs.map (·.1)) (hi : ∀ (i : Nat) v d, (xs.map (·.2))[i]? = some v → (kvs.map (·.2))[i]? = some d → Is K B v d) : Is K B (.ref a) (.fz kvs)
structure IsA (K : PySem.W.Frag) (B : Hp) (vs : List V) (ds : List Dt) : Prop where
  len : vs.length = ds.length
  at_ : ∀ (i : Nat) v d, vs[i]? = some v → ds[i]? = some d → Is K B v d

section
variable {K : PySem.W.Frag} {B B' H H' : Hp} {v : V} {d : Dt} {vs : List V} {ds : List Dt}
theorem sqT_mono {a : Addr} {xs : List V} (e : Same B B') (h : SqT K B a xs) : SqT K B' a xs := by
  rcases h with (h | ⟨o, h⟩) | h
  · exact .inl (.inl (e _ _ h))
  · exact .inl (.inr ⟨o, e _ _ h⟩)
  · exact .inr h
theorem Is.mono (e : Same B B') (h : Is K B v d) : Is K B' v d := by
  induction h with
  | raw v => exact .raw v
  | tup h hl hi ih => exact .tup (sqT_mono e h) hl ih
  | lst h hl hi ih => exact .lst (e _ _ h) hl ih
  | obj h hk hi ih => exact .obj (e _ _ h) hk ih
  | scr h => exact .scr (e.seq h)
  | dK h hk hi ih => exact .dK (e _ _ h) hk ih
  | dT h hk hi ih => exact .dT (e _ _ h) hk ih
  | exn0 => exact .exn0
  | exnD h hk hi ih => exact .exnD (e _ _ h) hk ih
  | err0 h => exact .err0 (e _ _ h)
  | errD h hd hk hi ih => exact .errD (e _ _ h) (e _ _ hd) hk ih
  | dN h hk hq hi ihq ih => exact .dN (e _ _ h) hk ihq ih
  | fz h hk hi ih => exact .fz (h.imp (e _ _) fun ⟨o, h⟩ => ⟨o, e _ _ h⟩) hk ih
theorem IsA.mono (e : Same B B') (h : IsA K B vs ds) : IsA K B' vs ds := ⟨h.len, fun i v d a b => (h.at_ i v d a b).mono e⟩
theorem Is.rawI (h : Is K B v (.raw u)) : v = u := by cases h; rfl
theorem IsA.nil : IsA K B [] [] := ⟨rfl, fun i v d a => by simp at a⟩
theorem IsA.snoc (h : IsA K B vs ds) (hv : Is K B v d) : IsA K B (vs ++ [v]) (ds ++ [d]) := by
  refine ⟨by simp [h.len], fun i w e a b => ?_⟩
  by_cases hi : i < vs.length
  · rw [List.getElem?_append_left hi] at a
    rw [List.getElem?_append_left (by rw [← h.len]; exact hi)] at b
    exact h.at_ i w e a b
  · rw [List.getElem?_append_right (by omega)] at a
    rw [List.getElem?_append_right (by rw [← h.len]; omega)] at b
    rw [← h.len] at b
    generalize i - vs.length = j at a b
    cases j with
    | zero => simp at a b; subst a b; exact hv
    | succ j => simp at a
theorem IsA.cons (hv : Is K B v d) (h : IsA K B vs ds) : IsA K B (v :: vs) (d :: ds) := by
  refine ⟨by simp [h.len], fun i w e a b => ?_⟩
  cases i with
  | zero => simp at a b; subst a b; exact hv
  | succ j => simp at a b; exact h.at_ j w e a b
theorem IsA.append {us : List V} {es : List Dt} (h : IsA K B vs ds) (h' : IsA K B us es) : IsA K B (vs ++ us) (ds ++ es) := by
  refine ⟨by simp [h.len, h'.len], fun i w e a b => ?_⟩
  by_cases hi : i < vs.length
  · rw [List.getElem?_append_left hi] at a
    rw [List.getElem?_append_left (by rw [← h.len]; exact hi)] at b
    exact h.at_ i w e a b
  · rw [List.getElem?_append_right (by omega)] at a
    rw [List.getElem?_append_right (by rw [← h.len]; omega)] at b
    rw [← h.len] at b
    exact h'.at_ _ w e a b
theorem IsA.get {i : Nat} (h : IsA K B vs ds) (e : ds[i]? = some d) : ∃ v, vs[i]? = some v ∧ Is K B v d := by
  have hi : i < ds.length := (List.getElem?_eq_some_iff.mp e).1
  have hv : i < vs.length := by rw [h.len]; exact hi
  exact ⟨vs[i], List.getElem?_eq_getElem hv, h.at_ i _ d (List.getElem?_eq_getElem hv) e⟩
theorem IsA.set {j : Nat} (h : IsA K B vs ds) (hv : Is K B v d) : IsA K B (vs.set j v) (ds.set j d) := by
  refine ⟨by simp [h.len], fun i w e a b => ?_⟩
  by_cases hij : j = i
  · subst hij
    have h1 : j < (vs.set j v).length := (List.getElem?_eq_some_iff.mp a).1
    rw [List.length_set] at h1
    rw [List.getElem?_set_self h1] at a
    rw [List.getElem?_set_self (by rw [← h.len]; exact h1)] at b
    cases a; cases b; exact hv
  · rw [List.getElem?_set_ne hij] at a b
    exact h.at_ i w e a b
theorem IsA.drop (n : Nat) (h : IsA K B vs ds) : IsA K B (vs.drop n) (ds.drop n) := by
  refine ⟨by simp [h.len], fun i w e a b => ?_⟩
  rw [List.getElem?_drop] at a b
  exact h.at_ _ w e a b
theorem IsA.take (n : Nat) (h : IsA K B vs ds) : IsA K B (vs.take n) (ds.take n) := by
  refine ⟨by simp [h.len], fun i w e a b => ?_⟩
  rw [List.getElem?_take] at a b
  split at a
  · rename_i hi
    rw [if_pos hi] at b
    exact h.at_ _ w e a b
  · cases a
theorem IsA.reverse (h : IsA K B vs ds) : IsA K B vs.reverse ds.reverse := by
  refine ⟨by simp [h.len], fun i w e a b => ?_⟩
  have hi : i < vs.length := by
    have := (List.getElem?_eq_some_iff.mp a).1
    simpa using this
  rw [List.getElem?_reverse hi] at a
  rw [List.getElem?_reverse (by rw [← h.len]; exact hi)] at b
  rw [← h.len] at b
  exact h.at_ _ w e a b
theorem IsA.eraseIdx (j : Nat) (h : IsA K B vs ds) : IsA K B (vs.eraseIdx j) (ds.eraseIdx j) := by
  refine ⟨by simp [List.length_eraseIdx, h.len], fun i w e a b => ?_⟩
  rw [List.getElem?_eraseIdx] at a b
  split at a
  · rename_i hi; rw [if_pos hi] at b; exact h.at_ _ w e a b
  · rename_i hi; rw [if_neg hi] at b; exact h.at_ _ w e a b
theorem Is.tupR (h : Is K B v (.tup ds)) : ∃ a xs, v = .ref a ∧ SqT K B a xs ∧ IsA K B xs ds := by
  cases h with
  | tup h hl hi => exact ⟨_, _, rfl, h, hl, hi⟩
theorem Is.lstR (h : Is K B v (.lst ds)) : ∃ a xs, v = .ref a ∧ B a = some (.lst xs) ∧ IsA K B xs ds := by
  cases h with
  | lst h hl hi => exact ⟨_, _, rfl, h, hl, hi⟩
theorem IsA.atI {i : Int} {d : Dt} (h : IsA K B vs ds) (e : L2.atI ds i = some d) : ∃ v, L2.atI vs i = some v ∧ Is K B v d := by
  unfold L2.atI at e ⊢
  rw [h.len]
  cases q : ixN ds.length i with
  | none => rw [q] at e; cases e
  | some j =>
    rw [q] at e
    exact h.get e
theorem IsA.raws : ∀ {xs : List V}, IsA K B xs (xs.map Dt.raw)
  | [] => .nil
  | x :: r => .cons (.raw x) IsA.raws
theorem IsA.rawsI : ∀ {us xs : List V}, IsA K B us (xs.map Dt.raw) → us = xs
  | [], [], _ => rfl
  | [], _ :: _, h => by have := h.len; simp at this
  | _ :: _, [], h => by have := h.len; simp at this
  | u :: us, x :: xs, h => by
    have h0 := h.at_ 0 u (.raw x) rfl rfl
    have ht : IsA K B us (xs.map Dt.raw) := ⟨by have := h.len; simpa using this, fun i v d a b => h.at_ (i + 1) v d (by simpa using a) (by simpa using b)⟩
    rw [h0.rawI, ht.rawsI]
end

inductive Cn where
  | lst (ds : List Dt)
  | dK (kvs : List (Key × Dt))
  | dT (kvs : List (List Key × Dt))
  | dN (w : World) (kvs : List (NestedKey × Dt))
def Cn.dt : Cn → Dt
  | .lst ds => .lst ds
  | .dK kvs => .dK kvs
  | .dT kvs => .dT kvs
  | .dN w kvs => .dN w kvs
structure IsKv {κ : Type} (K : PySem.W.Frag) (B : Hp) (xs : List (κ × V)) (kvs : List (κ × Dt)) : Prop where
  ks : xs.map (·.1) = kvs.map (·.1)
  vs : IsA K B (xs.map (·.2)) (kvs.map (·.2))
structure IsNv (K : PySem.W.Frag) (B : Hp) (xs : List (NestedKey × Addr × V)) (kvs : List (NestedKey × Dt)) : Prop where
  ks : xs.map (·.1) = kvs.map (·.1)
  qs : ∀ (i : Nat) x, xs[i]? = some x → Is K B (.ref x.2.1) (dtN x.1)
  vs : IsA K B (xs.map (·.2.2)) (kvs.map (·.2))
def CnIs (K : PySem.W.Frag) (B : Hp) (a : Addr) (o : HO) : Cn → Prop
  | .lst ds => ∃ vs, o = .lst vs ∧ IsA K B vs ds
  | .dK kvs => ∃ xs, o = .dK xs ∧ IsKv K B xs kvs
  | .dT kvs => ∃ xs, o = .dT xs ∧ IsKv K B xs kvs
  | .dN w kvs => ∃ xs, o = dNO w a xs ∧ IsNv K B xs kvs
theorem IsNv.mono {K : PySem.W.Frag} {B B' : Hp} {xs : List (NestedKey × Addr × V)} {kvs : List (NestedKey × Dt)} (e : Same B B') (h : IsNv K B xs kvs) : IsNv K B' xs kvs := ⟨h.ks, fun i x q => (h.qs i x q).mono e, h.vs.mono e⟩
theorem CnIs.mono {K : PySem.W.Frag} {B B' : Hp} {a : Addr} {o : HO} {c : Cn} (e : Same B B') (h : CnIs K B a o c) : CnIs K B' a o c := by
  cases c with
  | lst ds => obtain ⟨vs, e1, e2⟩ := h; exact ⟨vs, e1, e2.mono e⟩
  | dK kvs => obtain ⟨vs, e1, e2, e3⟩ := h; exact ⟨vs, e1, e2, e3.mono e⟩
  | dT kvs => obtain ⟨vs, e1, e2, e3⟩ := h; exact ⟨vs, e1, e2, e3.mono e⟩
  | dN w kvs => obtain ⟨vs, e1, e2⟩ := h; exact ⟨vs, e1, e2.mono e⟩
theorem CnIs.is {K : PySem.W.Frag} {B : Hp} {o : HO} {c : Cn} {a : Addr} (hb : B a = some o) (h : CnIs K B a o c) : Is K B (.ref a) c.dt := by
  cases c with
  | lst ds => obtain ⟨vs, rfl, e2⟩ := h; exact .lst hb e2.len e2.at_
  | dK kvs => obtain ⟨vs, rfl, e2, e3⟩ := h; exact .dK hb e2 e3.at_
  | dT kvs => obtain ⟨vs, rfl, e2, e3⟩ := h; exact .dT hb e2 e3.at_
  | dN w kvs => obtain ⟨vs, rfl, e2⟩ := h; exact .dN hb e2.ks e2.qs e2.vs.at_
inductive Sl where
  | un
  | val (d : Dt)
  | cel (c : Cn)
abbrev Sl.acc (ds : List Dt) : Sl := .cel (.lst ds)
def Own (σ : L2.St) (Γ : List Sl) (a : Addr) : Prop := ∃ (i : Nat) (c : Cn), Γ[i]? = some (.cel c) ∧ σ[i]? = some (some (.ref a))
structure Env (K : PySem.W.Frag) (B H : Hp) (σ : L2.St) (Γ : List Sl) : Prop where
  len : σ.length = Γ.length
  bh : Same B H
  val : ∀ (i : Nat) d, Γ[i]? = some (.val d) → ∃ v, σ[i]? = some (some v) ∧ Is K B v d
  cel : ∀ (i : Nat) c, Γ[i]? = some (.cel c) → ∃ l o, σ[i]? = some (some (.ref l)) ∧ H l = some o ∧ B l = none ∧ CnIs K B l o c
  sep : ∀ (i j : Nat) c d l, Γ[i]? = some (.cel c) → Γ[j]? = some (.cel d) → σ[i]? = some (some (.ref l)) → σ[j]? = some (some (.ref l)) → i = j
theorem Env.acc {K : PySem.W.Frag} {B H : Hp} {σ : L2.St} {Γ : List Sl} (E : Env K B H σ Γ) (i : Nat) (ds : List Dt) (h : Γ[i]? = some (.acc ds)) : ∃ l vs, σ[i]? = some (some (.ref l)) ∧ H l = some (.lst vs) ∧ B l = none ∧ IsA K B vs ds := by
  obtain ⟨l, o, e1, e2, e3, vs, rfl, e4⟩ := E.cel i _ h
  exact ⟨l, vs, e1, e2, e3, e4⟩
structure Mv (m : Addr → Prop) (B H B' H' : Hp) : Prop where
  kp : ∀ a o, ¬ m a → H a = some o → H' a = some o
  bb : Same B B'
  off : ∀ a, ¬ m a → H a ≠ none → B a = none → B' a = none
theorem Mv.refl (m : Addr → Prop) (B H : Hp) : Mv m B H B H := ⟨fun _ _ _ h => h, Same.refl B, fun _ _ _ h => h⟩
theorem Mv.trans {m m1 : Addr → Prop} {B H B1 H1 B2 H2 : Hp} (x : Mv m B H B1 H1) (hm : ∀ a, m1 a → m a ∨ H a = none) (y : Mv m1 B1 H1 B2 H2) : Mv m B H B2 H2 := by
  have nm : ∀ a, ¬ m a → H a ≠ none → ¬ m1 a := fun a na ha z => (hm a z).elim na ha
  refine ⟨fun a o na e => ?_, x.bb.trans y.bb, fun a na ha hb => ?_⟩
  · exact y.kp a o (nm a na (by rw [e]; exact fun z => nomatch z)) (x.kp a o na e)
  · refine y.off a (nm a na ha) ?_ (x.off a na ha hb)
    cases q : H a with
    | none => exact absurd q ha
    | some o => rw [x.kp a o na q]; exact fun z => nomatch z
theorem Mv.back {m : Addr → Prop} {B H B1 H1 : Hp} (x : Mv m B H B1 H1) {a : Addr} (h : H1 a = none) : m a ∨ H a = none := by
  by_cases hm : m a
  · exact .inl hm
  · refine .inr ?_
    cases q : H a with
    | none => rfl
    | some o => rw [x.kp a o hm q] at h; cases h
inductive Re where
  | val (d : Dt)
  | nw (c : Cn)
  | own (i : Nat)
abbrev Re.new (ds : List Dt) : Re := .nw (.lst ds)
def Re.dt? : Re → Option Dt
  | .val d => some d
  | .nw c => some c.dt
  | .own _ => none
def ReOk (K : PySem.W.Frag) (σ : L2.St) (m m' : Addr → Prop) (B' H H' : Hp) (v : V) : Re → Prop
  | .val d => Is K B' v d
  | .nw c => ∃ l o, v = .ref l ∧ (m l ∨ H l = none) ∧ ¬ m' l ∧ H' l = some o ∧ B' l = none ∧ CnIs K B' l o c
  | .own i => ∃ l, v = .ref l ∧ σ[i]? = some (some (.ref l))
structure Go (K : PySem.W.Frag) (σ : L2.St) (B H : Hp) (Γ : List Sl) (B' H' : Hp) (Γ' : List Sl) : Prop where
  mv : Mv (Own σ Γ) B H B' H'
  ac : ∀ (i : Nat) c, Γ'[i]? = some (.cel c) → ∃ d, Γ[i]? = some (.cel d)
  env : Env K B' H' σ Γ'
theorem Go.sub {K : PySem.W.Frag} {σ : L2.St} {B H B' H' : Hp} {Γ Γ' : List Sl} (g : Go K σ B H Γ B' H' Γ') : ∀ a, Own σ Γ' a → Own σ Γ a := fun a ⟨i, ds, h1, h2⟩ => by
  obtain ⟨es, h⟩ := g.ac i ds h1
  exact ⟨i, es, h, h2⟩
section
variable {K : PySem.W.Frag} {σ : L2.St} {B H B1 H1 B2 H2 : Hp} {Γ Γ1 Γ2 : List Sl} {v : V} {r : Re}
theorem Go.refl (E : Env K B H σ Γ) : Go K σ B H Γ B H Γ := ⟨Mv.refl _ _ _, fun _ ds h => ⟨ds, h⟩, E⟩
theorem Go.trans (x : Go K σ B H Γ B1 H1 Γ1) (y : Go K σ B1 H1 Γ1 B2 H2 Γ2) : Go K σ B H Γ B2 H2 Γ2 :=
  ⟨x.mv.trans (fun a h => .inl (x.sub a h)) y.mv, fun i ds h => by
    obtain ⟨es, h1⟩ := y.ac i ds h
    exact x.ac i es h1, y.env⟩
theorem Env.tracked (E : Env K B H σ Γ) {a : Addr} (h : Own σ Γ a) : ∃ o, H a = some o ∧ B a = none := by
  obtain ⟨i, ds, h1, h2⟩ := h
  obtain ⟨l, vs, e1, e2, e3, _⟩ := E.cel i ds h1
  rw [h2] at e1
  cases e1
  exact ⟨vs, e2, e3⟩
theorem ReOk.raw {m m' : Addr → Prop} (v : V) : ReOk K σ m m' B1 H H1 v (.val (.raw v)) := Is.raw v
theorem ReOk.step {m m1 m2 : Addr → Prop} (h : ReOk K σ m m1 B1 H H1 v r) (y : Mv m1 B1 H1 B2 H2) (hs : ∀ a, m2 a → m1 a) : ReOk K σ m m2 B2 H H2 v r := by
  cases r with
  | val d => exact Is.mono y.bb h
  | nw ds =>
    obtain ⟨l, vs, e, h1, h2, h3, h4, h5⟩ := h
    exact ⟨l, vs, e, h1, fun z => h2 (hs l z), y.kp l _ h2 h3, y.off l h2 (by rw [h3]; exact fun z => nomatch z) h4, h5.mono y.bb⟩
  | own i => exact h
theorem ReOk.earlier {m m1 m2 : Addr → Prop} (h : ReOk K σ m1 m2 B2 H1 H2 v r) (x : Mv m B H B1 H1) (hm : ∀ a, m1 a → m a ∨ H a = none) : ReOk K σ m m2 B2 H H2 v r := by
  cases r with
  | val d => exact h
  | nw ds =>
    obtain ⟨l, vs, e, h1, h2, h3⟩ := h
    refine ⟨l, vs, e, ?_, h2, h3⟩
    rcases h1 with h1 | h1
    · exact hm l h1
    · exact x.back h1
  | own i => exact h
theorem Env.laid (E : Env K B H σ Γ) {p : Addr} {o : HO} (hp : H p = none) : Env K (upd B p o) (upd H p o) σ Γ := by
  have hb : B p = none := by
    cases q : B p with
    | none => rfl
    | some u => rw [E.bh p u q] at hp; cases hp
  have sB : Same B (upd B p o) := fun a u e => by rw [upd_ne (ne_of_none e hb)]; exact e
  refine ⟨E.len, fun a u e => ?_, fun i d h => ?_, fun i ds h => ?_, E.sep⟩
  · by_cases ha : a = p
    · subst ha; rw [upd_same] at e ⊢; exact e
    · rw [upd_ne ha] at e ⊢; exact E.bh a u e
  · obtain ⟨v, e, q⟩ := E.val i d h
    exact ⟨v, e, q.mono sB⟩
  · obtain ⟨l, vs, e, e1, e2, q⟩ := E.cel i ds h
    have hl : l ≠ p := ne_of_none e1 hp
    exact ⟨l, vs, e, by rw [upd_ne hl]; exact e1, by rw [upd_ne hl]; exact e2, q.mono sB⟩
theorem Go.laid (E : Env K B H σ Γ) {p : Addr} {o : HO} (hp : H p = none) : Go K σ B H Γ (upd B p o) (upd H p o) Γ := by
  have hb : B p = none := by
    cases q : B p with
    | none => rfl
    | some u => rw [E.bh p u q] at hp; cases hp
  refine ⟨⟨fun a u _ e => by rw [upd_ne (ne_of_none e hp)]; exact e, fun a u e => by rw [upd_ne (ne_of_none e hb)]; exact e, fun a _ ha hb' => ?_⟩, fun _ ds h => ⟨ds, h⟩, E.laid hp⟩
  have : a ≠ p := fun z => by subst z; exact ha hp
  rw [upd_ne this]; exact hb'
theorem Env.beside (E : Env K B H σ Γ) {p : Addr} {o : HO} (hp : H p = none) : Env K B (upd H p o) σ Γ := by
  refine ⟨E.len, fun a u e => ?_, E.val, fun i ds h => ?_, E.sep⟩
  · have h := E.bh a u e
    rw [upd_ne (ne_of_none h hp)]; exact h
  · obtain ⟨l, vs, e, e1, e2, q⟩ := E.cel i ds h
    exact ⟨l, vs, e, by rw [upd_ne (ne_of_none e1 hp)]; exact e1, e2, q⟩
theorem Go.beside (E : Env K B H σ Γ) {p : Addr} {o : HO} (hp : H p = none) : Go K σ B H Γ B (upd H p o) Γ :=
  ⟨⟨fun a u _ e => by rw [upd_ne (ne_of_none e hp)]; exact e, Same.refl B, fun _ _ _ h => h⟩, fun _ ds h => ⟨ds, h⟩, E.beside hp⟩
theorem Env.base_none (E : Env K B H σ Γ) {p : Addr} (hp : H p = none) : B p = none := by
  cases q : B p with
  | none => rfl
  | some u => rw [E.bh p u q] at hp; cases hp
theorem Env.not_own (E : Env K B H σ Γ) {p : Addr} (hp : H p = none) : ¬ Own σ Γ p := fun z => by
  obtain ⟨vs, h, _⟩ := E.tracked z
  rw [hp] at h; cases h
end

def WE (K : PySem.W.Frag) (te : TE) (Γ : List Sl) (Post : Re → List Sl → Prop) : Prop := ∀ σ B H, Env K B H σ Γ → ∀ Q : VK,
  (∀ v B' H' r Γ', Go K σ B H Γ B' H' Γ' → ReOk K σ (Own σ Γ) (Own σ Γ') B' H H' v r → Post r Γ' → Q v H') → te σ H Q
def WT (K : PySem.W.Frag) (tt : TT) (Γ : List Sl) (Post : Bool → List Sl → Prop) : Prop := ∀ σ B H, Env K B H σ Γ → ∀ Q : Bool → Hp → Prop,
  (∀ b B' H' Γ', Go K σ B H Γ B' H' Γ' → Post b Γ' → Q b H') → tt σ H Q
def WD (K : PySem.W.Frag) (ta : TA) (Γ : List Sl) (Post : List Dt → List Sl → Prop) : Prop := ∀ σ B H, Env K B H σ Γ → ∀ Q : List V → Hp → Prop,
  (∀ vs B' H' ds Γ', Go K σ B H Γ B' H' Γ' → IsA K B' vs ds → Post ds Γ' → Q vs H') → ta σ H Q
section
variable {K : PySem.W.Frag} {Γ : List Sl} {Post : Re → List Sl → Prop} {ta tb tc te : TE} {t u : TT}
theorem we_mono {Post' : Re → List Sl → Prop} (h : WE K te Γ Post) (hp : ∀ r Γ', Post r Γ' → Post' r Γ') : WE K te Γ Post' := fun σ B H E Q q => h σ B H E Q fun v B' H' r Γ' g k p => q v B' H' r Γ' g k (hp r Γ' p)
theorem we_var {i : Nat} {d : Dt} (h : Γ[i]? = some (.val d)) (p : Post (.val d) Γ) : WE K (tVar i) Γ Post := fun σ B H E Q q => by
  obtain ⟨v, e, k⟩ := E.val i d h
  exact ⟨v, e, q v B H (.val d) Γ (.refl E) k p⟩
theorem we_c {v : V} (p : Post (.val (.raw v)) Γ) : WE K (tC v) Γ Post := fun σ B H E Q q => q v B H (.val (.raw v)) Γ (.refl E) (.raw v) p
theorem we_own {i : Nat} {ds : Cn} (h : Γ[i]? = some (.cel ds)) (p : Post (.own i) Γ) : WE K (tVar i) Γ Post := fun σ B H E Q q => by
  obtain ⟨l, vs, e, e1, e2, k⟩ := E.cel i ds h
  exact ⟨.ref l, e, q (.ref l) B H (.own i) Γ (.refl E) ⟨l, rfl, e⟩ p⟩
theorem go_frz {σ : L2.St} {B H : Hp} {i : Nat} {ds : Cn} (h : Γ[i]? = some (.cel ds)) (E : Env K B H σ Γ) : ∃ B', Go K σ B H Γ B' H (Γ.set i (.val ds.dt)) := by
  obtain ⟨l, vs, e, e1, e2, k⟩ := E.cel i ds h
  have hl : i < Γ.length := (List.getElem?_eq_some_iff.mp h).1
  have sB : Same B (upd B l vs) := fun a u e => by rw [upd_ne (ne_of_none e e2)]; exact e
  have sub : ∀ {j : Nat} {s : Sl}, (Γ.set i (.val ds.dt))[j]? = some s → j ≠ i → Γ[j]? = some s := fun {j s} hj hn => by
    rw [List.getElem?_set_ne (fun z => hn z.symm)] at hj
    exact hj
  have acc : ∀ {j : Nat} {es : Cn}, (Γ.set i (.val ds.dt))[j]? = some (.cel es) → j ≠ i := fun {j es} hj z => by
    subst z
    rw [List.getElem?_set_self hl] at hj
    cases hj
  refine ⟨upd B l vs, ⟨fun a o _ q => q, sB, fun a na ha hb => ?_⟩, fun j es h1 => ⟨es, sub h1 (acc h1)⟩, by rw [List.length_set]; exact E.len, fun a u q => ?_, fun j d hj => ?_, fun j es hj => ?_, fun j k ds es l h1 h2 => E.sep j k ds es l (sub h1 (acc h1)) (sub h2 (acc h2))⟩
  · have : a ≠ l := fun z => by
      subst z
      exact na ⟨i, ds, h, e⟩
    rw [upd_ne this]; exact hb
  · by_cases ha : a = l
    · subst ha; rw [upd_same] at q; cases q; exact e1
    · rw [upd_ne ha] at q; exact E.bh a u q
  · by_cases hji : j = i
    · subst hji
      rw [List.getElem?_set_self hl] at hj
      cases hj
      exact ⟨.ref l, e, (k.mono sB).is upd_same⟩
    · obtain ⟨w, q1, q2⟩ := E.val j d (sub hj hji)
      exact ⟨w, q1, q2.mono sB⟩
  · obtain ⟨c, us, q1, q2, q3, q4⟩ := E.cel j es (sub hj (acc hj))
    have hc : c ≠ l := fun z => by
      subst z
      exact acc hj (E.sep j i es ds c (sub hj (acc hj)) h q1 e)
    exact ⟨c, us, q1, q2, by rw [upd_ne hc]; exact q3, q4.mono sB⟩
theorem we_move {i : Nat} {ds : Cn} (h : Γ[i]? = some (.cel ds)) (p : Post (.nw ds) (Γ.set i .un)) : WE K (tVar i) Γ Post := fun σ B H E Q q => by
  obtain ⟨l, vs, e, e1, e2, k⟩ := E.cel i ds h
  have hl : i < Γ.length := (List.getElem?_eq_some_iff.mp h).1
  have ne : ∀ {j : Nat} {s : Sl}, (Γ.set i .un)[j]? = some s → s ≠ .un → j ≠ i := fun {j s} hj hs z => by
    subst z
    rw [List.getElem?_set_self hl] at hj
    cases hj; exact hs rfl
  have sub : ∀ {j : Nat} {s : Sl}, (Γ.set i .un)[j]? = some s → s ≠ .un → Γ[j]? = some s := fun {j s} hj hs => by
    have := ne hj hs
    rw [List.getElem?_set_ne (fun z => this z.symm)] at hj
    exact hj
  have E' : Env K B H σ (Γ.set i .un) := ⟨by rw [List.length_set]; exact E.len, E.bh, fun j d hj => E.val j d (sub hj (fun z => nomatch z)), fun j es hj => E.cel j es (sub hj (fun z => nomatch z)),
    fun j k ds es l h1 h2 => E.sep j k ds es l (sub h1 (fun z => nomatch z)) (sub h2 (fun z => nomatch z))⟩
  have sb : ∀ (j : Nat) es, (Γ.set i .un)[j]? = some (.cel es) → ∃ es', Γ[j]? = some (.cel es') := fun j es h1 => ⟨es, sub h1 (fun z => nomatch z)⟩
  refine ⟨.ref l, e, q (.ref l) B H (.nw ds) _ ⟨Mv.refl _ _ _, sb, E'⟩ ⟨l, vs, rfl, .inl ⟨i, ds, h, e⟩, ?_, e1, e2, k⟩ p⟩
  rintro ⟨j, es, h1, h2⟩
  exact ne h1 (fun z => nomatch z) (E.sep j i es ds l (sub h1 (fun z => nomatch z)) h h2 e)
theorem we_freeze (h : WE K te Γ fun r Γ1 => ∃ d, r.dt? = some d ∧ Post (.val d) Γ1) : WE K te Γ Post := fun σ B H E Q q => by
  refine h σ B H E Q fun v B1 H1 r Γ1 g k p => ?_
  obtain ⟨d, hd, p⟩ := p
  cases r with
  | own i => cases hd
  | val d =>
    cases hd
    exact q v B1 H1 (.val d) Γ1 g k p
  | nw ds =>
    cases hd
    obtain ⟨l, vs, rfl, h1, h2, h3, h4, h5⟩ := k
    have sB : Same B1 (upd B1 l vs) := fun a u e => by rw [upd_ne (ne_of_none e h4)]; exact e
    refine q (.ref l) (upd B1 l vs) H1 (.val ds.dt) Γ1 ⟨⟨g.mv.kp, g.mv.bb.trans sB, fun a na ha hb => ?_⟩, g.ac, ?_⟩ ?_ p
    · have hal : a ≠ l := fun z => by
        subst z
        exact h1.elim na ha
      rw [upd_ne hal]; exact g.mv.off a na ha hb
    · refine ⟨g.env.len, fun a u e => ?_, fun i d hi => ?_, fun i es hi => ?_, g.env.sep⟩
      · by_cases ha : a = l
        · subst ha; rw [upd_same] at e; cases e; exact h3
        · rw [upd_ne ha] at e; exact g.env.bh a u e
      · obtain ⟨w, e, k⟩ := g.env.val i d hi
        exact ⟨w, e, k.mono sB⟩
      · obtain ⟨c, us, e, e1, e2, k⟩ := g.env.cel i es hi
        have hc : c ≠ l := fun z => by
          subst z
          exact h2 ⟨i, es, hi, e⟩
        exact ⟨c, us, e, e1, by rw [upd_ne hc]; exact e2, k.mono sB⟩
    · exact (h5.mono sB).is upd_same
theorem we_opI {C : Int → Int → Prop} {g : Int → Int → V} (h : WE K ta Γ fun ra Γ1 => ∃ i, ra = .val (.int i) ∧ WE K tb Γ1 fun rb Γ2 => ∃ j, rb = .val (.int j) ∧ C i j ∧ Post (.val (.raw (g i j))) Γ2) : WE K (tOp (rI C g) ta tb) Γ Post := fun σ B H E Q q => by
  refine h σ B H E _ fun x B1 H1 ra Γ1 g1 k1 p1 => ?_
  obtain ⟨i, rfl, p1⟩ := p1
  refine p1 σ B1 H1 g1.env _ fun y B2 H2 rb Γ2 g2 k2 p2 => ?_
  obtain ⟨j, rfl, hc, p⟩ := p2
  cases Is.rawI k1
  cases Is.rawI k2
  exact ⟨i, j, rfl, rfl, hc, q _ B2 H2 _ Γ2 (g1.trans g2) (.raw _) p⟩
theorem we_opI0 {g : Int → Int → V} (h : WE K ta Γ fun ra Γ1 => ∃ i, ra = .val (.int i) ∧ WE K tb Γ1 fun rb Γ2 => ∃ j, rb = .val (.int j) ∧ Post (.val (.raw (g i j))) Γ2) : WE K (tOp (rI0 g) ta tb) Γ Post := fun σ B H E Q q => by
  refine h σ B H E _ fun x B1 H1 ra Γ1 g1 k1 p1 => ?_
  obtain ⟨i, rfl, p1⟩ := p1
  refine p1 σ B1 H1 g1.env _ fun y B2 H2 rb Γ2 g2 k2 p2 => ?_
  obtain ⟨j, rfl, p⟩ := p2
  cases Is.rawI k1
  cases Is.rawI k2
  exact ⟨i, j, rfl, rfl, q _ B2 H2 _ Γ2 (g1.trans g2) (.raw _) p⟩
theorem we_neg (h : WE K ta Γ fun ra Γ1 => ∃ i, ra = .val (.int i) ∧ Post (.val (.int (-i))) Γ1) : WE K (tUn (rU fun i => .int (-i)) ta) Γ Post := fun σ B H E Q q => by
  refine h σ B H E _ fun x B1 H1 ra Γ1 g1 k1 p1 => ?_
  obtain ⟨i, rfl, p⟩ := p1
  cases Is.rawI k1
  exact ⟨i, rfl, q _ B1 H1 _ Γ1 g1 (.raw _) p⟩
theorem wt_mono {P P' : Bool → List Sl → Prop} (h : WT K t Γ P) (hp : ∀ b Γ', P b Γ' → P' b Γ') : WT K t Γ P' := fun σ B H E Q q => h σ B H E Q fun b B' H' Γ' g p => q b B' H' Γ' g (hp b Γ' p)
theorem wt_test {P : Bool → List Sl → Prop} (h : WE K te Γ fun r Γ1 => ∃ b, r = .val (.bl b) ∧ P b Γ1) : WT K (tTest te) Γ P := fun σ B H E Q q => by
  refine h σ B H E _ fun x B1 H1 r Γ1 g k p => ?_
  obtain ⟨b, rfl, p⟩ := p
  cases Is.rawI k
  exact ⟨b, rfl, q b B1 H1 Γ1 g p⟩
theorem wt_B {P : Bool → List Sl → Prop} (h : WE K te Γ fun r Γ1 => ∃ b, r = .val (.bl b) ∧ P b Γ1) : WT K (tB te) Γ P := wt_test h
theorem wt_and {P : Bool → List Sl → Prop} (h : WT K t Γ fun b Γ1 => (b = true → WT K u Γ1 P) ∧ (b = false → P false Γ1)) : WT K (tAnd t u) Γ P := fun σ B H E Q q => by
  refine h σ B H E _ fun b B1 H1 Γ1 g p => ?_
  cases b with
  | true =>
    show u σ H1 Q
    exact p.1 rfl σ B1 H1 g.env Q fun b B' H' Γ' g' p' => q b B' H' Γ' (g.trans g') p'
  | false =>
    show Q false H1
    exact q false B1 H1 Γ1 g (p.2 rfl)
theorem wt_or {P : Bool → List Sl → Prop} (h : WT K t Γ fun b Γ1 => (b = false → WT K u Γ1 P) ∧ (b = true → P true Γ1)) : WT K (tOr t u) Γ P := fun σ B H E Q q => by
  refine h σ B H E _ fun b B1 H1 Γ1 g p => ?_
  cases b with
  | false =>
    show u σ H1 Q
    exact p.1 rfl σ B1 H1 g.env Q fun b B' H' Γ' g' p' => q b B' H' Γ' (g.trans g') p'
  | true =>
    show Q true H1
    exact q true B1 H1 Γ1 g (p.2 rfl)
theorem wt_not {P : Bool → List Sl → Prop} (h : WT K t Γ fun b Γ1 => P (!b) Γ1) : WT K (tNot t) Γ P := fun σ B H E Q q => h σ B H E _ fun b B1 H1 Γ1 g p => q (!b) B1 H1 Γ1 g p
theorem we_andV (h : WE K ta Γ fun ra Γ1 => ∃ b, ra = .val (.bl b) ∧ (b = true → WE K tb Γ1 Post) ∧ (b = false → Post (.val (.bl false)) Γ1)) : WE K (tAndV ta tb) Γ Post := fun σ B H E Q q => by
  refine h σ B H E _ fun x B1 H1 ra Γ1 g k p => ?_
  obtain ⟨b, rfl, p1, p2⟩ := p
  cases Is.rawI k
  refine ⟨b, rfl, ?_⟩
  cases b with
  | true =>
    show tb σ H1 Q
    exact p1 rfl σ B1 H1 g.env Q fun v B' H' r Γ' g' k' p' => q v B' H' r Γ' (g.trans g') (ReOk.earlier k' g.mv fun a h => .inl (g.sub a h)) p'
  | false =>
    show Q (.bl false) H1
    exact q _ B1 H1 _ Γ1 g (.raw _) (p2 rfl)
theorem we_orV (h : WE K ta Γ fun ra Γ1 => ∃ b, ra = .val (.bl b) ∧ (b = false → WE K tb Γ1 Post) ∧ (b = true → Post (.val (.bl true)) Γ1)) : WE K (tOrV ta tb) Γ Post := fun σ B H E Q q => by
  refine h σ B H E _ fun x B1 H1 ra Γ1 g k p => ?_
  obtain ⟨b, rfl, p1, p2⟩ := p
  cases Is.rawI k
  refine ⟨b, rfl, ?_⟩
  cases b with
  | false =>
    show tb σ H1 Q
    exact p1 rfl σ B1 H1 g.env Q fun v B' H' r Γ' g' k' p' => q v B' H' r Γ' (g.trans g') (ReOk.earlier k' g.mv fun a h => .inl (g.sub a h)) p'
  | true =>
    show Q (.bl true) H1
    exact q _ B1 H1 _ Γ1 g (.raw _) (p2 rfl)
theorem we_notV (h : WE K ta Γ fun ra Γ1 => ∃ b, ra = .val (.bl b) ∧ Post (.val (.bl (!b))) Γ1) : WE K (tNotV ta) Γ Post := fun σ B H E Q q => by
  refine h σ B H E _ fun x B1 H1 ra Γ1 g k p => ?_
  obtain ⟨b, rfl, p⟩ := p
  cases Is.rawI k
  exact ⟨b, rfl, q _ B1 H1 _ Γ1 g (.raw _) p⟩
theorem we_if (h : WT K t Γ fun b Γ1 => (b = true → WE K ta Γ1 Post) ∧ (b = false → WE K tb Γ1 Post)) : WE K (tIf t ta tb) Γ Post := fun σ B H E Q q => by
  refine h σ B H E _ fun b B1 H1 Γ1 g p => ?_
  cases b with
  | true =>
    show ta σ H1 Q
    exact p.1 rfl σ B1 H1 g.env Q fun v B' H' r Γ' g' k' p' => q v B' H' r Γ' (g.trans g') (ReOk.earlier k' g.mv fun a h => .inl (g.sub a h)) p'
  | false =>
    show tb σ H1 Q
    exact p.2 rfl σ B1 H1 g.env Q fun v B' H' r Γ' g' k' p' => q v B' H' r Γ' (g.trans g') (ReOk.earlier k' g.mv fun a h => .inl (g.sub a h)) p'
theorem wd_nil {P : List Dt → List Sl → Prop} (p : P [] Γ) : WD K tNil Γ P := fun σ B H E Q q => q [] B H [] Γ (.refl E) .nil p
theorem wd_cons {P : List Dt → List Sl → Prop} {tr : TA} (h : WE K te Γ fun r Γ1 => ∃ d, r.dt? = some d ∧ WD K tr Γ1 fun ds Γ2 => P (d :: ds) Γ2) : WD K (tCons te tr) Γ P := fun σ B H E Q q => by
  have h' : WE K te Γ fun r Γ1 => ∃ d, r = .val d ∧ WD K tr Γ1 fun ds Γ2 => P (d :: ds) Γ2 := we_freeze (we_mono h fun r Γ1 ⟨d, hd, k⟩ => ⟨d, hd, d, rfl, k⟩)
  refine h' σ B H E _ fun x B1 H1 ra Γ1 g1 k1 p1 => ?_
  obtain ⟨d, rfl, p1⟩ := p1
  refine p1 σ B1 H1 g1.env _ fun vs B2 H2 ds Γ2 g2 k2 p2 => ?_
  exact q (x :: vs) B2 H2 (d :: ds) Γ2 (g1.trans g2) (.cons (Is.mono g2.mv.bb k1) k2) p2
theorem we_tup {t : TA} (h : WD K t Γ fun ds Γ1 => ds.length ≤ 1000000 ∧ Post (.val (.tup ds)) Γ1) : WE K (tTup t) Γ Post := fun σ B H E Q q => by
  refine h σ B H E _ fun vs B1 H1 ds Γ1 g k p => ?_
  refine ⟨Nat.le_trans (by rw [k.len]; exact p.1) (by decide), fun a ha => ?_⟩
  have g2 := Go.laid (o := .tup vs) g.env ha
  have k2 := k.mono g2.mv.bb
  exact q (.ref a) _ _ (.val (.tup ds)) Γ1 (g.trans g2) (.tup (.inl (.inl upd_same)) k2.len k2.at_) p.2
theorem we_lst {t : TA} (h : WD K t Γ fun ds Γ1 => ds.length ≤ 1000000 ∧ Post (.new ds) Γ1) : WE K (tLst t) Γ Post := fun σ B H E Q q => by
  refine h σ B H E _ fun vs B1 H1 ds Γ1 g k p => ?_
  refine ⟨Nat.le_trans (by rw [k.len]; exact p.1) (by decide), fun a ha => ?_⟩
  have g2 := Go.beside (o := .lst vs) g.env ha
  refine q (.ref a) _ _ (.new ds) Γ1 (g.trans g2) ⟨a, _, rfl, g.mv.back ha, g.env.not_own ha, upd_same, g.env.base_none ha, vs, rfl, k⟩ p.2
end
end Ab

namespace Ab
open PySem L2
def RvOk (K : PySem.W.Frag) (σ : L2.St) (B H : Hp) (Γ : List Sl) (v : V) : Re → Prop
  | .val d => Is K B v d
  | .nw c => ∃ l o, v = .ref l ∧ ¬ Own σ Γ l ∧ H l = some o ∧ B l = none ∧ CnIs K B l o c
  | .own i => ∃ l, v = .ref l ∧ σ[i]? = some (some (.ref l))
def seqOf (Γ : List Sl) : Re → Option (List Dt)
  | .val (.tup ds) => some ds
  | .val (.lst ds) => some ds
  | .val (.scr ns) => some (ns.map Dt.int)
  | .val _ => none
  | .nw (.lst ds) => some ds
  | .nw _ => none
  | .own i => match Γ[i]? with
    | some (Sl.cel (.lst ds)) => some ds
    | _ => none
def lstOf (Γ : List Sl) : Re → Option (List Dt)
  | .val (.lst ds) => some ds
  | .val (.scr ns) => some (ns.map Dt.int)
  | .val _ => none
  | .nw (.lst ds) => some ds
  | .nw _ => none
  | .own i => match Γ[i]? with
    | some (Sl.cel (.lst ds)) => some ds
    | _ => none
def tyOf : Re → Option String
  | .val (.raw .non) => some "NoneType"
  | .val (.raw (.bl _)) => some "bool"
  | .val (.raw (.int _)) => some "int"
  | .val (.raw (.str _)) => some "str"
  | .val (.tup _) => some "tuple"
  | .val (.lst _) => some "list"
  | .val (.dK _) => some "dict"
  | .val (.dT _) => some "dict"
  | .nw (.lst _) => some "list"
  | .nw (.dK _) => some "dict"
  | .nw (.dT _) => some "dict"
  | .own _ => some "list"
  | _ => none
section
variable {K : PySem.W.Frag} {σ : L2.St} {B H B1 H1 B2 H2 : Hp} {Γ Γ1 Γ2 : List Sl} {v : V} {r : Re} {ds : List Dt} {m m' : Addr → Prop}
theorem ReOk.rv (h : ReOk K σ m (Own σ Γ) B H1 H v r) : RvOk K σ B H Γ v r := by
  cases r with
  | val d => exact h
  | nw ds => obtain ⟨l, vs, e, _, h2, h3⟩ := h; exact ⟨l, vs, e, h2, h3⟩
  | own i => exact h
theorem rv_lst (E : Env K B H σ Γ) (h : RvOk K σ B H Γ v r) (e : lstOf Γ r = some ds) : ∃ a vs, v = .ref a ∧ SqL K H a vs ∧ IsA K B vs ds := by
  cases r with
  | val d =>
    cases d with
    | lst es => cases e; obtain ⟨a, xs, rfl, h1, h2⟩ := Is.lstR h; exact ⟨a, xs, rfl, .inl (.inl (E.bh _ _ h1)), h2⟩
    | scr ns =>
      cases e
      cases h with
      | scr h => exact ⟨_, _, rfl, E.bh.seq h, by
          have := IsA.raws (K := K) (B := B) (xs := ns.map V.int)
          rwa [List.map_map] at this⟩
    | raw u => cases e
    | tup es => cases e
    | obj C fs => cases e
    | dK es => cases e
    | dT es => cases e
    | exn a d fs => cases e
    | err C fs => cases e
    | fz kvs => cases e
    | dN w es => cases e
  | nw c =>
    cases c with
    | lst es => cases e; obtain ⟨l, o, rfl, _, h1, _, vs, rfl, h2⟩ := h; exact ⟨l, vs, rfl, .inl (.inl h1), h2⟩
    | dK es => cases e
    | dT es => cases e
    | dN w es => cases e
  | own i =>
    obtain ⟨l, rfl, hl⟩ := h
    have e' : (match Γ[i]? with
      | some (Sl.cel (.lst ds)) => some ds
      | _ => none) = some ds := e
    split at e'
    · rename_i es hi
      cases e'
      obtain ⟨c, us, q1, q2, q3, q4⟩ := E.acc i _ hi
      rw [hl] at q1; cases q1
      exact ⟨l, us, rfl, .inl (.inl q2), q4⟩
    · cases e'
theorem rv_seq (E : Env K B H σ Γ) (h : RvOk K σ B H Γ v r) (e : seqOf Γ r = some ds) : ∃ a vs, v = .ref a ∧ (SqL K H a vs ∨ SqT K H a vs) ∧ IsA K B vs ds := by
  cases r with
  | val d =>
    cases d with
    | tup es => cases e; obtain ⟨a, xs, rfl, h1, h2⟩ := Is.tupR h; exact ⟨a, xs, rfl, .inr (sqT_mono E.bh h1), h2⟩
    | lst es => obtain ⟨a, xs, rfl, h1, h2⟩ := rv_lst E h e; exact ⟨a, xs, rfl, .inl h1, h2⟩
    | scr es => obtain ⟨a, xs, rfl, h1, h2⟩ := rv_lst E h e; exact ⟨a, xs, rfl, .inl h1, h2⟩
    | raw u => cases e
    | obj C fs => cases e
    | dK es => cases e
    | dT es => cases e
    | exn a d fs => cases e
    | err C fs => cases e
    | fz kvs => cases e
    | dN w es => cases e
  | nw c =>
    cases c with
    | lst es => obtain ⟨a, xs, rfl, h1, h2⟩ := rv_lst E h e; exact ⟨a, xs, rfl, .inl h1, h2⟩
    | dK es => cases e
    | dT es => cases e
    | dN w es => cases e
  | own i => obtain ⟨a, xs, rfl, h1, h2⟩ := rv_lst E h e; exact ⟨a, xs, rfl, .inl h1, h2⟩
theorem ty_sqT {a : Addr} {xs : List V} (h : SqT K H a xs) : TyX K H (.ref a) (.type "tuple") := by
  rcases h with (h | ⟨o, h⟩) | ⟨o, its, n, h1, h2, _⟩
  · exact .base (.tup h)
  · exact .fTuple h
  · exact .kTuple h1 h2
theorem rv_ty {T : String} (E : Env K B H σ Γ) (hi : ∀ i, r = .own i → ∃ ds, Γ[i]? = some (.acc ds)) (h : RvOk K σ B H Γ v r) (e : tyOf r = some T) : TyX K H v (.type T) := by
  cases r with
  | val d =>
    cases d with
    | raw u =>
      have hv : v = u := Is.rawI h
      subst hv
      cases v <;> first | (cases e; first | exact .base .non | exact .base (.bl _) | exact .base (.int _) | exact .base (.str _)) | cases e
    | tup es => cases e; obtain ⟨a, xs, rfl, h1, h2⟩ := Is.tupR h; exact ty_sqT (sqT_mono E.bh h1)
    | lst es => cases e; obtain ⟨a, xs, rfl, h1, h2⟩ := Is.lstR h; exact .base (.lst (E.bh _ _ h1))
    | scr es => cases e
    | obj C fs => cases e
    | dK es => cases e; cases h with | dK h1 _ _ => exact .base (.dK (E.bh _ _ h1))
    | dT es => cases e; cases h with | dT h1 _ _ => exact .base (.dT (E.bh _ _ h1))
    | exn a d fs => cases e
    | err C fs => cases e
    | fz kvs => cases e
    | dN w es => cases e
  | nw c =>
    cases c with
    | lst es => cases e; obtain ⟨l, o, rfl, _, h1, _, vs, rfl, h2⟩ := h; exact .base (.lst h1)
    | dK es => cases e; obtain ⟨l, o, rfl, _, h1, _, vs, rfl, h2⟩ := h; exact .base (.dK h1)
    | dT es => cases e; obtain ⟨l, o, rfl, _, h1, _, vs, rfl, h2⟩ := h; exact .base (.dT h1)
    | dN w es => cases e
  | own i =>
    cases e
    obtain ⟨l, rfl, hl⟩ := h
    obtain ⟨ds, hd⟩ := hi i rfl
    obtain ⟨c, us, q1, q2, _⟩ := E.acc i _ hd
    rw [hl] at q1; cases q1
    exact .base (.lst q2)
end
section
variable {K : PySem.W.Frag} {Γ : List Sl} {Post : Re → List Sl → Prop} {ta tb tc te : TE} {t u : TT}
theorem we_two' {r : R2} (h : WE K ta Γ fun ra Γ1 => WE K tb Γ1 fun rb Γ2 =>
      ∀ σ B H x y, Env K B H σ Γ2 → RvOk K σ B H Γ2 x ra → RvOk K σ B H Γ2 y rb → ∀ Q : VK, (∀ v B' H' z Γ', Go K σ B H Γ2 B' H' Γ' → ReOk K σ (Own σ Γ2) (Own σ Γ') B' H H' v z → Post z Γ' → Q v H') → r x y H Q) : WE K (tOp r ta tb) Γ Post := fun σ B H E Q q => by
  refine h σ B H E _ fun x B1 H1 ra Γ1 g1 k1 p1 => ?_
  refine p1 σ B1 H1 g1.env _ fun y B2 H2 rb Γ2 g2 k2 p2 => ?_
  exact p2 σ B2 H2 x y g2.env (ReOk.rv (ReOk.step k1 g2.mv g2.sub)) k2.rv Q fun v B' H' z Γ' g3 k3 p3 => q v B' H' z Γ' ((g1.trans g2).trans g3) (ReOk.earlier k3 (g1.trans g2).mv fun a h => .inl ((g1.trans g2).sub a h)) p3
theorem we_one' {r : V → Hp → VK → Prop} (h : WE K ta Γ fun ra Γ1 => ∀ σ B H x, Env K B H σ Γ1 → RvOk K σ B H Γ1 x ra → ∀ Q : VK, (∀ v B' H' z Γ', Go K σ B H Γ1 B' H' Γ' → ReOk K σ (Own σ Γ1) (Own σ Γ') B' H H' v z → Post z Γ' → Q v H') → r x H Q) :
    ∀ σ B H, Env K B H σ Γ → ∀ Q : VK, (∀ v B' H' r Γ', Go K σ B H Γ B' H' Γ' → ReOk K σ (Own σ Γ) (Own σ Γ') B' H H' v r → Post r Γ' → Q v H') → ta σ H (fun x H1 => r x H1 Q) := fun σ B H E Q q => by
  refine h σ B H E _ fun x B1 H1 ra Γ1 g1 k1 p1 => ?_
  exact p1 σ B1 H1 x g1.env k1.rv Q fun v B' H' z Γ' g3 k3 p3 => q v B' H' z Γ' (g1.trans g3) (ReOk.earlier k3 g1.mv fun a h => .inl (g1.sub a h)) p3
theorem we_cb1 {r : List V → Hp → VK → Prop} (h : WE K te Γ fun ra Γ1 => ∀ σ B H x, Env K B H σ Γ1 → RvOk K σ B H Γ1 x ra → ∀ Q : VK, (∀ v B' H' z Γ', Go K σ B H Γ1 B' H' Γ' → ReOk K σ (Own σ Γ1) (Own σ Γ') B' H H' v z → Post z Γ' → Q v H') → r [x] H Q) : WE K (tCB r (tCons te tNil)) Γ Post :=
  we_one' (r := fun x H Q => r [x] H Q) h
def rLenV (K : PySem.W.Frag) : List V → Hp → VK → Prop := fun xs H Q => ∃ x n, xs = [x] ∧ LenV K x H n ∧ Q (.int n) H
def rAbs : List V → Hp → VK → Prop := fun xs H Q => ∃ i, xs = [.int i] ∧ Q (.int (if i < 0 then -i else i)) H
theorem we_abs (h : WE K te Γ fun r Γ1 => ∃ i, r = .val (.int i) ∧ Post (.val (.int (if i < 0 then -i else i))) Γ1) : WE K (tCB rAbs (tCons te tNil)) Γ Post :=
  we_cb1 (we_mono h fun r Γ1 ⟨i, e, p⟩ => fun σ B H x E kx Q q => by
    subst e
    cases Is.rawI kx
    exact ⟨i, rfl, q _ B H _ Γ1 (.refl E) (.raw _) p⟩)
def rInt1 : List V → Hp → VK → Prop := fun xs H Q => (∃ i, xs = [.int i] ∧ Q (.int i) H) ∨ ∃ k, xs = [.bl k] ∧ Q (.int (if k then 1 else 0)) H
def rTupleOf (K : PySem.W.Frag) : List V → Hp → VK → Prop := fun xs H Q => ∃ p ys, xs = [.ref p] ∧ ((SqL K H p ys ∧ ∀ l, H l = none → Q (.ref l) (upd H l (.tup ys))) ∨ (SqT K H p ys ∧ Q (.ref p) H))
def rListOf (K : PySem.W.Frag) : List V → Hp → VK → Prop := fun xs H Q => ∃ p ys, xs = [.ref p] ∧ (SqL K H p ys ∨ SqT K H p ys) ∧ ∀ l, H l = none → Q (.ref l) (upd H l (.lst ys))
theorem re_laidT {σ : L2.St} {B H : Hp} {vs : List V} {ds : List Dt} {a : Addr} (E : Env K B H σ Γ) (k : IsA K B vs ds) (ha : H a = none) : ReOk K σ (Own σ Γ) (Own σ Γ) (upd B a (.tup vs)) H (upd H a (.tup vs)) (.ref a) (.val (.tup ds)) := by
  have k2 := k.mono (Go.laid (o := .tup vs) E ha).mv.bb
  exact Is.tup (.inl (.inl upd_same)) k2.len k2.at_
theorem re_newL {σ : L2.St} {B H : Hp} {vs : List V} {ds : List Dt} {a : Addr} (E : Env K B H σ Γ) (k : IsA K B vs ds) (ha : H a = none) : ReOk K σ (Own σ Γ) (Own σ Γ) B H (upd H a (.lst vs)) (.ref a) (.new ds) :=
  ⟨a, _, rfl, .inr ha, E.not_own ha, upd_same, E.base_none ha, vs, rfl, k⟩
theorem we_tuple (h : WE K te Γ fun r Γ1 => ∃ ds, seqOf Γ1 r = some ds ∧ Post (.val (.tup ds)) Γ1) : WE K (tCB (rTupleOf K) (tCons te tNil)) Γ Post :=
  we_cb1 (we_mono h fun r Γ1 ⟨ds, hs, p⟩ => fun σ B H x E kx Q q => by
    obtain ⟨a, vs, rfl, hq, ha⟩ := rv_seq E kx hs
    rcases hq with hq | hq
    · exact ⟨a, vs, rfl, .inl ⟨hq, fun l hl => q _ _ _ _ Γ1 (Go.laid E hl) (re_laidT E ha hl) p⟩⟩
    · cases r with
      | val d =>
        cases d with
        | tup es =>
          cases hs
          exact ⟨a, vs, rfl, .inr ⟨hq, q _ B H (.val (.tup ds)) Γ1 (.refl E) kx p⟩⟩
        | lst es =>
          obtain ⟨c, us, e, h1, h2⟩ := rv_lst (ds := ds) E kx hs
          cases e
          exact ⟨a, us, rfl, .inl ⟨h1, fun l hl => q _ _ _ _ Γ1 (Go.laid E hl) (re_laidT E h2 hl) p⟩⟩
        | raw u => cases hs
        | scr es =>
          obtain ⟨c, us, e, h1, h2⟩ := rv_lst (ds := ds) E kx hs
          cases e
          exact ⟨a, us, rfl, .inl ⟨h1, fun l hl => q _ _ _ _ Γ1 (Go.laid E hl) (re_laidT E h2 hl) p⟩⟩
        | obj C fs => cases hs
        | dK es => cases hs
        | dT es => cases hs
        | exn a d fs => cases hs
        | err C fs => cases hs
        | fz kvs => cases hs
        | dN w es => cases hs
      | nw c =>
        cases c with
        | lst es =>
          obtain ⟨c, us, e, h1, h2⟩ := rv_lst (ds := ds) E kx hs
          cases e
          exact ⟨a, us, rfl, .inl ⟨h1, fun l hl => q _ _ _ _ Γ1 (Go.laid E hl) (re_laidT E h2 hl) p⟩⟩
        | dK es => cases hs
        | dT es => cases hs
        | dN w es => cases hs
      | own i =>
        obtain ⟨c, us, e, h1, h2⟩ := rv_lst (ds := ds) E kx hs
        cases e
        exact ⟨a, us, rfl, .inl ⟨h1, fun l hl => q _ _ _ _ Γ1 (Go.laid E hl) (re_laidT E h2 hl) p⟩⟩)
theorem we_list (h : WE K te Γ fun r Γ1 => ∃ ds, seqOf Γ1 r = some ds ∧ Post (.new ds) Γ1) : WE K (tCB (rListOf K) (tCons te tNil)) Γ Post :=
  we_cb1 (we_mono h fun r Γ1 ⟨ds, hs, p⟩ => fun σ B H x E kx Q q => by
    obtain ⟨a, vs, rfl, hq, ha⟩ := rv_seq E kx hs
    exact ⟨a, vs, rfl, hq, fun l hl => q _ _ _ _ Γ1 (Go.beside E hl) (re_newL E ha hl) p⟩)
theorem we_isi {c : String} (h : WE K te Γ fun r Γ1 => (∀ i, r = .own i → ∃ ds, Γ1[i]? = some (.acc ds)) ∧ ∃ T b, tyOf r = some T ∧ kitB T c = some b ∧ Post (.val (.bl b)) Γ1) : WE K (tCB (rIsi K) (tCons te (tCons (tC (.ty c)) tNil))) Γ Post :=
  we_one' (r := fun x H Q => rIsi K [x, .ty c] H Q) (we_mono h fun r Γ1 ⟨ho, T, b, ht, hk, p⟩ => fun σ B H x E kx Q q =>
    ⟨x, .ty c, .type T, .type c, b, rfl, .ty c, rv_ty E ho kx ht, kit_ty hk, q _ B H _ Γ1 (.refl E) (.raw _) p⟩)
def rMx2 : List V → Hp → VK → Prop := fun xs H Q => ∃ i j, xs = [.int i, .int j] ∧ Q (.int (if j > i then j else i)) H
def rMn2 : List V → Hp → VK → Prop := fun xs H Q => ∃ i j, xs = [.int i, .int j] ∧ Q (.int (if j < i then j else i)) H
theorem we_max2 (h : WE K ta Γ fun ra Γ1 => ∃ i, ra = .val (.int i) ∧ WE K tb Γ1 fun rb Γ2 => ∃ j, rb = .val (.int j) ∧ Post (.val (.int (if j > i then j else i))) Γ2) : WE K (tCB rMx2 (tCons ta (tCons tb tNil))) Γ Post :=
  we_two' (r := fun x y H Q => rMx2 [x, y] H Q) (we_mono h fun ra Γ1 ⟨i, ei, h1⟩ => we_mono h1 fun rb Γ2 ⟨j, ej, p⟩ => fun σ B H x y E kx ky Q q => by
    subst ei ej
    cases Is.rawI kx; cases Is.rawI ky
    exact ⟨i, j, rfl, q _ B H _ Γ2 (.refl E) (.raw _) p⟩)
theorem we_min2 (h : WE K ta Γ fun ra Γ1 => ∃ i, ra = .val (.int i) ∧ WE K tb Γ1 fun rb Γ2 => ∃ j, rb = .val (.int j) ∧ Post (.val (.int (if j < i then j else i))) Γ2) : WE K (tCB rMn2 (tCons ta (tCons tb tNil))) Γ Post :=
  we_two' (r := fun x y H Q => rMn2 [x, y] H Q) (we_mono h fun ra Γ1 ⟨i, ei, h1⟩ => we_mono h1 fun rb Γ2 ⟨j, ej, p⟩ => fun σ B H x y E kx ky Q q => by
    subst ei ej
    cases Is.rawI kx; cases Is.rawI ky
    exact ⟨i, j, rfl, q _ B H _ Γ2 (.refl E) (.raw _) p⟩)
theorem we_chainI {g g' : Int → Int → Bool} (h : WE K ta Γ fun ra Γ1 => ∃ i, ra = .val (.int i) ∧ WE K tb Γ1 fun rb Γ2 => ∃ j, rb = .val (.int j) ∧
      (g i j = true → WE K tc Γ2 fun rc Γ3 => ∃ k, rc = .val (.int k) ∧ Post (.val (.bl (g' j k))) Γ3) ∧ (g i j = false → Post (.val (.bl false)) Γ2)) :
    WE K (tChain (rI0 fun i j => .bl (g i j)) (rI0 fun i j => .bl (g' i j)) ta tb tc) Γ Post := fun σ B H E Q q => by
  refine h σ B H E _ fun x B1 H1 ra Γ1 g1 k1 p1 => ?_
  obtain ⟨i, rfl, p1⟩ := p1
  refine p1 σ B1 H1 g1.env _ fun y B2 H2 rb Γ2 g2 k2 p2 => ?_
  obtain ⟨j, rfl, p2, p3⟩ := p2
  cases Is.rawI k1; cases Is.rawI k2
  refine ⟨i, j, rfl, rfl, g i j, rfl, ?_⟩
  cases hg : g i j with
  | true =>
    show tc σ H2 fun w' H4 => rI0 (fun i j => .bl (g' i j)) (.int j) w' H4 Q
    refine p2 hg σ B2 H2 g2.env _ fun z B3 H3 rc Γ3 g3 k3 p3 => ?_
    obtain ⟨k, rfl, p⟩ := p3
    cases Is.rawI k3
    exact ⟨j, k, rfl, rfl, q _ B3 H3 _ Γ3 ((g1.trans g2).trans g3) (.raw _) p⟩
  | false =>
    show Q (.bl false) H2
    exact q _ B2 H2 _ Γ2 (g1.trans g2) (.raw _) (p3 hg)
theorem we_in {neg : Bool} (h : WE K ta Γ fun ra Γ1 => WE K tb Γ1 fun rb Γ2 => ∃ (x : V) (us : List V), ra = .val (.raw x) ∧ seqOf Γ2 rb = some (us.map Dt.raw) ∧ flatV x = true ∧ us.all flatV = true ∧ Post (.val (.bl (if neg then !inV x us else inV x us))) Γ2) : WE K (tOp (rIn K neg) ta tb) Γ Post :=
  we_two' (we_mono h fun ra Γ1 h1 => we_mono h1 fun rb Γ2 ⟨x, us, e, hs, hx, hu, p⟩ => fun σ B H y z E ky kz Q q => by
    subst e
    cases Is.rawI ky
    obtain ⟨a, vs, rfl, hq, ha⟩ := rv_seq E kz hs
    cases ha.rawsI
    exact ⟨a, _, rfl, hq, hx, hu, q _ B H _ Γ2 (.refl E) (.raw _) p⟩)
end
end Ab

namespace Ab
open PySem L2
structure GoS (K : PySem.W.Frag) (pin : List Nat) (σ : L2.St) (B H : Hp) (Γ : List Sl) (σ' : L2.St) (B' H' : Hp) (Γ' : List Sl) : Prop where
  mv : Mv (Own σ Γ) B H B' H'
  new : ∀ a, Own σ' Γ' a → Own σ Γ a ∨ H a = none
  env : Env K B' H' σ' Γ'
  pin : ∀ i, i ∈ pin → σ'[i]? = σ[i]?
structure Ex where
  W : WX
  q : Value → List (Str × Dt) → List Sl → Prop
def Ex.no : Ex := ⟨fun _ _ _ _ => True, fun _ _ _ => False⟩
inductive ExB (K : PySem.W.Frag) (B : Hp) : Option Addr → List (Str × Dt) → Prop where
  | none : ExB K B none []
  | some {dd : Addr} {fs : List (Str × V)} {gs : List (Str × Dt)} (h : B dd = some (.xd fs)) (hk : ∀ f : Str, (fs.lookup f).isSome = (gs.lookup f).isSome) (hi : ∀ (f : Str) v d, fs.lookup f = some v → gs.lookup f = some d → Is K B v d) (hne : gs ≠ []) : ExB K B (some dd) gs
structure Ps where
  nx : List Sl → Prop
  rt : Re → List Sl → Prop
  bk : List Sl → Prop := fun _ => False
  ct : List Sl → Prop := fun _ => False
  ex : Ex := Ex.no
def Re.free : Re → Bool
  | .own _ => false
  | _ => true
def WS (K : PySem.W.Frag) (pin : List Nat) (ts : TS) (Γ : List Sl) (P : Ps) : Prop := ∀ σ B H (D : Ends), Env K B H σ Γ →
  (∀ σ' B' H' Γ', GoS K pin σ B H Γ σ' B' H' Γ' → P.nx Γ' → D.nx σ' H') →
  (∀ v σ' B' H' r Γ', GoS K pin σ B H Γ σ' B' H' Γ' → ReOk K [] (Own σ Γ) (Own σ' Γ') B' H H' v r → P.rt r Γ' → D.rt v H') →
  (∀ σ' B' H' Γ', GoS K pin σ B H Γ σ' B' H' Γ' → P.bk Γ' → D.bk σ' H') →
  (∀ σ' B' H' Γ', GoS K pin σ B H Γ σ' B' H' Γ' → P.ct Γ' → D.ct σ' H') →
  (∀ cls d fs σ' B' H' Γ', GoS K pin σ B H Γ σ' B' H' Γ' → ExB K B' d fs → P.ex.q cls fs Γ' → P.ex.W cls d σ' H') → ts D σ H
def WG (K : PySem.W.Frag) (pin : List Nat) (g : TG) (d : Dt) (Γ : List Sl) (P : List Sl → Prop) : Prop := ∀ σ B H x, Env K B H σ Γ → Is K B x d → ∀ Q : L2.St → Hp → Prop,
  (∀ σ' Γ', GoS K pin σ B H Γ σ' B H Γ' → P Γ' → Q σ' H) → g x σ H Q
section
variable {K : PySem.W.Frag} {pin : List Nat} {σ σ1 σ2 : L2.St} {B H B1 H1 B2 H2 : Hp} {Γ Γ1 Γ2 : List Sl} {v : V} {r : Re} {P : Ps}
theorem GoS.refl (E : Env K B H σ Γ) : GoS K pin σ B H Γ σ B H Γ := ⟨Mv.refl _ _ _, fun _ h => .inl h, E, fun _ _ => rfl⟩
theorem GoS.trans (x : GoS K pin σ B H Γ σ1 B1 H1 Γ1) (y : GoS K pin σ1 B1 H1 Γ1 σ2 B2 H2 Γ2) : GoS K pin σ B H Γ σ2 B2 H2 Γ2 :=
  ⟨x.mv.trans x.new y.mv, fun a h => (y.new a h).elim (fun z => x.new a z) fun z => x.mv.back z, y.env, fun i hi => (y.pin i hi).trans (x.pin i hi)⟩
theorem Go.s (x : Go K σ B H Γ B1 H1 Γ1) : GoS K pin σ B H Γ σ B1 H1 Γ1 := ⟨x.mv, fun a h => .inl (x.sub a h), x.env, fun _ _ => rfl⟩
theorem ReOk.off {m m' : Addr → Prop} (h : ReOk K σ m m' B1 H H1 v r) (hf : r.free = true) : ReOk K [] m m' B1 H H1 v r := by
  cases r with
  | val d => exact h
  | nw ds => exact h
  | own i => cases hf
theorem Own.set_ne {i : Nat} {x : Option V} {s : Sl} {a : Addr} (h : Own (σ.set i x) (Γ.set i s) a) (hs : ∀ ds, s = .cel ds → x ≠ some (.ref a)) : Own σ Γ a := by
  obtain ⟨j, ds, h1, h2⟩ := h
  by_cases hij : i = j
  · subst hij
    have hi : i < Γ.length := by
      have := (List.getElem?_eq_some_iff.mp h1).1
      simpa using this
    have hi2 : i < σ.length := by
      have := (List.getElem?_eq_some_iff.mp h2).1
      simpa using this
    rw [List.getElem?_set_self hi] at h1
    rw [List.getElem?_set_self hi2] at h2
    exact absurd (Option.some.inj h2) (hs ds (Option.some.inj h1))
  · rw [List.getElem?_set_ne hij] at h1 h2
    exact ⟨j, ds, h1, h2⟩
def slOf : Re → Sl
  | .val d => .val d
  | .nw c => .cel c
  | .own _ => .un
theorem Env.setV (E : Env K B H σ Γ) {i : Nat} {d : Dt} (hi : i < Γ.length) (hv : Is K B v d) : Env K B H (σ.set i (some v)) (Γ.set i (.val d)) := by
  have hi2 : i < σ.length := by rw [E.len]; exact hi
  have nac : ∀ {j : Nat} {es : Cn}, (Γ.set i (.val d))[j]? = some (.cel es) → i ≠ j := fun {j es} h z => by
    subst z
    rw [List.getElem?_set_self hi] at h; cases h
  refine ⟨by simp [E.len], E.bh, fun j e h => ?_, fun j es h => ?_, fun j k ds es l h1 h2 h3 h4 => ?_⟩
  · by_cases hij : i = j
    · subst hij
      rw [List.getElem?_set_self hi] at h
      cases h
      exact ⟨v, List.getElem?_set_self hi2, hv⟩
    · rw [List.getElem?_set_ne hij] at h ⊢
      exact E.val j e h
  · have hij := nac h
    rw [List.getElem?_set_ne hij] at h ⊢
    exact E.cel j es h
  · have a1 := nac h1
    have a2 := nac h2
    rw [List.getElem?_set_ne a1] at h1 h3
    rw [List.getElem?_set_ne a2] at h2 h4
    exact E.sep j k ds es l h1 h2 h3 h4
theorem Env.setU (E : Env K B H σ Γ) {i : Nat} (x : Option V) (hi : i < Γ.length) : Env K B H (σ.set i x) (Γ.set i .un) := by
  have nac : ∀ {j : Nat} {s : Sl}, (Γ.set i .un)[j]? = some s → s ≠ .un → i ≠ j := fun {j s} h hs z => by
    subst z
    rw [List.getElem?_set_self hi] at h; cases h; exact hs rfl
  refine ⟨by simp [E.len], E.bh, fun j e h => ?_, fun j es h => ?_, fun j k ds es l h1 h2 h3 h4 => ?_⟩
  · have hij := nac h (fun z => nomatch z)
    rw [List.getElem?_set_ne hij] at h ⊢
    exact E.val j e h
  · have hij := nac h (fun z => nomatch z)
    rw [List.getElem?_set_ne hij] at h ⊢
    exact E.cel j es h
  · have a1 := nac h1 (fun z => nomatch z)
    have a2 := nac h2 (fun z => nomatch z)
    rw [List.getElem?_set_ne a1] at h1 h3
    rw [List.getElem?_set_ne a2] at h2 h4
    exact E.sep j k ds es l h1 h2 h3 h4
theorem Env.setA (E : Env K B H σ Γ) {i : Nat} {l : Addr} {vs : HO} {ds : Cn} (hi : i < Γ.length) (hn : ¬ Own σ Γ l) (hl : H l = some vs) (hb : B l = none) (ha : CnIs K B l vs ds) : Env K B H (σ.set i (some (.ref l))) (Γ.set i (.cel ds)) := by
  have hi2 : i < σ.length := by rw [E.len]; exact hi
  refine ⟨by simp [E.len], E.bh, fun j e h => ?_, fun j es h => ?_, fun j k ds' es l' h1 h2 h3 h4 => ?_⟩
  · by_cases hij : i = j
    · subst hij
      rw [List.getElem?_set_self hi] at h
      cases h
    · rw [List.getElem?_set_ne hij] at h ⊢
      exact E.val j e h
  · by_cases hij : i = j
    · subst hij
      rw [List.getElem?_set_self hi] at h
      cases h
      exact ⟨l, vs, List.getElem?_set_self hi2, hl, hb, ha⟩
    · rw [List.getElem?_set_ne hij] at h ⊢
      exact E.cel j es h
  · by_cases h1i : i = j
    · by_cases h2i : i = k
      · exact h1i.symm.trans h2i
      · subst h1i
        rw [List.getElem?_set_self hi2] at h3
        rw [List.getElem?_set_ne h2i] at h2 h4
        cases h3
        exact absurd ⟨k, es, h2, h4⟩ hn
    · by_cases h2i : i = k
      · subst h2i
        rw [List.getElem?_set_self hi2] at h4
        rw [List.getElem?_set_ne h1i] at h1 h3
        cases h4
        exact absurd ⟨j, ds', h1, h3⟩ hn
      · rw [List.getElem?_set_ne h1i] at h1 h3
        rw [List.getElem?_set_ne h2i] at h2 h4
        exact E.sep j k ds' es l' h1 h2 h3 h4
theorem pin_set {i : Nat} {x : Option V} (hp : pin.contains i = false) : ∀ j, j ∈ pin → (σ.set i x)[j]? = σ[j]? := fun j hj => by
  have : i ≠ j := fun z => by
    subst z
    have := List.contains_iff_mem.mpr hj
    rw [hp] at this; cases this
  exact List.getElem?_set_ne this
theorem goS_set (g : Go K σ B H Γ B1 H1 Γ1) (k : ReOk K σ (Own σ Γ) (Own σ Γ1) B1 H H1 v r) {i : Nat} (hp : pin.contains i = false) (hi : i < Γ1.length) : GoS K pin σ B H Γ (σ.set i (some v)) B1 H1 (Γ1.set i (slOf r)) := by
  cases r with
  | val d => exact ⟨g.mv, fun a h => .inl (g.sub a (h.set_ne fun ds z => nomatch z)), g.env.setV hi k, pin_set hp⟩
  | own j => exact ⟨g.mv, fun a h => .inl (g.sub a (h.set_ne fun ds z => nomatch z)), g.env.setU _ hi, pin_set hp⟩
  | nw ds =>
    obtain ⟨l, vs, rfl, h1, h2, h3, h4, h5⟩ := k
    refine ⟨g.mv, fun a h => ?_, g.env.setA hi h2 h3 h4 h5, pin_set hp⟩
    by_cases ha : a = l
    · subst ha; exact h1
    · exact .inl (g.sub a (h.set_ne fun ds _ z => ha (by cases z; rfl)))
end
section
variable {K : PySem.W.Frag} {pin : List Nat} {Γ : List Sl} {P : Ps} {te ta tb : TE} {tt : TT} {t u tb' : TS} {g : TG}
theorem ws_mono {P' : Ps} (h : WS K pin t Γ P) (h1 : ∀ G, P.nx G → P'.nx G) (h2 : ∀ r G, P.rt r G → P'.rt r G) (h3 : ∀ G, P.bk G → P'.bk G) (h4 : ∀ G, P.ct G → P'.ct G) (h5 : P'.ex = P.ex := by rfl) : WS K pin t Γ P' := fun σ B H D E n r b c xx =>
  h σ B H D E (fun σ' B' H' Γ' g p => n σ' B' H' Γ' g (h1 _ p)) (fun v σ' B' H' z Γ' g k p => r v σ' B' H' z Γ' g k (h2 _ _ p)) (fun σ' B' H' Γ' g p => b σ' B' H' Γ' g (h3 _ p)) (fun σ' B' H' Γ' g p => c σ' B' H' Γ' g (h4 _ p)) (h5 ▸ xx)
theorem ws_from {σ σ1 : L2.St} {B H B1 H1 : Hp} {Γ1 : List Sl} {D : Ends} (h : WS K pin t Γ1 P) (g : GoS K pin σ B H Γ σ1 B1 H1 Γ1)
    (n : ∀ σ' B' H' Γ', GoS K pin σ B H Γ σ' B' H' Γ' → P.nx Γ' → D.nx σ' H')
    (r : ∀ v σ' B' H' r Γ', GoS K pin σ B H Γ σ' B' H' Γ' → ReOk K [] (Own σ Γ) (Own σ' Γ') B' H H' v r → P.rt r Γ' → D.rt v H')
    (b : ∀ σ' B' H' Γ', GoS K pin σ B H Γ σ' B' H' Γ' → P.bk Γ' → D.bk σ' H')
    (c : ∀ σ' B' H' Γ', GoS K pin σ B H Γ σ' B' H' Γ' → P.ct Γ' → D.ct σ' H')
    (xx : ∀ cls d fs σ' B' H' Γ', GoS K pin σ B H Γ σ' B' H' Γ' → ExB K B' d fs → P.ex.q cls fs Γ' → P.ex.W cls d σ' H') : t D σ1 H1 :=
  h σ1 B1 H1 D g.env (fun σ' B' H' Γ' g' p => n σ' B' H' Γ' (g.trans g') p) (fun v σ' B' H' z Γ' g' k p => r v σ' B' H' z Γ' (g.trans g') (ReOk.earlier k g.mv g.new) p)
    (fun σ' B' H' Γ' g' p => b σ' B' H' Γ' (g.trans g') p) (fun σ' B' H' Γ' g' p => c σ' B' H' Γ' (g.trans g') p) (fun cls d fs σ' B' H' Γ' g' hx p => xx cls d fs σ' B' H' Γ' (g.trans g') hx p)
theorem ws_seq (h : WS K pin t Γ { P with nx := fun Γ1 => WS K pin u Γ1 P }) : WS K pin (tSeq t u) Γ P := fun σ B H D E n r b c xx =>
  h σ B H { D with nx := u D } E (fun σ' B' H' Γ' g p => ws_from (t := u) (D := D) p g n r b c xx) r b c xx
theorem ws_nil (p : P.nx Γ) : WS K pin tNext Γ P := fun σ B H D E n r b c xx => n σ B H Γ (.refl E) p
theorem ws_expr (h : WE K te Γ fun _ Γ1 => P.nx Γ1) : WS K pin (tDrop te) Γ P := fun σ B H D E n r b c xx =>
  h σ B H E _ fun v B1 H1 z Γ1 g k p => n σ B1 H1 Γ1 g.s p
theorem ws_ret (h : WE K te Γ fun z Γ1 => z.free = true ∧ P.rt z Γ1) : WS K pin (tRet te) Γ P := fun σ B H D E n r b c xx =>
  h σ B H E _ fun v B1 H1 z Γ1 g k ⟨hf, p⟩ => r v σ B1 H1 z Γ1 g.s (k.off hf) p
theorem ws_retA {i : Nat} {ds : List Dt} (h : Γ[i]? = some (.acc ds)) (p : P.rt (.new ds) (Γ.set i .un)) : WS K pin (tRet (tVar i)) Γ P := ws_ret (we_move h ⟨rfl, p⟩)
theorem ws_if (h : WT K tt Γ fun b Γ1 => (b = true → WS K pin t Γ1 P) ∧ (b = false → WS K pin u Γ1 P)) : WS K pin (tIfS tt t u) Γ P := fun σ B H D E n r b c xx =>
  h σ B H E _ fun z B1 H1 Γ1 g p => by
    cases z with
    | true =>
      show t D σ H1
      exact ws_from (p.1 rfl) g.s n r b c xx
    | false =>
      show u D σ H1
      exact ws_from (p.2 rfl) g.s n r b c xx
theorem ws_asg {i : Nat} (hp : pin.contains i = false) (hi : decide (i < Γ.length) = true) (h : WE K te Γ fun z Γ1 => P.nx (Γ1.set i (slOf z))) : WS K pin (tAsg te (gName i)) Γ P := fun σ B H D E n r b c xx =>
  h σ B H E _ fun v B1 H1 z Γ1 g k p => n _ B1 H1 _ (goS_set g k hp (by rw [← g.env.len, E.len]; exact of_decide_eq_true hi)) p
theorem ws_asgG (h : WE K te Γ fun z Γ1 => ∃ d, z = .val d ∧ WG K pin g d Γ1 P.nx) : WS K pin (tAsg te g) Γ P := fun σ B H D E n r b c xx =>
  h σ B H E _ fun v B1 H1 z Γ1 g1 k p => by
    obtain ⟨d, rfl, p⟩ := p
    exact p σ B1 H1 v g1.env k _ fun σ' Γ' g2 p2 => n σ' B1 H1 Γ' (g1.s.trans g2) p2
theorem wg_name {i : Nat} {d : Dt} {Q : List Sl → Prop} (hp : pin.contains i = false) (hi : decide (i < Γ.length) = true) (p : Q (Γ.set i (.val d))) : WG K pin (gName i) d Γ Q := fun σ B H x E k R q =>
  q _ _ (goS_set (r := .val d) (.refl E) k hp (of_decide_eq_true hi)) p
def WGs (K : PySem.W.Frag) (pin : List Nat) (g : TGs) (ds : List Dt) (Γ : List Sl) (P : List Sl → Prop) : Prop := ∀ σ B H xs, Env K B H σ Γ → IsA K B xs ds → ∀ Q : L2.St → Hp → Prop,
  (∀ σ' Γ', GoS K pin σ B H Γ σ' B H Γ' → P Γ' → Q σ' H) → g xs σ H Q
theorem wgs_nil {Q : List Sl → Prop} (p : Q Γ) : WGs K pin gNil [] Γ Q := fun σ B H xs E k R q => by
  have : xs = [] := List.eq_nil_of_length_eq_zero (by rw [k.len]; rfl)
  exact ⟨this, q σ Γ (.refl E) p⟩
theorem wgs_cons {g1 : TG} {g2 : TGs} {d : Dt} {ds : List Dt} {Q : List Sl → Prop} (h : WG K pin g1 d Γ fun Γ1 => WGs K pin g2 ds Γ1 Q) : WGs K pin (gCons g1 g2) (d :: ds) Γ Q := fun σ B H xs E k R q => by
  cases xs with
  | nil => have := k.len; simp at this
  | cons x r =>
    refine ⟨x, r, rfl, h σ B H x E (k.at_ 0 x d rfl rfl) _ fun σ1 Γ1 e1 p1 => ?_⟩
    exact p1 σ1 B H r e1.env ⟨by have := k.len; simpa using this, fun i v d a b => k.at_ (i + 1) v d (by simpa using a) (by simpa using b)⟩ R fun σ2 Γ2 e2 p2 => q σ2 Γ2 (e1.trans e2) p2
theorem wg_tup {n : Nat} {g2 : TGs} {ds : List Dt} {Q : List Sl → Prop} (hn : ds.length = n) (h : WGs K pin g2 ds Γ Q) : WG K pin (gTup K n g2) (.tup ds) Γ Q := fun σ B H x E k R q => by
  obtain ⟨a, xs, rfl, h1, h2⟩ := Is.tupR k
  exact ⟨a, xs, rfl, sqT_mono E.bh h1, by rw [h2.len]; exact hn, h σ B H xs E h2 R q⟩
theorem ws_aug {i : Nat} {f : Int → Int → Int} {a : Int} (hx : Γ[i]? = some (.val (.int a))) (hp : pin.contains i = false) (h : WE K te Γ fun z Γ1 => ∃ b, z = .val (.int b) ∧ P.nx (Γ1.set i (.val (.int (f a b))))) : WS K pin (tAug i te (ipI f)) Γ P := fun σ B H D E n r b c xx => by
  obtain ⟨v, hv, hk⟩ := E.val i _ hx
  cases hk.rawI
  refine ⟨_, hv, h σ B H E _ fun y B1 H1 z Γ1 g k p => ?_⟩
  obtain ⟨b, rfl, p⟩ := p
  cases Is.rawI k
  exact ⟨a, b, rfl, rfl, n _ B1 H1 _ (goS_set (r := .val (.int (f a b))) g (Is.raw _) hp (by rw [← g.env.len, E.len]; exact (List.getElem?_eq_some_iff.mp hx).1)) p⟩
theorem Env.put {σ : L2.St} {B H : Hp} {i : Nat} {ds es : Cn} {l : Addr} {ys : HO} (E : Env K B H σ Γ) (h : Γ[i]? = some (.cel ds)) (hl : σ[i]? = some (some (.ref l))) (ha : CnIs K B l ys es) : Env K B (upd H l ys) σ (Γ.set i (.cel es)) := by
  have hi : i < Γ.length := (List.getElem?_eq_some_iff.mp h).1
  obtain ⟨l', vs, q1, q2, q3, q4⟩ := E.cel i ds h
  rw [hl] at q1; cases q1
  have up : ∀ {j : Nat} {es' : Cn}, (Γ.set i (.cel es))[j]? = some (.cel es') → ∃ ds', Γ[j]? = some (.cel ds') := fun {j es'} hj => by
    by_cases hij : i = j
    · subst hij; exact ⟨ds, h⟩
    · rw [List.getElem?_set_ne hij] at hj; exact ⟨es', hj⟩
  refine ⟨by simp [E.len], fun a u e => ?_, fun j e hj => ?_, fun j es' hj => ?_, fun j k ds' es' l' h1 h2 h3 h4 => ?_⟩
  · rw [upd_ne (ne_of_none e q3)]; exact E.bh a u e
  · by_cases hij : i = j
    · subst hij; rw [List.getElem?_set_self hi] at hj; cases hj
    · rw [List.getElem?_set_ne hij] at hj; exact E.val j e hj
  · by_cases hij : i = j
    · subst hij; rw [List.getElem?_set_self hi] at hj; cases hj
      exact ⟨l, ys, hl, upd_same, q3, ha⟩
    · rw [List.getElem?_set_ne hij] at hj
      obtain ⟨c, us, e1, e2, e3, e4⟩ := E.cel j es' hj
      have hc : c ≠ l := fun z => by
        subst z
        exact hij (E.sep i j ds es' c h hj hl e1)
      exact ⟨c, us, e1, by rw [upd_ne hc]; exact e2, e3, e4⟩
  · obtain ⟨d1, g1⟩ := up h1
    obtain ⟨d2, g2⟩ := up h2
    exact E.sep j k d1 d2 l' g1 g2 h3 h4
theorem Own.put {σ : L2.St} {i : Nat} {ds es : Cn} {a : Addr} (h : Γ[i]? = some (.cel ds)) (o : Own σ (Γ.set i (.cel es)) a) : Own σ Γ a := by
  obtain ⟨j, es', h1, h2⟩ := o
  by_cases hij : i = j
  · subst hij; exact ⟨i, ds, h, h2⟩
  · rw [List.getElem?_set_ne hij] at h1; exact ⟨j, es', h1, h2⟩
theorem Go.putC {σ : L2.St} {B H : Hp} {i : Nat} {ds es : Cn} {l : Addr} {ys : HO} (E : Env K B H σ Γ) (h : Γ[i]? = some (.cel ds)) (hl : σ[i]? = some (some (.ref l))) (ha : CnIs K B l ys es) : Go K σ B H Γ B (upd H l ys) (Γ.set i (.cel es)) :=
  ⟨⟨fun a o na e => by rw [upd_ne (fun z => na (by subst z; exact ⟨i, ds, h, hl⟩))]; exact e, Same.refl B, fun _ _ _ e => e⟩, fun j es' hj => by
    by_cases hij : i = j
    · subst hij; exact ⟨ds, h⟩
    · rw [List.getElem?_set_ne hij] at hj; exact ⟨es', hj⟩, E.put h hl ha⟩
theorem Go.put {σ : L2.St} {B H : Hp} {i : Nat} {ds es : List Dt} {l : Addr} {ys : List V} (E : Env K B H σ Γ) (h : Γ[i]? = some (.acc ds)) (hl : σ[i]? = some (some (.ref l))) (ha : IsA K B ys es) : Go K σ B H Γ B (upd H l (.lst ys)) (Γ.set i (.acc es)) :=
  Go.putC E h hl ⟨ys, rfl, ha⟩
theorem we_append {i : Nat} {ds0 : List Dt} {Post : Re → List Sl → Prop} (h0 : Γ[i]? = some (.acc ds0)) (h : WE K te Γ fun z Γ1 => ∃ d ds, z.dt? = some d ∧ Γ1[i]? = some (.acc ds) ∧ ds.length < 1000000 ∧ Post (.val .non) (Γ1.set i (.acc (ds ++ [d])))) :
    WE K (tBM K "list" rAppend (tVar i) (tCons te tNil)) Γ Post := fun σ B H E Q q => by
  obtain ⟨l, vs, e0, e1, e2, k0⟩ := E.acc i ds0 h0
  refine ⟨.ref l, e0, .inl ⟨rfl, vs, .inl (.inl e1)⟩, ?_⟩
  have h' : WE K te Γ fun z Γ1 => ∃ d ds, z = .val d ∧ Γ1[i]? = some (.acc ds) ∧ ds.length < 1000000 ∧ Post (.val .non) (Γ1.set i (.acc (ds ++ [d]))) := we_freeze (we_mono h fun z Γ1 ⟨d, ds, hd, r⟩ => ⟨d, hd, d, ds, rfl, r⟩)
  refine h' σ B H E _ fun y B1 H1 z Γ1 g k p => ?_
  obtain ⟨d, ds, rfl, hi, hz, p⟩ := p
  obtain ⟨l', us, f0, f1, f2, k1⟩ := g.env.acc i ds hi
  rw [e0] at f0; cases f0
  refine ⟨l, us, y, rfl, rfl, f1, Nat.lt_trans (by rw [k1.len]; exact hz) (by decide), ?_⟩
  have g2 := Go.put g.env hi e0 (k1.snoc k)
  exact q .non B1 _ (.val .non) _ (g.trans g2) (Is.raw _) p
theorem ws_setA {i : Nat} {tj : TE} (h : WE K te Γ fun z Γ1 => ∃ d, z = .val d ∧ (∃ ds1, Γ1[i]? = some (.acc ds1)) ∧ WE K tj Γ1 fun y Γ2 => ∃ ds k j, y = .val (.int k) ∧ Γ2[i]? = some (.acc ds) ∧ ixN ds.length k = some j ∧ P.nx (Γ2.set i (.acc (ds.set j d)))) :
    WS K pin (tAsg te (gSub (tVar i) tj rSetL)) Γ P := fun σ B H D E n r b c xx => by
  refine h σ B H E _ fun v B1 H1 z Γ1 g1 k1 p1 => ?_
  obtain ⟨d, rfl, ⟨ds1, h1⟩, p1⟩ := p1
  obtain ⟨l, vs, e0, e1, e2, k0⟩ := g1.env.acc i ds1 h1
  refine ⟨.ref l, e0, p1 σ B1 H1 g1.env _ fun y B2 H2 w Γ2 g2 k2 p2 => ?_⟩
  obtain ⟨ds, k, j, rfl, hi, hj, p⟩ := p2
  cases Is.rawI k2
  obtain ⟨l', us, f0, f1, f2, k3⟩ := g2.env.acc i ds hi
  rw [e0] at f0; cases f0
  refine ⟨l, us, k, j, rfl, rfl, f1, by rw [k3.len]; exact hj, ?_⟩
  exact n _ B2 _ _ ((g1.trans g2).trans (Go.put g2.env hi e0 (k3.set (Is.mono g2.mv.bb k1)))).s p
theorem we_reverse {i : Nat} {ds : List Dt} {Post : Re → List Sl → Prop} (h0 : Γ[i]? = some (.acc ds)) (p : Post (.val .non) (Γ.set i (.acc ds.reverse))) : WE K (tBM0 K "list" rReverse (tVar i)) Γ Post := fun σ B H E Q q => by
  obtain ⟨l, vs, e0, e1, e2, k0⟩ := E.acc i ds h0
  exact ⟨.ref l, e0, .inl ⟨rfl, vs, .inl (.inl e1)⟩, l, vs, rfl, rfl, e1, q .non B _ (.val .non) _ (Go.put E h0 e0 k0.reverse) (Is.raw _) p⟩
theorem ws_for1 {t1 : TA} (h : WD K t1 Γ fun ds Γ1 => ∃ n : Int, ds = [.int n] ∧ -(2 ^ 62) ≤ n ∧ n < 2 ^ 62 ∧ ∃ Inv : Nat → List Sl → Prop, Inv 0 Γ1 ∧
      (∀ (i : Nat) Γ', (i : Int) < n → Inv i Γ' → WG K pin g (.int i) Γ' fun Γ2 => WS K pin tb' Γ2 ⟨Inv (i + 1), P.rt, P.nx, Inv (i + 1), P.ex⟩) ∧ ∀ Γ', Inv n.toNat Γ' → P.nx Γ') : WS K pin (tFor (iRng1 t1) g tb') Γ P := fun σ B H D E n r b c xx => by
  refine h σ B H E _ fun vs B1 H1 ds Γ1 g1 k p => ?_
  obtain ⟨m, rfl, hlo, hhi, Inv, i0, turn, done⟩ := p
  have ev : vs = [.int m] := IsA.rawsI (xs := [.int m]) k
  refine ⟨m, ev, hlo, hhi, ?_⟩
  refine for_range (lo := 0) (n := m.toNat) (fun i σ' H' => ∃ B' Γ', GoS K pin σ B H Γ σ' B' H' Γ' ∧ Inv i Γ') ⟨B1, Γ1, g1.s, i0⟩ ?_ ?_
  · rintro i σ' H' hi ⟨B', Γ', g2, inv⟩
    have e0 : (0 : Int) + (i : Int) = (i : Int) := Int.zero_add _
    rw [e0]
    refine turn i Γ' (by omega) inv σ' B' H' _ g2.env (.raw _) _ fun σ2 Γ2 g3 w => ?_
    exact ws_from w (g2.trans g3) (fun σ3 B3 H3 Γ3 g4 p => ⟨B3, Γ3, g4, p⟩) r (fun σ3 B3 H3 Γ3 g4 p => n σ3 B3 H3 Γ3 g4 p) (fun σ3 B3 H3 Γ3 g4 p => ⟨B3, Γ3, g4, p⟩) xx
  · rintro σ' H' ⟨B', Γ', g2, inv⟩
    exact n σ' B' H' Γ' g2 (done Γ' inv)
theorem ws_for2 {t1 : TA} (h : WD K t1 Γ fun ds Γ1 => ∃ lo m : Int, ds = [.int lo, .int m] ∧ (-(2 ^ 62) ≤ lo ∧ lo < 2 ^ 62 ∧ -(2 ^ 62) ≤ m ∧ m < 2 ^ 62) ∧ ∃ Inv : Nat → List Sl → Prop, Inv 0 Γ1 ∧
      (∀ (i : Nat) Γ', lo + (i : Int) < m → Inv i Γ' → WG K pin g (.int (lo + i)) Γ' fun Γ2 => WS K pin tb' Γ2 ⟨Inv (i + 1), P.rt, P.nx, Inv (i + 1), P.ex⟩) ∧ ∀ Γ', Inv (m - lo).toNat Γ' → P.nx Γ') : WS K pin (tFor (iRng2 t1) g tb') Γ P := fun σ B H D E n r b c xx => by
  refine h σ B H E _ fun vs B1 H1 ds Γ1 g1 k p => ?_
  obtain ⟨lo, m, rfl, hb, Inv, i0, turn, done⟩ := p
  have ev : vs = [.int lo, .int m] := IsA.rawsI (xs := [.int lo, .int m]) k
  refine ⟨lo, m, ev, hb, ?_⟩
  refine for_range (lo := lo) (n := (m - lo).toNat) (fun i σ' H' => ∃ B' Γ', GoS K pin σ B H Γ σ' B' H' Γ' ∧ Inv i Γ') ⟨B1, Γ1, g1.s, i0⟩ ?_ ?_
  · rintro i σ' H' hi ⟨B', Γ', g2, inv⟩
    refine turn i Γ' (by omega) inv σ' B' H' _ g2.env (.raw _) _ fun σ2 Γ2 g3 w => ?_
    exact ws_from w (g2.trans g3) (fun σ3 B3 H3 Γ3 g4 p => ⟨B3, Γ3, g4, p⟩) r (fun σ3 B3 H3 Γ3 g4 p => n σ3 B3 H3 Γ3 g4 p) (fun σ3 B3 H3 Γ3 g4 p => ⟨B3, Γ3, g4, p⟩) xx
  · rintro σ' H' ⟨B', Γ', g2, inv⟩
    exact n σ' B' H' Γ' g2 (done Γ' inv)
theorem ws_forT (h : WE K te Γ fun z Γ1 => ∃ ds, z = .val (.tup ds) ∧ ∃ Inv : Nat → List Sl → Prop, Inv 0 Γ1 ∧
      (∀ (i : Nat) d Γ', ds[i]? = some d → Inv i Γ' → WG K pin g d Γ' fun Γ2 => WS K pin tb' Γ2 ⟨Inv (i + 1), P.rt, P.nx, Inv (i + 1), P.ex⟩) ∧ ∀ Γ', Inv ds.length Γ' → P.nx Γ') : WS K pin (tFor (iTup K te) g tb') Γ P := fun σ B H D E n r b c xx => by
  refine h σ B H E _ fun v B1 H1 z Γ1 g1 k p => ?_
  obtain ⟨ds, rfl, Inv, i0, turn, done⟩ := p
  obtain ⟨a, xs, rfl, ha, hx⟩ := Is.tupR k
  refine ⟨a, rfl, ⟨xs, sqT_mono g1.env.bh ha⟩, for_tup (xs := xs) (fun i σ' H' => ∃ B' Γ', Same B1 B' ∧ GoS K pin σ B H Γ σ' B' H' Γ' ∧ Inv i Γ') ⟨B1, Γ1, Same.refl _, g1.s, i0⟩ ?_ ?_ ?_⟩
  · rintro i σ' H' _ ⟨B', Γ', sb, g2, _⟩
    exact sqT_mono (sb.trans g2.env.bh) ha
  · rintro i x σ' H' hi ⟨B', Γ', sb, g2, inv⟩
    have hlt : i < ds.length := by rw [← hx.len]; exact (List.getElem?_eq_some_iff.mp hi).1
    refine turn i ds[i] Γ' (List.getElem?_eq_getElem hlt) inv σ' B' H' x g2.env ((hx.at_ i x _ hi (List.getElem?_eq_getElem hlt)).mono sb) _ fun σ2 Γ2 g3 w => ?_
    have g23 := g2.trans g3
    refine w σ2 B' H' _ g23.env (fun σ3 B3 H3 Γ3 g4 p => ⟨B3, Γ3, sb.trans g4.mv.bb, g23.trans g4, p⟩) (fun v σ3 B3 H3 z Γ3 g4 k4 p => r v σ3 B3 H3 z Γ3 (g23.trans g4) (ReOk.earlier k4 g23.mv g23.new) p)
      (fun σ3 B3 H3 Γ3 g4 p => n σ3 B3 H3 Γ3 (g23.trans g4) p) (fun σ3 B3 H3 Γ3 g4 p => ⟨B3, Γ3, sb.trans g4.mv.bb, g23.trans g4, p⟩) (fun cls d fs σ3 B3 H3 Γ3 g4 hx p => xx cls d fs σ3 B3 H3 Γ3 (g23.trans g4) hx p)
  · rintro σ' H' ⟨B', Γ', sb, g2, inv⟩
    rw [hx.len] at inv
    exact n σ' B' H' Γ' g2 (done Γ' inv)
theorem ws_forL (h : WE K te Γ fun z Γ1 => ∃ d ds, z.dt? = some d ∧ d = .lst ds ∧ ∃ Inv : Nat → List Sl → Prop, Inv 0 Γ1 ∧
      (∀ (i : Nat) d Γ', ds[i]? = some d → Inv i Γ' → WG K pin g d Γ' fun Γ2 => WS K pin tb' Γ2 ⟨Inv (i + 1), P.rt, P.nx, Inv (i + 1), P.ex⟩) ∧ ∀ Γ', Inv ds.length Γ' → P.nx Γ') : WS K pin (tFor (iList K te) g tb') Γ P := fun σ B H D E n r b c xx => by
  have h' : WE K te Γ fun z Γ1 => ∃ ds, z = .val (.lst ds) ∧ ∃ Inv : Nat → List Sl → Prop, Inv 0 Γ1 ∧
      (∀ (i : Nat) d Γ', ds[i]? = some d → Inv i Γ' → WG K pin g d Γ' fun Γ2 => WS K pin tb' Γ2 ⟨Inv (i + 1), P.rt, P.nx, Inv (i + 1), P.ex⟩) ∧ ∀ Γ', Inv ds.length Γ' → P.nx Γ' :=
    we_freeze (we_mono h fun z Γ1 ⟨d, ds, hd, e, r⟩ => ⟨d, hd, ds, by rw [e], r⟩)
  refine h' σ B H E _ fun v B1 H1 z Γ1 g1 k p => ?_
  obtain ⟨ds, rfl, Inv, i0, turn, done⟩ := p
  obtain ⟨a, xs, rfl, ha, hx⟩ := Is.lstR k
  refine ⟨a, rfl, ⟨xs, .inl (.inl (g1.env.bh _ _ ha))⟩, for_list (xs := xs) (fun i σ' H' => ∃ B' Γ', Same B1 B' ∧ GoS K pin σ B H Γ σ' B' H' Γ' ∧ Inv i Γ') ⟨B1, Γ1, Same.refl _, g1.s, i0⟩ ?_ ?_ ?_⟩
  · rintro i σ' H' _ ⟨B', Γ', sb, g2, _⟩
    exact .inl (.inl ((sb.trans g2.env.bh) _ _ ha))
  · rintro i x σ' H' hi ⟨B', Γ', sb, g2, inv⟩
    have hlt : i < ds.length := by rw [← hx.len]; exact (List.getElem?_eq_some_iff.mp hi).1
    refine turn i ds[i] Γ' (List.getElem?_eq_getElem hlt) inv σ' B' H' x g2.env ((hx.at_ i x _ hi (List.getElem?_eq_getElem hlt)).mono sb) _ fun σ2 Γ2 g3 w => ?_
    have g23 := g2.trans g3
    refine w σ2 B' H' _ g23.env (fun σ3 B3 H3 Γ3 g4 p => ⟨B3, Γ3, sb.trans g4.mv.bb, g23.trans g4, p⟩) (fun v σ3 B3 H3 z Γ3 g4 k4 p => r v σ3 B3 H3 z Γ3 (g23.trans g4) (ReOk.earlier k4 g23.mv g23.new) p)
      (fun σ3 B3 H3 Γ3 g4 p => n σ3 B3 H3 Γ3 (g23.trans g4) p) (fun σ3 B3 H3 Γ3 g4 p => ⟨B3, Γ3, sb.trans g4.mv.bb, g23.trans g4, p⟩) (fun cls d fs σ3 B3 H3 Γ3 g4 hx p => xx cls d fs σ3 B3 H3 Γ3 (g23.trans g4) hx p)
  · rintro σ' H' ⟨B', Γ', sb, g2, inv⟩
    rw [hx.len] at inv
    exact n σ' B' H' Γ' g2 (done Γ' inv)
end
end Ab

namespace Ab
open PySem L2
abbrev AP := List Sl → (Re → List Sl → Prop) → Prop
def toSp (K : PySem.W.Frag) (ap : AP) : Sp := fun vs H Q _ => ∃ B as Post, Env K B H (vs.map some) as ∧ ap as Post ∧
  ∀ v B' H' r as', Go K (vs.map some) B H as B' H' as' → ReOk K [] (Own (vs.map some) as) (Own (vs.map some) as') B' H H' v r → Post r as' → Q v H'
def exitSl (pin : List Nat) (Γ : List Sl) (i : Nat) : Sl → Sl
  | .val d => .val d
  | .un => .un
  | .cel _ => if pin.contains i then (Γ[i]?).getD .un else .un
def exitFrom (pin : List Nat) (Γ : List Sl) : Nat → List Sl → List Sl
  | _, [] => []
  | k, s :: r => exitSl pin Γ k s :: exitFrom pin Γ (k + 1) r
def exitArgs (pin : List Nat) (Γ as : List Sl) : List Sl := exitFrom pin Γ 0 as
theorem exitFrom_get (pin : List Nat) (Γ : List Sl) : ∀ (as : List Sl) (k i : Nat), (exitFrom pin Γ k as)[i]? = (as[i]?).map (exitSl pin Γ (k + i))
  | [], k, i => by simp [exitFrom]
  | s :: r, k, 0 => by simp [exitFrom]
  | s :: r, k, i + 1 => by
    rw [exitFrom]
    simp only [List.getElem?_cons_succ]
    rw [exitFrom_get pin Γ r (k + 1) i]
    rw [show k + 1 + i = k + (i + 1) by omega]
theorem exitArgs_get {pin : List Nat} {Γ as : List Sl} {i : Nat} {s : Sl} (h : (exitArgs pin Γ as)[i]? = some s) : ∃ s0, as[i]? = some s0 ∧ s = exitSl pin Γ i s0 := by
  unfold exitArgs at h
  rw [exitFrom_get] at h
  cases q : as[i]? with
  | none => rw [q] at h; cases h
  | some s0 =>
    rw [q] at h
    simp at h
    exact ⟨s0, rfl, h.symm⟩
theorem exitFrom_len (pin : List Nat) (Γ : List Sl) : ∀ (as : List Sl) (k : Nat), (exitFrom pin Γ k as).length = as.length
  | [], _ => rfl
  | s :: r, k => by rw [exitFrom, List.length_cons, List.length_cons, exitFrom_len pin Γ r (k + 1)]
section
variable {K : PySem.W.Frag}
theorem start_get {N : List Str} {vs : List V} {i : Nat} (h : i < vs.length) : (L2.start N vs)[i]? = (vs.map some)[i]? := by
  unfold L2.start
  rw [List.getElem?_append_left (by rw [List.length_map]; exact h)]
theorem env_start {B H : Hp} {N : List Str} {vs : List V} {as : List Sl} (E : Env K B H (vs.map some) as) (hn : as.length ≤ N.length) : Env K B H (L2.start N vs) (as ++ List.replicate (N.length - as.length) .un) := by
  have hl : vs.length = as.length := by have := E.len; simpa using this
  have lt : ∀ {i : Nat} {s : Sl}, (as ++ List.replicate (N.length - as.length) Sl.un)[i]? = some s → s ≠ .un → i < as.length ∧ as[i]? = some s := fun {i s} h hs => by
    by_cases hi : i < as.length
    · rw [List.getElem?_append_left hi] at h; exact ⟨hi, h⟩
    · rw [List.getElem?_append_right (by omega)] at h
      have := List.mem_of_getElem? h
      rw [List.mem_replicate] at this
      exact absurd this.2 hs
  refine ⟨?_, E.bh, fun i d h => ?_, fun i ds h => ?_, fun i j ds es l h1 h2 h3 h4 => ?_⟩
  · unfold L2.start
    rw [List.length_append, List.length_map, List.length_replicate, List.length_append, List.length_replicate, hl]
  · obtain ⟨hi, h⟩ := lt h (fun z => nomatch z)
    rw [start_get (by omega)]
    exact E.val i d h
  · obtain ⟨hi, h⟩ := lt h (fun z => nomatch z)
    rw [start_get (by omega)]
    exact E.cel i ds h
  · obtain ⟨hi, h1⟩ := lt h1 (fun z => nomatch z)
    obtain ⟨hj, h2⟩ := lt h2 (fun z => nomatch z)
    rw [start_get (by omega)] at h3 h4
    exact E.sep i j ds es l h1 h2 h3 h4
theorem own_start {N : List Str} {vs : List V} {as : List Sl} (hl : vs.length = as.length) {a : Addr} : Own (L2.start N vs) (as ++ List.replicate (N.length - as.length) .un) a ↔ Own (vs.map some) as a := by
  constructor
  · rintro ⟨i, ds, h1, h2⟩
    by_cases hi : i < as.length
    · rw [List.getElem?_append_left hi] at h1
      rw [start_get (by omega)] at h2
      exact ⟨i, ds, h1, h2⟩
    · rw [List.getElem?_append_right (by omega)] at h1
      have := List.mem_of_getElem? h1
      rw [List.mem_replicate] at this
      cases this.2
  · rintro ⟨i, ds, h1, h2⟩
    have hi : i < as.length := (List.getElem?_eq_some_iff.mp h1).1
    refine ⟨i, ds, ?_, ?_⟩
    · rw [List.getElem?_append_left hi]; exact h1
    · rw [start_get (by omega)]; exact h2
variable {P : Program} {w : World} {mg : Str → Option Value} {base : Heap}
theorem exit_go {N : List Str} {vs : List V} {as : List Sl} {B H B' H' : Hp} {pin : List Nat} {σ' : L2.St} {Γ' : List Sl} (E1 : Env K B H (vs.map some) as) (hl : vs.length = as.length)
    (g : GoS K pin (L2.start N vs) B H (as ++ List.replicate (N.length - as.length) .un) σ' B' H' Γ') : Go K (vs.map some) B H as B' H' (exitArgs pin Γ' as) ∧
      ∀ v r, ReOk K [] (Own (L2.start N vs) (as ++ List.replicate (N.length - as.length) .un)) (Own σ' Γ') B' H H' v r → ReOk K [] (Own (vs.map some) as) (Own (vs.map some) (exitArgs pin Γ' as)) B' H H' v r := by
  have hpinv : ∀ i, i < vs.length → i ∈ pin → σ'[i]? = (vs.map some)[i]? := fun i hi hp => by rw [g.pin i hp, start_get hi]
  have acc : ∀ {i : Nat} {ds : Cn}, (exitArgs pin Γ' as)[i]? = some (.cel ds) → i ∈ pin ∧ Γ'[i]? = some (.cel ds) ∧ ∃ ds0, as[i]? = some (.cel ds0) := fun {i ds} h => by
    obtain ⟨s0, h0, e⟩ := exitArgs_get h
    cases s0 with
    | un => cases e
    | val d => cases e
    | cel es =>
      unfold exitSl at e
      simp only at e
      split at e
      · rename_i hc
        refine ⟨List.contains_iff_mem.mp hc, ?_, es, h0⟩
        cases q : Γ'[i]? with
        | none => rw [q] at e; cases e
        | some s => rw [q] at e; simp at e; rw [← e]
      · cases e
  have own' : ∀ {a}, Own (vs.map some) (exitArgs pin Γ' as) a → Own σ' Γ' a := fun {a} ⟨i, ds, h1, h2⟩ => by
    obtain ⟨hp, h3, _, _⟩ := acc h1
    have hi : i < vs.length := by
      have := (List.getElem?_eq_some_iff.mp h2).1
      simpa using this
    exact ⟨i, ds, h3, by rw [hpinv i hi hp]; exact h2⟩
  have E' : Env K B' H' (vs.map some) (exitArgs pin Γ' as) := by
    refine ⟨by unfold exitArgs; rw [exitFrom_len, List.length_map, hl], g.env.bh, fun i d h => ?_, fun i ds h => ?_, fun i j ds es l h1 h2 h3 h4 => ?_⟩
    · obtain ⟨s0, h0, e⟩ := exitArgs_get h
      cases s0 with
      | un => cases e
      | val d' =>
        cases e
        obtain ⟨v, e1, e2⟩ := E1.val i d h0
        exact ⟨v, e1, e2.mono g.mv.bb⟩
      | cel es =>
        unfold exitSl at e
        simp only at e
        split at e
        · rename_i hc
          have hp := List.contains_iff_mem.mp hc
          have hi : i < vs.length := by rw [hl]; exact (List.getElem?_eq_some_iff.mp h0).1
          cases q : Γ'[i]? with
          | none => rw [q] at e; cases e
          | some s =>
            rw [q] at e
            simp at e
            subst e
            rw [← hpinv i hi hp]
            exact g.env.val i d q
        · cases e
    · obtain ⟨hp, h3, _, h4⟩ := acc h
      have hi : i < vs.length := by rw [hl]; exact (List.getElem?_eq_some_iff.mp h4).1
      rw [← hpinv i hi hp]
      exact g.env.cel i ds h3
    · obtain ⟨hp, g1, _, _⟩ := acc h1
      obtain ⟨hp2, g2, _, _⟩ := acc h2
      have hi : i < vs.length := by have := (List.getElem?_eq_some_iff.mp h3).1; simpa using this
      have hj : j < vs.length := by have := (List.getElem?_eq_some_iff.mp h4).1; simpa using this
      exact g.env.sep i j ds es l g1 g2 (by rw [hpinv i hi hp]; exact h3) (by rw [hpinv j hj hp2]; exact h4)
  have hm : ∀ a, Own (L2.start N vs) (as ++ List.replicate (N.length - as.length) .un) a ↔ Own (vs.map some) as a := fun a => own_start hl
  refine ⟨⟨⟨fun a o na e => g.mv.kp a o (fun z => na ((hm a).mp z)) e, g.mv.bb, fun a na ha hb => g.mv.off a (fun z => na ((hm a).mp z)) ha hb⟩, fun i ds h1 => ?_, E'⟩, fun v r kk => ?_⟩
  · obtain ⟨_, _, ds0, h3⟩ := acc h1
    exact ⟨ds0, h3⟩
  · cases r with
    | val d => exact kk
    | own i => exact kk
    | nw ds =>
      obtain ⟨l, us, e, h1, h2, h3⟩ := kk
      exact ⟨l, us, e, h1.imp (fun z => (hm l).mp z) id, fun z => h2 (own' z), h3⟩
theorem fn_ab {x qual : Str} {st : Stmt} {f : Addr} {fd : FuncData} {N ps : List Str} {k : Nat} {ap : AP} (pin : List Nat) (F : Fun K x qual st f fd) (S : FnScope N ps (defScope st))
    (hlen : ∀ as Post, ap as Post → as.length = ps.length) (hN : decide (ps.length ≤ N.length) = true)
    (body : ∀ (cdv : Value) (A : Around) (outer : List PySem.Env) (s : Shared) (H : Hp) (E : XK), Room k (A.deeper (PyProof.Rows.envOfC qual (defScope st) s.heap.objs.size f cdv)) →
      ∃ t, PSs (cxOf CX0 P w K mg base N qual (defScope st) f cdv A outer s H E).nox (defBody st) t ∧
        ∀ as Post, ap as Post → WS K pin t (as ++ List.replicate (N.length - as.length) .un) ⟨fun G => Post (.val .non) (exitArgs pin G as), fun r G => Post r (exitArgs pin G as), fun _ => False, fun _ => False, .no⟩) :
    FnOk P w K mg base CX0 (k + 1) f fd ps (toSp K ap) := by
  refine F.ok S (fun vs H Q E h => ?_) (fun cdv A outer s H vs Q E hr h => ?_)
  · obtain ⟨B, as, Post, E1, ha, _⟩ := h
    have := E1.len
    rw [List.length_map] at this
    rw [this]; exact hlen as Post ha
  · obtain ⟨B, as, Post, E1, ha, q⟩ := h
    obtain ⟨t, ht, hw⟩ := body cdv A outer s H E hr
    refine ⟨t, ht, ?_⟩
    have hl : vs.length = as.length := by have := E1.len; simpa using this
    have hps : as.length ≤ N.length := by rw [hlen as Post ha]; exact of_decide_eq_true hN
    have E0 := env_start E1 hps
    have fin : ∀ v σ' B' H' r Γ', GoS K pin (L2.start N vs) B H (as ++ List.replicate (N.length - as.length) .un) σ' B' H' Γ' → ReOk K [] (Own (L2.start N vs) (as ++ List.replicate (N.length - as.length) .un)) (Own σ' Γ') B' H H' v r → Post r (exitArgs pin Γ' as) → Q v H' := by
      intro v σ' B' H' r Γ' g kk p
      obtain ⟨g', kr⟩ := exit_go E1 hl g
      exact q v B' H' r _ g' (kr v r kk) p
    exact hw as Post ha (L2.start N vs) B H _ E0 (fun σ' B' H' Γ' g p => fin .non σ' B' H' (.val .non) Γ' g (Is.raw _) p) (fun v σ' B' H' r Γ' g kk p => fin v σ' B' H' r Γ' g kk p) (fun _ _ _ _ _ p => p.elim) (fun _ _ _ _ _ p => p.elim) (fun _ _ _ _ _ _ _ _ _ p => (show False from p).elim)
end
structure AsOk (K : PySem.W.Frag) (σ : L2.St) (m m' : Addr → Prop) (B' H H' : Hp) (vs : List V) (rs : List Re) : Prop where
  len : vs.length = rs.length
  at_ : ∀ (i : Nat) v r, vs[i]? = some v → rs[i]? = some r → ReOk K σ m m' B' H H' v r
  sep : ∀ (i j : Nat) ds es l, rs[i]? = some (.nw ds) → rs[j]? = some (.nw es) → vs[i]? = some (.ref l) → vs[j]? = some (.ref l) → i = j
def WA (K : PySem.W.Frag) (ta : TA) (Γ : List Sl) (Post : List Re → List Sl → Prop) : Prop := ∀ σ B H, Env K B H σ Γ → ∀ Q : List V → Hp → Prop,
  (∀ vs B' H' rs Γ', Go K σ B H Γ B' H' Γ' → AsOk K σ (Own σ Γ) (Own σ Γ') B' H H' vs rs → Post rs Γ' → Q vs H') → ta σ H Q
section
variable {K : PySem.W.Frag} {Γ : List Sl} {te : TE} {tr : TA}
theorem wa_nil {P : List Re → List Sl → Prop} (p : P [] Γ) : WA K tNil Γ P := fun σ B H E Q q => q [] B H [] Γ (.refl E) ⟨rfl, fun i v r a => by simp at a, fun i j ds es l a => by simp at a⟩ p
theorem wa_cons {P : List Re → List Sl → Prop} (h : WE K te Γ fun r Γ1 => WA K tr Γ1 fun rs Γ2 => P (r :: rs) Γ2) : WA K (tCons te tr) Γ P := fun σ B H E Q q => by
  refine h σ B H E _ fun x B1 H1 r Γ1 g1 k1 p1 => ?_
  refine p1 σ B1 H1 g1.env _ fun vs B2 H2 rs Γ2 g2 k2 p2 => ?_
  have k1' := ReOk.step k1 g2.mv g2.sub
  refine q (x :: vs) B2 H2 (r :: rs) Γ2 (g1.trans g2) ⟨by simp [k2.len], fun i v z a b => ?_, fun i j ds es l a b c d => ?_⟩ p2
  · cases i with
    | zero => simp at a b; subst a b; exact k1'
    | succ i => simp at a b; exact ReOk.earlier (k2.at_ i v z a b) g1.mv fun a h => .inl (g1.sub a h)
  · -- two new lists are apart
    have apart : ∀ (j : Nat) es, r = .nw ds → rs[j]? = some (.nw es) → x = .ref l → vs[j]? = some (.ref l) → False := fun j es hr hj hx hv => by
      subst hr
      obtain ⟨l1, us, e, _, n1, t1, _⟩ := k1
      rw [hx] at e; cases e
      obtain ⟨l2, us2, e2, f2, _⟩ := k2.at_ j _ _ hv hj
      cases e2
      rcases f2 with f2 | f2
      · exact n1 f2
      · rw [t1] at f2; cases f2
    cases i with
    | zero =>
      cases j with
      | zero => rfl
      | succ j => simp at a b c d; exact (apart j es a b c d).elim
    | succ i =>
      cases j with
      | zero =>
        simp at a b c d
        have : ∀ es', r = .nw es' → False := fun es' hr => by
          subst hr
          obtain ⟨l1, us, e, _, n1, t1, _⟩ := k1
          rw [d] at e; cases e
          obtain ⟨l2, us2, e2, f2, _⟩ := k2.at_ i _ _ c a
          cases e2
          rcases f2 with f2 | f2
          · exact n1 f2
          · rw [t1] at f2; cases f2
        exact (this es b).elim
      | succ j =>
        simp at a b c d
        rw [k2.sep i j ds es l a b c d]
end
def argSl (Γ : List Sl) : Re → Sl
  | .val d => .val d
  | .nw ds => .cel ds
  | .own i => match Γ[i]? with
    | some (.cel ds) => .cel ds
    | _ => .un
def putBack : List Re → List Sl → List Sl → List Sl
  | .own i :: rs, s :: as, Γ => putBack rs as (Γ.set i s)
  | _ :: rs, _ :: as, Γ => putBack rs as Γ
  | _, _, Γ => Γ
def ownsOf : List Re → List Nat
  | .own i :: rs => i :: ownsOf rs
  | _ :: rs => ownsOf rs
  | [] => []
def nodupB : List Nat → Bool
  | [] => true
  | x :: r => !r.contains x && nodupB r
theorem ownsOf_mem {i : Nat} : ∀ {rs : List Re}, i ∈ ownsOf rs ↔ ∃ j : Nat, rs[j]? = some (.own i)
  | [] => by simp [ownsOf]
  | r :: rs => by
    have ih := ownsOf_mem (i := i) (rs := rs)
    have split : (∃ j : Nat, (r :: rs)[j]? = some (.own i)) ↔ r = .own i ∨ ∃ j : Nat, rs[j]? = some (.own i) := by
      constructor
      · rintro ⟨j, h⟩
        cases j with
        | zero => simp at h; exact .inl h
        | succ j => simp at h; exact .inr ⟨j, h⟩
      · rintro (h | ⟨j, h⟩)
        · exact ⟨0, by simp [h]⟩
        · exact ⟨j + 1, by simp [h]⟩
    rw [split]
    cases r with
    | own k => simp only [ownsOf, List.mem_cons, ih, Re.own.injEq]; constructor <;> rintro (h | h) <;> first | exact .inl h.symm | exact .inr h
    | val d => simp [ownsOf, ih]
    | nw ds => simp [ownsOf, ih]
theorem putBack_len : ∀ (rs : List Re) (as Γ : List Sl), (putBack rs as Γ).length = Γ.length
  | [], _, _ => by simp [putBack]
  | .own i :: rs, [], Γ => by simp [putBack]
  | .own i :: rs, s :: as, Γ => by rw [putBack, putBack_len]; simp
  | .val d :: rs, [], Γ => by simp [putBack]
  | .val d :: rs, s :: as, Γ => by rw [putBack, putBack_len]; simp
  | .nw d :: rs, [], Γ => by simp [putBack]
  | .nw d :: rs, s :: as, Γ => by rw [putBack, putBack_len]; simp
theorem putBack_other {i : Nat} : ∀ (rs : List Re) (as Γ : List Sl), i ∉ ownsOf rs → (putBack rs as Γ)[i]? = Γ[i]?
  | [], _, _, _ => by simp [putBack]
  | .own k :: rs, [], Γ, _ => by simp [putBack]
  | .own k :: rs, s :: as, Γ, h => by
    rw [ownsOf, List.mem_cons, not_or] at h
    rw [putBack, putBack_other rs as _ h.2, List.getElem?_set_ne (fun z => h.1 z.symm)]
  | .val d :: rs, [], Γ, _ => by simp [putBack]
  | .val d :: rs, s :: as, Γ, h => by rw [putBack]; exact putBack_other rs as _ h; all_goals simp
  | .nw d :: rs, [], Γ, _ => by simp [putBack]
  | .nw d :: rs, s :: as, Γ, h => by rw [putBack]; exact putBack_other rs as _ h; all_goals simp
theorem putBack_own {i : Nat} : ∀ (rs : List Re) (as Γ : List Sl) (j : Nat), nodupB (ownsOf rs) = true → rs[j]? = some (.own i) → j < as.length → i < Γ.length → (putBack rs as Γ)[i]? = as[j]?
  | [], _, _, _, _, h, _, _ => by simp at h
  | r :: rs, [], Γ, j, _, _, hj, _ => by simp at hj
  | .own k :: rs, s :: as, Γ, 0, nd, h, _, hi => by
    simp at h
    subst h
    rw [ownsOf, nodupB, Bool.and_eq_true] at nd
    have : k ∉ ownsOf rs := fun z => by
      have := List.contains_iff_mem.mpr z
      rw [this] at nd; exact absurd nd.1 (by decide)
    rw [putBack, putBack_other rs as _ this, List.getElem?_set_self hi]; rfl
  | .own k :: rs, s :: as, Γ, j + 1, nd, h, hj, hi => by
    simp at h hj
    rw [ownsOf, nodupB, Bool.and_eq_true] at nd
    rw [putBack, putBack_own rs as _ j nd.2 h hj (by simpa using hi)]; simp
  | .val d :: rs, s :: as, Γ, 0, nd, h, _, hi => by simp at h
  | .val d :: rs, s :: as, Γ, j + 1, nd, h, hj, hi => by
    simp at h hj
    rw [putBack, putBack_own rs as _ j nd h hj hi]; simp
    all_goals simp
  | .nw d :: rs, s :: as, Γ, 0, nd, h, _, hi => by simp at h
  | .nw d :: rs, s :: as, Γ, j + 1, nd, h, hj, hi => by
    simp at h hj
    rw [putBack, putBack_own rs as _ j nd h hj hi]; simp
    all_goals simp
theorem nodupB_ix {rs : List Re} {i : Nat} : ∀ {j k : Nat}, nodupB (ownsOf rs) = true → rs[j]? = some (.own i) → rs[k]? = some (.own i) → j = k := by
  induction rs with
  | nil => intro j k _ h; simp at h
  | cons r rs ih =>
    intro j k nd h1 h2
    have tail : nodupB (ownsOf rs) = true := by
      cases r with
      | own i => rw [ownsOf, nodupB, Bool.and_eq_true] at nd; exact nd.2
      | val d => exact nd
      | nw d => exact nd
    have head : r = .own i → ∀ n : Nat, rs[n]? = some (.own i) → False := fun e n hn => by
      subst e
      rw [ownsOf, nodupB, Bool.and_eq_true] at nd
      have : i ∈ ownsOf rs := ownsOf_mem.mpr ⟨n, hn⟩
      rw [List.contains_iff_mem.mpr this] at nd
      exact absurd nd.1 (by decide)
    cases j with
    | zero =>
      cases k with
      | zero => rfl
      | succ k => simp at h1 h2; exact (head h1 k h2).elim
    | succ j =>
      cases k with
      | zero => simp at h1 h2; exact (head h2 j h1).elim
      | succ k => simp at h1 h2; rw [ih tail h1 h2]
theorem call_go {K : PySem.W.Frag} {σ : L2.St} {B H B1 H1 : Hp} {Γ Γ1 : List Sl} {vs : List V} {rs : List Re} (E : Env K B H σ Γ) (g1 : Go K σ B H Γ B1 H1 Γ1) (k1 : AsOk K σ (Own σ Γ) (Own σ Γ1) B1 H H1 vs rs)
    (nd : nodupB (ownsOf rs) = true) : Env K B1 H1 (vs.map some) (rs.map (argSl Γ1)) ∧ ∀ B2 H2 as', Go K (vs.map some) B1 H1 (rs.map (argSl Γ1)) B2 H2 as' → Go K σ B H Γ B2 H2 (putBack rs as' Γ1) ∧
      ∀ v r, ReOk K [] (Own (vs.map some) (rs.map (argSl Γ1))) (Own (vs.map some) as') B2 H1 H2 v r → ReOk K σ (Own σ Γ) (Own σ (putBack rs as' Γ1)) B2 H H2 v r := by
  have hl := k1.len
  have aget : ∀ {i : Nat} {s : Sl}, (rs.map (argSl Γ1))[i]? = some s → ∃ r, rs[i]? = some r ∧ s = argSl Γ1 r := fun {i s} h => by
    rw [List.getElem?_map] at h
    cases q : rs[i]? with
    | none => rw [q] at h; cases h
    | some r => rw [q] at h; simp at h; exact ⟨r, rfl, h.symm⟩
  have vget : ∀ {i : Nat} {r : Re}, rs[i]? = some r → ∃ v, vs[i]? = some v ∧ (vs.map some)[i]? = some (some v) ∧ ReOk K σ (Own σ Γ) (Own σ Γ1) B1 H H1 v r := fun {i r} h => by
    have hi : i < vs.length := by rw [hl]; exact (List.getElem?_eq_some_iff.mp h).1
    refine ⟨vs[i], List.getElem?_eq_getElem hi, by rw [List.getElem?_map, List.getElem?_eq_getElem hi]; rfl, k1.at_ i _ _ (List.getElem?_eq_getElem hi) h⟩
  -- an owned argument: new or a slot's
  have accArg : ∀ {i : Nat} {ds : Cn}, (rs.map (argSl Γ1))[i]? = some (.cel ds) → (rs[i]? = some (.nw ds)) ∨ ∃ k, rs[i]? = some (.own k) ∧ Γ1[k]? = some (.cel ds) := fun {i ds} h => by
    obtain ⟨r, h1, h2⟩ := aget h
    cases r with
    | val d => cases h2
    | nw es => cases h2; exact .inl h1
    | own k =>
      have h2' : Sl.cel ds = (match Γ1[k]? with
        | some (.cel ds) => .cel ds
        | _ => .un) := h2
      split at h2'
      · rename_i es he
        cases h2'
        exact .inr ⟨k, h1, he⟩
      · cases h2'
  -- who is owned on the callee's side
  have ownArg : ∀ {a}, Own (vs.map some) (rs.map (argSl Γ1)) a → ((∃ (i : Nat) (ds : Cn), rs[i]? = some (Re.nw ds) ∧ vs[i]? = some (V.ref a)) ∨ ∃ (i k : Nat) (ds : Cn), rs[i]? = some (Re.own k) ∧ Γ1[k]? = some (.cel ds) ∧ vs[i]? = some (.ref a) ∧ σ[k]? = some (some (.ref a))) := fun {a} ⟨i, ds, h1, h2⟩ => by
    rw [List.getElem?_map] at h2
    cases hv : vs[i]? with
    | none => rw [hv] at h2; cases h2
    | some v =>
      rw [hv] at h2
      simp at h2
      subst h2
      rcases accArg h1 with h | ⟨k, h, hk⟩
      · exact .inl ⟨i, ds, h, hv⟩
      · obtain ⟨v', e1, _, l, e2, e3⟩ := vget h
        rw [hv] at e1; cases e1; cases e2
        exact .inr ⟨i, k, ds, h, hk, hv, e3⟩
  have newOff : ∀ {i : Nat} {ds a}, rs[i]? = some (.nw ds) → vs[i]? = some (.ref a) → (Own σ Γ a ∨ H a = none) ∧ ¬ Own σ Γ1 a := fun {i ds a} h1 h2 => by
    obtain ⟨v', e1, _, l, us, e2, e3, e4, _⟩ := vget h1
    rw [h2] at e1; cases e1; cases e2
    exact ⟨e3, e4⟩
  have ownBack : ∀ {a}, Own (vs.map some) (rs.map (argSl Γ1)) a → Own σ Γ a ∨ H a = none := fun {a} o => by
    rcases ownArg o with ⟨i, ds, h1, h2⟩ | ⟨i, k, ds, h1, h2, h3, h4⟩
    · exact (newOff h1 h2).1
    · exact .inl (g1.sub a ⟨k, ds, h2, h4⟩)
  have E2 : Env K B1 H1 (vs.map some) (rs.map (argSl Γ1)) := by
    refine ⟨by simp [hl], g1.env.bh, fun i d h => ?_, fun i ds h => ?_, fun i j ds es l h1 h2 h3 h4 => ?_⟩
    · obtain ⟨r, h1, h2⟩ := aget h
      cases r with
      | val d' => cases h2; obtain ⟨v, _, e1, e2⟩ := vget h1; exact ⟨v, e1, e2⟩
      | nw es => cases h2
      | own k =>
        have h2' : Sl.val d = (match Γ1[k]? with
          | some (.cel ds) => .cel ds
          | _ => .un) := h2
        split at h2' <;> cases h2'
    · rcases accArg h with h1 | ⟨k, h1, hk⟩
      · obtain ⟨v, _, e1, l, us, e2, _, _, e3, e4, e5⟩ := vget h1
        subst e2
        exact ⟨l, us, e1, e3, e4, e5⟩
      · obtain ⟨v, _, e1, l, e2, e3⟩ := vget h1
        subst e2
        obtain ⟨c, us, f1, f2, f3, f4⟩ := g1.env.cel k ds hk
        rw [e3] at f1; cases f1
        exact ⟨l, us, e1, f2, f3, f4⟩
    · have v3 : vs[i]? = some (.ref l) := by
        rw [List.getElem?_map] at h3
        cases q : vs[i]? with
        | none => rw [q] at h3; cases h3
        | some v => rw [q] at h3; simp at h3; rw [h3]
      have v4 : vs[j]? = some (.ref l) := by
        rw [List.getElem?_map] at h4
        cases q : vs[j]? with
        | none => rw [q] at h4; cases h4
        | some v => rw [q] at h4; simp at h4; rw [h4]
      rcases accArg h1 with a1 | ⟨k, a1, b1⟩
      · rcases accArg h2 with a2 | ⟨k2, a2, b2⟩
        · exact k1.sep i j ds es l a1 a2 v3 v4
        · obtain ⟨v', e1, _, l2, e2, e3⟩ := vget a2
          rw [v4] at e1; cases e1; cases e2
          exact absurd ⟨k2, es, b2, e3⟩ (newOff a1 v3).2
      · obtain ⟨v', e1, _, l2, e2, e3⟩ := vget a1
        rw [v3] at e1; cases e1; cases e2
        rcases accArg h2 with a2 | ⟨k2, a2, b2⟩
        · exact absurd ⟨k, ds, b1, e3⟩ (newOff a2 v4).2
        · obtain ⟨v', f1, _, l2, f2, f3⟩ := vget a2
          rw [v4] at f1; cases f1; cases f2
          have := g1.env.sep k k2 ds es l b1 b2 e3 f3
          subst this
          exact nodupB_ix nd a1 a2
  refine ⟨E2, fun B2 H2 as' g2 => ?_⟩
  have hal : as'.length = rs.length := by
    have := g2.env.len
    rw [List.length_map] at this
    omega
  -- slot i of the caller afterwards
  have slot : ∀ {i : Nat} {s : Sl}, (putBack rs as' Γ1)[i]? = some s → (∃ j : Nat, rs[j]? = some (.own i) ∧ as'[j]? = some s ∧ ∃ v, (vs.map some)[j]? = some (some v) ∧ σ[i]? = some (some v)) ∨ (i ∉ ownsOf rs ∧ Γ1[i]? = some s) := fun {i s} h => by
    by_cases hi : i ∈ ownsOf rs
    · obtain ⟨j, hj⟩ := ownsOf_mem.mp hi
      have hil : i < Γ1.length := by
        have := (List.getElem?_eq_some_iff.mp h).1
        rw [putBack_len] at this; exact this
      rw [putBack_own rs as' Γ1 j nd hj (by rw [hal]; exact (List.getElem?_eq_some_iff.mp hj).1) hil] at h
      obtain ⟨v, _, e1, l, e2, e3⟩ := vget hj
      exact .inl ⟨j, hj, h, v, e1, by rw [e2]; exact e3⟩
    · rw [putBack_other rs as' Γ1 hi] at h
      exact .inr ⟨hi, h⟩
  -- a slot's list that was not handed over
  have kept : ∀ {i : Nat} {ds : Cn} {l : Addr}, i ∉ ownsOf rs → Γ1[i]? = some (.cel ds) → σ[i]? = some (some (.ref l)) → ¬ Own (vs.map some) (rs.map (argSl Γ1)) l := fun {i ds l} hi h1 h2 o => by
    rcases ownArg o with ⟨j, es, a1, a2⟩ | ⟨j, k, es, a1, a2, a3, a4⟩
    · exact (newOff a1 a2).2 ⟨i, ds, h1, h2⟩
    · have := g1.env.sep i k ds es l h1 a2 h2 a4
      subst this
      exact hi (ownsOf_mem.mpr ⟨j, a1⟩)
  have ac2 : ∀ (i : Nat) ds, (putBack rs as' Γ1)[i]? = some (.cel ds) → ∃ es, Γ1[i]? = some (.cel es) := fun i ds h1 => by
    rcases slot h1 with ⟨j, hj, ha, v, e1, e2⟩ | ⟨_, h⟩
    · obtain ⟨es, h⟩ := g2.ac j ds ha
      rcases accArg h with h | ⟨k, h, hk⟩
      · rw [hj] at h; cases h
      · rw [hj] at h; cases h; exact ⟨es, hk⟩
    · exact ⟨ds, h⟩
  have kOff : ∀ {a}, ¬ Own σ Γ a → H a ≠ none → ¬ Own (vs.map some) (rs.map (argSl Γ1)) a := fun {a} na ha o => (ownBack o).elim na ha
  have E3 : Env K B2 H2 σ (putBack rs as' Γ1) := by
    refine ⟨by rw [putBack_len]; exact g1.env.len, g2.env.bh, fun i d h => ?_, fun i ds h => ?_, fun i j ds es l h1 h2 h3 h4 => ?_⟩
    · rcases slot h with ⟨j, hj, ha, v, e1, e2⟩ | ⟨hi, h⟩
      · obtain ⟨v', f1, f2⟩ := g2.env.val j d ha
        rw [e1] at f1; cases f1
        exact ⟨v, e2, f2⟩
      · obtain ⟨v, f1, f2⟩ := g1.env.val i d h
        exact ⟨v, f1, f2.mono g2.mv.bb⟩
    · rcases slot h with ⟨j, hj, ha, v, e1, e2⟩ | ⟨hi, h⟩
      · obtain ⟨l, us, f1, f2⟩ := g2.env.cel j ds ha
        rw [e1] at f1; cases f1
        exact ⟨l, us, e2, f2⟩
      · obtain ⟨l, us, f1, f2, f3, f4⟩ := g1.env.cel i ds h
        have nk := kept hi h f1
        exact ⟨l, us, f1, g2.mv.kp l _ nk f2, g2.mv.off l nk (by rw [f2]; exact fun z => nomatch z) f3, f4.mono g2.mv.bb⟩
    · obtain ⟨d1, b1⟩ := ac2 i ds h1
      obtain ⟨d2, b2⟩ := ac2 j es h2
      exact g1.env.sep i j d1 d2 l b1 b2 h3 h4
  refine ⟨⟨⟨fun a o na e => ?_, g1.mv.bb.trans g2.mv.bb, fun a na ha hb => ?_⟩, fun i ds h => ?_, E3⟩, fun v r k2 => ?_⟩
  · exact g2.mv.kp a o (kOff na (by rw [e]; exact fun z => nomatch z)) (g1.mv.kp a o na e)
  · refine g2.mv.off a (kOff na ha) ?_ (g1.mv.off a na ha hb)
    cases q : H a with
    | none => exact absurd q ha
    | some o => rw [g1.mv.kp a o na q]; exact fun z => nomatch z
  · obtain ⟨es, h1⟩ := ac2 i ds h
    exact g1.ac i es h1
  · cases r with
    | val d => exact k2
    | own i => obtain ⟨l, _, e⟩ := k2; simp at e
    | nw ds =>
      obtain ⟨l, us, e, f1, f2, f3, f4, f5⟩ := k2
      refine ⟨l, us, e, ?_, ?_, f3, f4, f5⟩
      · rcases f1 with f1 | f1
        · exact ownBack f1
        · exact g1.mv.back f1
      · rintro ⟨i, es, h1, h2⟩
        rcases slot h1 with ⟨j, hj, ha, w, e1, e2⟩ | ⟨hi, h⟩
        · rw [h2] at e2; cases e2
          exact f2 ⟨j, es, ha, e1⟩
        · have nk := kept hi h h2
          rcases f1 with f1 | f1
          · exact nk f1
          · obtain ⟨us', t1, _⟩ := g1.env.tracked ⟨i, es, h, h2⟩
            rw [t1] at f1; cases f1
theorem call_core {K : PySem.W.Frag} {σ : L2.St} {B H B1 H1 : Hp} {Γ Γ1 : List Sl} {vs : List V} {rs : List Re} {Post : Re → List Sl → Prop} {ap : AP} {E0 : XK} {Q : VK} (E : Env K B H σ Γ) (g1 : Go K σ B H Γ B1 H1 Γ1) (k1 : AsOk K σ (Own σ Γ) (Own σ Γ1) B1 H H1 vs rs)
    (nd : nodupB (ownsOf rs) = true) (hap : ap (rs.map (argSl Γ1)) fun r as' => Post r (putBack rs as' Γ1)) (q : ∀ v B' H' r Γ', Go K σ B H Γ B' H' Γ' → ReOk K σ (Own σ Γ) (Own σ Γ') B' H H' v r → Post r Γ' → Q v H') : toSp K ap vs H1 Q E0 := by
  obtain ⟨E2, kk⟩ := call_go E g1 k1 nd
  refine ⟨B1, rs.map (argSl Γ1), _, E2, hap, fun v B2 H2 r as' g2 k2 p => ?_⟩
  obtain ⟨g, kr⟩ := kk B2 H2 as' g2
  exact q v B2 H2 r _ g (kr v r k2) p
theorem we_call {K : PySem.W.Frag} {Γ : List Sl} {Post : Re → List Sl → Prop} {ap : AP} {E0 : XK} {ta : TA} (h : WA K ta Γ fun rs Γ1 => nodupB (ownsOf rs) = true ∧ ap (rs.map (argSl Γ1)) fun r as' => Post r (putBack rs as' Γ1)) : WE K (tCall (toSp K ap) [] E0 ta) Γ Post := fun σ B H E Q q => by
  refine h σ B H E _ fun vs B1 H1 rs Γ1 g1 k1 p1 => ?_
  rw [List.append_nil]
  exact call_core E g1 k1 p1.1 p1.2 q
end Ab

namespace Ab
open PySem L2
def keepV : Option Sl → Sl
  | some (.val d) => .val d
  | _ => .un
section
variable {K : PySem.W.Frag} {σ : L2.St} {B H : Hp} {Γ : List Sl}
theorem keepV_acc {o : Option Sl} {ds : Cn} (h : keepV o = .cel ds) : False := by
  unfold keepV at h
  split at h <;> cases h
theorem Env.updOff {D : Addr} {o : HO} (E : Env K B H σ Γ) (hb : B D = none) (hn : ¬ Own σ Γ D) : Env K B (upd H D o) σ Γ := by
  refine ⟨E.len, fun a u e => ?_, E.val, fun i ds h => ?_, E.sep⟩
  · rw [upd_ne (ne_of_none e hb)]; exact E.bh a u e
  · obtain ⟨l, vs, e, e1, e2, q⟩ := E.cel i ds h
    have : l ≠ D := fun z => by subst z; exact hn ⟨i, ds, h, e⟩
    exact ⟨l, vs, e, by rw [upd_ne this]; exact e1, e2, q⟩
theorem env_back {j : Nat} {x : Option V} {Γ0 : List Sl} {B0 H0 : Hp} (E0 : Env K B0 H0 σ Γ0) (bb : Same B0 B) (E : Env K B H (σ.set j x) Γ) (hj : j < Γ.length) : Env K B H σ (Γ.set j (keepV Γ0[j]?)) := by
  have ne : ∀ {k : Nat} {ds : Cn}, (Γ.set j (keepV Γ0[j]?))[k]? = some (.cel ds) → j ≠ k := fun {k ds} h z => by
    subst z
    rw [List.getElem?_set_self hj] at h
    exact keepV_acc (Option.some.inj h)
  refine ⟨?_, E.bh, fun k d h => ?_, fun k ds h => ?_, fun i k ds es l h1 h2 h3 h4 => ?_⟩
  · have := E.len
    rw [List.length_set] at this ⊢
    exact this
  · by_cases hk : j = k
    · subst hk
      rw [List.getElem?_set_self hj] at h
      cases q : Γ0[j]? with
      | none => rw [q] at h; cases h
      | some s =>
        rw [q] at h
        cases s with
        | un => cases h
        | cel ds => cases h
        | val d' =>
          cases h
          obtain ⟨v, e1, e2⟩ := E0.val j d q
          exact ⟨v, e1, e2.mono bb⟩
    · rw [List.getElem?_set_ne hk] at h
      obtain ⟨v, e1, e2⟩ := E.val k d h
      rw [List.getElem?_set_ne hk] at e1
      exact ⟨v, e1, e2⟩
  · have hk := ne h
    rw [List.getElem?_set_ne hk] at h
    obtain ⟨l, vs, e1, e2⟩ := E.cel k ds h
    rw [List.getElem?_set_ne hk] at e1
    exact ⟨l, vs, e1, e2⟩
  · have a1 := ne h1
    have a2 := ne h2
    rw [List.getElem?_set_ne a1] at h1
    rw [List.getElem?_set_ne a2] at h2
    exact E.sep i k ds es l h1 h2 (by rw [List.getElem?_set_ne a1]; exact h3) (by rw [List.getElem?_set_ne a2]; exact h4)
theorem own_back {j : Nat} {x : Option V} {s : Sl} {a : Addr} (hs : ∀ ds, s ≠ .cel ds) (h : Own σ (Γ.set j s) a) : Own (σ.set j x) Γ a := by
  obtain ⟨k, ds, h1, h2⟩ := h
  by_cases hk : j = k
  · subst hk
    have hj : j < Γ.length := by
      have := (List.getElem?_eq_some_iff.mp h1).1
      simpa using this
    rw [List.getElem?_set_self hj] at h1
    exact absurd (Option.some.inj h1) (hs ds)
  · rw [List.getElem?_set_ne hk] at h1
    exact ⟨k, ds, h1, by rw [List.getElem?_set_ne hk]; exact h2⟩
theorem Mv.iff {m m1 : Addr → Prop} {B' H' : Hp} (h : ∀ a, m1 a → m a) (x : Mv m1 B H B' H') : Mv m B H B' H' := ⟨fun a o na e => x.kp a o (fun z => na (h a z)) e, x.bb, fun a na ha hb => x.off a (fun z => na (h a z)) ha hb⟩
structure LcSt (K : PySem.W.Frag) (σ : L2.St) (B H : Hp) (Γ : List Sl) (j : Nat) (D : Addr) (Inv : Nat → List Dt → List Sl → Prop) (i : Nat) (H' : Hp) (B' : Hp) (Γ' : List Sl) (vs : List V) (es : List Dt) : Prop where
  mv : Mv (Own σ Γ) B H B' H'
  ac : ∀ (k : Nat) ds, Γ'[k]? = some (.cel ds) → ∃ es, Γ[k]? = some (.cel es)
  env : Env K B' H' σ Γ'
  hD : H' D = some (.lst vs)
  bD : B' D = none
  oD : ¬ Own σ Γ' D
  its : IsA K B' vs es
  len : es.length ≤ i
  inv : Inv i es Γ'
theorem lc_run {j n : Nat} {J : It} {dt : Nat → Dt} {tt : TT} {te : TE} {Post : Re → List Sl → Prop} {Q : VK} (E : Env K B H σ Γ) (hj : j < Γ.length) (hja : ∀ ds, Γ[j]? ≠ some (.cel ds)) (hn : n ≤ 1000000)
    (Inv : Nat → List Dt → List Sl → Prop)
    (go : ∀ i B' H' es Γ', i < n → Same B B' → Env K B' H' σ Γ' → Inv i es Γ' → J.go i H') (yl : ∀ i H' x H'' B' es Γ', i < n → Same B B' → Env K B' H' σ Γ' → Inv i es Γ' → J.yld i H' x H'' → H'' = H' ∧ Is K B' x (dt i)) (stop : ∀ B' H' es Γ', Same B B' → Env K B' H' σ Γ' → Inv n es Γ' → J.stop n H')
    (i0 : Inv 0 [] Γ)
    (turn : ∀ i es Γ', i < n → Inv i es Γ' → WT K tt (Γ'.set j (.val (dt i))) fun b Γ2 => (b = true → WE K te Γ2 fun r Γ3 => ∃ d, r.dt? = some d ∧ Inv (i + 1) (es ++ [d]) (Γ3.set j (keepV Γ[j]?))) ∧ (b = false → Inv (i + 1) es (Γ2.set j (keepV Γ[j]?))))
    (done : ∀ es Γ', Inv n es Γ' → Post (.new es) Γ') (q : ∀ v B' H' r Γ', Go K σ B H Γ B' H' Γ' → ReOk K σ (Own σ Γ) (Own σ Γ') B' H H' v r → Post r Γ' → Q v H') :
    ∀ D, H D = none → ∃ W : Nat → Nat → Hp → Prop, (∃ m, W 0 m (upd H D (.lst []))) ∧ ∀ i m H, W i m H →
      (J.stop i H ∧ Q (.ref D) H) ∨ (J.go i H ∧ ∃ Nx : Hp → Prop, (∀ H', Nx H' → ∃ m', m' < m ∧ W (i + 1) m' H') ∧ ∀ x H', J.yld i H x H' → gName j x (wipe σ [j]) H' fun σ2 H2 => wipe σ2 [j] = wipe σ [j] ∧ tt σ2 H2 fun b H3 =>
        if b = true then te σ2 H3 fun y H4 => ∃ acc, H4 D = some (.lst acc) ∧ acc.length < sizeLine ∧ Nx (upd H4 D (.lst (acc ++ [y]))) else Nx H3) := by
  intro D hD
  have hjs : j < σ.length := by rw [E.len]; exact hj
  refine ⟨fun i m H' => m = n - i ∧ i ≤ n ∧ ∃ B' Γ' vs es, LcSt K σ B H Γ j D Inv i H' B' Γ' vs es, ⟨n, by simp, Nat.zero_le _, B, Γ, [], [], ⟨(Go.beside E hD).mv, fun k ds h => ⟨ds, h⟩, E.beside hD, upd_same, E.base_none hD, E.not_own hD, .nil, Nat.le_refl _, i0⟩⟩, ?_⟩
  rintro i m H' ⟨rfl, hi, B', Γ', vs, es, S⟩
  by_cases hlt : i < n
  · refine .inr ⟨go i B' H' es Γ' hlt S.mv.bb S.env S.inv, fun H2 => ∃ B' Γ' vs es, LcSt K σ B H Γ j D Inv (i + 1) H2 B' Γ' vs es, fun H2 ⟨B2, Γ2, vs2, es2, S2⟩ => ⟨n - (i + 1), by omega, rfl, hlt, B2, Γ2, vs2, es2, S2⟩, fun x H2 hy => ?_⟩
    obtain ⟨e, hx⟩ := yl i H' x H2 B' es Γ' hlt S.mv.bb S.env S.inv hy
    subst e
    have hj' : j < Γ'.length := by rw [← S.env.len]; exact hjs
    have es2 : (wipe σ [j]).set j (some x) = σ.set j (some x) := by
      show (σ.set j none).set j (some x) = _
      rw [List.set_set]
    show wipe ((wipe σ [j]).set j (some x)) [j] = wipe σ [j] ∧ _
    rw [es2]
    refine ⟨by show (σ.set j (some x)).set j none = σ.set j none; rw [List.set_set], ?_⟩
    have E2 := S.env.setV hj' hx
    -- owners within and without
    have ow1 : ∀ a, Own (σ.set j (some x)) (Γ'.set j (.val (dt i))) a → Own σ Γ' a := fun a h => h.set_ne fun ds z => nomatch z
    have nA : ¬ Own (σ.set j (some x)) (Γ'.set j (.val (dt i))) D := fun z => S.oD (ow1 D z)
    have tD : H2 D ≠ none := by rw [S.hD]; exact fun z => nomatch z
    -- what a turn comes to
    have fin : ∀ {B3 H3 : Hp} {Γ3 : List Sl}, Go K (σ.set j (some x)) B' H2 (Γ'.set j (.val (dt i))) B3 H3 Γ3 →
        Mv (Own σ Γ) B H B3 H3 ∧ (∀ (k : Nat) ds, (Γ3.set j (keepV Γ[j]?))[k]? = some (.cel ds) → ∃ es, Γ[k]? = some (.cel es)) ∧ Env K B3 H3 σ (Γ3.set j (keepV Γ[j]?)) ∧ H3 D = some (.lst vs) ∧ B3 D = none ∧ ¬ Own σ (Γ3.set j (keepV Γ[j]?)) D ∧ IsA K B3 vs es := by
      intro B3 H3 Γ3 g
      have hj3 : j < Γ3.length := by
        have h1 := g.env.len
        rw [List.length_set] at h1
        omega
      have subO : ∀ a, Own σ (Γ3.set j (keepV Γ[j]?)) a → Own (σ.set j (some x)) Γ3 a := fun a h => own_back (fun ds z => keepV_acc z) h
      refine ⟨S.mv.trans (m1 := Own σ Γ') (fun a ⟨k, ds, h1, h2⟩ => .inl (by obtain ⟨es, h⟩ := S.ac k ds h1; exact ⟨k, es, h, h2⟩)) (g.mv.iff ow1), fun k ds h => ?_, env_back E (S.mv.bb.trans g.mv.bb) g.env hj3, g.mv.kp D _ nA S.hD, g.mv.off D nA tD S.bD, fun z => nA (g.sub D (subO D z)), S.its.mono g.mv.bb⟩
      by_cases hk : j = k
      · subst hk
        rw [List.getElem?_set_self hj3] at h
        exact (keepV_acc (Option.some.inj h)).elim
      · rw [List.getElem?_set_ne hk] at h
        obtain ⟨es', h1⟩ := g.ac k ds h
        rw [List.getElem?_set_ne hk] at h1
        exact S.ac k es' h1
    refine turn i es Γ' hlt S.inv (σ.set j (some x)) B' H2 E2 _ fun b B3 H3 Γ3 g3 p => ?_
    cases b with
    | true =>
      show te (σ.set j (some x)) H3 _
      have p1 : WE K te Γ3 fun r Γ4 => ∃ d, r = .val d ∧ Inv (i + 1) (es ++ [d]) (Γ4.set j (keepV Γ[j]?)) := we_freeze (we_mono (p.1 rfl) fun r Γ4 ⟨d, hd, k⟩ => ⟨d, hd, d, rfl, k⟩)
      refine p1 (σ.set j (some x)) B3 H3 g3.env _ fun y B4 H4 r Γ4 g4 k4 p4 => ?_
      obtain ⟨d, rfl, inv⟩ := p4
      obtain ⟨f1, f2, f3, f4, f5, f6, f7⟩ := fin (g3.trans g4)
      refine ⟨vs, f4, ?_, B4, Γ4.set j (keepV Γ[j]?), vs ++ [y], es ++ [d], ?_⟩
      · rw [S.its.len]
        have := S.len
        exact Nat.lt_of_le_of_lt this (Nat.lt_of_lt_of_le hlt (Nat.le_trans hn (by decide)))
      · refine ⟨⟨fun a o na e => ?_, f1.bb, f1.off⟩, f2, f3.updOff f5 f6, upd_same, f5, f6, f7.snoc k4, by rw [List.length_append]; have := S.len; simp; omega, inv⟩
        rw [upd_ne (ne_of_none e hD)]
        exact f1.kp a o na e
    | false =>
      show ∃ B' Γ' vs es, _
      obtain ⟨f1, f2, f3, f4, f5, f6, f7⟩ := fin g3
      exact ⟨B3, Γ3.set j (keepV Γ[j]?), vs, es, ⟨f1, f2, f3, f4, f5, f6, f7, Nat.le_trans S.len (Nat.le_succ i), p.2 rfl⟩⟩
  · have e : i = n := by omega
    subst e
    exact .inl ⟨stop B' H' es Γ' S.mv.bb S.env S.inv, q (.ref D) B' H' (.new es) Γ' ⟨S.mv, S.ac, S.env⟩ ⟨D, _, rfl, .inr hD, S.oD, S.hD, S.bD, vs, rfl, S.its⟩ (done es Γ' S.inv)⟩
end
section
variable {K : PySem.W.Frag} {Γ : List Sl} {Post : Re → List Sl → Prop} {te tl : TE} {tt : TT} {j : Nat}
def notAcc : Option Sl → Bool
  | some (.cel _) => false
  | _ => true
theorem notAcc_ne {o : Option Sl} (h : notAcc o = true) (ds : Cn) : o ≠ some (.cel ds) := fun z => by subst z; cases h
theorem we_lc1 {t1 : TA} (h : WD K t1 Γ fun ds Γ1 => ∃ n : Nat, ds = [.int n] ∧ n ≤ 1000000 ∧ decide (j < Γ1.length) = true ∧ notAcc Γ1[j]? = true ∧ ∃ Inv : Nat → List Dt → List Sl → Prop, Inv 0 [] Γ1 ∧
      (∀ i es Γ', i < n → Inv i es Γ' → WT K tt (Γ'.set j (.val (.int i))) fun b Γ2 => (b = true → WE K te Γ2 fun r Γ3 => ∃ d, r.dt? = some d ∧ Inv (i + 1) (es ++ [d]) (Γ3.set j (keepV Γ1[j]?))) ∧ (b = false → Inv (i + 1) es (Γ2.set j (keepV Γ1[j]?)))) ∧
      ∀ es Γ', Inv n es Γ' → Post (.new es) Γ') : WE K (tLc (iRng1 t1) (gName j) tt te [j]) Γ Post := fun σ B H E Q q => by
  refine h σ B H E _ fun vs B1 H1 ds Γ1 g1 k p => ?_
  obtain ⟨n, rfl, hn, hj, hja, Inv, i0, turn, done⟩ := p
  have ev : vs = [.int n] := IsA.rawsI (xs := [.int n]) k
  refine ⟨n, ev, by omega, by omega, ?_⟩
  have e0 : ((n : Int)).toNat = n := by omega
  rw [e0]
  refine lc_run (n := n) (dt := fun i => .int i) (J := Itr 0 n) g1.env (of_decide_eq_true hj) (notAcc_ne hja) hn Inv (fun i B' H' _ _ hi _ _ _ => hi) (fun i H' x H'' B' _ _ hi _ _ _ hy => ?_) (fun B' H' _ _ _ _ _ => Nat.le_refl _) i0 turn done fun v B2 H2 r Γ2 g2 k2 p2 => q v B2 H2 r Γ2 (g1.trans g2) (ReOk.earlier k2 g1.mv fun a h => .inl (g1.sub a h)) p2
  obtain ⟨e1, e2⟩ := hy
  subst e1 e2
  rw [Int.zero_add]
  exact ⟨rfl, .raw _⟩
theorem we_lcT (h : WE K tl Γ fun z Γ1 => ∃ ds, z = .val (.tup ds) ∧ ds.length ≤ 1000000 ∧ decide (j < Γ1.length) = true ∧ notAcc Γ1[j]? = true ∧ ∃ Inv : Nat → List Dt → List Sl → Prop, Inv 0 [] Γ1 ∧
      (∀ (i : Nat) d es Γ', ds[i]? = some d → Inv i es Γ' → WT K tt (Γ'.set j (.val d)) fun b Γ2 => (b = true → WE K te Γ2 fun r Γ3 => ∃ d, r.dt? = some d ∧ Inv (i + 1) (es ++ [d]) (Γ3.set j (keepV Γ1[j]?))) ∧ (b = false → Inv (i + 1) es (Γ2.set j (keepV Γ1[j]?)))) ∧
      ∀ es Γ', Inv ds.length es Γ' → Post (.new es) Γ') : WE K (tLc (iTup K tl) (gName j) tt te [j]) Γ Post := fun σ B H E Q q => by
  refine h σ B H E _ fun v B1 H1 z Γ1 g1 k p => ?_
  obtain ⟨ds, rfl, hn, hj, hja, Inv, i0, turn, done⟩ := p
  obtain ⟨a, xs, rfl, ha, hx⟩ := Is.tupR k
  refine ⟨a, rfl, ⟨xs, sqT_mono g1.env.bh ha⟩, ?_⟩
  have at_ : ∀ i, i < ds.length → ds[i]? = some (ds.getD i .non) := fun i hi => by rw [List.getD_eq_getElem?_getD, List.getElem?_eq_getElem hi]; rfl
  refine lc_run (n := ds.length) (dt := fun i => ds.getD i .non) (J := Itt K a) g1.env (of_decide_eq_true hj) (notAcc_ne hja) hn Inv (fun i B' H' _ _ hi b1 b2 _ => ?_) (fun i H' x H'' B' _ _ hi b1 b2 _ hy => ?_) (fun B' H' _ _ b1 b2 _ => ?_) i0 (fun i es Γ' hi' => turn i _ es Γ' (at_ i hi')) done fun v B2 H2 r Γ2 g2 k2 p2 => q v B2 H2 r Γ2 (g1.trans g2) (ReOk.earlier k2 g1.mv fun a h => .inl (g1.sub a h)) p2
  · obtain ⟨x, h1, _⟩ := hx.get (at_ i hi)
    exact ⟨xs, x, sqT_mono (b1.trans b2.bh) ha, h1⟩
  · obtain ⟨e1, e2⟩ := hy
    subst e1
    exact ⟨rfl, (hx.at_ i x _ (e2 xs (sqT_mono (b1.trans b2.bh) ha)) (at_ i hi)).mono b1⟩
  · exact ⟨xs, sqT_mono (b1.trans b2.bh) ha, by rw [hx.len]; exact Nat.le_refl _⟩
theorem we_lcL (h : WE K tl Γ fun z Γ1 => ∃ d ds, z.dt? = some d ∧ d = .lst ds ∧ ds.length ≤ 1000000 ∧ decide (j < Γ1.length) = true ∧ notAcc Γ1[j]? = true ∧ ∃ Inv : Nat → List Dt → List Sl → Prop, Inv 0 [] Γ1 ∧
      (∀ (i : Nat) d es Γ', ds[i]? = some d → Inv i es Γ' → WT K tt (Γ'.set j (.val d)) fun b Γ2 => (b = true → WE K te Γ2 fun r Γ3 => ∃ d, r.dt? = some d ∧ Inv (i + 1) (es ++ [d]) (Γ3.set j (keepV Γ1[j]?))) ∧ (b = false → Inv (i + 1) es (Γ2.set j (keepV Γ1[j]?)))) ∧
      ∀ es Γ', Inv ds.length es Γ' → Post (.new es) Γ') : WE K (tLc (iList K tl) (gName j) tt te [j]) Γ Post := fun σ B H E Q q => by
  have h' := we_freeze (Post := fun z Γ1 => ∃ ds, z = .val (.lst ds) ∧ ds.length ≤ 1000000 ∧ decide (j < Γ1.length) = true ∧ notAcc Γ1[j]? = true ∧ ∃ Inv : Nat → List Dt → List Sl → Prop, Inv 0 [] Γ1 ∧
      (∀ (i : Nat) d es Γ', ds[i]? = some d → Inv i es Γ' → WT K tt (Γ'.set j (.val d)) fun b Γ2 => (b = true → WE K te Γ2 fun r Γ3 => ∃ d, r.dt? = some d ∧ Inv (i + 1) (es ++ [d]) (Γ3.set j (keepV Γ1[j]?))) ∧ (b = false → Inv (i + 1) es (Γ2.set j (keepV Γ1[j]?)))) ∧
      ∀ es Γ', Inv ds.length es Γ' → Post (.new es) Γ') (we_mono h fun z Γ1 ⟨d, ds, hd, e, r⟩ => ⟨d, hd, ds, by rw [e], r⟩)
  refine h' σ B H E _ fun v B1 H1 z Γ1 g1 k p => ?_
  obtain ⟨ds, rfl, hn, hj, hja, Inv, i0, turn, done⟩ := p
  obtain ⟨a, xs, rfl, ha, hx⟩ := Is.lstR k
  refine ⟨a, rfl, ⟨xs, .inl (.inl (g1.env.bh _ _ ha))⟩, ?_⟩
  have at_ : ∀ i, i < ds.length → ds[i]? = some (ds.getD i .non) := fun i hi => by rw [List.getD_eq_getElem?_getD, List.getElem?_eq_getElem hi]; rfl
  refine lc_run (n := ds.length) (dt := fun i => ds.getD i .non) (J := Itl K a) g1.env (of_decide_eq_true hj) (notAcc_ne hja) hn Inv (fun i B' H' _ _ hi b1 b2 _ => ?_) (fun i H' x H'' B' _ _ hi b1 b2 _ hy => ?_) (fun B' H' _ _ b1 b2 _ => ?_) i0 (fun i es Γ' hi' => turn i _ es Γ' (at_ i hi')) done fun v B2 H2 r Γ2 g2 k2 p2 => q v B2 H2 r Γ2 (g1.trans g2) (ReOk.earlier k2 g1.mv fun a h => .inl (g1.sub a h)) p2
  · obtain ⟨x, h1, _⟩ := hx.get (at_ i hi)
    exact ⟨xs, x, .inl (.inl ((b1.trans b2.bh) _ _ ha)), h1⟩
  · obtain ⟨e1, e2⟩ := hy
    subst e1
    exact ⟨rfl, (hx.at_ i x _ (e2 xs (.inl (.inl ((b1.trans b2.bh) _ _ ha)))) (at_ i hi)).mono b1⟩
  · exact ⟨xs, .inl (.inl ((b1.trans b2.bh) _ _ ha)), by rw [hx.len]; exact Nat.le_refl _⟩
end
mutual
def Dt.py : Dt → Option PyData
  | .raw .non => some .none
  | .raw (.bl b) => some (.bool b)
  | .raw (.int i) => some (.int i)
  | .raw (.str s) => some (.str s)
  | .raw _ => none
  | .tup ds => (pyAll ds).map .tuple
  | .lst ds => (pyAll ds).map .list
  | .obj _ _ => none
  | .scr ns => none
  | .dK _ => none
  | .dT _ => none
  | .exn _ _ _ => none
  | .err _ _ => none
  | .fz _ => none
  | .dN _ _ => none
def pyAll : List Dt → Option (List PyData)
  | [] => some []
  | d :: ds => match Dt.py d, pyAll ds with
    | some p, some ps => some (p :: ps)
    | _, _ => none
end
section
variable {K : PySem.W.Frag} {B H : Hp}
theorem pyAll_dp : ∀ {ds : List Dt} {ps : List PyData} {vs : List V}, (∀ d p v, d ∈ ds → Dt.py d = some p → Is K B v d → Dp K B v p) → pyAll ds = some ps → IsA K B vs ds → DpAll K B vs ps
  | [], ps, vs, _, e, h => by
    rw [pyAll] at e
    cases e
    have : vs = [] := List.eq_nil_of_length_eq_zero (by rw [h.len]; rfl)
    subst this; exact .nil
  | d :: ds, ps, vs, f, e, h => by
    rw [pyAll] at e
    split at e
    · rename_i p qs h1 h2
      cases e
      cases vs with
      | nil => have := h.len; simp at this
      | cons v vs =>
        refine .cons (f d p v (List.mem_cons_self) h1 (h.at_ 0 v d rfl rfl)) (pyAll_dp (fun d p v hd => f d p v (List.mem_cons_of_mem _ hd)) h2 ⟨by have := h.len; simpa using this, fun i v d a b => h.at_ (i + 1) v d (by simpa using a) (by simpa using b)⟩)
    · cases e
theorem is_dp {v : V} {d : Dt} (h : Is K B v d) : ∀ {p : PyData}, d.py = some p → Dp K B v p := by
  induction h with
  | raw v =>
    intro p e
    cases v <;> (simp only [Dt.py] at e; cases e) <;> constructor
  | @tup a xs ds h hl hi ih =>
    intro p e
    rw [Dt.py] at e
    cases q : pyAll ds with
    | none => rw [q] at e; cases e
    | some ps =>
      rw [q] at e
      cases e
      refine .tup h ?_
      clear h
      induction ds generalizing xs ps with
      | nil =>
        rw [pyAll] at q; cases q
        have : xs = [] := List.eq_nil_of_length_eq_zero (by rw [hl]; rfl)
        subst this; exact .nil
      | cons d ds ihd =>
        rw [pyAll] at q
        split at q
        · rename_i p1 qs h1 h2
          cases q
          cases xs with
          | nil => simp at hl
          | cons x xs =>
            exact .cons (ih 0 x d rfl rfl h1) (ihd (by simpa using hl) (fun i v d a b => hi (i + 1) v d (by simpa using a) (by simpa using b)) (fun i v d a b => ih (i + 1) v d (by simpa using a) (by simpa using b)) qs h2)
        · cases q
  | @lst a xs ds h hl hi ih =>
    intro p e
    rw [Dt.py] at e
    cases q : pyAll ds with
    | none => rw [q] at e; cases e
    | some ps =>
      rw [q] at e
      cases e
      refine .lst (.inl (.inl h)) ?_
      clear h
      induction ds generalizing xs ps with
      | nil =>
        rw [pyAll] at q; cases q
        have : xs = [] := List.eq_nil_of_length_eq_zero (by rw [hl]; rfl)
        subst this; exact .nil
      | cons d ds ihd =>
        rw [pyAll] at q
        split at q
        · rename_i p1 qs h1 h2
          cases q
          cases xs with
          | nil => simp at hl
          | cons x xs =>
            exact .cons (ih 0 x d rfl rfl h1) (ihd (by simpa using hl) (fun i v d a b => hi (i + 1) v d (by simpa using a) (by simpa using b)) (fun i v d a b => ih (i + 1) v d (by simpa using a) (by simpa using b)) qs h2)
        · cases q
  | obj h hk hi ih => intro p e; rw [Dt.py] at e; cases e
  | dK h hk hi ih => intro p e; rw [Dt.py] at e; cases e
  | dT h hk hi ih => intro p e; rw [Dt.py] at e; cases e
  | exn0 => intro p e; rw [Dt.py] at e; cases e
  | exnD h hk hi ih => intro p e; rw [Dt.py] at e; cases e
  | err0 h => intro p e; rw [Dt.py] at e; cases e
  | fz h hk hi ih => intro p e; rw [Dt.py] at e; cases e
  | errD h hd hk hi ih => intro p e; rw [Dt.py] at e; cases e
  | dN h hk hq hi ihq ih => intro p e; rw [Dt.py] at e; cases e
  | scr h => intro p e; rw [Dt.py] at e; cases e
mutual
theorem dp_mono {B' : Hp} (s : Same B B') {v : V} : ∀ {p : PyData}, Dp K B v p → Dp K B' v p
  | _, .non => .non
  | _, .bl b => .bl b
  | _, .int i => .int i
  | _, .str x => .str x
  | _, .lst h hs => .lst (s.seq h) (dpAll_mono s hs)
  | _, .tup h hs => .tup (sqT_mono s h) (dpAll_mono s hs)
theorem dpAll_mono {B' : Hp} (s : Same B B') : ∀ {vs : List V} {ps : List PyData}, DpAll K B vs ps → DpAll K B' vs ps
  | _, _, .nil => .nil
  | _, _, .cons h hs => .cons (dp_mono s h) (dpAll_mono s hs)
end
end
def Re.py (Γ : List Sl) : Re → Option PyData
  | .val d => d.py
  | .nw (.lst ds) => (pyAll ds).map .list
  | .nw _ => none
  | .own i => match Γ[i]? with
    | some (Sl.cel (.lst ds)) => (pyAll ds).map .list
    | _ => none
section
variable {K : PySem.W.Frag} {Γ : List Sl} {Post : Re → List Sl → Prop} {ta tb : TE}
theorem rv_dp {σ : L2.St} {B H : Hp} {v : V} {r : Re} {p : PyData} (E : Env K B H σ Γ) (h : RvOk K σ B H Γ v r) (e : r.py Γ = some p) : Dp K H v p := by
  have lst : ∀ {ds : List Dt}, lstOf Γ r = some ds → (pyAll ds).map PyData.list = some p → Dp K H v p := fun {ds} h1 h2 => by
    obtain ⟨a, vs, rfl, hq, ha⟩ := rv_lst E h h1
    cases q : pyAll ds with
    | none => rw [q] at h2; cases h2
    | some ps =>
      rw [q] at h2
      cases h2
      exact .lst hq (dpAll_mono E.bh (pyAll_dp (fun d p v _ e k => is_dp k e) q ha))
  cases r with
  | val d => exact dp_mono E.bh (is_dp h e)
  | nw c =>
    cases c with
    | lst ds => exact lst rfl e
    | dK es => cases e
    | dT es => cases e
    | dN w es => cases e
  | own i =>
    have e' : (match Γ[i]? with
      | some (Sl.cel (.lst ds)) => (pyAll ds).map PyData.list
      | _ => none) = some p := e
    split at e'
    · rename_i ds hi
      exact lst (by show (match Γ[i]? with | some (Sl.cel (.lst ds)) => some ds | _ => none) = some ds; rw [hi]) e'
    · cases e'
end
end Ab

namespace Ab
open PySem L2
abbrev rSubI : R2 := rI0 fun i j => .int (i - j)
def CDiv64 (i j : Int) : Prop := 0 < j ∧ j < 18446744073709551616
abbrev rDivI : R2 := rI CDiv64 fun i j => .int (i / j)
theorem op_fdivW {X : Cx} : OpR X (binaryOp .FloorDiv) rDivI := opI fun i j _ _ _ _ _ hc q => by
  have h1 : (0 : Int) < j := hc.1
  have h2 : j < 18446744073709551616 := hc.2
  refine PyProof.Rows.floordiv_int (by omega) (by rw [Int.fdiv_eq_ediv_of_nonneg i (by omega)]; exact q) (.inl (PyProof.noPylong_of_log2 ?_))
  have h3 : j.natAbs < 2 ^ 64 := by omega
  have h4 : j.natAbs.log2 < 64 := (Nat.log2_lt (by omega)).mpr h3
  omega
abbrev rModI : R2 := rI (fun _ j => 0 < j) fun i j => .int (i % j)
abbrev rPowI : R2 := rI CPow fun i j => .int (i ^ j.toNat)
abbrev rLtI : R2 := rI0 fun i j => .bl (decide (i < j))
abbrev rLeI : R2 := rI0 fun i j => .bl (decide (i ≤ j))
abbrev rGtI : R2 := rI0 fun i j => .bl (decide (j < i))
abbrev rGeI : R2 := rI0 fun i j => .bl (decide (j ≤ i))
def rAddG (K : PySem.W.Frag) : R2 := fun x y H Q => rI0 (fun i j => .int (i + j)) x y H Q ∨ (∃ i j, x = .str i ∧ y = .str j ∧ i.length + j.length ≤ sizeLine ∧ Q (.str (i ++ j)) H) ∨ rCatA K x y H Q ∨ rCat x y H Q
def rMulG (K : PySem.W.Frag) : R2 := fun x y H Q => rI CMul (fun i j => .int (i * j)) x y H Q ∨ rI CMulW (fun i j => .int (i * j)) x y H Q
def rEqG (K : PySem.W.Frag) : R2 := fun x y H Q => rEq x y H Q ∨ rEqD K x y H Q
def rNeG (K : PySem.W.Frag) : R2 := fun x y H Q => rNe x y H Q ∨ rNeD K x y H Q
def rLtG (K : PySem.W.Frag) : R2 := fun x y H Q => rI0 (fun i j => .bl (decide (i < j))) x y H Q ∨ (∃ i j, x = .str i ∧ y = .str j ∧ Q (.bl (decide (i.cps.toList < j.cps.toList))) H) ∨ rLtT K x y H Q
def rInG (K : PySem.W.Frag) : R2 := fun x y H Q => rIn K false x y H Q ∨ ∃ (c : Nat) (z : Str), x = .str ⟨#[c]⟩ ∧ y = .str z ∧ Q (.bl (decide (c ∈ z.cps.toList))) H
def rSlG (K : PySem.W.Frag) : V → Option Int → Option Int → Hp → VK → Prop := fun x lo hi H Q => rSlL K x lo hi H Q ∨ rSlA K x lo hi H Q ∨ rSlS x lo hi H Q
section
variable {X : Cx}
theorem op_addG : OpR X (binaryOp .Add) (rAddG X.K) := op_add.or (op_add_str.or (op_catA.or op_cat))
theorem op_mulG : OpR X (binaryOp .Mult) (rMulG X.K) := op_mul.or op_mulW
theorem op_eqG (hu : X.A.units + 64 < cLine) : OpR X (compareOp .Eq) (rEqG X.K) := op_eq.or (op_eqD hu)
theorem op_neG (hu : X.A.units + 64 < cLine) : OpR X (compareOp .NotEq) (rNeG X.K) := op_ne.or (op_neD hu)
theorem op_ltG (hu : X.A.units < cLine) : OpR X (compareOp .Lt) (rLtG X.K) := op_lt.or (op_lt_str.or (op_ltT hu))
theorem op_inG : OpR X (compareOp .In) (rInG X.K) := op_in_seq.or op_in_sign
theorem sl_G : SlR X (rSlG X.K) := sl_list.or (sl_tupA.or sl_str)
end
def Re.isScr : Re → Bool
  | .val (.scr _) => true
  | _ => false
def AddP (ra rb : Re) (Γ : List Sl) (Post : Re → List Sl → Prop) : Prop :=
  (∃ i j, ra = .val (.int i) ∧ rb = .val (.int j) ∧ Post (.val (.int (i + j))) Γ) ∨ (∃ s t : Str, ra = .val (.str s) ∧ rb = .val (.str t) ∧ s.length + t.length ≤ 1000000 ∧ Post (.val (.str (s ++ t))) Γ) ∨
  (∃ ds es, ra = .val (.tup ds) ∧ rb = .val (.tup es) ∧ ds.length + es.length ≤ 1000000 ∧ Post (.val (.tup (ds ++ es))) Γ) ∨ (∃ ds es, lstOf Γ ra = some ds ∧ lstOf Γ rb = some es ∧ ra.isScr = false ∧ rb.isScr = false ∧ ds.length + es.length ≤ 1000000 ∧ Post (.new (ds ++ es)) Γ)
def EqP (neg : Bool) (ra rb : Re) (Γ : List Sl) (Post : Re → List Sl → Prop) : Prop :=
  (∃ x y : V, ra = .val (.raw x) ∧ rb = .val (.raw y) ∧ scal x y = true ∧ Post (.val (.bl (neg ^^ decide (x = y)))) Γ) ∨
  (∃ p q : PyData, ra.py Γ = some p ∧ rb.py Γ = some q ∧ SeqAt.shaped p = true ∧ SeqAt.shaped q = true ∧ Post (.val (.bl (neg ^^ PyData.eqv p q))) Γ)
def MulP (ra rb : Re) (Γ : List Sl) (Post : Re → List Sl → Prop) : Prop := ∃ i j, ra = .val (.int i) ∧ rb = .val (.int j) ∧ (CMul i j ∨ CMulW i j) ∧ Post (.val (.int (i * j))) Γ
def IxP (ra rb : Re) (Γ : List Sl) (Post : Re → List Sl → Prop) : Prop :=
  (∃ ds k d, seqOf Γ ra = some ds ∧ rb = .val (.int k) ∧ atI ds k = some d ∧ Post (.val d) Γ) ∨ (∃ z k c, ra = .val (.str z) ∧ rb = .val (.int k) ∧ z.length ≤ 1000000 ∧ atI z.cps.toList k = some c ∧ Post (.val (.str ⟨#[c]⟩)) Γ)
def LenP (r : Re) (Γ : List Sl) (Post : Re → List Sl → Prop) : Prop := (∃ ds, seqOf Γ r = some ds ∧ Post (.val (.int ds.length)) Γ) ∨ (∃ z : Str, r = .val (.str z) ∧ z.length ≤ 1000000 ∧ Post (.val (.int z.length)) Γ)
def IntP (r : Re) (Γ : List Sl) (Post : Re → List Sl → Prop) : Prop := (∃ i, r = .val (.int i) ∧ Post (.val (.int i)) Γ) ∨ (∃ b, r = .val (.bl b) ∧ Post (.val (.int (if b then 1 else 0))) Γ)
section
variable {K : PySem.W.Frag} {Γ : List Sl} {Post : Re → List Sl → Prop} {ta tb tc te : TE}
theorem rv_lstH {σ : L2.St} {B H : Hp} {v : V} {r : Re} {ds : List Dt} (E : Env K B H σ Γ) (h : RvOk K σ B H Γ v r) (e : lstOf Γ r = some ds) (hs : r.isScr = false) : ∃ a vs, v = .ref a ∧ H a = some (.lst vs) ∧ IsA K B vs ds := by
  cases r with
  | val d =>
    cases d with
    | lst es => cases e; obtain ⟨a, xs, rfl, h1, h2⟩ := Is.lstR h; exact ⟨a, xs, rfl, E.bh _ _ h1, h2⟩
    | raw u => cases e
    | tup es => cases e
    | obj C fs => cases e
    | dK es => cases e
    | dT es => cases e
    | exn a d fs => cases e
    | err C fs => cases e
    | fz kvs => cases e
    | dN w es => cases e
    | scr ns => cases hs
  | nw c =>
    cases c with
    | lst es => cases e; obtain ⟨l, o, rfl, _, h1, _, vs, rfl, h2⟩ := h; exact ⟨l, vs, rfl, h1, h2⟩
    | dK es => cases e
    | dT es => cases e
    | dN w es => cases e
  | own i =>
    obtain ⟨l, rfl, hl⟩ := h
    have e' : (match Γ[i]? with
      | some (Sl.cel (.lst ds)) => some ds
      | _ => none) = some ds := e
    split at e'
    · rename_i es hi
      cases e'
      obtain ⟨c, us, q1, q2, q3, q4⟩ := E.acc i _ hi
      rw [hl] at q1; cases q1
      exact ⟨l, us, rfl, q2, q4⟩
    · cases e'
theorem we_addG (h : WE K ta Γ fun ra Γ1 => WE K tb Γ1 fun rb Γ2 => AddP ra rb Γ2 Post) : WE K (tOp (rAddG K) ta tb) Γ Post :=
  we_two' (we_mono h fun ra Γ1 h1 => we_mono h1 fun rb Γ2 hp => fun σ B H x y E kx ky Q q => by
    rcases hp with ⟨i, j, rfl, rfl, p⟩ | ⟨s, t, rfl, rfl, hz, p⟩ | ⟨ds, es, rfl, rfl, hz, p⟩ | ⟨ds, es, h1, h2, s1, s2, hz, p⟩
    · cases Is.rawI kx; cases Is.rawI ky
      exact .inl ⟨i, j, rfl, rfl, q _ B H _ Γ2 (.refl E) (.raw _) p⟩
    · cases Is.rawI kx; cases Is.rawI ky
      exact .inr (.inl ⟨s, t, rfl, rfl, Nat.le_trans hz (by decide), q _ B H _ Γ2 (.refl E) (.raw _) p⟩)
    · obtain ⟨a, xs, rfl, h1, h2⟩ := Is.tupR kx
      obtain ⟨b, ys, rfl, g1, g2⟩ := Is.tupR ky
      refine .inr (.inr (.inl ⟨a, b, xs, ys, rfl, rfl, sqT_mono E.bh h1, sqT_mono E.bh g1, Nat.le_trans (by rw [h2.len, g2.len]; exact hz) (by decide), fun e => ?_, fun e1 e => ?_, fun _ _ l hl => ?_⟩))
      · have : ds = [] := List.eq_nil_of_length_eq_zero (by rw [← h2.len, e]; rfl)
        subst this
        exact q _ B H (.val _) Γ2 (.refl E) (show Is K B _ _ from ky) p
      · have : es = [] := List.eq_nil_of_length_eq_zero (by rw [← g2.len, e]; rfl)
        subst this
        rw [List.append_nil] at p
        exact q _ B H (.val _) Γ2 (.refl E) (show Is K B _ _ from kx) p
      · exact q _ _ _ _ Γ2 (Go.laid E hl) (re_laidT E (h2.append g2) hl) p
    · obtain ⟨a, xs, rfl, a1, a2⟩ := rv_lstH E kx h1 s1
      obtain ⟨b, ys, rfl, b1, b2⟩ := rv_lstH E ky h2 s2
      exact .inr (.inr (.inr ⟨a, b, xs, ys, rfl, rfl, a1, b1, Nat.le_trans (by rw [a2.len, b2.len]; exact hz) (by decide), fun l hl => q _ _ _ _ Γ2 (Go.beside E hl) (re_newL E (a2.append b2) hl) p⟩)))
theorem we_mulG (h : WE K ta Γ fun ra Γ1 => WE K tb Γ1 fun rb Γ2 => MulP ra rb Γ2 Post) : WE K (tOp (rMulG K) ta tb) Γ Post :=
  we_two' (we_mono h fun ra Γ1 h1 => we_mono h1 fun rb Γ2 hp => fun σ B H x y E kx ky Q q => by
    obtain ⟨i, j, rfl, rfl, hc, p⟩ := hp
    cases Is.rawI kx; cases Is.rawI ky
    have fin := q _ B H _ Γ2 (.refl E) (.raw _) p
    rcases hc with hc | hc
    · exact .inl ⟨i, j, rfl, rfl, hc, fin⟩
    · exact .inr ⟨i, j, rfl, rfl, hc, fin⟩)
theorem we_eqG (h : WE K ta Γ fun ra Γ1 => WE K tb Γ1 fun rb Γ2 => EqP false ra rb Γ2 Post) : WE K (tOp (rEqG K) ta tb) Γ Post :=
  we_two' (we_mono h fun ra Γ1 h1 => we_mono h1 fun rb Γ2 hp => fun σ B H x y E kx ky Q q => by
    rcases hp with ⟨u, w, rfl, rfl, hs, p⟩ | ⟨a, b, e1, e2, s1, s2, p⟩
    · cases Is.rawI kx; cases Is.rawI ky
      rw [Bool.false_xor] at p
      exact .inl ⟨hs, q _ B H _ Γ2 (.refl E) (.raw _) p⟩
    · rw [Bool.false_xor] at p
      exact .inr ⟨a, b, rv_dp E kx e1, rv_dp E ky e2, s1, s2, q _ B H _ Γ2 (.refl E) (.raw _) p⟩)
theorem we_neG (h : WE K ta Γ fun ra Γ1 => WE K tb Γ1 fun rb Γ2 => EqP true ra rb Γ2 Post) : WE K (tOp (rNeG K) ta tb) Γ Post :=
  we_two' (we_mono h fun ra Γ1 h1 => we_mono h1 fun rb Γ2 hp => fun σ B H x y E kx ky Q q => by
    rcases hp with ⟨u, w, rfl, rfl, hs, p⟩ | ⟨a, b, e1, e2, s1, s2, p⟩
    · cases Is.rawI kx; cases Is.rawI ky
      rw [Bool.true_xor] at p
      exact .inl ⟨hs, q _ B H _ Γ2 (.refl E) (.raw _) p⟩
    · rw [Bool.true_xor] at p
      exact .inr ⟨a, b, rv_dp E kx e1, rv_dp E ky e2, s1, s2, q _ B H _ Γ2 (.refl E) (.raw _) p⟩)
theorem we_ixG (h : WE K ta Γ fun ra Γ1 => WE K tb Γ1 fun rb Γ2 => IxP ra rb Γ2 Post) : WE K (tOp (rIx K) ta tb) Γ Post :=
  we_two' (we_mono h fun ra Γ1 h1 => we_mono h1 fun rb Γ2 hp => fun σ B H x y E kx ky Q q => by
    rcases hp with ⟨ds, k, d, hs, rfl, hd, p⟩ | ⟨z, k, c, rfl, rfl, hz, hd, p⟩
    · cases Is.rawI ky
      obtain ⟨a, vs, rfl, hq, ha⟩ := rv_seq E kx hs
      obtain ⟨v, hv, hi⟩ := ha.atI hd
      have fin := q v B H (.val d) Γ2 (.refl E) hi p
      rcases hq with hq | hq
      · exact .inl ⟨a, vs, k, v, rfl, rfl, hq, hv, fin⟩
      · exact .inr (.inl ⟨a, vs, k, v, rfl, rfl, hq, hv, fin⟩)
    · cases Is.rawI ky
      cases Is.rawI kx
      exact .inr (.inr ⟨z, k, c, rfl, rfl, Nat.le_trans hz (by decide), hd, q _ B H _ Γ2 (.refl E) (.raw _) p⟩))
theorem we_lenG (h : WE K te Γ fun r Γ1 => LenP r Γ1 Post) : WE K (tCB (rLenV K) (tCons te tNil)) Γ Post :=
  we_cb1 (we_mono h fun r Γ1 hp => fun σ B H x E kx Q q => by
    rcases hp with ⟨ds, hs, p⟩ | ⟨z, rfl, hz, p⟩
    · obtain ⟨a, vs, rfl, hq, ha⟩ := rv_seq E kx hs
      have e : (ds.length : Int) = (vs.length : Int) := by rw [ha.len]
      rw [e] at p
      refine ⟨_, vs.length, rfl, ?_, q _ B H _ Γ1 (.refl E) (.raw _) p⟩
      rcases hq with hq | hq
      · exact .inl ⟨vs, hq, rfl⟩
      · exact .inr ⟨vs, hq, rfl⟩
    · cases Is.rawI kx
      exact ⟨_, z.length, rfl, ⟨Nat.le_trans hz (by decide), rfl⟩, q _ B H _ Γ1 (.refl E) (.raw _) p⟩)
theorem we_intG (h : WE K te Γ fun r Γ1 => IntP r Γ1 Post) : WE K (tCB rInt1 (tCons te tNil)) Γ Post :=
  we_cb1 (we_mono h fun r Γ1 hp => fun σ B H x E kx Q q => by
    rcases hp with ⟨i, rfl, p⟩ | ⟨b, rfl, p⟩
    · cases Is.rawI kx; exact .inl ⟨i, rfl, q _ B H _ Γ1 (.refl E) (.raw _) p⟩
    · cases Is.rawI kx; exact .inr ⟨b, rfl, q _ B H _ Γ1 (.refl E) (.raw _) p⟩)
def WO (K : PySem.W.Frag) (to : TO) (Γ : List Sl) (Post : Option Int → List Sl → Prop) : Prop := ∀ σ B H, Env K B H σ Γ → ∀ Q : Option Int → Hp → Prop, (∀ o B' H' Γ', Go K σ B H Γ B' H' Γ' → Post o Γ' → Q o H') → to σ H Q
theorem wo_none {P : Option Int → List Sl → Prop} (p : P none Γ) : WO K tNoPart Γ P := fun σ B H E Q q => q none B H Γ (.refl E) p
theorem wo_some {P : Option Int → List Sl → Prop} (h : WE K te Γ fun r Γ1 => ∃ i, r = .val (.int i) ∧ P (some i) Γ1) : WO K (tPart te) Γ P := fun σ B H E Q q => by
  refine h σ B H E _ fun v B1 H1 r Γ1 g k ⟨i, e, p⟩ => ?_
  subst e
  cases Is.rawI k
  exact ⟨i, rfl, q _ B1 H1 Γ1 g p⟩
def cutD (xs : List Dt) (lo hi : Option Int) : List Dt := (xs.drop (HT.sIx xs.length 0 lo)).take (HT.sIx xs.length xs.length hi - HT.sIx xs.length 0 lo)
def SlP (ra : Re) (lo hi : Option Int) (Γ : List Sl) (Post : Re → List Sl → Prop) : Prop :=
  (∃ ds, lstOf Γ ra = some ds ∧ Post (.new (cutD ds lo hi)) Γ) ∨ (∃ ds, ra = .val (.tup ds) ∧ Post (.val (.tup (cutD ds lo hi))) Γ) ∨ (∃ z : Str, ra = .val (.str z) ∧ z.length ≤ 1000000 ∧ Post (.val (.str (cutS z lo hi))) Γ)
theorem cut_is {B : Hp} {vs : List V} {ds : List Dt} (lo hi : Option Int) (h : IsA K B vs ds) : IsA K B (cutV vs lo hi) (cutD ds lo hi) := by
  unfold cutV cutD
  rw [h.len]
  exact (h.drop _).take _
theorem cut_whole {ds : List Dt} {lo hi : Option Int} (h : HT.sIx ds.length 0 lo = 0 ∧ HT.sIx ds.length ds.length hi = ds.length) : cutD ds lo hi = ds := by
  unfold cutD
  rw [h.1, h.2, List.drop_zero, Nat.sub_zero, List.take_length]
theorem we_slG {tl th : TO} (h : WE K ta Γ fun ra Γ1 => WO K tl Γ1 fun lo Γ2 => WO K th Γ2 fun hi Γ3 => SlP ra lo hi Γ3 Post) : WE K (tSl (rSlG K) ta tl th) Γ Post := fun σ B H E Q q => by
  refine h σ B H E _ fun x B1 H1 ra Γ1 g1 k1 p1 => ?_
  refine p1 σ B1 H1 g1.env _ fun lo B2 H2 Γ2 g2 p2 => ?_
  refine p2 σ B2 H2 g2.env _ fun hi B3 H3 Γ3 g3 p3 => ?_
  have g23 := g2.trans g3
  have kx := ReOk.rv (ReOk.step k1 g23.mv g23.sub)
  have g := g1.trans g23
  have fin : ∀ v B' H' z Γ', Go K σ B3 H3 Γ3 B' H' Γ' → ReOk K σ (Own σ Γ3) (Own σ Γ') B' H3 H' v z → Post z Γ' → Q v H' := fun v B' H' z Γ' g4 k4 p4 => q v B' H' z Γ' (g.trans g4) (ReOk.earlier k4 g.mv fun a h => .inl (g.sub a h)) p4
  rcases p3 with ⟨ds, hs, p⟩ | ⟨ds, rfl, p⟩ | ⟨z, rfl, hz, p⟩
  · obtain ⟨a, vs, rfl, hq, ha⟩ := rv_lst g3.env kx hs
    exact .inl ⟨a, vs, rfl, hq, fun l hl => fin _ _ _ _ Γ3 (Go.beside g3.env hl) (re_newL g3.env (cut_is lo hi ha) hl) p⟩
  · obtain ⟨a, vs, rfl, hq, ha⟩ := Is.tupR kx
    refine .inr (.inl ⟨a, vs, rfl, sqT_mono g3.env.bh hq, fun hw => ?_, fun _ l hl => fin _ _ _ _ Γ3 (Go.laid g3.env hl) (re_laidT g3.env (cut_is lo hi ha) hl) p⟩)
    rw [ha.len] at hw
    rw [cut_whole hw] at p
    exact fin _ B3 H3 (.val _) Γ3 (.refl g3.env) (show Is K B3 _ _ from kx) p
  · cases Is.rawI kx
    exact .inr (.inr ⟨z, rfl, Nat.le_trans hz (by decide), fin _ B3 H3 _ Γ3 (.refl g3.env) (.raw _) p⟩)
def InP (neg : Bool) (ra rb : Re) (Γ : List Sl) (Post : Re → List Sl → Prop) : Prop :=
  (∃ (x : V) (us : List V), ra = .val (.raw x) ∧ seqOf Γ rb = some (us.map Dt.raw) ∧ flatV x = true ∧ us.all flatV = true ∧ Post (.val (.bl (if neg then !inV x us else inV x us))) Γ)
theorem we_inG (h : WE K ta Γ fun ra Γ1 => WE K tb Γ1 fun rb Γ2 => InP false ra rb Γ2 Post ∨ ∃ (c : Nat) (z : Str), ra = .val (.str ⟨#[c]⟩) ∧ rb = .val (.str z) ∧ Post (.val (.bl (decide (c ∈ z.cps.toList)))) Γ2) : WE K (tOp (rInG K) ta tb) Γ Post :=
  we_two' (we_mono h fun ra Γ1 h1 => we_mono h1 fun rb Γ2 hp => fun σ B H y z E ky kz Q q => by
    rcases hp with ⟨x, us, rfl, hs, hx, hu, p⟩ | ⟨c, s, rfl, rfl, p⟩
    · cases Is.rawI ky
      obtain ⟨a, vs, rfl, hq, ha⟩ := rv_seq E kz hs
      cases ha.rawsI
      exact .inl ⟨a, _, rfl, hq, hx, hu, q _ B H _ Γ2 (.refl E) (.raw _) p⟩
    · cases Is.rawI ky; cases Is.rawI kz
      exact .inr ⟨c, s, rfl, rfl, q _ B H _ Γ2 (.refl E) (.raw _) p⟩)
theorem we_notInG (h : WE K ta Γ fun ra Γ1 => WE K tb Γ1 fun rb Γ2 => InP true ra rb Γ2 Post) : WE K (tOp (rIn K true) ta tb) Γ Post := we_in h
end
def LtP (ra rb : Re) (Γ : List Sl) (Post : Re → List Sl → Prop) : Prop :=
  (∃ i j, ra = .val (.int i) ∧ rb = .val (.int j) ∧ Post (.val (.bl (decide (i < j)))) Γ) ∨ (∃ s t : Str, ra = .val (.str s) ∧ rb = .val (.str t) ∧ Post (.val (.bl (decide (s.cps.toList < t.cps.toList)))) Γ) ∨
  (∃ ns ms : List Int, ra = .val (.tup (ns.map Dt.int)) ∧ rb = .val (.tup (ms.map Dt.int)) ∧ Post (.val (.bl (HT.lexLt ns ms))) Γ)
theorem we_ltG {K : PySem.W.Frag} {Γ : List Sl} {Post : Re → List Sl → Prop} {ta tb : TE} (h : WE K ta Γ fun ra Γ1 => WE K tb Γ1 fun rb Γ2 => LtP ra rb Γ2 Post) : WE K (tOp (rLtG K) ta tb) Γ Post :=
  we_two' (we_mono h fun ra Γ1 h1 => we_mono h1 fun rb Γ2 hp => fun σ B H x y E kx ky Q q => by
    rcases hp with ⟨i, j, rfl, rfl, p⟩ | ⟨s, t, rfl, rfl, p⟩ | ⟨ns, ms, rfl, rfl, p⟩
    · cases Is.rawI kx; cases Is.rawI ky
      exact .inl ⟨i, j, rfl, rfl, q _ B H _ Γ2 (.refl E) (.raw _) p⟩
    · cases Is.rawI kx; cases Is.rawI ky
      exact .inr (.inl ⟨s, t, rfl, rfl, q _ B H _ Γ2 (.refl E) (.raw _) p⟩)
    · obtain ⟨a, xs, rfl, h1, h2⟩ := Is.tupR kx
      obtain ⟨b, ys, rfl, g1, g2⟩ := Is.tupR ky
      have e1 : xs = ns.map V.int := IsA.rawsI (xs := ns.map V.int) (by rw [List.map_map]; exact h2)
      have e2 : ys = ms.map V.int := IsA.rawsI (xs := ms.map V.int) (by rw [List.map_map]; exact g2)
      subst e1 e2
      exact .inr (.inr ⟨a, b, ns, ms, rfl, rfl, sqT_mono E.bh h1, sqT_mono E.bh g1, q _ B H _ Γ2 (.refl E) (.raw _) p⟩))
theorem fn_never {P : Program} {w : World} {K : PySem.W.Frag} {mg : Str → Option Value} {base : Heap} {x qual : Str} {st : Stmt} {f : Addr} {fd : FuncData} {N ps : List Str} {k : Nat} (F : Fun K x qual st f fd) (S : FnScope N ps (defScope st)) :
    FnOk P w K mg base CX0 (k + 1) f fd ps (toSp K fun _ _ => False) := by
  refine F.ok S (fun vs H Q E h => ?_) (fun cdv A outer s H vs Q E hr h => ?_)
  · obtain ⟨_, _, _, _, z, _⟩ := h; exact z.elim
  · obtain ⟨_, _, _, _, z, _⟩ := h; exact z.elim
theorem law_sp {K : PySem.W.Frag} {ap : AP} {H : Hp} {a : Addr} {ns : List Int} {E : XK} (hS : SqL K H a (ns.map V.int)) (h : ∀ Post : Re → List Sl → Prop, (∀ as, Post (.val (.bl true)) as) → ap [.val (.scr ns)] Post) : toSp K ap [.ref a] H (fun v _ => v = .bl true) E := by
  refine ⟨H, [.val (.scr ns)], fun r _ => r = .val (.bl true), ⟨rfl, Same.refl H, fun i d hi => ?_, fun i ds hi => ?_, fun i j ds es l hi => ?_⟩, h _ (fun _ => rfl), fun v B' H' r as' g k p => ?_⟩
  · cases i with
    | zero => simp at hi; subst hi; exact ⟨.ref a, rfl, .scr hS⟩
    | succ i => simp at hi
  · cases i with
    | zero => simp at hi
    | succ i => simp at hi
  · cases i with
    | zero => simp at hi
    | succ i => simp at hi
  · subst p; exact Is.rawI k
theorem bi_int : bootBuiltins "int" = some (.type "int") := by decide +kernel
theorem bi_bool : bootBuiltins "bool" = some (.type "bool") := by decide +kernel
theorem bi_str : bootBuiltins "str" = some (.type "str") := by decide +kernel
theorem bi_list : bootBuiltins "list" = some (.type "list") := by decide +kernel
theorem bi_tuple : bootBuiltins "tuple" = some (.type "tuple") := by decide +kernel
theorem bi_dict : bootBuiltins "dict" = some (.type "dict") := by decide +kernel
theorem bi_len : bootBuiltins "len" = some (.builtin "len") := by decide +kernel
theorem bi_abs : bootBuiltins "abs" = some (.builtin "abs") := by decide +kernel
theorem bi_isinstance : bootBuiltins "isinstance" = some (.builtin "isinstance") := by decide +kernel
end Ab

namespace Ab
open PySem L2
section
variable {Γ : List Sl} {Post : Re → List Sl → Prop}
theorem addp_i {i j : Int} (p : Post (.val (.int (i + j))) Γ) : AddP (.val (.int i)) (.val (.int j)) Γ Post := .inl ⟨i, j, rfl, rfl, p⟩
theorem addp_s {s t : Str} (hz : s.length + t.length ≤ 1000000) (p : Post (.val (.str (s ++ t))) Γ) : AddP (.val (.str s)) (.val (.str t)) Γ Post := .inr (.inl ⟨s, t, rfl, rfl, hz, p⟩)
theorem addp_t {ds es : List Dt} (hz : ds.length + es.length ≤ 1000000) (p : Post (.val (.tup (ds ++ es))) Γ) : AddP (.val (.tup ds)) (.val (.tup es)) Γ Post := .inr (.inr (.inl ⟨ds, es, rfl, rfl, hz, p⟩))
theorem addp_l {ra rb : Re} {ds es : List Dt} (h1 : lstOf Γ ra = some ds) (h2 : lstOf Γ rb = some es) (s1 : ra.isScr = false) (s2 : rb.isScr = false) (hz : ds.length + es.length ≤ 1000000) (p : Post (.new (ds ++ es)) Γ) : AddP ra rb Γ Post := .inr (.inr (.inr ⟨ds, es, h1, h2, s1, s2, hz, p⟩))
theorem mulp_l {i j : Int} (hc : -(2 ^ 64) < i ∧ i < 2 ^ 64) (p : Post (.val (.int (i * j))) Γ) : MulP (.val (.int i)) (.val (.int j)) Γ Post := ⟨i, j, rfl, rfl, .inl (.inl hc), p⟩
theorem mulp_r {i j : Int} (hc : -(2 ^ 64) < j ∧ j < 2 ^ 64) (p : Post (.val (.int (i * j))) Γ) : MulP (.val (.int i)) (.val (.int j)) Γ Post := ⟨i, j, rfl, rfl, .inl (.inr hc), p⟩
theorem eqp_s {neg : Bool} {x y : V} (hs : scal x y = true) (p : Post (.val (.bl (neg ^^ decide (x = y)))) Γ) : EqP neg (.val (.raw x)) (.val (.raw y)) Γ Post := .inl ⟨x, y, rfl, rfl, hs, p⟩
theorem dec_i {i j : Int} : decide (V.int i = V.int j) = decide (i = j) := by
  by_cases h : i = j
  · subst h; simp
  · have : ¬ V.int i = V.int j := fun z => h (V.int.inj z)
    rw [decide_eq_false this, decide_eq_false h]
theorem eqp_i {i j : Int} (p : Post (.val (.bl (decide (i = j)))) Γ) : EqP false (.val (.int i)) (.val (.int j)) Γ Post := eqp_s rfl (by rw [dec_i, Bool.false_xor]; exact p)
theorem nep_i {i j : Int} (p : Post (.val (.bl (!decide (i = j)))) Γ) : EqP true (.val (.int i)) (.val (.int j)) Γ Post := eqp_s rfl (by rw [dec_i, Bool.true_xor]; exact p)
theorem intp_i {i : Int} (p : Post (.val (.int i)) Γ) : IntP (.val (.int i)) Γ Post := .inl ⟨i, rfl, p⟩
theorem intp_b {b : Bool} (p : Post (.val (.int (if b then 1 else 0))) Γ) : IntP (.val (.bl b)) Γ Post := .inr ⟨b, rfl, p⟩
theorem ltp_i {i j : Int} (p : Post (.val (.bl (decide (i < j)))) Γ) : LtP (.val (.int i)) (.val (.int j)) Γ Post := .inl ⟨i, j, rfl, rfl, p⟩
theorem ixp {ra : Re} {ds : List Dt} {k : Int} {d : Dt} (h1 : seqOf Γ ra = some ds) (h2 : atI ds k = some d) (p : Post (.val d) Γ) : IxP ra (.val (.int k)) Γ Post := .inl ⟨ds, k, d, h1, rfl, h2, p⟩
theorem ixp_s {z : Str} {k : Int} {c : Nat} (hz : z.length ≤ 1000000) (h2 : atI z.cps.toList k = some c) (p : Post (.val (.str ⟨#[c]⟩)) Γ) : IxP (.val (.str z)) (.val (.int k)) Γ Post := .inr ⟨z, k, c, rfl, rfl, hz, h2, p⟩
theorem lenp {r : Re} {ds : List Dt} (h : seqOf Γ r = some ds) (p : Post (.val (.int ds.length)) Γ) : LenP r Γ Post := .inl ⟨ds, h, p⟩
theorem lenp_s {z : Str} (hz : z.length ≤ 1000000) (p : Post (.val (.int z.length)) Γ) : LenP (.val (.str z)) Γ Post := .inr ⟨z, rfl, hz, p⟩
theorem slp_t {ds : List Dt} {lo hi : Option Int} (p : Post (.val (.tup (cutD ds lo hi))) Γ) : SlP (.val (.tup ds)) lo hi Γ Post := .inr (.inl ⟨ds, rfl, p⟩)
theorem slp_s {z : Str} {lo hi : Option Int} (hz : z.length ≤ 1000000) (p : Post (.val (.str (cutS z lo hi))) Γ) : SlP (.val (.str z)) lo hi Γ Post := .inr (.inr ⟨z, rfl, hz, p⟩)
theorem slp_l {ra : Re} {ds : List Dt} {lo hi : Option Int} (h : lstOf Γ ra = some ds) (p : Post (.new (cutD ds lo hi)) Γ) : SlP ra lo hi Γ Post := .inl ⟨ds, h, p⟩
theorem atI_of {α : Type} {xs : List α} {k : Int} {j : Nat} {x : α} (e : k = (j : Int)) (h : xs[j]? = some x) : atI xs k = some x := by
  subst e
  have hj : j < xs.length := (List.getElem?_eq_some_iff.mp h).1
  unfold atI ixN
  rw [if_pos (by omega), if_pos (by omega)]
  simpa using h
end
section
variable {K : PySem.W.Frag} {Γ : List Sl} {Post : Re → List Sl → Prop} {te : TE}
def IsiP (c : String) (r : Re) (Γ : List Sl) (Post : Re → List Sl → Prop) : Prop := (∀ i, r = .own i → ∃ ds, Γ[i]? = some (.acc ds)) ∧ ∃ T b, tyOf r = some T ∧ kitB T c = some b ∧ Post (.val (.bl b)) Γ
theorem we_isiG {c : String} (h : WE K te Γ fun r Γ1 => IsiP c r Γ1 Post) : WE K (tCB (rIsi K) (tCons te (tCons (tC (.ty c)) tNil))) Γ Post := we_isi h
theorem isi_own {i : Nat} {ds : List Dt} {c : String} {b : Bool} (h : Γ[i]? = some (.acc ds)) (hk : kitB "list" c = some b) (p : Post (.val (.bl b)) Γ) : IsiP c (.own i) Γ Post :=
  ⟨fun j e => by cases e; exact ⟨ds, h⟩, "list", b, rfl, hk, p⟩
theorem isi_val {d : Dt} {T c : String} {b : Bool} (ht : tyOf (.val d) = some T) (hk : kitB T c = some b) (p : Post (.val (.bl b)) Γ) : IsiP c (.val d) Γ Post :=
  ⟨(fun j e => nomatch e), T, b, ht, hk, p⟩
theorem isi_new {ds : List Dt} {c : String} {b : Bool} (hk : kitB "list" c = some b) (p : Post (.val (.bl b)) Γ) : IsiP c (.new ds) Γ Post :=
  ⟨(fun j e => nomatch e), "list", b, rfl, hk, p⟩
theorem kb_tt : kitB "tuple" "tuple" = some true := by decide +kernel
theorem kb_ll : kitB "list" "list" = some true := by decide +kernel
theorem kb_ii : kitB "int" "int" = some true := by decide +kernel
theorem kb_ib : kitB "int" "bool" = some false := by decide +kernel
theorem kb_bb : kitB "bool" "bool" = some true := by decide +kernel
theorem kb_bi : kitB "bool" "int" = some true := by decide +kernel
theorem kb_ss : kitB "str" "str" = some true := by decide +kernel
theorem kb_sb : kitB "str" "bool" = some false := by decide +kernel
theorem kb_si : kitB "str" "int" = some false := by decide +kernel
theorem kb_tb : kitB "tuple" "bool" = some false := by decide +kernel
theorem kb_ti : kitB "tuple" "int" = some false := by decide +kernel
theorem kb_ts : kitB "tuple" "str" = some false := by decide +kernel
theorem kb_tl : kitB "tuple" "list" = some false := by decide +kernel
theorem kb_lb : kitB "list" "bool" = some false := by decide +kernel
theorem kb_li : kitB "list" "int" = some false := by decide +kernel
theorem kb_ls : kitB "list" "str" = some false := by decide +kernel
theorem kb_lt : kitB "list" "tuple" = some false := by decide +kernel
theorem kb_is : kitB "int" "str" = some false := by decide +kernel
theorem kb_it : kitB "int" "tuple" = some false := by decide +kernel
theorem kb_il : kitB "int" "list" = some false := by decide +kernel
theorem kb_st : kitB "str" "tuple" = some false := by decide +kernel
theorem kb_sl : kitB "str" "list" = some false := by decide +kernel
theorem kb_nb : kitB "NoneType" "bool" = some false := by decide +kernel
theorem kb_ni : kitB "NoneType" "int" = some false := by decide +kernel
theorem kb_ns : kitB "NoneType" "str" = some false := by decide +kernel
theorem kb_nt : kitB "NoneType" "tuple" = some false := by decide +kernel
theorem kb_nl : kitB "NoneType" "list" = some false := by decide +kernel
theorem kb_bs : kitB "bool" "str" = some false := by decide +kernel
theorem kb_bt : kitB "bool" "tuple" = some false := by decide +kernel
theorem kb_bl : kitB "bool" "list" = some false := by decide +kernel
end
inductive Hold (p : Prop) : Prop where
  | a (h : p)
  | b (h : p) (_ : True)
theorem Hold.get {p : Prop} (h : Hold p) : p := by
  cases h with
  | a h => exact h
  | b h _ => exact h
theorem ws_cut {K : PySem.W.Frag} {pin : List Nat} {Γ : List Sl} {P : Ps} {t u : TS} (M : List Sl → Prop) (h : WS K pin t Γ { P with nx := fun G => Hold (M G) }) (k : ∀ G, M G → WS K pin u G P) : WS K pin (tSeq t u) Γ P := ws_seq (ws_mono h (fun G hG => k G hG.get) (fun _ _ h => h) (fun _ h => h) (fun _ h => h))
section
variable {K : PySem.W.Frag} {pin : List Nat} {Γ : List Sl} {P : Ps} {te tl : TE} {tt : TT} {tb : TS} {g : TG} {j : Nat} {Post : Re → List Sl → Prop}
theorem for_range1 {t1 : TA} (n : Int) (Inv : Nat → List Sl → Prop) (h : WD K t1 Γ fun ds Γ1 => Hold (ds = [.int n] ∧ -(2 ^ 62) ≤ n ∧ n < 2 ^ 62 ∧ Inv 0 Γ1))
    (turn : ∀ (i : Nat) G, (i : Int) < n → Inv i G → WG K pin g (.int i) G fun G2 => WS K pin tb G2 ⟨fun G => Hold (Inv (i + 1) G), P.rt, P.nx, fun G => Hold (Inv (i + 1) G), P.ex⟩) (done : ∀ G, Inv n.toNat G → P.nx G) : WS K pin (tFor (iRng1 t1) g tb) Γ P :=
  ws_for1 fun σ B H E Q q => h σ B H E Q fun vs B' H' ds Γ' g k p => q vs B' H' ds Γ' g k (by
    obtain ⟨e, h1, h2, h3⟩ := p.get
    exact ⟨n, e, h1, h2, fun i G => Hold (Inv i G), .a h3, fun i G hi hG => turn i G hi hG.get, fun G hG => done G hG.get⟩)
theorem for_range2 {t1 : TA} (lo m : Int) (Inv : Nat → List Sl → Prop) (h : WD K t1 Γ fun ds Γ1 => Hold (ds = [.int lo, .int m] ∧ (-(2 ^ 62) ≤ lo ∧ lo < 2 ^ 62 ∧ -(2 ^ 62) ≤ m ∧ m < 2 ^ 62) ∧ Inv 0 Γ1))
    (turn : ∀ (i : Nat) G, lo + (i : Int) < m → Inv i G → WG K pin g (.int (lo + i)) G fun G2 => WS K pin tb G2 ⟨fun G => Hold (Inv (i + 1) G), P.rt, P.nx, fun G => Hold (Inv (i + 1) G), P.ex⟩) (done : ∀ G, Inv (m - lo).toNat G → P.nx G) : WS K pin (tFor (iRng2 t1) g tb) Γ P :=
  ws_for2 fun σ B H E Q q => h σ B H E Q fun vs B' H' ds Γ' g k p => q vs B' H' ds Γ' g k (by
    obtain ⟨e, h1, h3⟩ := p.get
    exact ⟨lo, m, e, h1, fun i G => Hold (Inv i G), .a h3, fun i G hi hG => turn i G hi hG.get, fun G hG => done G hG.get⟩)
theorem for_tuple (ds : List Dt) (Inv : Nat → List Sl → Prop) (h : WE K te Γ fun z Γ1 => Hold (z = .val (.tup ds) ∧ Inv 0 Γ1))
    (turn : ∀ (i : Nat) d G, ds[i]? = some d → Inv i G → WG K pin g d G fun G2 => WS K pin tb G2 ⟨fun G => Hold (Inv (i + 1) G), P.rt, P.nx, fun G => Hold (Inv (i + 1) G), P.ex⟩) (done : ∀ G, Inv ds.length G → P.nx G) : WS K pin (tFor (iTup K te) g tb) Γ P :=
  ws_forT (we_mono h fun z Γ1 p => by
    obtain ⟨e, h3⟩ := p.get
    exact ⟨ds, e, fun i G => Hold (Inv i G), .a h3, fun i d G hd hG => turn i d G hd hG.get, fun G hG => done G hG.get⟩)
theorem for_lst (ds : List Dt) (Inv : Nat → List Sl → Prop) (h : WE K te Γ fun z Γ1 => Hold (z.dt? = some (.lst ds) ∧ Inv 0 Γ1))
    (turn : ∀ (i : Nat) d G, ds[i]? = some d → Inv i G → WG K pin g d G fun G2 => WS K pin tb G2 ⟨fun G => Hold (Inv (i + 1) G), P.rt, P.nx, fun G => Hold (Inv (i + 1) G), P.ex⟩) (done : ∀ G, Inv ds.length G → P.nx G) : WS K pin (tFor (iList K te) g tb) Γ P :=
  ws_forL (we_mono h fun z Γ1 p => by
    obtain ⟨e, h3⟩ := p.get
    exact ⟨_, ds, e, rfl, fun i G => Hold (Inv i G), .a h3, fun i d G hd hG => turn i d G hd hG.get, fun G hG => done G hG.get⟩)
theorem lc_tuple (ds : List Dt) (Inv : Nat → List Dt → List Sl → Prop) (h : WE K tl Γ fun z Γ1 => Hold (z = .val (.tup ds) ∧ ds.length ≤ 1000000 ∧ decide (j < Γ1.length) = true ∧ notAcc Γ1[j]? = true ∧ keepV Γ1[j]? = keepV Γ[j]? ∧ Inv 0 [] Γ1))
    (turn : ∀ (i : Nat) d es G, ds[i]? = some d → Inv i es G → WT K tt (G.set j (.val d)) fun b G2 => (b = true → WE K te G2 fun r G3 => ∃ d, r.dt? = some d ∧ Hold (Inv (i + 1) (es ++ [d]) (G3.set j (keepV Γ[j]?)))) ∧ (b = false → Hold (Inv (i + 1) es (G2.set j (keepV Γ[j]?)))))
    (done : ∀ es G, Inv ds.length es G → Post (.new es) G) : WE K (tLc (iTup K tl) (gName j) tt te [j]) Γ Post :=
  we_lcT (we_mono h fun z Γ1 p => by
    obtain ⟨e, h1, h2, h3, h4, h5⟩ := p.get
    refine ⟨ds, e, h1, h2, h3, fun i es G => Hold (Inv i es G), .a h5, fun i d es G hi hG => ?_, fun es G hG => done es G hG.get⟩
    rw [h4]
    exact turn i d es G hi hG.get)
theorem lc_lst (ds : List Dt) (Inv : Nat → List Dt → List Sl → Prop) (h : WE K tl Γ fun z Γ1 => Hold (z.dt? = some (.lst ds) ∧ ds.length ≤ 1000000 ∧ decide (j < Γ1.length) = true ∧ notAcc Γ1[j]? = true ∧ keepV Γ1[j]? = keepV Γ[j]? ∧ Inv 0 [] Γ1))
    (turn : ∀ (i : Nat) d es G, ds[i]? = some d → Inv i es G → WT K tt (G.set j (.val d)) fun b G2 => (b = true → WE K te G2 fun r G3 => ∃ d, r.dt? = some d ∧ Hold (Inv (i + 1) (es ++ [d]) (G3.set j (keepV Γ[j]?)))) ∧ (b = false → Hold (Inv (i + 1) es (G2.set j (keepV Γ[j]?)))))
    (done : ∀ es G, Inv ds.length es G → Post (.new es) G) : WE K (tLc (iList K tl) (gName j) tt te [j]) Γ Post :=
  we_lcL (we_mono h fun z Γ1 p => by
    obtain ⟨e, h1, h2, h3, h4, h5⟩ := p.get
    refine ⟨_, ds, e, rfl, h1, h2, h3, fun i es G => Hold (Inv i es G), .a h5, fun i d es G hi hG => ?_, fun es G hG => done es G hG.get⟩
    rw [h4]
    exact turn i d es G hi hG.get)
theorem lc_lstH (h : WE K tl Γ fun z Γ1 => Hold (∃ ds, z.dt? = some (.lst ds) ∧ ds.length ≤ 1000000 ∧ decide (j < Γ1.length) = true ∧ notAcc Γ1[j]? = true ∧ ∃ Inv : Nat → List Dt → List Sl → Prop, Inv 0 [] Γ1 ∧
      (∀ (i : Nat) d es Γ', ds[i]? = some d → Inv i es Γ' → WT K tt (Γ'.set j (.val d)) fun b Γ2 => (b = true → WE K te Γ2 fun r Γ3 => ∃ d, r.dt? = some d ∧ Hold (Inv (i + 1) (es ++ [d]) (Γ3.set j (keepV Γ1[j]?)))) ∧ (b = false → Hold (Inv (i + 1) es (Γ2.set j (keepV Γ1[j]?))))) ∧
      ∀ es Γ', Inv ds.length es Γ' → Post (.new es) Γ')) : WE K (tLc (iList K tl) (gName j) tt te [j]) Γ Post :=
  we_lcL (we_mono h fun z Γ1 p => by
    obtain ⟨ds, e, h1, h2, h3, Inv, i0, turn, done⟩ := p.get
    exact ⟨_, ds, e, rfl, h1, h2, h3, fun i es G => Hold (Inv i es G), .a i0, fun i d es G hi hG => turn i d es G hi hG.get, fun es G hG => done es G hG.get⟩)
theorem for_lstH (h : WE K te Γ fun z Γ1 => Hold (∃ ds, z.dt? = some (.lst ds) ∧ ∃ Inv : Nat → List Sl → Prop, Inv 0 Γ1 ∧
      (∀ (i : Nat) d Γ', ds[i]? = some d → Inv i Γ' → WG K pin g d Γ' fun Γ2 => WS K pin tb Γ2 ⟨fun G => Hold (Inv (i + 1) G), P.rt, P.nx, fun G => Hold (Inv (i + 1) G), P.ex⟩) ∧ ∀ Γ', Inv ds.length Γ' → P.nx Γ')) : WS K pin (tFor (iList K te) g tb) Γ P :=
  ws_forL (we_mono h fun z Γ1 p => by
    obtain ⟨ds, e, Inv, i0, turn, done⟩ := p.get
    exact ⟨_, ds, e, rfl, fun i G => Hold (Inv i G), .a i0, fun i d G hi hG => turn i d G hi hG.get, fun G hG => done G hG.get⟩)
theorem for_range1H {t1 : TA} (h : WD K t1 Γ fun ds Γ1 => Hold (∃ n : Int, ds = [.int n] ∧ -(2 ^ 62) ≤ n ∧ n < 2 ^ 62 ∧ ∃ Inv : Nat → List Sl → Prop, Inv 0 Γ1 ∧
      (∀ (i : Nat) Γ', (i : Int) < n → Inv i Γ' → WG K pin g (.int i) Γ' fun Γ2 => WS K pin tb Γ2 ⟨fun G => Hold (Inv (i + 1) G), P.rt, P.nx, fun G => Hold (Inv (i + 1) G), P.ex⟩) ∧ ∀ Γ', Inv n.toNat Γ' → P.nx Γ')) : WS K pin (tFor (iRng1 t1) g tb) Γ P :=
  ws_for1 fun σ B H E Q q => h σ B H E Q fun vs B' H' ds Γ' g k p => q vs B' H' ds Γ' g k (by
    obtain ⟨n, e, h1, h2, Inv, i0, turn, done⟩ := p.get
    exact ⟨n, e, h1, h2, fun i G => Hold (Inv i G), .a i0, fun i G hi hG => turn i G hi hG.get, fun G hG => done G hG.get⟩)
theorem lc_range1H {t1 : TA} (h : WD K t1 Γ fun ds Γ1 => Hold (∃ n : Nat, ds = [.int n] ∧ n ≤ 1000000 ∧ decide (j < Γ1.length) = true ∧ notAcc Γ1[j]? = true ∧ ∃ Inv : Nat → List Dt → List Sl → Prop, Inv 0 [] Γ1 ∧
      (∀ i es Γ', i < n → Inv i es Γ' → WT K tt (Γ'.set j (.val (.int i))) fun b Γ2 => (b = true → WE K te Γ2 fun r Γ3 => ∃ d, r.dt? = some d ∧ Hold (Inv (i + 1) (es ++ [d]) (Γ3.set j (keepV Γ1[j]?)))) ∧ (b = false → Hold (Inv (i + 1) es (Γ2.set j (keepV Γ1[j]?))))) ∧
      ∀ es Γ', Inv n es Γ' → Post (.new es) Γ')) : WE K (tLc (iRng1 t1) (gName j) tt te [j]) Γ Post :=
  we_lc1 fun σ B H E Q q => h σ B H E Q fun vs B' H' ds Γ1 g k p => q vs B' H' ds Γ1 g k (by
    obtain ⟨n, e, h1, h2, h3, Inv, i0, turn, done⟩ := p.get
    exact ⟨n, e, h1, h2, h3, fun i es G => Hold (Inv i es G), .a i0, fun i es G hi hG => turn i es G hi hG.get, fun es G hG => done es G hG.get⟩)
theorem wt_yes {Q : Bool → List Sl → Prop} (p : Q true Γ) : WT K tYes Γ Q := fun σ B H E R q => q true B H Γ (.refl E) p
end
theorem ws_frz {K : PySem.W.Frag} {pin : List Nat} {Γ : List Sl} {P : Ps} {t : TS} (i : Nat) {ds : Cn} (h : Γ[i]? = some (.cel ds)) (k : WS K pin t (Γ.set i (.val ds.dt)) P) : WS K pin t Γ P := fun σ B H D E n r b c xx => by
  obtain ⟨B', g⟩ := go_frz h E
  exact ws_from k g.s n r b c xx
theorem we_sum {K : PySem.W.Frag} {Γ : List Sl} {Post : Re → List Sl → Prop} {te : TE} (h : WE K te Γ fun r Γ1 => Hold (∃ ns : List Int, lstOf Γ1 r = some (ns.map Dt.int) ∧ Post (.val (.int ns.sum)) Γ1)) : WE K (tCB (rSum K) (tCons te tNil)) Γ Post :=
  we_cb1 (we_mono h fun r Γ1 hp => fun σ B H x E kx Q q => by
    obtain ⟨ns, hs, p⟩ := hp.get
    obtain ⟨a, vs, rfl, hq, ha⟩ := rv_lst E kx hs
    have e : vs = ns.map V.int := IsA.rawsI (xs := ns.map V.int) (by rw [List.map_map]; exact ha)
    subst e
    exact ⟨a, ns, rfl, hq, q _ B H _ Γ1 (.refl E) (.raw _) p⟩)
def NormP (Γ : List Sl) (Q : List Sl → Prop) : Prop := Q Γ
theorem norm_intro {Γ Γ' : List Sl} {Q : List Sl → Prop} (e : Γ = Γ') (h : Q Γ') : NormP Γ Q := by
  subst e
  exact h
theorem norm_cons {a a' : Sl} {Γ Γt Γt' : List Sl} (e : Γ = a :: Γt) (ea : a = a') (et : Γt = Γt') : Γ = a' :: Γt' := by
  subst ea et
  exact e
theorem norm_v {d : Dt} : slOf (.val d) = .val d := rfl
theorem norm_n {ds : List Dt} : slOf (.new ds) = .acc ds := rfl
theorem norm_o {i : Nat} : slOf (.own i) = .un := rfl
theorem ws_asgN {K : PySem.W.Frag} {pin : List Nat} {Γ : List Sl} {P : Ps} {te : TE} {i : Nat} (hp : pin.contains i = false) (hi : decide (i < Γ.length) = true) (h : WE K te Γ fun z Γ1 => NormP (Γ1.set i (slOf z)) P.nx) : WS K pin (tAsg te (gName i)) Γ P := ws_asg hp hi h
theorem wg_nameN {K : PySem.W.Frag} {pin : List Nat} {Γ : List Sl} {i : Nat} {d : Dt} {Q : List Sl → Prop} (hp : pin.contains i = false) (hi : decide (i < Γ.length) = true) (p : NormP (Γ.set i (.val d)) Q) : WG K pin (gName i) d Γ Q := wg_name hp hi p
theorem we_appendN {K : PySem.W.Frag} {Γ : List Sl} {te : TE} {i : Nat} {ds0 : List Dt} {Post : Re → List Sl → Prop} (h0 : Γ[i]? = some (.acc ds0)) (h : WE K te Γ fun z Γ1 => ∃ d ds, z.dt? = some d ∧ Γ1[i]? = some (.acc ds) ∧ ds.length < 1000000 ∧ NormP (Γ1.set i (.acc (ds ++ [d]))) (Post (.val .non))) :
    WE K (tBM K "list" rAppend (tVar i) (tCons te tNil)) Γ Post := we_append h0 h
theorem ws_setN {K : PySem.W.Frag} {pin : List Nat} {Γ : List Sl} {P : Ps} {te tj : TE} {i : Nat} (h : WE K te Γ fun z Γ1 => ∃ d, z = .val d ∧ (∃ ds1, Γ1[i]? = some (.acc ds1)) ∧ WE K tj Γ1 fun y Γ2 => ∃ ds k j, y = .val (.int k) ∧ Γ2[i]? = some (.acc ds) ∧ ixN ds.length k = some j ∧ NormP (Γ2.set i (.acc (ds.set j d))) P.nx) :
    WS K pin (tAsg te (gSub (tVar i) tj rSetL)) Γ P := ws_setA h
theorem we_reverseN {K : PySem.W.Frag} {Γ : List Sl} {i : Nat} {ds : List Dt} {Post : Re → List Sl → Prop} (h0 : Γ[i]? = some (.acc ds)) (p : NormP (Γ.set i (.acc ds.reverse)) (Post (.val .non))) : WE K (tBM0 K "list" rReverse (tVar i)) Γ Post := we_reverse h0 p
theorem ws_augN {K : PySem.W.Frag} {pin : List Nat} {Γ : List Sl} {P : Ps} {te : TE} {i : Nat} {f : Int → Int → Int} {a : Int} (hx : Γ[i]? = some (.val (.int a))) (hp : pin.contains i = false) (h : WE K te Γ fun z Γ1 => ∃ b, z = .val (.int b) ∧ NormP (Γ1.set i (.val (.int (f a b)))) P.nx) : WS K pin (tAug i te (ipI f)) Γ P := ws_aug hx hp h
theorem we_callH {K : PySem.W.Frag} {Γ : List Sl} {Post : Re → List Sl → Prop} {ap : AP} {E0 : XK} {ta : TA} (h : WA K ta Γ fun rs Γ1 => nodupB (ownsOf rs) = true ∧ Hold (ap (rs.map (argSl Γ1)) fun r as' => NormP (putBack rs as' Γ1) (Post r))) : WE K (tCall (toSp K ap) [] E0 ta) Γ Post :=
  we_call fun σ B H E Q q => h σ B H E Q fun vs B' H' rs Γ1 g k p => q vs B' H' rs Γ1 g k ⟨p.1, p.2.get⟩
theorem nd_t {c : Prop} [Decidable c] (h : (!decide c) = true) : ¬ c := by
  intro hc
  rw [decide_eq_true hc] at h
  cases h
theorem nd_f {c : Prop} [Decidable c] (h : (!decide c) = false) : c := by
  by_cases hc : c
  · exact hc
  · rw [decide_eq_false hc] at h; cases h
theorem len_map {α β : Type} (f : α → β) (xs : List α) : ((xs.map f).length : Int) = (xs.length : Int) := by rw [List.length_map]
theorem at_map {α β : Type} {f : α → β} {xs : List α} {k : Int} (h0 : 0 ≤ k) (h1 : k < xs.length) (d : α) : atI (xs.map f) k = some (f (xs.getD k.toNat d)) := by
  refine atI_of (j := k.toNat) (by omega) ?_
  rw [List.getElem?_map, List.getD_eq_getElem?_getD, List.getElem?_eq_getElem (by omega)]
  rfl
mutual
def plain : Dt → Bool
  | .raw .non => true
  | .raw (.int _) => true
  | .raw (.str s) => PyData.canLay0 (.str s)
  | .raw _ => false
  | .tup ds => plainAll ds
  | .lst ds => plainAll ds
  | .obj _ _ => false
  | .scr _ => false
  | .dK _ => false
  | .dT _ => false
  | .exn _ _ _ => false
  | .err _ _ => false
  | .fz _ => false
  | .dN _ _ => false
def plainAll : List Dt → Bool
  | [] => true
  | d :: ds => plain d && plainAll ds
end
end Ab

namespace Ab
open PySem L2
local macro_rules | `(tactic| walk_at "no") => `(tactic| first
  | exact fun h => Bool.noConfusion (show true = false from h)
  | exact fun h => Bool.noConfusion (show false = true from h)
  | exact fun h => absurd (of_decide_eq_true h) (by omega)
  | exact fun h => absurd (by omega) (of_decide_eq_false h)
  | exact fun h => absurd (by omega) (nd_t h)
  | exact fun h => absurd (nd_f h) (by omega)
  | fail "no")
local macro_rules | `(tactic| walk_at "kb") => `(tactic| first | exact kb_tt | exact kb_ll | exact kb_ii | exact kb_ib | exact kb_ss | exact kb_sb | exact kb_si | exact kb_tb | exact kb_ti | exact kb_ts | exact kb_tl | exact kb_lb | exact kb_li | exact kb_ls | exact kb_lt | exact kb_is | exact kb_it | exact kb_il | exact kb_st | exact kb_sl | exact kb_bb | exact kb_bi | exact kb_nb | exact kb_ni | exact kb_ns | exact kb_nt | exact kb_nl | exact kb_bs | exact kb_bt | exact kb_bl | fail "kb")
local macro_rules | `(tactic| walk_at "norm") => `(tactic| first
  | exact (rfl : _ = ([] : List Sl))
  | ((refine' norm_cons (rfl : _ = _ :: _) ?ea ?et); (case ea => first | exact norm_v | exact norm_n | exact norm_o | exact rfl | fail "norm"); (case et => walk_at "norm"))
  | fail "norm")
local macro_rules | `(tactic| walk_at "x") => `(tactic| first
  | ((with_reducible refine' norm_intro ?hn ?_); (case hn => walk_at "norm"))
  | ((with_reducible refine' we_var ?hh ?_); (case hh => exact rfl))
  | ((with_reducible refine' we_own ?hh ?_); (case hh => exact rfl))
  | with_reducible refine we_c ?_
  | with_reducible refine we_addG ?_
  | with_reducible refine addp_i ?_
  | with_reducible refine we_opI0 ?_
  | with_reducible refine we_opI ?_
  | with_reducible refine we_mulG ?_
  | ((with_reducible refine' mulp_r ?h1 ?_); (case h1 => first | decide | omega | fail "m"))
  | ((with_reducible refine' mulp_l ?h1 ?_); (case h1 => first | decide | omega | fail "m"))
  | with_reducible refine we_neg ?_
  | with_reducible refine we_ltG ?_
  | with_reducible refine ltp_i ?_
  | with_reducible refine we_eqG ?_
  | with_reducible refine we_neG ?_
  | with_reducible refine eqp_i ?_
  | with_reducible refine nep_i ?_
  | with_reducible refine we_ixG ?_
  | ((with_reducible refine' ixp ?h1 ?h2 ?_); (case h1 => exact rfl); (case h2 => exact rfl))
  | with_reducible refine we_lenG ?_
  | ((with_reducible refine' lenp ?hh ?_); (case hh => exact rfl))
  | with_reducible refine we_intG ?_
  | with_reducible refine intp_i ?_
  | with_reducible refine intp_b ?_
  | with_reducible refine we_abs ?_
  | with_reducible refine we_tup ?_
  | with_reducible refine we_lst ?_
  | with_reducible refine we_tuple ?_
  | with_reducible refine we_list ?_
  | with_reducible refine we_sum ?_
  | with_reducible refine we_max2 ?_
  | with_reducible refine we_min2 ?_
  | with_reducible refine wd_cons ?_
  | with_reducible refine wd_nil ?_
  | with_reducible refine wa_cons ?_
  | with_reducible refine wa_nil ?_
  | with_reducible refine we_callH ?_
  | with_reducible refine we_isiG ?_
  | ((with_reducible refine' isi_own ?h1 ?h2 ?_); (case h1 => exact rfl); (case h2 => walk_at "kb"))
  | ((with_reducible refine' isi_val ?h1 ?h2 ?_); (case h1 => exact rfl); (case h2 => walk_at "kb"))
  | ((with_reducible refine' isi_new ?h2 ?_); (case h2 => walk_at "kb"))
  | with_reducible refine we_chainI ?_
  | with_reducible refine we_andV ?_
  | with_reducible refine we_orV ?_
  | with_reducible refine we_notV ?_
  | with_reducible refine wt_test ?_
  | with_reducible refine wt_B ?_
  | with_reducible refine wt_yes ?_
  | with_reducible refine wt_and ?_
  | with_reducible refine wt_or ?_
  | with_reducible refine wt_not ?_
  | ((with_reducible refine' ws_retA ?hh ?_); (case hh => exact rfl))
  | with_reducible refine ws_ret ?_
  | with_reducible refine ws_if ?_
  | with_reducible refine ws_nil ?_
  | with_reducible refine ws_expr ?_
  | with_reducible refine ws_asgN rfl rfl ?_
  | with_reducible refine ws_setN ?_
  | with_reducible refine ws_asgG ?_
  | ((with_reducible refine' wg_tup ?hh ?_); (case hh => exact rfl))
  | with_reducible refine wgs_cons ?_
  | with_reducible refine wgs_nil ?_
  | with_reducible refine wg_nameN rfl rfl ?_
  | ((with_reducible refine' we_appendN ?hh ?_); (case hh => exact rfl))
  | ((with_reducible refine' we_reverseN ?hh ?_); (case hh => exact rfl))
  | ((with_reducible refine' ws_augN ?h1 ?h2 ?_); (case h1 => exact rfl); (case h2 => exact rfl))
  | (refine ⟨_, rfl, ⟨_, rfl⟩, ?_⟩)
  | (refine ⟨_, rfl, ?_⟩)
  | (refine ⟨_, _, _, rfl, rfl, rfl, ?_⟩)
  | (refine ⟨_, _, rfl, rfl, (Nat.le_of_ble_eq_true rfl : _ ≤ _), ?_⟩)
  | (refine ⟨_, _, rfl, rfl, ?_⟩)
  | (refine ⟨(Nat.le_of_ble_eq_true rfl : _ ≤ _), ?_⟩)
  | (refine ⟨(rfl : _ = true), ?_⟩)
  | ((refine' ⟨fun _ => ?_, fun hY => absurd hY ?k2⟩); (case k2 => walk_at "no"))
  | ((refine' ⟨fun hY => absurd hY ?k2, fun _ => ?_⟩); (case k2 => walk_at "no"))
  | (refine ⟨⟨(by omega), (by omega)⟩, ?_⟩)
  | (refine ⟨⟨(by decide), (by decide), (by decide)⟩, ?_⟩)
  | (refine ⟨(by first | decide | omega | fail "c"), ?_⟩)
  | fail "stop")
local macro_rules | `(tactic| walk_at "e") => `(tactic| first | with_reducible refine ws_seq ?_ | walk_at "x" | fail "stop")
local macro_rules | `(tactic| walk_at "xs") => `(tactic| repeat' walk_at "x")
local macro_rules | `(tactic| walk_at "es") => `(tactic| repeat' walk_at "e")
def PoolIs (c : Int) (ds : List Dt) : Prop := ∃ cell flag seed : Int, ds = [.int cell, .int c, .int flag, .int seed, .int 3] ∧ 0 ≤ cell ∧ 0 ≤ seed ∧ seed < 2147483647
def ap_pool : AP := fun as Post => ∃ (ns : List Int) (k : Int), as = [.val (.scr ns), .val (.int k)] ∧ 0 ≤ k ∧ k < 1000000 ∧ ∀ ds, PoolIs 0 ds → Post (.new ds) as
def ap_take : AP := fun as Post => ∃ ds c n, as = [.acc ds, .val (.int n)] ∧ PoolIs c ds ∧ 0 ≤ c ∧ c < 1000000000 ∧ 0 < n ∧ n < 18446744073709551616 ∧ ∀ ds' g, PoolIs (c + 1) ds' → 0 ≤ g → g < n → Post (.val (.int g)) [.acc ds', .val (.int n)]
def tPool (K : PySem.W.Frag) : TS :=
    (tSeq (tAsg (tC (.int 0)) (gName 2))
    (tSeq (tIfS (tTest (tOp (rLtG K) (tVar 1) (tCB (rLenV K) (tCons (tVar 0) tNil)))) (tAsg (tCB rAbs (tCons (tCB rInt1 (tCons (tOp (rIx K) (tVar 0) (tVar 1)) tNil)) tNil)) (gName 2)) tNext)
    (tRet (tLst (tCons (tVar 2) (tCons (tC (.int 0)) (tCons (tCB rInt1 (tCons (tOp rGeI (tVar 2) (tOp rPowI (tC (.int 10)) (tC (.int 18)))) tNil)) (tCons (tOp rModI (tCB rInt1 (tCons (tOp (rAddG K) (tVar 2) (tOp (rMulG K) (tVar 1) (tC (.int 7919)))) tNil)) (tC (.int 2147483647))) (tCons (tC (.int 3)) tNil)))))))))
def tTakeB (K : PySem.W.Frag) : TS :=
    (tSeq (tAsg (tOp (rAddG K) (tOp (rIx K) (tVar 0) (tC (.int 1))) (tC (.int 1))) (gSub (tVar 0) (tC (.int 1)) rSetL))
    (tSeq (tIfS (tAnd (tTest (tOp (rEqG K) (tOp (rIx K) (tVar 0) (tC (.int 2))) (tC (.int 1)))) (tTest (tOp rGtI (tOp (rIx K) (tVar 0) (tC (.int 0))) (tC (.int 0))))) (tSeq (tAsg (tOp rModI (tCB rInt1 (tCons (tOp (rIx K) (tVar 0) (tC (.int 0))) tNil)) (tVar 1)) (gName 2))
    (tSeq (tAsg (tOp rDivI (tOp (rIx K) (tVar 0) (tC (.int 0))) (tVar 1)) (gSub (tVar 0) (tC (.int 0)) rSetL))
    (tRet (tVar 2)))) tNext)
    (tSeq (tAsg (tOp rModI (tCB rInt1 (tCons (tOp (rAddG K) (tOp (rAddG K) (tOp (rMulG K) (tOp (rIx K) (tVar 0) (tC (.int 3))) (tC (.int 48271))) (tOp (rMulG K) (tOp (rIx K) (tVar 0) (tC (.int 1))) (tC (.int 69621)))) (tC (.int 11))) tNil)) (tC (.int 2147483647))) (gName 3))
    (tSeq (tAsg (tOp rModI (tCB rInt1 (tCons (tOp (rAddG K) (tOp (rAddG K) (tOp (rMulG K) (tVar 3) (tC (.int 16807))) (tOp rDivI (tVar 3) (tC (.int 65536)))) (tOp (rMulG K) (tOp (rMulG K) (tOp (rIx K) (tVar 0) (tC (.int 1))) (tOp (rIx K) (tVar 0) (tC (.int 1)))) (tC (.int 40692)))) tNil)) (tC (.int 2147483399))) (gName 4))
    (tRet (tOp rModI (tCB rInt1 (tCons (tOp rDivI (tVar 4) (tOp (rAddG K) (tOp (rIx K) (tVar 0) (tC (.int 1))) (tC (.int 6)))) tNil)) (tVar 1)))))))
theorem run_tPool {K : PySem.W.Frag} (as : List Sl) (Post : Re → List Sl → Prop) (h : ap_pool as Post) : WS K [] (tPool K) (as ++ List.replicate (3 - as.length) .un) ⟨fun G => Post (.val .non) (exitArgs [] G as), fun r G => Post r (exitArgs [] G as), fun _ => False, fun _ => False, .no⟩ := by
  obtain ⟨ns, k, rfl, h0, hk, p⟩ := h
  unfold tPool
  show WS K [] _ [.val (.scr ns), .val (.int k), .un] _
  walk_at "e"; walk_at "e"; walk_at "e"
  refine ws_cut (fun G => ∃ c : Int, 0 ≤ c ∧ G = [.val (.scr ns), .val (.int k), .val (.int c)]) ?_ ?_
  · walk_at "es"
    refine ⟨fun h1 => ?_, fun h1 => ?_⟩
    · have h1' := of_decide_eq_true h1
      rw [len_map] at h1'
      walk_at "es"
      refine ixp rfl (at_map h0 h1' 0) ?_
      walk_at "es"
      refine .a ⟨_, ?_, rfl⟩
      split <;> omega
    · walk_at "es"
      exact .a ⟨0, Int.le_refl _, rfl⟩
  · rintro G ⟨c, hc, rfl⟩
    walk_at "es"
    exact p _ ⟨_, _, _, rfl, hc, Int.emod_nonneg _ (by decide), Int.emod_lt_of_pos _ (by decide)⟩
theorem run_tTakeB {K : PySem.W.Frag} (as : List Sl) (Post : Re → List Sl → Prop) (h : ap_take as Post) : WS K [0] (tTakeB K) (as ++ List.replicate (5 - as.length) .un) ⟨fun G => Post (.val .non) (exitArgs [0] G as), fun r G => Post r (exitArgs [0] G as), fun _ => False, fun _ => False, .no⟩ := by
  obtain ⟨ds, c, n, rfl, ⟨cell, flag, seed, rfl, hc, hs, hs2⟩, hc0, hc1, hn, hn2, p⟩ := h
  unfold tTakeB
  show WS K [0] _ [.acc _, .val (.int n), .un, .un, .un] _
  walk_at "e"; walk_at "e"; walk_at "e"; walk_at "e"; walk_at "e"; walk_at "e"; walk_at "e"; walk_at "e"; walk_at "e"; walk_at "e"; walk_at "e"; walk_at "e"
  refine ws_cut (fun G => G = [.acc [.int cell, .int (c + 1), .int flag, .int seed, .int 3], .val (.int n), .un, .un, .un]) ?_ ?_
  · walk_at "es"
    refine ⟨fun h1 => ?_, fun h1 => ?_⟩
    · walk_at "es"
      refine ⟨fun h2 => ?_, fun h2 => ?_⟩
      · walk_at "es"
        exact p _ _ ⟨_, _, _, rfl, Int.ediv_nonneg hc (by omega), hs, hs2⟩ (Int.emod_nonneg _ (by omega)) (Int.emod_lt_of_pos _ hn)
      · walk_at "es"
        exact .a rfl
    · walk_at "es"
      exact .a rfl
  · rintro G rfl
    walk_at "es"
    exact p _ _ ⟨_, _, _, rfl, hc, hs, hs2⟩ (Int.emod_nonneg _ (by omega)) (Int.emod_lt_of_pos _ hn)
end Ab

namespace Ab
open PySem L2
def isNonR : Re → Bool
  | .val (.raw v) => decide (v = .non)
  | _ => false
theorem we_isN {K : PySem.W.Frag} {Γ : List Sl} {Post : Re → List Sl → Prop} {ta : TE} (h : WE K ta Γ fun r Γ1 => Post (.val (.bl (isNonR r))) Γ1) : WE K (tIsN ta) Γ Post := fun σ B H E Q q => by
  refine h σ B H E _ fun x B1 H1 r Γ1 g k p => ?_
  have e : decide (x = V.non) = isNonR r := by
    cases r with
    | val d =>
      cases d with
      | raw v => cases Is.rawI k; rfl
      | tup ds => obtain ⟨a, xs, rfl, _⟩ := Is.tupR k; rfl
      | lst ds => obtain ⟨a, xs, rfl, _⟩ := Is.lstR k; rfl
      | obj C fs => cases k; rfl
      | scr ns => cases k; rfl
      | dK es => cases k; rfl
      | dT es => cases k; rfl
      | exn a d fs => cases k <;> rfl
      | err C fs => cases k <;> rfl
      | fz kvs => cases k <;> rfl
      | dN w es => cases k; rfl
    | nw ds => obtain ⟨l, vs, rfl, _⟩ := k; rfl
    | own i => obtain ⟨l, rfl, _⟩ := k; rfl
  rw [e]
  exact q _ B1 H1 _ Γ1 g (.raw _) p
theorem we_notN {K : PySem.W.Frag} {Γ : List Sl} {Post : Re → List Sl → Prop} {ta : TE} (h : WE K ta Γ fun r Γ1 => Post (.val (.bl (!isNonR r))) Γ1) : WE K (tNotN ta) Γ Post := fun σ B H E Q q => by
  refine h σ B H E _ fun x B1 H1 r Γ1 g k p => ?_
  have e : decide (x = V.non) = isNonR r := by
    cases r with
    | val d =>
      cases d with
      | raw v => cases Is.rawI k; rfl
      | tup ds => obtain ⟨a, xs, rfl, _⟩ := Is.tupR k; rfl
      | lst ds => obtain ⟨a, xs, rfl, _⟩ := Is.lstR k; rfl
      | obj C fs => cases k; rfl
      | scr ns => cases k; rfl
      | dK es => cases k; rfl
      | dT es => cases k; rfl
      | exn a d fs => cases k <;> rfl
      | err C fs => cases k <;> rfl
      | fz kvs => cases k <;> rfl
      | dN w es => cases k; rfl
    | nw ds => obtain ⟨l, vs, rfl, _⟩ := k; rfl
    | own i => obtain ⟨l, rfl, _⟩ := k; rfl
  rw [e]
  exact q _ B1 H1 _ Γ1 g (.raw _) p
mutual
def okD : Dt → Bool
  | .raw .non => true
  | .raw (.bl _) => true
  | .raw (.int _) => true
  | .raw (.str _) => true
  | .raw _ => false
  | .tup ds => decide (ds.length ≤ 1000000) && okAll ds
  | .lst ds => decide (ds.length ≤ 1000000) && okAll ds
  | .obj _ _ => false
  | .scr _ => false
  | .dK _ => false
  | .dT _ => false
  | .exn _ _ _ => false
  | .err _ _ => false
  | .fz _ => false
  | .dN _ _ => false
def okAll : List Dt → Bool
  | [] => true
  | d :: ds => okD d && okAll ds
end
mutual
def depD : Dt → Nat
  | .raw _ => 0
  | .tup ds => depAll ds + 1
  | .lst ds => depAll ds + 1
  | .obj _ _ => 0
  | .scr _ => 0
  | .dK _ => 0
  | .dT _ => 0
  | .exn _ _ _ => 0
  | .err _ _ => 0
  | .fz _ => 0
  | .dN _ _ => 0
def depAll : List Dt → Nat
  | [] => 0
  | d :: ds => max (depD d) (depAll ds)
end
theorem okAll_at : ∀ {ds : List Dt} {i : Nat} {d : Dt}, okAll ds = true → ds[i]? = some d → okD d = true
  | [], _, _, _, h => by simp at h
  | x :: r, 0, d, h, e => by
    rw [okAll, Bool.and_eq_true] at h
    simp at e; subst e; exact h.1
  | x :: r, i + 1, d, h, e => by
    rw [okAll, Bool.and_eq_true] at h
    exact okAll_at h.2 (by simpa using e)
theorem depAll_at : ∀ {ds : List Dt} {i : Nat} {d : Dt}, ds[i]? = some d → depD d ≤ depAll ds
  | [], _, _, h => by simp at h
  | x :: r, 0, d, e => by
    simp at e; subst e; rw [depAll]; omega
  | x :: r, i + 1, d, e => by
    have := depAll_at (ds := r) (i := i) (d := d) (by simpa using e)
    rw [depAll]; omega
def slDt : Sl → Option Dt
  | .val d => some d
  | .cel (.lst ds) => some (.lst ds)
  | .cel _ => none
  | .un => none
def ap_same (n : Nat) : AP := fun as Post => ∃ s0 s1 d, as = [s0, s1] ∧ slDt s0 = some d ∧ slDt s1 = some d ∧ okD d = true ∧ depD d ≤ n ∧ Post (.val (.bl true)) [s0, s1]
end Ab

set_option maxHeartbeats 2000000
namespace Ab
open PySem L2
def rJoin (K : PySem.W.Frag) : V → List V → Hp → VK → Prop := fun x xs H Q => ∃ a p, ∃ ys : List Str, x = .str a ∧ xs = [.ref p] ∧ (SqL K H p (ys.map V.str) ∨ SqT K H p (ys.map V.str)) ∧
  (ys.map (·.length)).sum + ys.length * a.length ≤ 16777216 ∧ Q (.str (Txt.join a ys)) H
theorem pe_joinR {X : Cx} {o e : Expr} {to te : TE} {apos pos : Pos} (ho : PE X o to) (he : PE X e te) (hs : starEach [e] X.env = [(false, eval e X.env)] := by rfl) (hbase : attributeBase o "join" X.env (eval o X.env) = eval o X.env := by rfl) (hline : (apos.endLine == pos.line) = true := by rfl) :
    PE X (.Call (.Attribute o "join" apos) [e] [] pos) (tM1 (rJoin X.K) to te) := pe_join ho he hs hbase hline
theorem rawsI_str {K : PySem.W.Frag} {B : Hp} {vs : List V} {ys : List Str} (h : IsA K B vs (ys.map Dt.str)) : vs = ys.map V.str := by
  have : ys.map Dt.str = (ys.map V.str).map Dt.raw := by rw [List.map_map]; rfl
  rw [this] at h
  exact h.rawsI
theorem we_join {K : PySem.W.Frag} {Γ : List Sl} {Post : Re → List Sl → Prop} {to te : TE} (h : WE K to Γ fun r Γ1 => ∃ a : Str, r = .val (.str a) ∧ WE K te Γ1 fun z Γ2 => Hold (∃ ys : List Str, lstOf Γ2 z = some (ys.map Dt.str) ∧ (ys.map (·.length)).sum + ys.length * a.length ≤ 16777216 ∧ Post (.val (.str (Txt.join a ys))) Γ2)) :
    WE K (tM1 (rJoin K) to te) Γ Post := fun σ B H E Q q => by
  refine h σ B H E _ fun x B1 H1 r Γ1 g1 k1 p1 => ?_
  obtain ⟨a, rfl, p1⟩ := p1
  cases Is.rawI k1
  refine ⟨⟨a, rfl⟩, ?_⟩
  refine p1 σ B1 H1 g1.env _ fun y B2 H2 z Γ2 g2 k2 p2 => ?_
  obtain ⟨ys, hl, hz, p⟩ := p2.get
  obtain ⟨b, vs, rfl, hq, ha⟩ := rv_lst g2.env k2.rv hl
  rw [rawsI_str ha] at hq
  exact ⟨a, b, ys, rfl, rfl, .inl hq, hz, q _ B2 H2 _ Γ2 (g1.trans g2) (.raw _) p⟩
def rGtS : R2 := fun x y H Q => ∃ i j : Str, x = .str i ∧ y = .str j ∧ Q (.bl (decide (j.cps.toList < i.cps.toList))) H
theorem we_gtS {K : PySem.W.Frag} {Γ : List Sl} {Post : Re → List Sl → Prop} {ta tb : TE} (h : WE K ta Γ fun ra Γ1 => WE K tb Γ1 fun rb Γ2 => ∃ s t : Str, ra = .val (.str s) ∧ rb = .val (.str t) ∧ Post (.val (.bl (decide (t.cps.toList < s.cps.toList)))) Γ2) : WE K (tOp rGtS ta tb) Γ Post :=
  we_two' (we_mono h fun ra Γ1 h1 => we_mono h1 fun rb Γ2 hp => fun σ B H x y E kx ky Q q => by
    obtain ⟨s, t, rfl, rfl, p⟩ := hp
    cases Is.rawI kx; cases Is.rawI ky
    exact ⟨s, t, rfl, rfl, q _ B H _ Γ2 (.refl E) (.raw _) p⟩)
def KTup (K : PySem.W.Frag) (a : Addr) (xs : List V) : Prop := ∃ (o : Obj) (its : Array Value) (n : Nat), K.lookup a = some o ∧ o.cls = .type "tuple" ∧ o.data = .seq its n ∧ its.size ≤ sizeLine ∧ Vals xs its.toList
theorem we_ktup {K : PySem.W.Frag} {Γ : List Sl} {Post : Re → List Sl → Prop} {c : Addr} {xs : List V} (h : KTup K c xs) (p : Post (.val (.tup (xs.map Dt.raw))) Γ) : WE K (tC (.ref c)) Γ Post := fun σ B H E Q q => by
  have ha : IsA K B xs (xs.map Dt.raw) := IsA.raws
  exact q _ B H (.val _) Γ (.refl E) (Is.tup (.inr h) ha.len ha.at_) p
end Ab

namespace Ab
open PySem L2
section
variable {K : PySem.W.Frag} {B H : Hp} {v : V} {C : Addr} {gs : List (Str × Dt)}
theorem Is.objR (h : Is K B v (.obj C gs)) : ∃ a dx fs, v = .ref a ∧ B a = some (.ins C dx fs) ∧ (∀ f : Str, (fs.lookup f).isSome = (gs.lookup f).isSome) ∧ ∀ (f : Str) w d, fs.lookup f = some w → gs.lookup f = some d → Is K B w d := by
  cases h with
  | obj h hk hi => exact ⟨_, _, _, rfl, h, hk, hi⟩
theorem lk_none {f : Str} {fs : List (Str × V)} (hk : (fs.lookup f).isSome = (gs.lookup f).isSome) (h : gs.lookup f = none) : fs.lookup f = none := by
  rw [h] at hk
  cases q : fs.lookup f with
  | none => rfl
  | some w => rw [q] at hk; cases hk
theorem lk_some {f : Str} {fs : List (Str × V)} {d : Dt} (hk : (fs.lookup f).isSome = (gs.lookup f).isSome) (h : gs.lookup f = some d) : ∃ w, fs.lookup f = some w := by
  rw [h] at hk
  cases q : fs.lookup f with
  | none => rw [q] at hk; cases hk
  | some w => exact ⟨w, rfl⟩
end
section
variable {K : PySem.W.Frag} {Γ : List Sl} {Post : Re → List Sl → Prop} {ta tb te : TE}
theorem asOk_val {σ : L2.St} {m m' : Addr → Prop} {B' H H' : Hp} {vs : List V} {ds : List Dt} (h : IsA K B' vs ds) : AsOk K σ m m' B' H H' vs (ds.map Re.val) := by
  refine ⟨by rw [h.len, List.length_map], fun i v r a b => ?_, fun i j es fs l a => ?_⟩
  · rw [List.getElem?_map] at b
    cases q : ds[i]? with
    | none => rw [q] at b; cases b
    | some d => rw [q] at b; cases b; exact h.at_ i v d a q
  · rw [List.getElem?_map] at a
    cases q : ds[i]? with
    | none => rw [q] at a; cases a
    | some d => rw [q] at a; cases a
theorem owns_vals : ∀ ds : List Dt, ownsOf (ds.map Re.val) = []
  | [] => rfl
  | d :: r => by show ownsOf (Re.val d :: r.map Re.val) = []; exact owns_vals r
theorem back_vals : ∀ (ds : List Dt) (as G : List Sl), putBack (ds.map Re.val) as G = G
  | [], as, G => by cases as <;> rfl
  | d :: r, [], G => rfl
  | d :: r, s :: t, G => back_vals r t G
theorem args_vals {Γ : List Sl} (ds : List Dt) : (ds.map Re.val).map (argSl Γ) = ds.map Sl.val := by rw [List.map_map]; rfl
theorem we_meth {m : Str} {C : Addr} {ap : AP} {E0 : XK} {t : TA} (h : WE K ta Γ fun r Γ1 => ∃ gs, r = .val (.obj C gs) ∧ gs.lookup m = none ∧ WD K t Γ1 fun ds Γ2 => Hold (ap (.val (.obj C gs) :: ds.map Sl.val) fun r as' => Post r Γ2)) : WE K (tMeth C m (toSp K ap) [] E0 ta t) Γ Post := fun σ B H E Q q => by
  refine h σ B H E _ fun x B1 H1 r Γ1 g1 k1 p1 => ?_
  obtain ⟨gs, rfl, hl, p1⟩ := p1
  obtain ⟨a, dx, fs, rfl, hb, hk, hi⟩ := Is.objR k1
  refine ⟨a, dx, fs, rfl, g1.env.bh _ _ hb, lk_none (hk m) hl, ?_⟩
  refine p1 σ B1 H1 g1.env _ fun vs B2 H2 ds Γ2 g2 k2 p2 => ?_
  rw [List.append_nil]
  have k3 : IsA K B2 (V.ref a :: vs) (.obj C gs :: ds) := .cons (Is.mono g2.mv.bb k1) k2
  refine call_core E (g1.trans g2) (asOk_val k3) (by rw [owns_vals]; rfl) (Post := Post) ?_ q
  rw [args_vals]
  simp only [back_vals]
  exact p2.get
def rOwn (C : Addr) (sp : Sp) (E : XK) : R2 := fun x y H Q => ∃ a b dx dy fs gs, x = .ref a ∧ y = .ref b ∧ H a = some (.ins C dx fs) ∧ H b = some (.ins C dy gs) ∧ sp [x, y] H Q E
theorem we_own2 {C : Addr} {ap : AP} {E0 : XK} (h : WE K ta Γ fun ra Γ1 => ∃ gs, ra = .val (.obj C gs) ∧ WE K tb Γ1 fun rb Γ2 => ∃ hs, rb = .val (.obj C hs) ∧ Hold (ap [.val (.obj C gs), .val (.obj C hs)] fun r as' => Post r Γ2)) : WE K (tOp (rOwn C (toSp K ap) E0) ta tb) Γ Post := fun σ B H E Q q => by
  refine h σ B H E _ fun x B1 H1 ra Γ1 g1 k1 p1 => ?_
  obtain ⟨gs, rfl, p1⟩ := p1
  refine p1 σ B1 H1 g1.env _ fun y B2 H2 rb Γ2 g2 k2 p2 => ?_
  obtain ⟨hs, rfl, p2⟩ := p2
  have k1' := Is.mono g2.mv.bb k1
  obtain ⟨a, dx, fs, rfl, hb, _, _⟩ := Is.objR k1'
  obtain ⟨b, dy, fs', rfl, hb', _, _⟩ := Is.objR k2
  refine ⟨a, b, dx, dy, fs, fs', rfl, rfl, g2.env.bh _ _ hb, g2.env.bh _ _ hb', ?_⟩
  have k3 : IsA K B2 [V.ref a, V.ref b] [.obj C gs, .obj C hs] := .cons k1' (.cons k2 .nil)
  refine call_core E (g1.trans g2) (asOk_val k3) rfl (Post := Post) ?_ q
  rw [args_vals]
  simp only [back_vals]
  exact p2.get
structure ClsOk (K : PySem.W.Frag) (C : Addr) : Prop where
  cl : Cls K C
  ha : PySem.W.findIn K (.ref C) "__class__" = some (some (.builtin "object.__class__"))
  hn : PySem.W.specialIn K (.builtin "object.__class__") "__get__" = some (some (.builtin "getset_descriptor.__get__"))
  ht : PySem.W.takesIn K (.builtin "object.__class__") = some true
  hm : PySem.W.mroIn K C (.type "object") = some true
end
structure FsIs (K : PySem.W.Frag) (B : Hp) (fs : List (Str × V)) (gs : List (Str × Dt)) : Prop where
  len : fs.length ≤ gs.length
  hk : ∀ f : Str, (fs.lookup f).isSome = (gs.lookup f).isSome
  hi : ∀ (f : Str) v d, fs.lookup f = some v → gs.lookup f = some d → Is K B v d
theorem putF_len (f : Str) (v : V) : ∀ fs : List (Str × V), (putF f v fs).length ≤ fs.length + 1
  | [] => by simp [putF]
  | (g, x) :: r => by
    unfold putF
    split
    · simp
    · have := putF_len f v r
      simp only [List.length_cons]
      omega
theorem FsIs.mono {K : PySem.W.Frag} {B B' : Hp} {fs : List (Str × V)} {gs : List (Str × Dt)} (e : Same B B') (h : FsIs K B fs gs) : FsIs K B' fs gs := ⟨h.len, h.hk, fun f v d a b => (h.hi f v d a b).mono e⟩
theorem FsIs.put {K : PySem.W.Frag} {B : Hp} {fs : List (Str × V)} {gs : List (Str × Dt)} {f : Str} {v : V} {d : Dt} (h : FsIs K B fs gs) (hn : gs.lookup f = none) (hv : Is K B v d) : FsIs K B (putF f v fs) (gs ++ [(f, d)]) := by
  have lk : ∀ g : Str, (gs ++ [(f, d)]).lookup g = if g = f then some d else gs.lookup g := fun g => by
    by_cases hg : g = f
    · subst hg
      rw [if_pos rfl]
      clear h
      induction gs with
      | nil => simp [List.lookup]
      | cons x r ih =>
        obtain ⟨k, y⟩ := x
        have hgk : (g == k) = false := by
          cases q : g == k with
          | false => rfl
          | true => simp only [List.lookup, q] at hn; cases hn
        simp only [List.lookup, hgk] at hn
        simp only [List.cons_append, List.lookup, hgk]
        exact ih hn
    · rw [if_neg hg]
      clear h hn
      have hb : (g == f) = false := beq_eq_false_iff_ne.mpr hg
      induction gs with
      | nil => simp [List.lookup, hb]
      | cons x r ih =>
        obtain ⟨k, y⟩ := x
        cases q : g == k with
        | false => simp only [List.cons_append, List.lookup, q]; exact ih
        | true => simp only [List.cons_append, List.lookup, q]
  refine ⟨?_, fun g => ?_, fun g w e a b => ?_⟩
  · have := putF_len f v fs
    have := h.len
    rw [List.length_append, List.length_singleton]
    omega
  · rw [lookup_putF, lk]
    split
    · rfl
    · exact h.hk g
  · rw [lookup_putF] at a
    rw [lk] at b
    split at a
    · rename_i hg
      rw [if_pos hg] at b
      cases a; cases b
      exact hv
    · rename_i hg
      rw [if_neg hg] at b
      exact h.hi g w e a b
abbrev AI := List Dt → (List (Str × Dt) → Prop) → Prop
def toSpI (K : PySem.W.Frag) (C : Addr) (ai : AI) : Sp := fun vs H Q _ => ∃ x dx ws B ds Post, vs = V.ref x :: ws ∧ H x = some (.ins C dx []) ∧ B x = none ∧ Same B H ∧ IsA K B ws ds ∧ ai ds Post ∧
  ∀ B' H' fs gs, Mv (fun a => a = x) B H B' H' → Same B' H' → H' x = some (.ins C dx fs) → B' x = none → FsIs K B' fs gs → Post gs → Q .non H'
structure Mg (K : PySem.W.Frag) (C x dx : Addr) (σ : L2.St) (B H : Hp) (Γ : List Sl) (gs : List (Str × Dt)) : Prop where
  env : Env K B H σ Γ
  sl : σ[0]? = some (some (.ref x))
  un : Γ[0]? = some .un
  no : ¬ Own σ Γ x
  hx : ∃ fs, H x = some (.ins C dx fs) ∧ FsIs K B fs gs
  bx : B x = none
structure GoI (K : PySem.W.Frag) (C x dx : Addr) (σ : L2.St) (B H : Hp) (Γ : List Sl) (σ' : L2.St) (B' H' : Hp) (Γ' : List Sl) (gs' : List (Str × Dt)) : Prop where
  mv : Mv (fun a => Own σ Γ a ∨ a = x) B H B' H'
  new : ∀ a, Own σ' Γ' a → Own σ Γ a ∨ H a = none
  mg : Mg K C x dx σ' B' H' Γ' gs'
theorem GoI.trans {K : PySem.W.Frag} {C x dx : Addr} {σ σ1 σ2 : L2.St} {B H B1 H1 B2 H2 : Hp} {Γ Γ1 Γ2 : List Sl} {gs1 gs2 : List (Str × Dt)} (a : GoI K C x dx σ B H Γ σ1 B1 H1 Γ1 gs1) (b : GoI K C x dx σ1 B1 H1 Γ1 σ2 B2 H2 Γ2 gs2) : GoI K C x dx σ B H Γ σ2 B2 H2 Γ2 gs2 :=
  ⟨a.mv.trans (fun c hc => hc.elim (fun h => (a.new c h).imp .inl id) fun h => .inl (.inr h)) b.mv, fun c h => (b.new c h).elim (fun z => a.new c z) fun z => (a.mv.back z).elim (fun q => q.elim .inl fun e => by
    subst e
    obtain ⟨fs, hf, _⟩ := a.mg.hx
    rw [hf] at z; cases z) .inr, b.mg⟩
def WI (K : PySem.W.Frag) (C : Addr) (t : TS) (Γ : List Sl) (gs : List (Str × Dt)) (P : List (Str × Dt) → List Sl → Prop) : Prop := ∀ σ B H (D : Ends) x dx, Mg K C x dx σ B H Γ gs →
  (∀ σ' B' H' Γ' gs', GoI K C x dx σ B H Γ σ' B' H' Γ' gs' → P gs' Γ' → D.nx σ' H') → t D σ H
section
variable {K : PySem.W.Frag} {C : Addr} {Γ : List Sl} {gs : List (Str × Dt)} {P : List (Str × Dt) → List Sl → Prop} {t u : TS} {te : TE}
theorem wi_set {f : Str} (cl : Cls K C) (na : NoAttr K C f) (hl : gs.lookup f = none) (hz : gs.length < 900) (h : WE K te Γ fun r Γ1 => ∃ d, r.dt? = some d ∧ Γ1[0]? = some .un ∧ P (gs ++ [(f, d)]) Γ1) : WI K C (sFld K (tVar 0) te f) Γ gs P := fun σ B H D x dx M n => by
  have h' : WE K te Γ fun r Γ1 => ∃ d, r = .val d ∧ Γ1[0]? = some .un ∧ P (gs ++ [(f, d)]) Γ1 := we_freeze (we_mono h fun r Γ1 ⟨d, hd, r2⟩ => ⟨d, hd, d, rfl, r2⟩)
  refine h' σ B H M.env _ fun y B1 H1 r Γ1 g k p => ?_
  obtain ⟨d, rfl, h0, p⟩ := p
  obtain ⟨fs, hx, hf⟩ := M.hx
  have hx1 : H1 x = some (.ins C dx fs) := g.mv.kp x _ M.no hx
  have bx1 : B1 x = none := g.mv.off x M.no (by rw [hx]; exact fun z => nomatch z) M.bx
  have no1 : ¬ Own σ Γ1 x := fun z => M.no (g.sub x z)
  refine ⟨.ref x, M.sl, x, C, dx, fs, rfl, hx1, cl, na, Nat.lt_of_le_of_lt hf.len (by omega), ?_⟩
  have hd : Is K B1 y d := k
  have E2 : Env K B1 (upd H1 x (.ins C dx (putF f y fs))) σ Γ1 := by
    refine ⟨g.env.len, fun a o e => ?_, g.env.val, fun i es hi => ?_, g.env.sep⟩
    · have : a ≠ x := fun z => by subst z; rw [bx1] at e; cases e
      rw [upd_ne this]; exact g.env.bh a o e
    · obtain ⟨l, vs, e1, e2, e3, e4⟩ := g.env.cel i es hi
      have : l ≠ x := fun z => by subst z; rw [hx1] at e2; cases e2; cases es <;> (obtain ⟨_, z, _⟩ := e4; cases z)
      exact ⟨l, vs, e1, by rw [upd_ne this]; exact e2, e3, e4⟩
  refine n σ B1 _ Γ1 (gs ++ [(f, d)]) ⟨⟨fun a o na' e => ?_, g.mv.bb, fun a na' ha hb => ?_⟩, fun a h => .inl (g.sub a h), ⟨E2, M.sl, h0, no1, ⟨_, upd_same, (hf.mono g.mv.bb).put hl hd⟩, bx1⟩⟩ p
  · have h1 : ¬ Own σ Γ a := fun z => na' (.inl z)
    have h2 : a ≠ x := fun z => na' (.inr z)
    rw [upd_ne h2]; exact g.mv.kp a o h1 e
  · exact g.mv.off a (fun z => na' (.inl z)) ha hb
variable {Pg : Program} {w : World} {mg : Str → Option Value} {base : Heap}
theorem env_vals {B H : Hp} {vs : List V} {ds : List Dt} (hb : Same B H) (h : IsA K B vs ds) : Env K B H (vs.map some) (ds.map Sl.val) := by
  have na : ∀ {i : Nat} {es : Cn}, (ds.map Sl.val)[i]? = some (.cel es) → False := fun {i es} e => by
    rw [List.getElem?_map] at e
    cases q : ds[i]? with
    | none => rw [q] at e; cases e
    | some d => rw [q] at e; cases e
  refine ⟨by rw [List.length_map, List.length_map, h.len], hb, fun i d e => ?_, fun i es e => (na e).elim, fun i j es fs l e => (na e).elim⟩
  rw [List.getElem?_map] at e
  cases q : ds[i]? with
  | none => rw [q] at e; cases e
  | some d' =>
    rw [q] at e; cases e
    obtain ⟨v, hv, k⟩ := h.get q
    exact ⟨v, by rw [List.getElem?_map, hv]; rfl, k⟩
theorem we_make {Post : Re → List Sl → Prop} {ai : AI} {E0 : XK} {t : TA} (h : WD K t Γ fun ds Γ1 => Hold (ai ds fun gs => Post (.val (.obj C gs)) Γ1)) : WE K (tMake C (toSpI K C ai) [] E0 t) Γ Post := fun σ B H E Q q => by
  refine h σ B H E _ fun vs B1 H1 ds Γ1 g1 k1 p1 => ?_
  intro x dx hx hdx hne
  rw [List.append_nil]
  have hxx : upd (upd H1 dx (.own x)) x (.ins C dx []) x = some (.ins C dx []) := upd_same
  have b1x : B1 x = none := g1.env.base_none hx
  have s12 : ∀ a o, H1 a = some o → upd (upd H1 dx (.own x)) x (.ins C dx []) a = some o := fun a o e => by
    rw [upd_ne (ne_of_none e hx), upd_ne (ne_of_none e hdx)]; exact e
  refine ⟨x, dx, vs, B1, ds, _, rfl, hxx, b1x, fun a o e => s12 a o (g1.env.bh a o e), k1, p1.get, fun B' H' fs gs mv sb hx' bx' hf p => ⟨rfl, ?_⟩⟩
  have sBB : Same B' (upd B' x (.ins C dx fs)) := fun a o e => by rw [upd_ne (ne_of_none e bx')]; exact e
  have kept : ∀ a o, H1 a = some o → H' a = some o := fun a o e => mv.kp a o (fun z => by subst z; rw [hx] at e; cases e) (s12 a o e)
  have offB : ∀ a, H1 a ≠ none → B1 a = none → B' a = none := fun a ha hb => by
    have hne : a ≠ x := fun z => by subst z; exact ha hx
    refine mv.off a hne ?_ hb
    cases qq : H1 a with
    | none => exact absurd qq ha
    | some o => rw [s12 a o qq]; exact fun z => nomatch z
  have E2 : Env K (upd B' x (.ins C dx fs)) H' σ Γ1 := by
    refine ⟨g1.env.len, fun a o e => ?_, fun i d hi => ?_, fun i es hi => ?_, g1.env.sep⟩
    · by_cases ha : a = x
      · subst ha; rw [upd_same] at e; cases e; exact hx'
      · rw [upd_ne ha] at e; exact sb a o e
    · obtain ⟨v, e1, e2⟩ := g1.env.val i d hi
      exact ⟨v, e1, e2.mono (mv.bb.trans sBB)⟩
    · obtain ⟨l, us, e1, e2, e3, e4⟩ := g1.env.cel i es hi
      have hl : l ≠ x := fun z => by subst z; rw [hx] at e2; cases e2
      exact ⟨l, us, e1, kept l _ e2, by rw [upd_ne hl]; exact offB l (by rw [e2]; exact fun z => nomatch z) e3, e4.mono (mv.bb.trans sBB)⟩
  have g2 : Go K σ B1 H1 Γ1 (upd B' x (.ins C dx fs)) H' Γ1 := by
    refine ⟨⟨fun a o _ e => kept a o e, mv.bb.trans sBB, fun a na ha hb => ?_⟩, fun i es hi => ⟨es, hi⟩, E2⟩
    have hne : a ≠ x := fun z => by subst z; exact ha hx
    rw [upd_ne hne]; exact offB a ha hb
  have hf' := hf.mono sBB
  exact q (.ref x) _ H' (.val (.obj C gs)) Γ1 (g1.trans g2) (Is.obj upd_same hf'.hk hf'.hi) p
end
theorem lk_hit {f : Str} {d : Dt} {r : List (Str × Dt)} : List.lookup f ((f, d) :: r) = some d := by
  have hb : (f == f) = true := beq_iff_eq.mpr rfl
  simp only [List.lookup, hb]
section
variable {K : PySem.W.Frag} {Γ : List Sl} {Post : Re → List Sl → Prop} {ta : TE}
def FldP (K : PySem.W.Frag) (f : Str) (r : Re) (Γ : List Sl) (Post : Re → List Sl → Prop) : Prop := ∃ C gs d, r = .val (.obj C gs) ∧ Cls K C ∧ NoAttr K C f ∧ gs.lookup f = some d ∧ Post (.val d) Γ
theorem we_fldG {f : Str} (h : WE K ta Γ fun r Γ1 => FldP K f r Γ1 Post) : WE K (tFld K ta f) Γ Post := fun σ B H E Q q => by
  refine h σ B H E _ fun x B1 H1 r Γ1 g1 k1 p1 => ?_
  obtain ⟨C, gs, d, rfl, cl, na, hl, p⟩ := p1
  obtain ⟨a, dx, fs, rfl, hb, hk, hi⟩ := Is.objR k1
  obtain ⟨w, hw⟩ := lk_some (hk f) hl
  exact ⟨a, C, dx, fs, w, rfl, g1.env.bh _ _ hb, cl, na, hw, q w B1 H1 (.val d) Γ1 g1 (hi f w d hw hl) p⟩
theorem fldp {f : Str} {C : Addr} {gs : List (Str × Dt)} {d : Dt} (cl : Cls K C) (na : NoAttr K C f) (hl : gs.lookup f = some d) (p : Post (.val d) Γ) : FldP K f (.val (.obj C gs)) Γ Post := ⟨C, gs, d, rfl, cl, na, hl, p⟩
def MetP (m : Str) (C : Addr) (ap : AP) (t : TA) (K : PySem.W.Frag) (r : Re) (Γ : List Sl) (Post : Re → List Sl → Prop) : Prop := ∃ gs, r = .val (.obj C gs) ∧ gs.lookup m = none ∧ WD K t Γ fun ds Γ2 => Hold (ap (.val (.obj C gs) :: ds.map Sl.val) fun r as' => Post r Γ2)
theorem we_methG {m : Str} {C : Addr} {ap : AP} {E0 : XK} {t : TA} (h : WE K ta Γ fun r Γ1 => MetP m C ap t K r Γ1 Post) : WE K (tMeth C m (toSp K ap) [] E0 ta t) Γ Post := we_meth h
theorem metp {m : Str} {C : Addr} {ap : AP} {t : TA} {gs : List (Str × Dt)} (hl : gs.lookup m = none) (h : WD K t Γ fun ds Γ2 => Hold (ap (.val (.obj C gs) :: ds.map Sl.val) fun r as' => Post r Γ2)) : MetP m C ap t K (.val (.obj C gs)) Γ Post := ⟨gs, rfl, hl, h⟩
theorem kit_self {C : Addr} : PySem.W.kitOne K (.ref C) (.ref C) = some true := by
  unfold PySem.W.kitOne
  rw [if_pos (beq_iff_eq.mpr rfl)]
def IsoP (K : PySem.W.Frag) (D : Addr) (r : Re) (Γ : List Sl) (Post : Re → List Sl → Prop) : Prop := ∃ C gs b, r = .val (.obj C gs) ∧ ClsOk K C ∧ PySem.W.kitOne K (.ref C) (.ref D) = some b ∧ Post (.val (.bl b)) Γ
theorem we_isoG {D : Addr} (h : WE K ta Γ fun r Γ1 => IsoP K D r Γ1 Post) : WE K (tCB (rIsi K) (tCons ta (tCons (tC (.ref D)) tNil))) Γ Post :=
  we_one' (r := fun x H Q => rIsi K [x, .ref D] H Q) (we_mono h fun r Γ1 ⟨C, gs, b, e, co, hk, p⟩ => fun σ B H x E kx Q q => by
    subst e
    obtain ⟨a, dx, fs, rfl, hb, _, _⟩ := Is.objR kx
    exact ⟨.ref a, .ref D, .ref C, .ref D, b, rfl, .own D, .base (.ins (E.bh _ _ hb) co.cl co.ha co.hn co.ht co.hm), hk, q _ B H _ Γ1 (.refl E) (.raw _) p⟩)
theorem isop {C : Addr} {gs : List (Str × Dt)} (co : ClsOk K C) (p : Post (.val (.bl true)) Γ) : IsoP K C (.val (.obj C gs)) Γ Post := ⟨C, gs, true, rfl, co, kit_self, p⟩
end
end Ab

namespace Ab
open PySem L2
abbrev RunOk (K : PySem.W.Frag) (pin : List Nat) (t : TS) (N : Nat) (ap : AP) : Prop := ∀ (as : List Sl) (Post : Re → List Sl → Prop), ap as Post → WS K pin t (as ++ List.replicate (N - as.length) .un) ⟨fun G => Post (.val .non) (exitArgs pin G as), fun r G => Post r (exitArgs pin G as), fun _ => False, fun _ => False, .no⟩
def rSumG (K : PySem.W.Frag) : List V → Hp → VK → Prop := fun vs H Q => ∃ (a : Addr) (ns : List Int), vs = [V.ref a] ∧ (SqL K H a (ns.map V.int) ∨ SqT K H a (ns.map V.int)) ∧ Q (.int ns.sum) H
theorem we_sumG {K : PySem.W.Frag} {Γ : List Sl} {Post : Re → List Sl → Prop} {te : TE} (h : WE K te Γ fun r Γ1 => Hold (∃ ns : List Int, seqOf Γ1 r = some (ns.map Dt.int) ∧ Post (.val (.int ns.sum)) Γ1)) : WE K (tCB (rSumG K) (tCons te tNil)) Γ Post :=
  we_cb1 (we_mono h fun r Γ1 hp => fun σ B H x E kx Q q => by
    obtain ⟨ns, hs, p⟩ := hp.get
    obtain ⟨a, vs, rfl, hq, ha⟩ := rv_seq E kx hs
    have e : vs = ns.map V.int := IsA.rawsI (xs := ns.map V.int) (by rw [List.map_map]; exact ha)
    subst e
    exact ⟨a, ns, rfl, hq, q _ B H _ Γ1 (.refl E) (.raw _) p⟩)
theorem normD_cons {a : Dt} {l t t' : List Dt} (e : l = a :: t) (et : t = t') : l = a :: t' := by
  subst et
  exact e
theorem slp_tE {Γ : List Sl} {Post : Re → List Sl → Prop} {ds es : List Dt} {lo hi : Option Int} (h : cutD ds lo hi = es) (p : Post (.val (.tup es)) Γ) : SlP (.val (.tup ds)) lo hi Γ Post := slp_t (by rw [h]; exact p)
theorem addp_tE {Γ : List Sl} {Post : Re → List Sl → Prop} {ds es fs : List Dt} (hz : ds.length + es.length ≤ 1000000) (h : ds ++ es = fs) (p : Post (.val (.tup fs)) Γ) : AddP (.val (.tup ds)) (.val (.tup es)) Γ Post := addp_t hz (by rw [h]; exact p)
theorem we_clearN {K : PySem.W.Frag} {Γ : List Sl} {i : Nat} {ds : List Dt} {Post : Re → List Sl → Prop} (h0 : Γ[i]? = some (.acc ds)) (p : NormP (Γ.set i (.acc [])) (Post (.val .non))) : WE K (tBM0 K "list" rClear (tVar i)) Γ Post := fun σ B H E Q q => by
  obtain ⟨l, vs, e0, e1, e2, k0⟩ := E.acc i ds h0
  exact ⟨.ref l, e0, .inl ⟨rfl, vs, .inl (.inl e1)⟩, l, vs, rfl, rfl, e1, q .non B _ (.val .non) _ (Go.put E h0 e0 .nil) (Is.raw _) p⟩
def PoolUp (b : Int) (ds : List Dt) : Prop := ∃ c, PoolIs c ds ∧ 0 ≤ c ∧ c ≤ b
theorem PoolIs.up {ds : List Dt} {c b : Int} (h : PoolIs c ds) (h0 : 0 ≤ c) (hb : c ≤ b) : PoolUp b ds := ⟨c, h, h0, hb⟩
theorem PoolUp.mono {ds : List Dt} {a b : Int} (h : PoolUp a ds) (hb : a ≤ b) : PoolUp b ds := by obtain ⟨c, h1, h2, h3⟩ := h; exact ⟨c, h1, h2, by omega⟩
theorem tk {ds : List Dt} {b n : Int} {Post : Re → List Sl → Prop} (h : PoolUp b ds) (hb : b < 900000000) (hn : 0 < n) (hn2 : n < 18446744073709551616) (k : ∀ ds' g, PoolUp (b + 1) ds' → 0 ≤ g → g < n → Post (.val (.int g)) [.acc ds', .val (.int n)]) : ap_take [.acc ds, .val (.int n)] Post := by
  obtain ⟨c, h1, h2, h3⟩ := h
  exact ⟨ds, c, n, rfl, h1, h2, by omega, hn, hn2, fun ds' g h' g0 g1 => k ds' g ⟨c + 1, h', by omega, by omega⟩ g0 g1⟩
theorem str_ne {a b : Str} (h : ¬ a = b) : ¬ (V.str a = V.str b) := fun e => h (by cases e; rfl)
theorem eqp_st {Γ : List Sl} {Post : Re → List Sl → Prop} {a : Str} (p : Post (.val (.bl true)) Γ) : EqP false (.val (.str a)) (.val (.str a)) Γ Post := eqp_s rfl (by rw [decide_eq_true rfl]; exact p)
theorem nep_st {Γ : List Sl} {Post : Re → List Sl → Prop} {a : Str} (p : Post (.val (.bl false)) Γ) : EqP true (.val (.str a)) (.val (.str a)) Γ Post := eqp_s rfl (by rw [decide_eq_true rfl]; exact p)
theorem eqp_sf {Γ : List Sl} {Post : Re → List Sl → Prop} {a b : Str} (h : ¬ a = b) (p : Post (.val (.bl false)) Γ) : EqP false (.val (.str a)) (.val (.str b)) Γ Post := eqp_s rfl (by rw [decide_eq_false (str_ne h)]; exact p)
theorem nep_sf {Γ : List Sl} {Post : Re → List Sl → Prop} {a b : Str} (h : ¬ a = b) (p : Post (.val (.bl true)) Γ) : EqP true (.val (.str a)) (.val (.str b)) Γ Post := eqp_s rfl (by rw [decide_eq_false (str_ne h)]; exact p)
theorem dec_s {a b : Str} : decide (V.str a = V.str b) = decide (a = b) := by
  by_cases h : a = b
  · subst h; simp
  · rw [decide_eq_false (str_ne h), decide_eq_false h]
theorem eqp_str {Γ : List Sl} {Post : Re → List Sl → Prop} {a b : Str} (p : Post (.val (.bl (decide (a = b)))) Γ) : EqP false (.val (.str a)) (.val (.str b)) Γ Post := eqp_s rfl (by rw [dec_s, Bool.false_xor]; exact p)
theorem nep_str {Γ : List Sl} {Post : Re → List Sl → Prop} {a b : Str} (p : Post (.val (.bl (!decide (a = b)))) Γ) : EqP true (.val (.str a)) (.val (.str b)) Γ Post := eqp_s rfl (by rw [dec_s, Bool.true_xor]; exact p)
def pick {α : Type} (o : List Nat) (xs : List α) : List α := o.filterMap fun i => xs[i]?
theorem pick_cons {α : Type} {i : Nat} {o : List Nat} {xs : List α} {x : α} (h : xs[i]? = some x) : pick (i :: o) xs = x :: pick o xs := by
  unfold pick
  rw [List.filterMap_cons_some h]
theorem pick_skip {α : Type} {i : Nat} {o : List Nat} {xs : List α} (h : xs[i]? = none) : pick (i :: o) xs = pick o xs := by
  unfold pick
  rw [List.filterMap_cons_none h]
theorem pick_isA {K : PySem.W.Frag} {B : Hp} {vs : List V} {ds : List Dt} (h : IsA K B vs ds) : ∀ o : List Nat, IsA K B (pick o vs) (pick o ds)
  | [] => .nil
  | i :: o => by
    cases q : ds[i]? with
    | none =>
      have : vs[i]? = none := by
        rw [List.getElem?_eq_none_iff] at q ⊢
        rw [h.len]; exact q
      rw [pick_skip q, pick_skip this]; exact pick_isA h o
    | some d =>
      obtain ⟨v, hv, iv⟩ := h.get q
      rw [pick_cons q, pick_cons hv]
      exact .cons iv (pick_isA h o)
def upO (o : List Nat) : List Nat := o.map (· + 1)
theorem pick_up {α : Type} (x : α) (xs : List α) : ∀ o : List Nat, pick (upO o) (x :: xs) = pick o xs
  | [] => rfl
  | i :: o => by
    show pick ((i + 1) :: upO o) (x :: xs) = _
    have e : (x :: xs)[i + 1]? = xs[i]? := List.getElem?_cons_succ
    cases q : xs[i]? with
    | none => rw [pick_skip (e.trans q), pick_skip q]; exact pick_up x xs o
    | some y => rw [pick_cons (e.trans q), pick_cons q, pick_up x xs o]
section
variable {K : PySem.W.Frag} {Γ : List Sl} {Post : Re → List Sl → Prop} {C : Addr}
theorem make_core {σ : L2.St} {B H B1 H1 : Hp} {Γ1 : List Sl} {vs : List V} {ds : List Dt} {ai : AI} {E0 : XK} {Q : VK} (g1 : Go K σ B H Γ B1 H1 Γ1) (k1 : IsA K B1 vs ds) (p1 : ai ds fun gs => Post (.val (.obj C gs)) Γ1)
    (q : ∀ v B' H' r Γ', Go K σ B H Γ B' H' Γ' → ReOk K σ (Own σ Γ) (Own σ Γ') B' H H' v r → Post r Γ' → Q v H') : ∀ x dx, H1 x = none → H1 dx = none → dx ≠ x → toSpI K C ai (.ref x :: vs) (upd (upd H1 dx (.own x)) x (.ins C dx [])) (fun v H3 => v = .non ∧ Q (.ref x) H3) E0 := by
  have t : WE K (tMake C (toSpI K C ai) [] E0 (fun _ H2 R => ∀ B2, Same B2 H2 → R vs H2)) Γ1 Post → True := fun _ => trivial
  intro x dx hx hdx hne
  have hxx : upd (upd H1 dx (.own x)) x (.ins C dx []) x = some (.ins C dx []) := upd_same
  have b1x : B1 x = none := g1.env.base_none hx
  have s12 : ∀ a o, H1 a = some o → upd (upd H1 dx (.own x)) x (.ins C dx []) a = some o := fun a o e => by
    rw [upd_ne (ne_of_none e hx), upd_ne (ne_of_none e hdx)]; exact e
  refine ⟨x, dx, vs, B1, ds, _, rfl, hxx, b1x, fun a o e => s12 a o (g1.env.bh a o e), k1, p1, fun B' H' fs gs mv sb hx' bx' hf p => ⟨rfl, ?_⟩⟩
  have sBB : Same B' (upd B' x (.ins C dx fs)) := fun a o e => by rw [upd_ne (ne_of_none e bx')]; exact e
  have kept : ∀ a o, H1 a = some o → H' a = some o := fun a o e => mv.kp a o (fun z => by subst z; rw [hx] at e; cases e) (s12 a o e)
  have offB : ∀ a, H1 a ≠ none → B1 a = none → B' a = none := fun a ha hb => by
    have hne : a ≠ x := fun z => by subst z; exact ha hx
    refine mv.off a hne ?_ hb
    cases qq : H1 a with
    | none => exact absurd qq ha
    | some o => rw [s12 a o qq]; exact fun z => nomatch z
  have E2 : Env K (upd B' x (.ins C dx fs)) H' σ Γ1 := by
    refine ⟨g1.env.len, fun a o e => ?_, fun i d hi => ?_, fun i es hi => ?_, g1.env.sep⟩
    · by_cases ha : a = x
      · subst ha; rw [upd_same] at e; cases e; exact hx'
      · rw [upd_ne ha] at e; exact sb a o e
    · obtain ⟨v, e1, e2⟩ := g1.env.val i d hi
      exact ⟨v, e1, e2.mono (mv.bb.trans sBB)⟩
    · obtain ⟨l, us, e1, e2, e3, e4⟩ := g1.env.cel i es hi
      have hl : l ≠ x := fun z => by subst z; rw [hx] at e2; cases e2
      exact ⟨l, us, e1, kept l _ e2, by rw [upd_ne hl]; exact offB l (by rw [e2]; exact fun z => nomatch z) e3, e4.mono (mv.bb.trans sBB)⟩
  have g2 : Go K σ B1 H1 Γ1 (upd B' x (.ins C dx fs)) H' Γ1 := by
    refine ⟨⟨fun a o _ e => kept a o e, mv.bb.trans sBB, fun a na ha hb => ?_⟩, fun i es hi => ⟨es, hi⟩, E2⟩
    have hne : a ≠ x := fun z => by subst z; exact ha hx
    rw [upd_ne hne]; exact offB a ha hb
  have hf' := hf.mono sBB
  exact q (.ref x) _ H' (.val (.obj C gs)) Γ1 (g1.trans g2) (Is.obj upd_same hf'.hk hf'.hi) p
theorem we_makeD {dvs : List V} {ai : AI} {E0 : XK} {t : TA} (h : WD K t Γ fun ds Γ1 => Hold (ai (ds ++ dvs.map Dt.raw) fun gs => Post (.val (.obj C gs)) Γ1)) : WE K (tMake C (toSpI K C ai) dvs E0 t) Γ Post := fun σ B H E Q q => by
  refine h σ B H E _ fun vs B1 H1 ds Γ1 g1 k1 p1 => ?_
  exact make_core g1 (k1.append .raws) p1.get q
theorem we_makeK {n m : Nat} {o : List Nat} {mz : List V} {ai : AI} {E0 : XK} {t tk : TA} (h : WD K t Γ fun ds Γ1 => WD K tk Γ1 fun es Γ2 => (ds.length == n && es.length == m) = true ∧ Hold (ai (pick o (ds ++ mz.map Dt.raw ++ es)) fun gs => Post (.val (.obj C gs)) Γ2)) :
    WE K (tMakeK C n m (toSpI K C ai) (fun vs zs => pick (0 :: upO o) (vs ++ mz ++ zs)) E0 t tk) Γ Post := fun σ B H E Q q => by
  refine h σ B H E _ fun vs B1 H1 ds Γ1 g1 k1 p1 => ?_
  refine p1 σ B1 H1 g1.env _ fun zs B2 H2 es Γ2 g2 k2 p2 => ?_
  obtain ⟨l0, p⟩ := p2
  rw [Bool.and_eq_true] at l0
  have l1 := beq_iff_eq.mp l0.1
  have l2 := beq_iff_eq.mp l0.2
  refine ⟨by rw [k1.len]; exact l1, by rw [k2.len]; exact l2, fun x dx hx hdx hne => ?_⟩
  have e : pick (0 :: upO o) ((V.ref x :: vs) ++ mz ++ zs) = .ref x :: pick o (vs ++ mz ++ zs) := by
    rw [pick_cons (x := V.ref x) rfl]
    show V.ref x :: pick (upO o) (V.ref x :: (vs ++ mz ++ zs)) = _
    rw [pick_up]
  show toSpI K C ai (pick (0 :: upO o) ((V.ref x :: vs) ++ mz ++ zs)) _ _ _
  rw [e]
  exact make_core (g1.trans g2) (pick_isA (((k1.mono g2.mv.bb).append .raws).append k2) o) p.get q x dx hx hdx hne
structure SMet (K : PySem.W.Frag) (C : Addr) (m : Str) (p f : Addr) : Prop where
  rd : PySem.W.readsIn K C (.type "type") = true
  ga : PySem.W.specialIn K (.ref C) "__getattribute__" = some (some (.builtin "type.__getattribute__"))
  at_ : PySem.W.findCls K (.ref C) (.type "type") m = some (.get (.builtin "staticmethod.__get__") (.ref p) .none (.ref C))
  rc : ∃ rest, PySem.W.recIn K p "staticmethod" = some (.ref f :: rest)
def tSMeth (C : Addr) (sp : Sp) (E : XK) (ta : TE) (t : TA) : TE := fun σ H Q => ta σ H fun x H1 => x = .ref C ∧ t σ H1 fun vs H2 => sp (vs ++ []) H2 Q E
theorem we_smeth {ap : AP} {E0 : XK} {ta : TA} (h : WA K ta Γ fun rs Γ1 => nodupB (ownsOf rs) = true ∧ Hold (ap (rs.map (argSl Γ1)) fun r as' => NormP (putBack rs as' Γ1) (Post r))) : WE K (tSMeth C (toSp K ap) E0 (tC (.ref C)) ta) Γ Post := fun σ B H E Q q => by
  refine ⟨rfl, ?_⟩
  exact we_callH (E0 := E0) h σ B H E Q q
end
end Ab

namespace Ab
open PySem L2
section
variable {κ : Type} [DecidableEq κ]
def valD (kvs : List (κ × Dt)) (k : κ) : Option Dt := (kvs.find? fun kv => decide (kv.1 = k)).map (·.2)
def putE (kvs : List (κ × Dt)) (k : κ) (v : Dt) : List (κ × Dt) :=
  if (kvs.any fun kv => decide (kv.1 = k)) = true then kvs.map (fun kv => if kv.1 = k then (kv.1, v) else kv) else kvs ++ [(k, v)]
variable {K : PySem.W.Frag} {B : Hp}
theorem IsKv.nil : IsKv K B ([] : List (κ × V)) [] := ⟨rfl, .nil⟩
theorem IsKv.cons {k : κ} {v : V} {d : Dt} {xs : List (κ × V)} {kvs : List (κ × Dt)} (h : Is K B v d) (r : IsKv K B xs kvs) : IsKv K B ((k, v) :: xs) ((k, d) :: kvs) :=
  ⟨by simp [r.ks], .cons h r.vs⟩
theorem IsKv.ind {M : List (κ × V) → List (κ × Dt) → Prop} (h0 : M [] []) (h1 : ∀ k v d xs kvs, Is K B v d → IsKv K B xs kvs → M xs kvs → M ((k, v) :: xs) ((k, d) :: kvs)) : ∀ {xs : List (κ × V)} {kvs : List (κ × Dt)}, IsKv K B xs kvs → M xs kvs
  | [], [], _ => h0
  | [], _ :: _, h => by have := h.ks; simp at this
  | _ :: _, [], h => by have := h.ks; simp at this
  | (k, v) :: xs, (k', d) :: kvs, h => by
    have e := h.ks
    simp only [List.map_cons, List.cons.injEq] at e
    obtain ⟨rfl, e⟩ := e
    have hv : Is K B v d := h.vs.at_ 0 v d (by simp) (by simp)
    have hr : IsKv K B xs kvs := ⟨e, by have := h.vs.drop 1; simpa using this⟩
    exact h1 k v d xs kvs hv hr (IsKv.ind h0 h1 hr)
theorem IsKv.len {xs : List (κ × V)} {kvs : List (κ × Dt)} (h : IsKv K B xs kvs) : xs.length = kvs.length := by
  have := congrArg List.length h.ks; simpa using this
theorem IsKv.val {xs : List (κ × V)} {kvs : List (κ × Dt)} (h : IsKv K B xs kvs) (k : κ) : (valV xs k = none ∧ valD kvs k = none) ∨ ∃ v d, valV xs k = some v ∧ valD kvs k = some d ∧ Is K B v d := by
  refine IsKv.ind (M := fun xs kvs => (valV xs k = none ∧ valD kvs k = none) ∨ ∃ v d, valV xs k = some v ∧ valD kvs k = some d ∧ Is K B v d) (.inl ⟨rfl, rfl⟩) (fun k' v d xs kvs hv _ ih => ?_) h
  by_cases e : k' = k
  · exact .inr ⟨v, d, by simp [valV, e], by simp [valD, e], hv⟩
  · simpa [valV, valD, e] using ih
theorem IsKv.valS {xs : List (κ × V)} {kvs : List (κ × Dt)} (h : IsKv K B xs kvs) {k : κ} {d : Dt} (e : valD kvs k = some d) : ∃ v, valV xs k = some v ∧ Is K B v d := by
  rcases h.val k with ⟨_, e2⟩ | ⟨v, d', e1, e2, hv⟩
  · rw [e] at e2; cases e2
  · rw [e] at e2; cases e2; exact ⟨v, e1, hv⟩
theorem IsKv.isS {xs : List (κ × V)} {kvs : List (κ × Dt)} (h : IsKv K B xs kvs) (k : κ) : (valV xs k).isSome = (valD kvs k).isSome := by
  rcases h.val k with ⟨e1, e2⟩ | ⟨v, d', e1, e2, hv⟩ <;> rw [e1, e2] <;> rfl
theorem IsKv.put {xs : List (κ × V)} {kvs : List (κ × Dt)} (h : IsKv K B xs kvs) (k : κ) {v : V} {d : Dt} (hv : Is K B v d) : IsKv K B (putK xs k v) (putE kvs k d) := by
  have ea : (xs.any fun kv => decide (kv.1 = k)) = (kvs.any fun kv => decide (kv.1 = k)) :=
    IsKv.ind (K := K) (B := B) (M := fun xs kvs => (xs.any fun kv => decide (kv.1 = k)) = (kvs.any fun kv => decide (kv.1 = k))) rfl (fun k' v d xs kvs _ _ ih => by simp only [List.any_cons, ih]) h
  have em : IsKv K B (xs.map (fun kv => if kv.1 = k then (kv.1, v) else kv)) (kvs.map (fun kv => if kv.1 = k then (kv.1, d) else kv)) :=
    IsKv.ind (K := K) (B := B) (M := fun xs kvs => IsKv K B (xs.map (fun kv => if kv.1 = k then (kv.1, v) else kv)) (kvs.map (fun kv => if kv.1 = k then (kv.1, d) else kv))) .nil (fun k' v' d' xs kvs hv' _ ih => by
      by_cases e : k' = k
      · simp only [List.map_cons, e, if_true]; exact .cons hv ih
      · simp only [List.map_cons, e, if_false]; exact .cons hv' ih) h
  have es : IsKv K B (xs ++ [(k, v)]) (kvs ++ [(k, d)]) := ⟨by simp [h.ks], by simpa using h.vs.snoc hv⟩
  unfold putK putE
  rw [ea]
  split
  · exact em
  · exact es
theorem putE_new {kvs : List (κ × Dt)} {k : κ} {d : Dt} (h : valD kvs k = none) : putE kvs k d = kvs ++ [(k, d)] := by
  have : (kvs.any fun kv => decide (kv.1 = k)) = false := by
    unfold valD at h
    rw [Option.map_eq_none_iff] at h
    rw [Bool.eq_false_iff]
    intro z
    obtain ⟨x, hx, e⟩ := List.any_eq_true.mp z
    exact (List.find?_eq_none.mp h x hx) e
  unfold putE
  rw [this]; rfl
end
def dkOf (Γ : List Sl) : Re → Option (List (Key × Dt))
  | .val (.dK kvs) => some kvs
  | .nw (.dK kvs) => some kvs
  | .own i => match Γ[i]? with
    | some (.cel (.dK kvs)) => some kvs
    | _ => none
  | _ => none
section
variable {K : PySem.W.Frag} {σ : L2.St} {B H : Hp} {Γ : List Sl} {v : V} {r : Re}
theorem rv_dK {kvs : List (Key × Dt)} (E : Env K B H σ Γ) (h : RvOk K σ B H Γ v r) (e : dkOf Γ r = some kvs) : ∃ a xs, v = .ref a ∧ H a = some (.dK xs) ∧ IsKv K B xs kvs := by
  cases r with
  | val d =>
    cases d <;> first | (cases e; done) | skip
    cases e
    cases h with
    | dK h1 hk hi => exact ⟨_, _, rfl, E.bh _ _ h1, hk, by have := congrArg List.length hk; simpa using this, hi⟩
  | nw c =>
    cases c with
    | dK es => cases e; obtain ⟨l, o, rfl, _, h1, _, xs, rfl, h2⟩ := h; exact ⟨l, xs, rfl, h1, h2⟩
    | lst es => cases e
    | dT es => cases e
    | dN w es => cases e
  | own i =>
    obtain ⟨l, rfl, hl⟩ := h
    have e' : (match Γ[i]? with
      | some (Sl.cel (.dK ds)) => some ds
      | _ => none) = some kvs := e
    split at e'
    · rename_i es hi
      cases e'
      obtain ⟨c, o, q1, q2, q3, us, rfl, q4⟩ := E.cel i _ hi
      rw [hl] at q1; cases q1
      exact ⟨l, us, rfl, q2, q4⟩
    · cases e'
end
section
variable {K : PySem.W.Frag} {pin : List Nat} {Γ : List Sl} {P : Ps} {Post : Re → List Sl → Prop} {td ty tv tx : TE}
theorem we_dgetK (h : WE K td Γ fun ra Γ1 => WE K ty Γ1 fun rb Γ2 => ∃ kvs k d, dkOf Γ2 ra = some kvs ∧ rb = .val (.raw (kV k)) ∧ valD kvs k = some d ∧ Post (.val d) Γ2) : WE K (tDGet td ty) Γ Post :=
  we_two' (r := fun x y H Q => ∃ a v, x = .ref a ∧ DGet H a y (some v) ∧ Q v H) (we_mono h fun ra Γ1 h1 => we_mono h1 fun rb Γ2 ⟨kvs, k, d, e1, e2, e3, p⟩ => fun σ B H x y E kx ky Q q => by
    subst e2
    cases Is.rawI ky
    obtain ⟨a, xs, rfl, ha, hk⟩ := rv_dK E kx e1
    obtain ⟨v, hv, hd⟩ := hk.valS e3
    exact ⟨a, v, rfl, by rw [← hv]; exact .k ha, q _ B H (.val d) Γ2 (.refl E) hd p⟩)
theorem we_dinK (h : WE K ty Γ fun rb Γ1 => WE K td Γ1 fun ra Γ2 => ∃ kvs k, dkOf Γ2 ra = some kvs ∧ rb = .val (.raw (kV k)) ∧ Post (.val (.bl (valD kvs k).isSome)) Γ2) : WE K (tDIn ty td) Γ Post :=
  we_two' (r := fun y x H Q => ∃ a o, x = .ref a ∧ DGet H a y o ∧ Q (.bl o.isSome) H) (we_mono h fun rb Γ1 h1 => we_mono h1 fun ra Γ2 ⟨kvs, k, e1, e2, p⟩ => fun σ B H y x E ky kx Q q => by
    subst e2
    cases Is.rawI ky
    obtain ⟨a, xs, rfl, ha, hk⟩ := rv_dK E kx e1
    refine ⟨a, _, rfl, .k ha, ?_⟩
    rw [hk.isS]
    exact q _ B H _ Γ2 (.refl E) (.raw _) p)
theorem we_dnotinK (h : WE K ty Γ fun rb Γ1 => WE K td Γ1 fun ra Γ2 => ∃ kvs k, dkOf Γ2 ra = some kvs ∧ rb = .val (.raw (kV k)) ∧ Post (.val (.bl (!(valD kvs k).isSome))) Γ2) : WE K (tDNotIn ty td) Γ Post :=
  we_two' (r := fun y x H Q => ∃ a o, x = .ref a ∧ DGet H a y o ∧ Q (.bl (!o.isSome)) H) (we_mono h fun rb Γ1 h1 => we_mono h1 fun ra Γ2 ⟨kvs, k, e1, e2, p⟩ => fun σ B H y x E ky kx Q q => by
    subst e2
    cases Is.rawI ky
    obtain ⟨a, xs, rfl, ha, hk⟩ := rv_dK E kx e1
    refine ⟨a, _, rfl, .k ha, ?_⟩
    rw [hk.isS]
    exact q _ B H _ Γ2 (.refl E) (.raw _) p)
theorem we_dnewK (p : Post (.nw (.dK [])) Γ) : WE K tDNewK Γ Post := fun σ B H E Q q => fun a ha =>
  q _ _ _ (.nw (.dK [])) Γ (Go.beside E ha) ⟨a, _, rfl, .inr ha, E.not_own ha, upd_same, E.base_none ha, [], rfl, .nil⟩ p
theorem ws_dputK {i : Nat} (h : WE K tv Γ fun z Γ1 => ∃ d, z.dt? = some d ∧ (∃ kvs1, Γ1[i]? = some (.cel kvs1)) ∧ WE K ty Γ1 fun y Γ2 => ∃ kvs k, y = .val (.raw (kV k)) ∧ Γ2[i]? = some (.cel (.dK kvs)) ∧ kvs.length < 1000000 ∧ P.nx (Γ2.set i (.cel (.dK (putE kvs k d))))) :
    WS K pin (sDPut (tVar i) ty tv) Γ P := fun σ B H D E n r b c xx => by
  have h' : WE K tv Γ fun z Γ1 => ∃ d, z = .val d ∧ (∃ kvs1, Γ1[i]? = some (.cel kvs1)) ∧ WE K ty Γ1 fun y Γ2 => ∃ kvs k, y = .val (.raw (kV k)) ∧ Γ2[i]? = some (.cel (.dK kvs)) ∧ kvs.length < 1000000 ∧ P.nx (Γ2.set i (.cel (.dK (putE kvs k d)))) := we_freeze (we_mono h fun z Γ1 ⟨d, hd, r⟩ => ⟨d, hd, d, rfl, r⟩)
  refine h' σ B H E _ fun v B1 H1 z Γ1 g1 k1 p1 => ?_
  obtain ⟨d, rfl, ⟨ds1, h1⟩, p1⟩ := p1
  obtain ⟨l, vs, e0, e1, e2, k0⟩ := g1.env.cel i ds1 h1
  refine ⟨.ref l, e0, p1 σ B1 H1 g1.env _ fun y B2 H2 w Γ2 g2 k2 p2 => ?_⟩
  obtain ⟨kvs, k, rfl, hi, hz, p⟩ := p2
  cases Is.rawI k2
  obtain ⟨l', o, f0, f1, f2, us, rfl, k3⟩ := g2.env.cel i _ hi
  rw [e0] at f0; cases f0
  refine ⟨l, _, rfl, .k f1 (Nat.lt_of_lt_of_le (by rw [k3.len]; exact hz) (by decide)), ?_⟩
  exact n _ B2 _ _ ((g1.trans g2).trans (Go.putC (es := .dK (putE kvs k d)) g2.env hi e0 ⟨_, rfl, k3.put k (Is.mono g2.mv.bb k1)⟩)).s p
theorem we_dget2K (h : WE K td Γ fun ra Γ1 => (dkOf Γ1 ra).isSome = true ∧ WE K ty Γ1 fun rb Γ2 => WE K tx Γ2 fun rc Γ3 => ∃ kvs k, dkOf Γ3 ra = some kvs ∧ rb = .val (.raw (kV k)) ∧ (∀ d, valD kvs k = some d → Post (.val d) Γ3) ∧ (valD kvs k = none → Post rc Γ3)) : WE K (tDGet2 td ty tx) Γ Post := fun σ B H E Q q => by
  refine h σ B H E _ fun x B1 H1 ra Γ1 g1 k1 p1 => ?_
  obtain ⟨hs, p1⟩ := p1
  obtain ⟨kv0, hs⟩ := Option.isSome_iff_exists.mp hs
  obtain ⟨a, xs, rfl, ha, hk⟩ := rv_dK g1.env k1.rv hs
  refine ⟨a, rfl, .inl ⟨xs, .inl ha⟩, ?_⟩
  refine p1 σ B1 H1 g1.env _ fun y B2 H2 rb Γ2 g2 k2 p2 => ?_
  refine p2 σ B2 H2 g2.env _ fun z B3 H3 rc Γ3 g3 k3 p3 => ?_
  obtain ⟨kvs, k, e1, rfl, hS, hN⟩ := p3
  have ky : y = kV k := Is.rawI k2
  subst ky
  obtain ⟨a', xs', e, ha', hk'⟩ := rv_dK g3.env (ReOk.rv (ReOk.step k1 (g2.trans g3).mv (g2.trans g3).sub)) e1
  cases e
  refine ⟨_, .k ha', ?_⟩
  rcases hk'.val k with ⟨f1, f2⟩ | ⟨v, d, f1, f2, hv⟩
  · rw [f1]
    exact q z B3 H3 rc Γ3 ((g1.trans g2).trans g3) (ReOk.earlier k3 (g1.trans g2).mv fun a h => .inl ((g1.trans g2).sub a h)) (hN f2)
  · rw [f1]
    exact q v B3 H3 (.val d) Γ3 ((g1.trans g2).trans g3) hv (hS d f2)
theorem we_dget1K (h : WE K td Γ fun ra Γ1 => (dkOf Γ1 ra).isSome = true ∧ WE K ty Γ1 fun rb Γ2 => ∃ kvs k, dkOf Γ2 ra = some kvs ∧ rb = .val (.raw (kV k)) ∧ (∀ d, valD kvs k = some d → Post (.val d) Γ2) ∧ (valD kvs k = none → Post (.val .non) Γ2)) : WE K (tDGet1 td ty) Γ Post := fun σ B H E Q q => by
  refine h σ B H E _ fun x B1 H1 ra Γ1 g1 k1 p1 => ?_
  obtain ⟨hs, p1⟩ := p1
  obtain ⟨kv0, hs⟩ := Option.isSome_iff_exists.mp hs
  obtain ⟨a, xs, rfl, ha, hk⟩ := rv_dK g1.env k1.rv hs
  refine ⟨a, rfl, .inl ⟨xs, .inl ha⟩, ?_⟩
  refine p1 σ B1 H1 g1.env _ fun y B2 H2 rb Γ2 g2 k2 p2 => ?_
  obtain ⟨kvs, k, e1, rfl, hS, hN⟩ := p2
  have ky : y = kV k := Is.rawI k2
  subst ky
  obtain ⟨a', xs', e, ha', hk'⟩ := rv_dK g2.env (ReOk.rv (ReOk.step k1 g2.mv g2.sub)) e1
  cases e
  refine ⟨_, .k ha', ?_⟩
  rcases hk'.val k with ⟨f1, f2⟩ | ⟨v, d, f1, f2, hv⟩
  · rw [f1]
    exact q .non B2 H2 (.val .non) Γ2 (g1.trans g2) (Is.raw _) (hN f2)
  · rw [f1]
    exact q v B2 H2 (.val d) Γ2 (g1.trans g2) hv (hS d f2)
end
def WP (K : PySem.W.Frag) (trs : List (TE × TE)) (Γ : List Sl) (Post : List (Key × Dt) → List Sl → Prop) : Prop :=
  ∀ σ B H, Env K B H σ Γ → ∀ Q : List (V × V) → Hp → Prop, (∀ (xs : List (Key × V)) B' H' kds Γ', Go K σ B H Γ B' H' Γ' → IsKv K B' xs kds → Post kds Γ' → Q (xs.map fun kv => (kV kv.1, kv.2)) H') → tPairs trs σ H Q
def mergeD (kvs more : List (Key × Dt)) : List (Key × Dt) := more.foldl (fun acc kv => putE acc kv.1 kv.2) kvs
section
variable {K : PySem.W.Frag} {Γ : List Sl} {Post : Re → List Sl → Prop}
theorem IsKv.mono {κ : Type} {B B' : Hp} {xs : List (κ × V)} {kvs : List (κ × Dt)} (s : Same B B') (h : IsKv K B xs kvs) : IsKv K B' xs kvs := ⟨h.ks, h.vs.mono s⟩
theorem wp_nil {Po : List (Key × Dt) → List Sl → Prop} (p : Po [] Γ) : WP K [] Γ Po := fun σ B H E Q q => q [] B H [] Γ (.refl E) .nil p
theorem wp_cons {Po : List (Key × Dt) → List Sl → Prop} {tk tv : TE} {trs : List (TE × TE)} (h : WE K tk Γ fun rk Γ1 => ∃ k, rk = .val (.raw (kV k)) ∧ WE K tv Γ1 fun rv Γ2 => ∃ d, rv.dt? = some d ∧ WP K trs Γ2 fun kds Γ3 => Po ((k, d) :: kds) Γ3) : WP K ((tk, tv) :: trs) Γ Po := fun σ B H E Q q => by
  refine h σ B H E _ fun x B1 H1 rk Γ1 g1 k1 p1 => ?_
  obtain ⟨k, rfl, p1⟩ := p1
  have kx : x = kV k := Is.rawI k1
  subst kx
  have p1' : WE K tv Γ1 fun rv Γ2 => ∃ d, rv = .val d ∧ WP K trs Γ2 fun kds Γ3 => Po ((k, d) :: kds) Γ3 := we_freeze (we_mono p1 fun z Γ1 ⟨d, hd, r⟩ => ⟨d, hd, d, rfl, r⟩)
  refine p1' σ B1 H1 g1.env _ fun y B2 H2 rv Γ2 g2 k2 p2 => ?_
  obtain ⟨d, rfl, p2⟩ := p2
  refine p2 σ B2 H2 g2.env _ fun xs B3 H3 kds Γ3 g3 k3 p3 => ?_
  exact q ((k, y) :: xs) B3 H3 ((k, d) :: kds) Γ3 ((g1.trans g2).trans g3) (.cons (Is.mono g3.mv.bb k2) k3) p3
theorem IsKv.merge {B : Hp} {ys : List (Key × V)} {more : List (Key × Dt)} (h : IsKv K B ys more) : ∀ {xs : List (Key × V)} {kvs : List (Key × Dt)}, IsKv K B xs kvs → IsKv K B (mergeK xs ys) (mergeD kvs more) :=
  IsKv.ind (K := K) (B := B) (M := fun ys more => ∀ {xs : List (Key × V)} {kvs : List (Key × Dt)}, IsKv K B xs kvs → IsKv K B (mergeK xs ys) (mergeD kvs more)) (fun h => h) (fun k v d ys more hv _ ih xs kvs r => ih (r.put k hv)) h
theorem we_disp {trs : List (TE × TE)} (h : WP K trs Γ fun kds Γ1 => kds.length ≤ 15 ∧ Post (.nw (.dK (mergeD [] kds))) Γ1) : WE K (tDisp trs) Γ Post := fun σ B H E Q q p hp => by
  have g0 : Go K σ B H Γ B (upd H p (.dK [])) Γ := Go.beside E hp
  have no : ¬ Own σ Γ p := E.not_own hp
  refine h σ B _ g0.env _ fun xs B1 H1 kds Γ1 g1 k1 p1 => ?_
  obtain ⟨hz, p1⟩ := p1
  have h1 : H1 p = some (.dK []) := g1.mv.kp p _ no upd_same
  have b1 : B1 p = none := g1.mv.off p no (by rw [upd_same]; exact fun z => nomatch z) (E.base_none hp)
  have no1 : ¬ Own σ Γ1 p := fun z => no (g1.sub p z)
  refine ⟨h1, xs, rfl, by rw [k1.len]; exact hz, ?_⟩
  have g01 := g0.trans g1
  refine q (.ref p) B1 _ (.nw (.dK (mergeD [] kds))) Γ1 ⟨⟨fun a o na e => ?_, g01.mv.bb, g01.mv.off⟩, g01.ac, g01.env.updOff b1 no1⟩ ⟨p, _, rfl, .inr hp, no1, upd_same, b1, _, rfl, k1.merge .nil⟩ p1
  rw [upd_ne (ne_of_none e hp)]
  exact g01.mv.kp a o na e
end
end Ab

namespace Ab
open PySem L2 PyProof.Rows
section
variable {K : PySem.W.Frag} {pin : List Nat} {Γ : List Sl} {P : Ps} {Post : Re → List Sl → Prop} {te ta tb : TE}
theorem we_sortedS (h : WE K te Γ fun r Γ1 => Hold (∃ xs : List Str, lstOf Γ1 r = some (xs.map Dt.str) ∧ xs.length < 64 ∧ ∀ ys : List Str, ys.Perm xs → sortedS ys = true → Post (.new (ys.map Dt.str)) Γ1)) : WE K (tCB (rSortedS K) (tCons te tNil)) Γ Post :=
  we_cb1 (we_mono h fun r Γ1 hp => fun σ B H x E kx Q q => by
    obtain ⟨xs, hs, hz, p⟩ := hp.get
    obtain ⟨a, vs, rfl, hq, ha⟩ := rv_lst E kx hs
    have e : vs = xs.map V.str := IsA.rawsI (xs := xs.map V.str) (by rw [List.map_map]; exact ha)
    subst e
    refine ⟨a, xs, rfl, hq, hz, fun ys l hy hs hl => q _ _ _ (.new (ys.map Dt.str)) Γ1 (Go.beside E hl) (re_newL E ?_ hl) (p ys hy hs)⟩
    have := IsA.raws (K := K) (B := B) (xs := ys.map V.str)
    rwa [List.map_map] at this)
theorem we_sorted (h : WE K te Γ fun r Γ1 => Hold (∃ xs : List Int, lstOf Γ1 r = some (xs.map Dt.int) ∧ xs.length < 64 ∧ ∀ ys : List Int, ys.Perm xs → ys.Pairwise (· ≤ ·) → Post (.new (ys.map Dt.int)) Γ1)) : WE K (tCB (rSorted K) (tCons te tNil)) Γ Post :=
  we_cb1 (we_mono h fun r Γ1 hp => fun σ B H x E kx Q q => by
    obtain ⟨xs, hs, hz, p⟩ := hp.get
    obtain ⟨a, vs, rfl, hq, ha⟩ := rv_lst E kx hs
    have e : vs = xs.map V.int := IsA.rawsI (xs := xs.map V.int) (by rw [List.map_map]; exact ha)
    subst e
    refine ⟨a, xs, rfl, hq, hz, fun ys l hy hs hl => q _ _ _ (.new (ys.map Dt.int)) Γ1 (Go.beside E hl) (re_newL E ?_ hl) (p ys hy hs)⟩
    have := IsA.raws (K := K) (B := B) (xs := ys.map V.int)
    rwa [List.map_map] at this)
theorem we_all (h : WE K te Γ fun r Γ1 => Hold (∃ bs : List Bool, lstOf Γ1 r = some (bs.map Dt.bl) ∧ Post (.val (.bl (bs.all id))) Γ1)) : WE K (tCB (rAll K) (tCons te tNil)) Γ Post :=
  we_cb1 (we_mono h fun r Γ1 hp => fun σ B H x E kx Q q => by
    obtain ⟨bs, hs, p⟩ := hp.get
    obtain ⟨a, vs, rfl, hq, ha⟩ := rv_lst E kx hs
    have e : vs = bs.map V.bl := IsA.rawsI (xs := bs.map V.bl) (by rw [List.map_map]; exact ha)
    subst e
    exact ⟨a, bs, rfl, hq, q _ B H _ Γ1 (.refl E) (.raw _) p⟩)
end
def rRepS : R2 := fun x y H Q => ∃ z n, x = .str z ∧ y = .int n ∧ -1000 ≤ n ∧ n ≤ 1000 ∧ z.length ≤ 1000 ∧ Q (.str (PySem.Txt.mul z n)) H
theorem op_repS {X : Cx} : OpR X (binaryOp .Mult) rRepS := by
  intro pins s σ H x y v u Q I rx ry h
  obtain ⟨z, n, rfl, rfl, h1, h2, h3, q⟩ := h
  obtain ⟨t, rfl⟩ := rx
  obtain ⟨t', rfl⟩ := ry
  exact PySem.SB.mul (mulOk_of 1000 1000 h3 (by omega) (by omega) (by omega) (by omega)) fun t' k => ⟨.str _, H, I.tok _, ⟨_, rfl⟩, q⟩
theorem we_repS {K : PySem.W.Frag} {Γ : List Sl} {Post : Re → List Sl → Prop} {ta tb : TE} (h : WE K ta Γ fun ra Γ1 => WE K tb Γ1 fun rb Γ2 => ∃ z n, ra = .val (.str z) ∧ rb = .val (.int n) ∧ -1000 ≤ n ∧ n ≤ 1000 ∧ z.length ≤ 1000 ∧ Post (.val (.str (PySem.Txt.mul z n))) Γ2) : WE K (tOp rRepS ta tb) Γ Post :=
  we_two' (we_mono h fun ra Γ1 h1 => we_mono h1 fun rb Γ2 hp => fun σ B H x y E kx ky Q q => by
    obtain ⟨s, t, rfl, rfl, h1, h2, h3, p⟩ := hp
    cases Is.rawI kx; cases Is.rawI ky
    exact ⟨s, t, rfl, rfl, h1, h2, h3, q _ B H _ Γ2 (.refl E) (.raw _) p⟩)
end Ab

namespace Ab
open PySem PySem.Spec L2 PyProof.Rows
def rRepA (K : PySem.W.Frag) : R2 := fun x y H Q => ∃ l k xs, x = .ref l ∧ y = .int k ∧ SqT K H l xs ∧ xs ≠ [] ∧ 0 ≤ k ∧ k ≤ 1000 ∧ xs.length ≤ 1000 ∧ (k = 1 → Q (.ref l) H) ∧ (k ≠ 1 → ∀ p, H p = none → Q (.ref p) (upd H p (.tup (List.replicate k.toNat xs).flatten)))
theorem IsA.reps {K : PySem.W.Frag} {B : Hp} {vs : List V} {ds : List Dt} (h : IsA K B vs ds) : ∀ n : Nat, IsA K B (List.replicate n vs).flatten (List.replicate n ds).flatten
  | 0 => .nil
  | n + 1 => by rw [List.replicate_succ, List.replicate_succ, List.flatten_cons, List.flatten_cons]; exact h.append (IsA.reps h n)
theorem we_repA {K : PySem.W.Frag} {Γ : List Sl} {Post : Re → List Sl → Prop} {ta tb : TE} (h : WE K ta Γ fun ra Γ1 => WE K tb Γ1 fun rb Γ2 => ∃ ds n, ra = .val (.tup ds) ∧ rb = .val (.int n) ∧ ds ≠ [] ∧ 0 ≤ n ∧ n ≤ 1000 ∧ ds.length ≤ 1000 ∧ Post (.val (.tup (List.replicate n.toNat ds).flatten)) Γ2) : WE K (tOp (rRepA K) ta tb) Γ Post :=
  we_two' (we_mono h fun ra Γ1 h1 => we_mono h1 fun rb Γ2 hp => fun σ B H x y E kx ky Q q => by
    obtain ⟨ds, n, rfl, rfl, hne, h1, h2, h3, p⟩ := hp
    cases Is.rawI ky
    obtain ⟨a, xs, rfl, hs, ha⟩ := Is.tupR kx
    refine ⟨a, n, xs, rfl, rfl, sqT_mono E.bh hs, fun z => hne ?_, h1, h2, by rw [ha.len]; exact h3, fun e => ?_, fun _ l hl => q _ _ _ (.val (.tup (List.replicate n.toNat ds).flatten)) Γ2 (Go.laid E hl) (re_laidT E (ha.reps n.toNat) hl) p⟩
    · subst z; exact List.eq_nil_of_length_eq_zero ha.len.symm
    · subst e
      have e2 : (List.replicate (Int.toNat 1) ds).flatten = ds := by simp
      rw [e2] at p
      exact q _ B H (.val (.tup ds)) Γ2 (.refl E) kx p)
theorem inV_txts {s : Str} : ∀ xs : List Str, inV (.str s) (xs.map V.str) = decide (s ∈ xs)
  | [] => rfl
  | n :: r => by
    have ih := inV_txts (s := s) r
    unfold inV at ih ⊢
    rw [List.map_cons, List.any_cons, ih]
    have e : eqV (.str n) (.str s) = decide (n = s) := rfl
    rw [e]
    by_cases h : n = s
    · subst h; simp
    · have h' : ¬ s = n := fun z => h z.symm
      simp [h, h']
theorem flat_txts : ∀ xs : List Str, (xs.map V.str).all flatV = true
  | [] => rfl
  | n :: r => by rw [List.map_cons, List.all_cons, flat_txts r]; rfl
theorem inS {Γ : List Sl} {Post : Re → List Sl → Prop} {s : Str} {rb : Re} {xs : List Str} {Z : Prop} (h : seqOf Γ rb = some (xs.map Dt.str)) (p : Post (.val (.bl (decide (s ∈ xs)))) Γ) : InP false (.val (.str s)) rb Γ Post ∨ Z :=
  .inl ⟨.str s, xs.map V.str, rfl, by rw [h, List.map_map]; rfl, rfl, flat_txts xs, by rw [if_neg Bool.false_ne_true, inV_txts]; exact p⟩
theorem notInS {Γ : List Sl} {Post : Re → List Sl → Prop} {s : Str} {rb : Re} {xs : List Str} (h : seqOf Γ rb = some (xs.map Dt.str)) (p : Post (.val (.bl (!decide (s ∈ xs)))) Γ) : InP true (.val (.str s)) rb Γ Post :=
  ⟨.str s, xs.map V.str, rfl, by rw [h, List.map_map]; rfl, rfl, flat_txts xs, by rw [if_pos rfl, inV_txts]; exact p⟩
theorem lc_str {K : PySem.W.Frag} {Γ : List Sl} {Post : Re → List Sl → Prop} {te tl : TE} {tt : TT} {j : Nat} (s : Str) (Inv : Nat → List Dt → List Sl → Prop) (h : WE K tl Γ fun z Γ1 => Hold (z = .val (.str s) ∧ s.length ≤ 1000000 ∧ decide (j < Γ1.length) = true ∧ notAcc Γ1[j]? = true ∧ keepV Γ1[j]? = keepV Γ[j]? ∧ Inv 0 [] Γ1))
    (turn : ∀ (i : Nat) c es G, s.cps[i]? = some c → Inv i es G → WT K tt (G.set j (.val (.str ⟨#[c]⟩))) fun b G2 => (b = true → WE K te G2 fun r G3 => ∃ d, r.dt? = some d ∧ Hold (Inv (i + 1) (es ++ [d]) (G3.set j (keepV Γ[j]?)))) ∧ (b = false → Hold (Inv (i + 1) es (G2.set j (keepV Γ[j]?)))))
    (done : ∀ es G, Inv s.cps.size es G → Post (.new es) G) : WE K (tLc (iStr tl) (gName j) tt te [j]) Γ Post := fun σ B H E Q q => by
  refine h σ B H E _ fun v B1 H1 z Γ1 g1 k p => ?_
  obtain ⟨rfl, hn, hj, hja, h4, i0⟩ := p.get
  have hv : v = .str s := Is.rawI k
  subst hv
  refine ⟨s, rfl, ?_⟩
  have at_ : ∀ i, i < s.cps.size → s.cps[i]? = some (s.cps.getD i 0) := fun i hi => by simp [hi]
  refine lc_run (n := s.cps.size) (dt := fun i => .str ⟨#[s.cps.getD i 0]⟩) (J := Its s) g1.env (of_decide_eq_true hj) (notAcc_ne hja) hn (fun i es G => Hold (Inv i es G)) (fun i B' H' _ _ hi b1 b2 _ => hi) (fun i H' x H'' B' _ _ hi b1 b2 _ hy => ?_) (fun B' H' _ _ b1 b2 _ => Nat.le_refl _) (.a i0) (fun i es Γ' hi' hI => ?_) (fun es G hG => done es G hG.get) fun v B2 H2 r Γ2 g2 k2 p2 => q v B2 H2 r Γ2 (g1.trans g2) (ReOk.earlier k2 g1.mv fun a h => .inl (g1.sub a h)) p2
  · obtain ⟨e1, c, e2, e3⟩ := hy
    rw [at_ i hi] at e2
    cases e2
    subst e3
    exact ⟨e1, .raw _⟩
  · rw [h4]
    exact turn i _ es Γ' (at_ i hi') hI.get
end Ab

namespace Ab
open PySem PySem.Spec L2 PyProof.Rows
set_option maxHeartbeats 8000000 in
section
variable {K : PySem.W.Frag} {σ : L2.St} {B H : Hp} {Γ : List Sl}
abbrev g2 (K : PySem.W.Frag) (j k : Nat) : TG := gTup K 2 (gCons (gName j) (gCons (gName k) gNil))
end
end Ab
namespace Ab
open PySem PySem.Spec L2 PyProof.Rows
def rStrG : List V → Hp → VK → Prop := fun xs H Q => (∃ a, xs = [.str a] ∧ Q (.str a) H) ∨ ∃ i : Int, xs = [.int i] ∧ i.natAbs.log2 < 1920 ∧ Q (.str (toString i)) H
theorem call_strG {X : Cx} : CallR X (.type "str") rStrG := by
  intro pins s σ H vs us Q I r h
  rcases h with h | h
  · exact SkE.call_str_str pins s σ H vs us Q I r h
  · exact call_str_int pins s σ H vs us Q I r h
def StrP (r : Re) (Γ : List Sl) (Post : Re → List Sl → Prop) : Prop := (∃ a, r = .val (.str a) ∧ Post (.val (.str a)) Γ) ∨ ∃ i : Int, r = .val (.int i) ∧ i.natAbs.log2 < 1920 ∧ Post (.val (.str (toString i))) Γ
theorem we_strG {K : PySem.W.Frag} {Γ : List Sl} {Post : Re → List Sl → Prop} {te : TE} (h : WE K te Γ fun r Γ1 => StrP r Γ1 Post) : WE K (tCB rStrG (tCons te tNil)) Γ Post :=
  we_cb1 (we_mono h fun r Γ1 hp => fun σ B H x E kx Q q => by
    rcases hp with ⟨a, rfl, p⟩ | ⟨i, rfl, hi, p⟩
    · cases Is.rawI kx
      exact .inl ⟨a, rfl, q _ B H _ Γ1 (.refl E) (.raw _) p⟩
    · cases Is.rawI kx
      exact .inr ⟨i, rfl, hi, q _ B H _ Γ1 (.refl E) (.raw _) p⟩)
theorem strp_s {Γ : List Sl} {Post : Re → List Sl → Prop} {a : Str} (p : Post (.val (.str a)) Γ) : StrP (.val (.str a)) Γ Post := .inl ⟨a, rfl, p⟩
theorem we_any {K : PySem.W.Frag} {Γ : List Sl} {Post : Re → List Sl → Prop} {te : TE} (h : WE K te Γ fun r Γ1 => Hold (∃ bs : List Bool, lstOf Γ1 r = some (bs.map Dt.bl) ∧ Post (.val (.bl (bs.any id))) Γ1)) : WE K (tCB (rAny K) (tCons te tNil)) Γ Post :=
  we_cb1 (we_mono h fun r Γ1 hp => fun σ B H x E kx Q q => by
    obtain ⟨bs, hs, p⟩ := hp.get
    obtain ⟨a, vs, rfl, hq, ha⟩ := rv_lst E kx hs
    have e : vs = bs.map V.bl := IsA.rawsI (xs := bs.map V.bl) (by rw [List.map_map]; exact ha)
    subst e
    exact ⟨a, bs, rfl, hq, q _ B H _ Γ1 (.refl E) (.raw _) p⟩)
theorem bi_sorted : bootBuiltins "sorted" = some (.builtin "sorted") := by decide +kernel
theorem kb_nd : kitB "NoneType" "dict" = some false := by decide +kernel
end Ab

namespace Ab
open PySem L2
section
variable {K : PySem.W.Frag} {pin : List Nat} {Γ : List Sl} {P : Ps} {te tl : TE} {tt : TT} {tb : TS} {g : TG} {j : Nat} {Post : Re → List Sl → Prop}
theorem take_step {α β : Type} {xs : List α} {i : Nat} {x : α} (p : α → Bool) (f : α → β) (h : xs[i]? = some x) : ((xs.take (i + 1)).filter p).map f = ((xs.take i).filter p).map f ++ (if p x = true then [f x] else []) := by
  rw [List.take_succ, h, List.filter_append, List.map_append]
  by_cases hp : p x = true
  · simp [hp]
  · simp [hp]
theorem filter_tt {α : Type} (xs : List α) : xs.filter (fun _ => true) = xs := List.filter_eq_self.mpr fun _ _ => rfl
theorem lc_tupP {α : Type} (xs : List α) (c f : α → Dt) (p : α → Bool) (G0 : List Sl) (h : WE K tl Γ fun z Γ1 => Hold (z = .val (.tup (xs.map c)) ∧ xs.length ≤ 1000000 ∧ decide (j < Γ1.length) = true ∧ notAcc Γ1[j]? = true ∧ keepV Γ1[j]? = keepV Γ[j]? ∧ Γ1 = G0))
    (turn : ∀ x ∈ xs, WT K tt (G0.set j (.val (c x))) fun b G2 => (b = true → WE K te G2 fun r G3 => ∃ d, r.dt? = some d ∧ Hold (p x = true ∧ d = f x ∧ G3.set j (keepV Γ[j]?) = G0)) ∧ (b = false → Hold (p x = false ∧ G2.set j (keepV Γ[j]?) = G0)))
    (done : Post (.new ((xs.filter p).map f)) G0) : WE K (tLc (iTup K tl) (gName j) tt te [j]) Γ Post := by
  refine lc_tuple (xs.map c) (fun i es G => G = G0 ∧ es = ((xs.take i).filter p).map f) ?_ ?_ ?_
  · refine we_mono h fun z Γ1 hp => ?_
    obtain ⟨h1, h2, h3, h4, h5, h6⟩ := hp.get
    exact .a ⟨h1, by rw [List.length_map]; exact h2, h3, h4, h5, h6, rfl⟩
  · rintro i d es G hd ⟨rfl, rfl⟩
    rw [List.getElem?_map] at hd
    obtain ⟨x, hx, rfl⟩ := Option.map_eq_some_iff.mp hd
    refine wt_mono (turn x (List.mem_of_getElem? hx)) fun b G2 hb => ⟨fun e => ?_, fun e => ?_⟩
    · refine we_mono (hb.1 e) fun r G3 hr => ?_
      obtain ⟨d, h1, h2⟩ := hr
      obtain ⟨h3, rfl, h5⟩ := h2.get
      exact ⟨_, h1, .a ⟨h5, by rw [take_step p f hx, if_pos h3]⟩⟩
    · obtain ⟨h3, h5⟩ := (hb.2 e).get
      exact .a ⟨h5, by rw [take_step p f hx, if_neg (by rw [h3]; exact Bool.false_ne_true), List.append_nil]⟩
  · rintro es G ⟨rfl, rfl⟩
    rw [List.length_map, List.take_length]
    exact done
theorem lc_lstP {α : Type} (xs : List α) (c f : α → Dt) (p : α → Bool) (G0 : List Sl) (h : WE K tl Γ fun z Γ1 => Hold (z.dt? = some (.lst (xs.map c)) ∧ xs.length ≤ 1000000 ∧ decide (j < Γ1.length) = true ∧ notAcc Γ1[j]? = true ∧ keepV Γ1[j]? = keepV Γ[j]? ∧ Γ1 = G0))
    (turn : ∀ x ∈ xs, WT K tt (G0.set j (.val (c x))) fun b G2 => (b = true → WE K te G2 fun r G3 => ∃ d, r.dt? = some d ∧ Hold (p x = true ∧ d = f x ∧ G3.set j (keepV Γ[j]?) = G0)) ∧ (b = false → Hold (p x = false ∧ G2.set j (keepV Γ[j]?) = G0)))
    (done : Post (.new ((xs.filter p).map f)) G0) : WE K (tLc (iList K tl) (gName j) tt te [j]) Γ Post := by
  refine lc_lst (xs.map c) (fun i es G => G = G0 ∧ es = ((xs.take i).filter p).map f) ?_ ?_ ?_
  · refine we_mono h fun z Γ1 hp => ?_
    obtain ⟨h1, h2, h3, h4, h5, h6⟩ := hp.get
    exact .a ⟨h1, by rw [List.length_map]; exact h2, h3, h4, h5, h6, rfl⟩
  · rintro i d es G hd ⟨rfl, rfl⟩
    rw [List.getElem?_map] at hd
    obtain ⟨x, hx, rfl⟩ := Option.map_eq_some_iff.mp hd
    refine wt_mono (turn x (List.mem_of_getElem? hx)) fun b G2 hb => ⟨fun e => ?_, fun e => ?_⟩
    · refine we_mono (hb.1 e) fun r G3 hr => ?_
      obtain ⟨d, h1, h2⟩ := hr
      obtain ⟨h3, rfl, h5⟩ := h2.get
      exact ⟨_, h1, .a ⟨h5, by rw [take_step p f hx, if_pos h3]⟩⟩
    · obtain ⟨h3, h5⟩ := (hb.2 e).get
      exact .a ⟨h5, by rw [take_step p f hx, if_neg (by rw [h3]; exact Bool.false_ne_true), List.append_nil]⟩
  · rintro es G ⟨rfl, rfl⟩
    rw [List.length_map, List.take_length]
    exact done
theorem lc_tupV {α : Type} (xs : List α) (c f : α → Dt) (p : α → Bool) (h : WE K tl Γ fun z Γ1 => Hold (z = .val (.tup (xs.map c)) ∧ xs.length ≤ 1000000 ∧ decide (j < Γ.length) = true ∧ notAcc Γ[j]? = true ∧ Γ1 = Γ))
    (turn : ∀ x ∈ xs, WT K tt (Γ.set j (.val (c x))) fun b G2 => (b = true → WE K te G2 fun r G3 => ∃ d, r.dt? = some d ∧ Hold (p x = true ∧ d = f x ∧ G3.set j (keepV Γ[j]?) = Γ)) ∧ (b = false → Hold (p x = false ∧ G2.set j (keepV Γ[j]?) = Γ)))
    (done : Post (.new ((xs.filter p).map f)) Γ) : WE K (tLc (iTup K tl) (gName j) tt te [j]) Γ Post :=
  lc_tupP xs c f p Γ (we_mono h fun z Γ1 hp => by
    obtain ⟨h1, h2, h3, h4, rfl⟩ := hp.get
    exact .a ⟨h1, h2, h3, h4, rfl, rfl⟩) turn done
theorem lc_lstV {α : Type} (xs : List α) (c f : α → Dt) (p : α → Bool) (h : WE K tl Γ fun z Γ1 => Hold (z.dt? = some (.lst (xs.map c)) ∧ xs.length ≤ 1000000 ∧ decide (j < Γ.length) = true ∧ notAcc Γ[j]? = true ∧ Γ1 = Γ))
    (turn : ∀ x ∈ xs, WT K tt (Γ.set j (.val (c x))) fun b G2 => (b = true → WE K te G2 fun r G3 => ∃ d, r.dt? = some d ∧ Hold (p x = true ∧ d = f x ∧ G3.set j (keepV Γ[j]?) = Γ)) ∧ (b = false → Hold (p x = false ∧ G2.set j (keepV Γ[j]?) = Γ)))
    (done : Post (.new ((xs.filter p).map f)) Γ) : WE K (tLc (iList K tl) (gName j) tt te [j]) Γ Post :=
  lc_lstP xs c f p Γ (we_mono h fun z Γ1 hp => by
    obtain ⟨h1, h2, h3, h4, rfl⟩ := hp.get
    exact .a ⟨h1, h2, h3, h4, rfl, rfl⟩) turn done
theorem for_tupT {α : Type} (xs : List α) (c : α → Dt) (Inv : Nat → List Sl → Prop) (h : WE K te Γ fun z Γ1 => Hold (z = .val (.tup (xs.map c)) ∧ Inv 0 Γ1))
    (turn : ∀ (i : Nat) x G, xs[i]? = some x → Inv i G → WG K pin g (c x) G fun G2 => WS K pin tb G2 ⟨fun G => Hold (Inv (i + 1) G), P.rt, P.nx, fun G => Hold (Inv (i + 1) G), P.ex⟩) (done : ∀ G, Inv xs.length G → P.nx G) : WS K pin (tFor (iTup K te) g tb) Γ P :=
  for_tuple (xs.map c) Inv h (fun i d G hd hG => by
    rw [List.getElem?_map] at hd
    obtain ⟨x, hx, rfl⟩ := Option.map_eq_some_iff.mp hd
    exact turn i x G hx hG) (fun G hG => done G (by rwa [List.length_map] at hG))
theorem for_lstT {α : Type} (xs : List α) (c : α → Dt) (Inv : Nat → List Sl → Prop) (h : WE K te Γ fun z Γ1 => Hold (z.dt? = some (.lst (xs.map c)) ∧ Inv 0 Γ1))
    (turn : ∀ (i : Nat) x G, xs[i]? = some x → Inv i G → WG K pin g (c x) G fun G2 => WS K pin tb G2 ⟨fun G => Hold (Inv (i + 1) G), P.rt, P.nx, fun G => Hold (Inv (i + 1) G), P.ex⟩) (done : ∀ G, Inv xs.length G → P.nx G) : WS K pin (tFor (iList K te) g tb) Γ P :=
  for_lst (xs.map c) Inv h (fun i d G hd hG => by
    rw [List.getElem?_map] at hd
    obtain ⟨x, hx, rfl⟩ := Option.map_eq_some_iff.mp hd
    exact turn i x G hx hG) (fun G hG => done G (by rwa [List.length_map] at hG))
end
end Ab

namespace Ab
open PySem L2
abbrev APX := List Sl → (Re → List Sl → Prop) → (Value → List (Str × Dt) → List Sl → Prop) → Prop
def toSpX (K : PySem.W.Frag) (ap : APX) : Sp := fun vs H Q E => ∃ B as Post XP, Env K B H (vs.map some) as ∧ ap as Post XP ∧
  (∀ v B' H' r as', Go K (vs.map some) B H as B' H' as' → ReOk K [] (Own (vs.map some) as) (Own (vs.map some) as') B' H H' v r → Post r as' → Q v H') ∧
  ∀ cls d fs B' H' as', Go K (vs.map some) B H as B' H' as' → ExB K B' d fs → XP cls fs as' → E cls d H'
abbrev RunOkX (K : PySem.W.Frag) (pin : List Nat) (t : WX → TS) (N : Nat) (ap : APX) : Prop := ∀ (W : WX) (as : List Sl) (Post : Re → List Sl → Prop) (XP : Value → List (Str × Dt) → List Sl → Prop), ap as Post XP →
  WS K pin (t W) (as ++ List.replicate (N - as.length) .un) ⟨fun G => Post (.val .non) (exitArgs pin G as), fun r G => Post r (exitArgs pin G as), fun _ => False, fun _ => False, ⟨W, fun cls fs G => XP cls fs (exitArgs pin G as)⟩⟩
section
variable {P : Program} {w : World} {K : PySem.W.Frag} {mg : Str → Option Value} {base : Heap}
theorem fn_abX {x qual : Str} {st : Stmt} {f : Addr} {fd : FuncData} {N ps : List Str} {k : Nat} {ap : APX} (pin : List Nat) (F : Fun K x qual st f fd) (S : FnScope N ps (defScope st))
    (hlen : ∀ as Post XP, ap as Post XP → as.length = ps.length) (hN : decide (ps.length ≤ N.length) = true) (t : WX → TS)
    (body : ∀ (cdv : Value) (A : Around) (outer : List PySem.Env) (s : Shared) (H : Hp) (E : XK), Room k (A.deeper (PyProof.Rows.envOfC qual (defScope st) s.heap.objs.size f cdv)) →
      PSs (cxOf (L2.CX P w) P w K mg base N qual (defScope st) f cdv A outer s H E) (defBody st) (t fun cls d _ H' => E cls d H'))
    (run : RunOkX K pin t N.length ap) :
    FnOk P w K mg base (L2.CX P w) (k + 1) f fd ps (toSpX K ap) := by
  refine F.okX S (fun vs H Q E h => ?_) (fun cdv A outer s H vs Q E hr h => ?_)
  · obtain ⟨B, as, Post, XP, E1, ha, _⟩ := h
    have := E1.len
    rw [List.length_map] at this
    rw [this]; exact hlen as Post XP ha
  · obtain ⟨B, as, Post, XP, E1, ha, q, qx⟩ := h
    refine ⟨_, body cdv A outer s H E hr, ?_⟩
    have hl : vs.length = as.length := by have := E1.len; simpa using this
    have hps : as.length ≤ N.length := by rw [hlen as Post XP ha]; exact of_decide_eq_true hN
    have E0 := env_start E1 hps
    have fin : ∀ v σ' B' H' r Γ', GoS K pin (L2.start N vs) B H (as ++ List.replicate (N.length - as.length) .un) σ' B' H' Γ' → ReOk K [] (Own (L2.start N vs) (as ++ List.replicate (N.length - as.length) .un)) (Own σ' Γ') B' H H' v r → Post r (exitArgs pin Γ' as) → Q v H' := by
      intro v σ' B' H' r Γ' g kk p
      obtain ⟨g', kr⟩ := exit_go E1 hl g
      exact q v B' H' r _ g' (kr v r kk) p
    exact run _ as Post XP ha (L2.start N vs) B H _ E0 (fun σ' B' H' Γ' g p => fin .non σ' B' H' (.val .non) Γ' g (Is.raw _) p) (fun v σ' B' H' r Γ' g kk p => fin v σ' B' H' r Γ' g kk p) (fun _ _ _ _ _ p => p.elim) (fun _ _ _ _ _ p => p.elim)
      (fun cls d fs σ' B' H' Γ' g hx p => qx cls d fs B' H' _ (exit_go E1 hl g).1 hx p)
end
def tRaise (W : WX) (cls : Value) : TS := fun _ σ H => W cls none σ H
section
variable {K : PySem.W.Frag} {pin : List Nat} {Γ : List Sl} {P : Ps} {Post : Re → List Sl → Prop} {te : TE} {ta : TA}
theorem ws_raise {W : WX} {cls : Value} (hW : P.ex.W = W) (p : P.ex.q cls [] Γ) : WS K pin (tRaise W cls) Γ P := fun σ B H D E n r b c xx => by
  subst hW
  exact xx cls none [] σ B H Γ (.refl E) .none p
def WX' (K : PySem.W.Frag) (X : Ex) (te : TE) (Γ : List Sl) (Post : Re → List Sl → Prop) : Prop := ∀ σ B H, Env K B H σ Γ → ∀ Q : VK,
  (∀ v B' H' r Γ', Go K σ B H Γ B' H' Γ' → ReOk K σ (Own σ Γ) (Own σ Γ') B' H H' v r → Post r Γ' → Q v H') →
  (∀ cls d fs B' H' Γ', Go K σ B H Γ B' H' Γ' → ExB K B' d fs → X.q cls fs Γ' → X.W cls d σ H') → te σ H Q
theorem ws_retX (h : WX' K P.ex te Γ fun z Γ1 => z.free = true ∧ P.rt z Γ1) : WS K pin (tRet te) Γ P := fun σ B H D E n r b c xx =>
  h σ B H E _ (fun v B1 H1 z Γ1 g k ⟨hf, p⟩ => r v σ B1 H1 z Γ1 g.s (k.off hf) p) fun cls d fs B1 H1 Γ1 g hx p => xx cls d fs σ B1 H1 Γ1 g.s hx p
theorem ws_asgX {i : Nat} (hp : pin.contains i = false) (hi : decide (i < Γ.length) = true) (h : WX' K P.ex te Γ fun z Γ1 => NormP (Γ1.set i (slOf z)) P.nx) : WS K pin (tAsg te (gName i)) Γ P := fun σ B H D E n r b c xx =>
  h σ B H E _ (fun v B1 H1 z Γ1 g k p => n _ B1 H1 _ (goS_set g k hp (by rw [← g.env.len, E.len]; exact of_decide_eq_true hi)) p) fun cls d fs B1 H1 Γ1 g hx p => xx cls d fs σ B1 H1 Γ1 g.s hx p
end
end Ab

namespace Ab
open PySem L2
section
variable {K : PySem.W.Frag} {B H B' H' : Hp} {σ τ σ' : L2.St} {Γ Δ Γ' : List Sl} {pin : List Nat}
theorem pre_get {α : Type} {a b : List α} {i : Nat} {x : α} (h : a[i]? = some x) : (a ++ b)[i]? = some x := by
  rw [List.getElem?_append_left (List.getElem?_eq_some_iff.mp h).1]; exact h
theorem app_get {α : Type} {a b : List α} {i : Nat} {x : α} (h : (a ++ b)[i]? = some x) : a[i]? = some x ∨ (a.length ≤ i ∧ b[i - a.length]? = some x) := by
  by_cases hi : i < a.length
  · rw [List.getElem?_append_left hi] at h; exact .inl h
  · rw [List.getElem?_append_right (by omega)] at h; exact .inr ⟨by omega, h⟩
theorem own_pre {a : Addr} (h : Own σ Γ a) : Own (σ ++ τ) (Γ ++ Δ) a := by
  obtain ⟨i, c, h1, h2⟩ := h
  exact ⟨i, c, pre_get h1, pre_get h2⟩
theorem env_ext (E : Env K B H (σ ++ τ) (Γ ++ Δ)) (hl : σ.length = Γ.length) (g : GoS K pin σ B H Γ σ' B' H' Γ') : Env K B' H' (σ' ++ τ) (Γ' ++ Δ) := by
  have hl' := g.env.len
  have hL : τ.length = Δ.length := by have := E.len; rw [List.length_append, List.length_append] at this; omega
  -- a cell of a field
  have cell : ∀ {i : Nat} {c : Cn}, Δ[i]? = some (.cel c) → ∃ l o, τ[i]? = some (some (.ref l)) ∧ H l = some o ∧ B l = none ∧ CnIs K B l o c ∧ ¬ Own σ Γ l := fun {i c} h => by
    have h1 : (Γ ++ Δ)[Γ.length + i]? = some (.cel c) := by rw [List.getElem?_append_right (by omega), Nat.add_sub_cancel_left]; exact h
    obtain ⟨l, o, e1, e2, e3, e4⟩ := E.cel _ c h1
    have e1' : τ[i]? = some (some (.ref l)) := by rw [List.getElem?_append_right (by omega)] at e1; rw [← e1]; congr 1; omega
    refine ⟨l, o, e1', e2, e3, e4, fun ⟨j, d, q1, q2⟩ => ?_⟩
    have hj := (List.getElem?_eq_some_iff.mp q1).1
    have := E.sep j (Γ.length + i) d c l (pre_get q1) h1 (pre_get q2) e1
    omega
  refine ⟨by rw [List.length_append, List.length_append, hl', hL], g.env.bh, fun i d h => ?_, fun i c h => ?_, fun i j c d l h1 h2 h3 h4 => ?_⟩
  · rcases app_get h with h | ⟨hi, h⟩
    · obtain ⟨v, e1, e2⟩ := g.env.val i d h
      exact ⟨v, pre_get e1, e2⟩
    · have h1 : (Γ ++ Δ)[Γ.length + (i - Γ'.length)]? = some (.val d) := by rw [List.getElem?_append_right (by omega), Nat.add_sub_cancel_left]; exact h
      obtain ⟨v, e1, e2⟩ := E.val _ d h1
      refine ⟨v, ?_, e2.mono g.mv.bb⟩
      rw [List.getElem?_append_right (by omega)] at e1
      rw [List.getElem?_append_right (by omega), ← e1]; congr 1; omega
  · rcases app_get h with h | ⟨hi, h⟩
    · obtain ⟨l, o, e1, e2⟩ := g.env.cel i c h
      exact ⟨l, o, pre_get e1, e2⟩
    · obtain ⟨l, o, e1, e2, e3, e4, e5⟩ := cell h
      refine ⟨l, o, ?_, g.mv.kp l o e5 e2, g.mv.off l e5 (by rw [e2]; exact fun z => nomatch z) e3, e4.mono g.mv.bb⟩
      rw [List.getElem?_append_right (by omega), hl']; exact e1
  · have mix : ∀ {i j : Nat} {c d : Cn}, Γ'[i]? = some (.cel c) → Δ[j - Γ'.length]? = some (.cel d) → Γ'.length ≤ j → (σ' ++ τ)[i]? = some (some (.ref l)) → (σ' ++ τ)[j]? = some (some (.ref l)) → False := fun {i j c d} h1 h2 hj h3 h4 => by
      have hi := (List.getElem?_eq_some_iff.mp h1).1
      rw [List.getElem?_append_left (by omega)] at h3
      rw [List.getElem?_append_right (by omega), hl'] at h4
      obtain ⟨l', o, e1, e2, e3, e4, e5⟩ := cell h2
      rw [h4] at e1; cases e1
      rcases g.new l ⟨i, c, h1, h3⟩ with z | z
      · exact e5 z
      · rw [z] at e2; cases e2
    rcases app_get h1 with a1 | ⟨i1, a1⟩
    · rcases app_get h2 with a2 | ⟨i2, a2⟩
      · have b1 := (List.getElem?_eq_some_iff.mp a1).1
        have b2 := (List.getElem?_eq_some_iff.mp a2).1
        rw [List.getElem?_append_left (by omega)] at h3 h4
        exact g.env.sep i j c d l a1 a2 h3 h4
      · exact (mix a1 a2 i2 h3 h4).elim
    · rcases app_get h2 with a2 | ⟨i2, a2⟩
      · exact (mix a2 a1 i1 h4 h3).elim
      · have c1 : (Γ ++ Δ)[Γ.length + (i - Γ'.length)]? = some (.cel c) := by rw [List.getElem?_append_right (by omega), Nat.add_sub_cancel_left]; exact a1
        have c2 : (Γ ++ Δ)[Γ.length + (j - Γ'.length)]? = some (.cel d) := by rw [List.getElem?_append_right (by omega), Nat.add_sub_cancel_left]; exact a2
        rw [List.getElem?_append_right (by omega)] at h3 h4
        have d1 : (σ ++ τ)[Γ.length + (i - Γ'.length)]? = some (some (.ref l)) := by rw [List.getElem?_append_right (by omega), ← h3]; congr 1; omega
        have d2 : (σ ++ τ)[Γ.length + (j - Γ'.length)]? = some (some (.ref l)) := by rw [List.getElem?_append_right (by omega), ← h4]; congr 1; omega
        have := E.sep _ _ c d l c1 c2 d1 d2
        omega
end
structure Mj (K : PySem.W.Frag) (C x dx : Addr) (σ τ : L2.St) (B H : Hp) (Γ Δ : List Sl) (ns : List Str) : Prop where
  len : σ.length = Γ.length
  env : Env K B H (σ ++ τ) (Γ ++ Δ)
  sl : σ[0]? = some (some (.ref x))
  un : Γ[0]? = some .un
  no : ¬ Own (σ ++ τ) (Γ ++ Δ) x
  fs : ∃ vs : List V, τ = vs.map some ∧ H x = some (.ins C dx (ns.zip vs)) ∧ vs.length = ns.length
  bx : B x = none
structure GoJ (K : PySem.W.Frag) (C x dx : Addr) (σ τ : L2.St) (B H : Hp) (Γ Δ : List Sl) (σ' τ' : L2.St) (B' H' : Hp) (Γ' Δ' : List Sl) (ns' : List Str) : Prop where
  mv : Mv (fun a => Own (σ ++ τ) (Γ ++ Δ) a ∨ a = x) B H B' H'
  new : ∀ a, Own (σ' ++ τ') (Γ' ++ Δ') a → Own (σ ++ τ) (Γ ++ Δ) a ∨ H a = none
  mg : Mj K C x dx σ' τ' B' H' Γ' Δ' ns'
section
variable {K : PySem.W.Frag} {C x dx : Addr} {σ τ σ1 τ1 σ2 τ2 : L2.St} {B H B1 H1 B2 H2 : Hp} {Γ Δ Γ1 Δ1 Γ2 Δ2 : List Sl} {ns ns1 ns2 : List Str} {pin : List Nat}
theorem Mj.hx (M : Mj K C x dx σ τ B H Γ Δ ns) : H x ≠ none := by
  obtain ⟨vs, _, h, _⟩ := M.fs
  rw [h]; exact fun z => nomatch z
theorem GoJ.trans (a : GoJ K C x dx σ τ B H Γ Δ σ1 τ1 B1 H1 Γ1 Δ1 ns1) (b : GoJ K C x dx σ1 τ1 B1 H1 Γ1 Δ1 σ2 τ2 B2 H2 Γ2 Δ2 ns2) : GoJ K C x dx σ τ B H Γ Δ σ2 τ2 B2 H2 Γ2 Δ2 ns2 :=
  ⟨a.mv.trans (fun c hc => hc.elim (fun h => (a.new c h).imp .inl id) fun h => .inl (.inr h)) b.mv, fun c h => (b.new c h).elim (fun z => a.new c z) fun z => (a.mv.back z).elim (fun q => q.elim .inl fun e => by
    subst e
    exact absurd z a.mg.hx) .inr, b.mg⟩
theorem GoJ.refl (M : Mj K C x dx σ τ B H Γ Δ ns) : GoJ K C x dx σ τ B H Γ Δ σ τ B H Γ Δ ns := ⟨Mv.refl _ _ _, fun _ h => .inl h, M⟩
theorem GoJ.of (M : Mj K C x dx σ τ B H Γ Δ ns) (g : GoS K pin σ B H Γ σ1 B1 H1 Γ1) (hp : 0 ∈ pin) (hu : Γ1[0]? = some .un) : GoJ K C x dx σ τ B H Γ Δ σ1 τ B1 H1 Γ1 Δ ns := by
  have no : ¬ Own σ Γ x := fun z => M.no (own_pre z)
  have hL : τ.length = Δ.length := by have := M.env.len; rw [List.length_append, List.length_append] at this; have := M.len; omega
  have new : ∀ a, Own (σ1 ++ τ) (Γ1 ++ Δ) a → Own (σ ++ τ) (Γ ++ Δ) a ∨ H a = none := fun a ⟨i, c, h1, h2⟩ => by
    have hl1 := g.env.len
    rcases app_get h1 with h1 | ⟨hi, h1⟩
    · have := (List.getElem?_eq_some_iff.mp h1).1
      rw [List.getElem?_append_left (by omega)] at h2
      exact (g.new a ⟨i, c, h1, h2⟩).imp own_pre id
    · rw [List.getElem?_append_right (by omega), hl1] at h2
      refine .inl ⟨Γ.length + (i - Γ1.length), c, ?_, ?_⟩
      · rw [List.getElem?_append_right (by omega), Nat.add_sub_cancel_left]; exact h1
      · rw [List.getElem?_append_right (by have := M.len; omega), ← h2]; congr 1; have := M.len; omega
  obtain ⟨vs, e1, e2, e3⟩ := M.fs
  refine ⟨⟨fun a o na e => g.mv.kp a o (fun z => na (.inl (own_pre z))) e, g.mv.bb, fun a na ha hb => g.mv.off a (fun z => na (.inl (own_pre z))) ha hb⟩, new, ⟨g.env.len, env_ext M.env M.len g, ?_, hu, fun z => ?_, ⟨vs, e1, g.mv.kp x _ no e2, e3⟩, g.mv.off x no M.hx M.bx⟩⟩
  · rw [g.pin 0 hp]; exact M.sl
  · rcases new x z with z | z
    · exact M.no z
    · exact M.hx z
theorem GoJ.put (M : Mj K C x dx σ τ B H Γ Δ ns) {j : Nat} {ds es : List Dt} {l : Addr} {ys : List V} (h : Δ[j]? = some (.acc ds)) (hl : τ[j]? = some (some (.ref l))) (ha : IsA K B ys es) :
    GoJ K C x dx σ τ B H Γ Δ σ τ B (upd H l (.lst ys)) Γ (Δ.set j (.acc es)) ns := by
  have h' : (Γ ++ Δ)[Γ.length + j]? = some (.acc ds) := by rw [List.getElem?_append_right (by omega), Nat.add_sub_cancel_left]; exact h
  have hl' : (σ ++ τ)[Γ.length + j]? = some (some (.ref l)) := by rw [List.getElem?_append_right (by have := M.len; omega), M.len, Nat.add_sub_cancel_left]; exact hl
  have g := Go.put M.env h' hl' ha
  have es' : (Γ ++ Δ).set (Γ.length + j) (.acc es) = Γ ++ Δ.set j (.acc es) := by
    rw [List.set_append_right _ _ (by omega), Nat.add_sub_cancel_left]
  rw [es'] at g
  have own : Own (σ ++ τ) (Γ ++ Δ) l := ⟨_, _, h', hl'⟩
  have nx : x ≠ l := fun z => by subst z; exact M.no own
  obtain ⟨vs, e1, e2, e3⟩ := M.fs
  exact ⟨⟨fun a o na e => g.mv.kp a o (fun z => na (.inl z)) e, g.mv.bb, fun a na ha hb => g.mv.off a (fun z => na (.inl z)) ha hb⟩, fun a z => .inl (g.sub a z), ⟨M.len, g.env, M.sl, M.un, fun z => M.no (g.sub x z), ⟨vs, e1, by rw [upd_ne nx]; exact e2, e3⟩, M.bx⟩⟩
theorem zip_get {ns : List Str} {vs : List V} {f : Str} {j : Nat} {v : V} (hj : ns[j]? = some f) (hn : ∀ i, i < j → ∀ g, ns[i]? = some g → ¬ f = g) (hv : vs[j]? = some v) : (ns.zip vs).lookup f = some v := by
  induction ns generalizing vs j with
  | nil => simp at hj
  | cons n r ih =>
    cases vs with
    | nil => simp at hv
    | cons u us =>
      cases j with
      | zero =>
        simp at hj hv; subst hj hv
        have hb : (n == n) = true := beq_iff_eq.mpr rfl
        simp only [List.zip_cons_cons, List.lookup, hb]
      | succ j =>
        have hne := hn 0 (by omega) n rfl
        have hb : (f == n) = false := beq_eq_false_iff_ne.mpr hne
        simp only [List.zip_cons_cons, List.lookup, hb]
        exact ih (by simpa using hj) (fun i hi g hg => hn (i + 1) (by omega) g (by simpa using hg)) (by simpa using hv)
end
section
variable {K : PySem.W.Frag} {C : Addr} {Γ Δ : List Sl} {ns : List Str} {P : List Sl → List Sl → List Str → Prop} {t u tb : TS} {te : TE} {g : TG}
end
section
variable {K : PySem.W.Frag} {C : Addr} {Γ Δ : List Sl} {ns : List Str} {P : List Sl → List Sl → List Str → Prop} {Post : Dt → List Sl → Prop} {t u tb : TS} {te ta tb' : TE} {g : TG} {f : Str} {j : Nat}
theorem Mj.cell {x dx : Addr} {σ τ : L2.St} {B H : Hp} {ds : List Dt} (M : Mj K C x dx σ τ B H Γ Δ ns) (hf : ns[j]? = some f) (hn : ∀ i, i < j → ∀ g, ns[i]? = some g → ¬ f = g) (h : Δ[j]? = some (.acc ds)) :
    ∃ l vs fs, τ[j]? = some (some (.ref l)) ∧ H l = some (.lst vs) ∧ IsA K B vs ds ∧ H x = some (.ins C dx fs) ∧ fs.lookup f = some (.ref l) := by
  have h' : (Γ ++ Δ)[Γ.length + j]? = some (.acc ds) := by rw [List.getElem?_append_right (by omega), Nat.add_sub_cancel_left]; exact h
  obtain ⟨l, vs, e1, e2, e3, e4⟩ := M.env.acc _ _ h'
  rw [List.getElem?_append_right (by have := M.len; omega), M.len, Nat.add_sub_cancel_left] at e1
  obtain ⟨us, f1, f2, f3⟩ := M.fs
  have hu : us[j]? = some (.ref l) := by
    rw [f1, List.getElem?_map] at e1
    cases q : us[j]? with
    | none => rw [q] at e1; cases e1
    | some u => rw [q] at e1; cases e1; rfl
  exact ⟨l, vs, _, e1, e2, e4, f2, zip_get hf hn hu⟩
end
end Ab

namespace Ab
open PySem L2
def CS (z : Str) : Prop := ∀ c ∈ z.cps.toList, c < 1114112
theorem CS.app {a b : Str} (ha : CS a) (hb : CS b) : CS (a ++ b) := fun c hc => by
  have e : (a ++ b).cps.toList = a.cps.toList ++ b.cps.toList := by show (a.cps ++ b.cps).toList = _; simp
  rw [e] at hc
  rcases List.mem_append.mp hc with h | h
  · exact ha c h
  · exact hb c h
theorem CS.cut {z : Str} (h : CS z) (lo hi : Option Int) : CS (cutS z lo hi) := fun c hc => by
  unfold cutS at hc
  exact h c (List.mem_of_mem_drop (List.mem_of_mem_take (by simpa using hc)))
theorem CS.nil : CS "" := fun c hc => by
  have : (("" : Str)).cps.toList = [] := by decide +kernel
  rw [this] at hc
  cases hc
theorem CS.join : ∀ {ys : List Str}, (∀ y ∈ ys, CS y) → CS (Txt.join "" ys)
  | [], _ => by rw [TL.join_eq]; exact fun c hc => nomatch hc
  | [x], h => by rw [TL.join_eq]; exact h x List.mem_cons_self
  | x :: y :: r, h => by
    have ih := CS.join (ys := y :: r) fun z hz => h z (List.mem_cons_of_mem _ hz)
    rw [TL.join_eq] at ih ⊢
    show CS (x ++ "" ++ Str.join "" (y :: r))
    exact ((h x List.mem_cons_self).app CS.nil).app ih
theorem CS.one {c : Nat} (h : c < 1114112) : CS ⟨#[c]⟩ := fun d hd => by
  rw [List.mem_singleton.mp (show d ∈ [c] from hd)]
  exact h
theorem join_len : ∀ (ys : List Str), (Txt.join "" ys).length = (ys.map (·.length)).sum
  | [] => by rw [TL.join_eq]; rfl
  | [x] => by rw [TL.join_eq]; show x.length = _; simp
  | x :: y :: r => by
    have ih := join_len (y :: r)
    rw [TL.join_eq] at ih ⊢
    show (x ++ "" ++ Str.join "" (y :: r)).length = _
    rw [PySem.Str.length_append, PySem.Str.length_append, ih]
    show x.length + 0 + _ = _
    simp
theorem ones_len {ys : List Str} (h : ∀ y ∈ ys, y.length = 1) : (ys.map (·.length)).sum = ys.length := by
  induction ys with
  | nil => rfl
  | cons x r ih =>
    rw [List.map_cons, List.sum_cons, ih fun y hy => h y (List.mem_cons_of_mem _ hy), h x List.mem_cons_self, List.length_cons]
    omega
def Az (z : Str) : Prop := ∀ c ∈ z.cps.toList, 97 ≤ c ∧ c ≤ 122
theorem Az.cs {z : Str} (h : Az z) : CS z := fun c hc => by have := h c hc; omega
theorem Az.app {a b : Str} (ha : Az a) (hb : Az b) : Az (a ++ b) := fun c hc => by
  have e : (a ++ b).cps.toList = a.cps.toList ++ b.cps.toList := by show (a.cps ++ b.cps).toList = _; simp
  rw [e] at hc
  rcases List.mem_append.mp hc with h | h
  · exact ha c h
  · exact hb c h
theorem Az.cut {z : Str} (h : Az z) (lo hi : Option Int) : Az (cutS z lo hi) := fun c hc => by
  unfold cutS at hc
  exact h c (List.mem_of_mem_drop (List.mem_of_mem_take (by simpa using hc)))
theorem Az.nil : Az "" := fun c hc => by
  have : (("" : Str)).cps.toList = [] := by decide +kernel
  rw [this] at hc
  cases hc
theorem join_all {Pc : Nat → Prop} : ∀ {ys : List Str}, (∀ y ∈ ys, ∀ c ∈ y.cps.toList, Pc c) → ∀ c ∈ (Txt.join "" ys).cps.toList, Pc c
  | [], _ => by rw [TL.join_eq]; exact fun c hc => nomatch hc
  | [x], h => by rw [TL.join_eq]; exact h x List.mem_cons_self
  | x :: y :: r, h => by
    have ih := join_all (ys := y :: r) fun z hz => h z (List.mem_cons_of_mem _ hz)
    rw [TL.join_eq] at ih ⊢
    show ∀ c ∈ (x ++ "" ++ Str.join "" (y :: r)).cps.toList, Pc c
    have e : (x ++ "" ++ Str.join "" (y :: r)).cps.toList = x.cps.toList ++ (Str.join "" (y :: r)).cps.toList := by show ((x.cps ++ #[]) ++ (Str.join "" (y :: r)).cps).toList = _; simp
    intro c hc
    rw [e] at hc
    rcases List.mem_append.mp hc with h1 | h1
    · exact h x List.mem_cons_self c h1
    · exact ih c h1
def signs : Str := " abcdefghijklmnopqrstuvwxyzABCDEFGHIJKLMNOPQRSTUVWXYZ0123456789.,;:!?'()|"
def Tx (z : Str) : Prop := ∀ c ∈ z.cps.toList, c ∈ signs.cps.toList
theorem signs_cs : ∀ c ∈ signs.cps.toList, c < 1114112 := by decide +kernel
theorem Tx.cs {z : Str} (h : Tx z) : CS z := fun c hc => signs_cs c (h c hc)
end Ab

namespace Ab
open PySem L2
abbrev Ty := Dt → Prop
inductive TIs (e : Dt) : Ty where
  | mk : TIs e e
inductive TInt (lo hi : Int) : Ty where
  | mk {i : Int} (h0 : lo ≤ i) (h1 : i ≤ hi) : TInt lo hi (.int i)
inductive TBl : Ty where
  | mk {b : Bool} : TBl (.bl b)
inductive TStr (n m : Nat) : Ty where
  | mk {z : Str} (h0 : n ≤ z.length) (h1 : z.length ≤ m) : TStr n m (.str z)
inductive TNm (n m : Nat) : Ty where
  | mk {z : Str} (h0 : n ≤ z.length) (h1 : z.length ≤ m) (ha : Az z) : TNm n m (.str z)
inductive T1 (A : Ty) : Ty where
  | mk {a : Dt} (ha : A a) : T1 A (.tup [a])
inductive T2 (A B : Ty) : Ty where
  | mk {a b : Dt} (ha : A a) (hb : B b) : T2 A B (.tup [a, b])
inductive T3 (A B C : Ty) : Ty where
  | mk {a b c : Dt} (ha : A a) (hb : B b) (hc : C c) : T3 A B C (.tup [a, b, c])
inductive T4 (A B C D : Ty) : Ty where
  | mk {a b c d : Dt} (ha : A a) (hb : B b) (hc : C c) (hd : D d) : T4 A B C D (.tup [a, b, c, d])
inductive TTs (A : Ty) (n m : Nat) : Ty where
  | mk {ds : List Dt} (h0 : n ≤ ds.length) (h1 : ds.length ≤ m) (h : ∀ d ∈ ds, A d) : TTs A n m (.tup ds)
inductive TLs (A : Ty) (n m : Nat) : Ty where
  | mk {ds : List Dt} (h0 : n ≤ ds.length) (h1 : ds.length ≤ m) (h : ∀ d ∈ ds, A d) : TLs A n m (.lst ds)
abbrev STy := Sl → Prop
inductive SAny : STy where
  | mk {s : Sl} : SAny s
inductive SIs (t : Sl) : STy where
  | mk : SIs t t
inductive SVal (A : Ty) : STy where
  | mk {d : Dt} (h : A d) : SVal A (.val d)
inductive SAcc (A : Ty) (n m : Nat) : STy where
  | mk {ds : List Dt} (h0 : n ≤ ds.length) (h1 : ds.length ≤ m) (h : ∀ d ∈ ds, A d) : SAcc A n m (.cel (.lst ds))
inductive SPool (b : Int) : STy where
  | mk {ds : List Dt} (h : PoolUp b ds) : SPool b (.cel (.lst ds))
inductive EnvT : List STy → List Sl → Prop where
  | nil : EnvT [] []
  | cons {S : STy} {s : Sl} {D : List STy} {G : List Sl} (h : S s) (t : EnvT D G) : EnvT (S :: D) (s :: G)
theorem EnvT.len : ∀ {D : List STy} {G : List Sl}, EnvT D G → G.length = D.length
  | _, _, .nil => rfl
  | _, _, .cons _ t => by rw [List.length_cons, List.length_cons, t.len]
inductive RVal (A : Ty) : Re → Prop where
  | mk {d : Dt} (h : A d) : RVal A (.val d)
inductive RNew (A : Ty) (n m : Nat) : Re → Prop where
  | mk {ds : List Dt} (h0 : n ≤ ds.length) (h1 : ds.length ≤ m) (h : ∀ d ∈ ds, A d) : RNew A n m (.nw (.lst ds))
theorem ws_norm {K : PySem.W.Frag} {pin : List Nat} {Γ Γ' : List Sl} {P : Ps} {t : TS} (e : Γ = Γ') (h : WS K pin t Γ' P) : WS K pin t Γ P := by
  subst e
  exact h
section
variable {Γ : List Sl} {Post : Re → List Sl → Prop}
theorem ixp_k {ra : Re} {ds : List Dt} {k : Int} (h1 : seqOf Γ ra = some ds) (h2 : 0 ≤ k) (h3 : k < ds.length) (p : ∀ d, d ∈ ds → Post (.val d) Γ) : IxP ra (.val (.int k)) Γ Post := by
  have hk : k.toNat < ds.length := by omega
  exact ixp h1 (atI_of (j := k.toNat) (by omega) (List.getElem?_eq_getElem hk)) (p _ (List.getElem_mem hk))
theorem ixp_c0 {ra : Re} {a : Dt} {l : List Dt} (h1 : seqOf Γ ra = some (a :: l)) (p : Post (.val a) Γ) : IxP ra (.val (.int 0)) Γ Post := ixp h1 (atI_of (j := 0) rfl rfl) p
theorem ixp_kT {A : Ty} {ra : Re} {ds : List Dt} {k : Int} (h1 : seqOf Γ ra = some ds) (h2 : 0 ≤ k) (h3 : k < ds.length) (h4 : ∀ d ∈ ds, A d) (p : ∀ d, A d → Post (.val d) Γ) : IxP ra (.val (.int k)) Γ Post := ixp_k h1 h2 h3 fun d hd => p d (h4 d hd)
theorem ixp_sk {z : Str} {k : Int} (hz : z.length ≤ 1000000) (h2 : 0 ≤ k) (h3 : k < z.length) (p : ∀ c, c ∈ z.cps.toList → Post (.val (.str ⟨#[c]⟩)) Γ) : IxP (.val (.str z)) (.val (.int k)) Γ Post := by
  have e : z.length = z.cps.toList.length := by simp [Str.length]
  have hk : k.toNat < z.cps.toList.length := by omega
  exact ixp_s hz (atI_of (j := k.toNat) (by omega) (List.getElem?_eq_getElem hk)) (p _ (List.getElem_mem hk))
end
theorem all_nil {A : Ty} : ∀ d ∈ ([] : List Dt), A d := fun _ h => nomatch h
theorem all_cons {A : Ty} {a : Dt} {l : List Dt} (h : A a) (t : ∀ d ∈ l, A d) : ∀ d ∈ a :: l, A d := fun d hd => (List.mem_cons.mp hd).elim (fun e => e ▸ h) (t d)
theorem all_app {A : Ty} {l m : List Dt} (h : ∀ d ∈ l, A d) (t : ∀ d ∈ m, A d) : ∀ d ∈ l ++ m, A d := fun d hd => (List.mem_append.mp hd).elim (h d) (t d)
theorem all_take {A : Ty} {l : List Dt} {n : Nat} (h : ∀ d ∈ l, A d) : ∀ d ∈ l.take n, A d := fun d hd => h d (List.mem_of_mem_take hd)
theorem all_drop {A : Ty} {l : List Dt} {n : Nat} (h : ∀ d ∈ l, A d) : ∀ d ∈ l.drop n, A d := fun d hd => h d (List.mem_of_mem_drop hd)
theorem all_set {A : Ty} {l : List Dt} {n : Nat} {a : Dt} (h : ∀ d ∈ l, A d) (ha : A a) : ∀ d ∈ l.set n a, A d := fun d hd => (List.mem_or_eq_of_mem_set hd).elim (h d) (fun e => e ▸ ha)
theorem all_erase {A : Ty} {l : List Dt} {n : Nat} (h : ∀ d ∈ l, A d) : ∀ d ∈ l.eraseIdx n, A d := fun d hd => h d (List.mem_of_mem_eraseIdx hd)
theorem all_cut {A : Ty} {l : List Dt} {a b : Option Int} (h : ∀ d ∈ l, A d) : ∀ d ∈ cutD l a b, A d := by
  unfold cutD
  exact all_take (all_drop h)
theorem all_mono {A B : Ty} {l : List Dt} (h : ∀ d ∈ l, A d) (k : ∀ d, A d → B d) : ∀ d ∈ l, B d := fun d hd => k d (h d hd)
theorem nms_of {n m : Nat} : ∀ {ds : List Dt}, (∀ d ∈ ds, TNm n m d) → ∃ xs : List Str, ds = xs.map Dt.str ∧ ∀ z ∈ xs, n ≤ z.length ∧ z.length ≤ m ∧ Az z
  | [], _ => ⟨[], rfl, (fun _ h => nomatch h)⟩
  | d :: r, h => by
    obtain ⟨xs, e, hx⟩ := nms_of (ds := r) fun y hy => h y (List.mem_cons_of_mem _ hy)
    cases h d List.mem_cons_self with
    | mk h0 h1 h2 =>
      rename_i z
      refine ⟨z :: xs, by rw [e]; rfl, fun y hy => ?_⟩
      rcases List.mem_cons.mp hy with rfl | hy
      · exact ⟨h0, h1, h2⟩
      · exact hx y hy
theorem nms_all {n m : Nat} {xs : List Str} (h : ∀ z ∈ xs, n ≤ z.length ∧ z.length ≤ m ∧ Az z) : ∀ d ∈ xs.map Dt.str, TNm n m d := fun d hd => by
  obtain ⟨z, hz, rfl⟩ := List.mem_map.mp hd
  exact .mk (h z hz).1 (h z hz).2.1 (h z hz).2.2
theorem Az.one {c : Nat} (h : 97 ≤ c ∧ c ≤ 122) : Az ⟨#[c]⟩ := fun d hd => by
  rw [List.mem_singleton.mp (show d ∈ [c] from hd)]
  exact h
theorem az_abc : Az "abcdefghijklmnopqrstuvwxyz" := by unfold Az; decide +kernel
theorem cutS_both {z : Str} {k : Int} (h0 : 0 ≤ k) : (cutS z none (some k)).length + (cutS z (some k) none).length = z.length := by
  obtain ⟨m, rfl⟩ := Int.eq_ofNat_of_zero_le h0
  have e : z.cps.toList.length = z.length := by rw [Array.length_toList]; rfl
  unfold cutS
  show (List.toArray _).size + (List.toArray _).size = _
  show (List.toArray ((List.drop (HT.sIx z.length 0 none) z.cps.toList).take (HT.sIx z.length z.length (some ((m : Nat) : Int)) - HT.sIx z.length 0 none))).size + (List.toArray ((List.drop (HT.sIx z.length 0 (some ((m : Nat) : Int))) z.cps.toList).take (HT.sIx z.length z.length none - HT.sIx z.length 0 (some ((m : Nat) : Int))))).size = _
  rw [HT.sIx_none, HT.sIx_none, HT.sIx_nat, HT.sIx_nat, List.drop_zero, Nat.sub_zero, List.size_toArray, List.length_take, List.size_toArray, List.length_take, List.length_drop, e]
  omega
theorem mul_len {n : Int} {c : Nat} : (PySem.Txt.mul ⟨#[c]⟩ n).length = n.toNat ∧ ∀ d ∈ (PySem.Txt.mul ⟨#[c]⟩ n).cps.toList, d = c := by
  have aux : ∀ (m : Nat) (a : Array Nat), (∀ d ∈ a.toList, d = c) → ((List.replicate m #[c]).foldl (· ++ ·) a).size = a.size + m ∧ ∀ d ∈ ((List.replicate m #[c]).foldl (· ++ ·) a).toList, d = c := by
    intro m
    induction m with
    | zero => intro a ha; exact ⟨by simp, by simpa using ha⟩
    | succ m ih =>
      intro a ha
      rw [List.replicate_succ, List.foldl_cons]
      obtain ⟨h1, h2⟩ := ih (a ++ #[c]) (fun d hd => by
        rw [Array.toList_append] at hd
        rcases List.mem_append.mp hd with h | h
        · exact ha d h
        · exact List.mem_singleton.mp h)
      refine ⟨?_, h2⟩
      rw [h1, Array.size_append]
      show a.size + 1 + m = _
      omega
  unfold PySem.Txt.mul
  split
  · rename_i h
    have e : (Str.empty).cps = #[] := rfl
    refine ⟨?_, fun d hd => ?_⟩
    · show 0 = _
      omega
    · rw [e] at hd; simp at hd
  · split
    · rename_i h1 h2
      have hn : n = 1 := by
        rcases Bool.or_eq_true _ _ |>.mp h2 with h | h
        · exact beq_iff_eq.mp h
        · cases h
      subst hn
      exact ⟨rfl, fun d hd => List.mem_singleton.mp (show d ∈ [c] from hd)⟩
    · obtain ⟨h1, h2⟩ := aux n.toNat #[] (fun d hd => by simp at hd)
      refine ⟨?_, h2⟩
      show Array.size _ = _
      rw [h1]
      show 0 + _ = _
      omega
end Ab

namespace Ab
open PySem L2
def rKIn (K : PySem.W.Frag) (d : Addr) : R2 := fun x y H Q => ∃ (z : Str) (r : Option Value), x = .str z ∧ y = .ref d ∧ PySem.W.nsIn K d z = some r ∧ Q (.bl r.isSome) H
def rKNotIn (K : PySem.W.Frag) (d : Addr) : R2 := fun x y H Q => ∃ (z : Str) (r : Option Value), x = .str z ∧ y = .ref d ∧ PySem.W.nsIn K d z = some r ∧ Q (.bl (!r.isSome)) H
def rKI (K : PySem.W.Frag) (d : Addr) : R2 := fun x y H Q => ∃ (z : Str) (u0 : Value) (v0 : V), x = .ref d ∧ y = .str z ∧ PySem.W.nsIn K d z = some (some u0) ∧ RelV v0 u0 ∧ Q v0 H
section
variable {X : Cx} {d : Addr} {es : Array DictEntry} {n : Nat}
def kdTy (d : Addr) : V → Hp → Prop := fun x _ => x = .ref d
def rKGet (K : PySem.W.Frag) (d : Addr) : V → List V → Hp → VK → Prop := fun x xs H Q => ∃ z r, x = .ref d ∧ xs = [.str z] ∧ PySem.W.nsIn K d z = some r ∧ (∀ u, r = some u → ∃ v0, RelV v0 u ∧ Q v0 H) ∧ (r = none → Q .non H)
def rKGet2 (K : PySem.W.Frag) (d : Addr) : V → List V → Hp → VK → Prop := fun x xs H Q => ∃ z y r, x = .ref d ∧ xs = [.str z, y] ∧ PySem.W.nsIn K d z = some r ∧ (∀ u, r = some u → ∃ v0, RelV v0 u ∧ Q v0 H) ∧ (r = none → Q y H)
end

inductive KV (K : PySem.W.Frag) : V → Dt → Prop where
  | raw (v : V) : KV K v (.raw v)
  | tup {a : Addr} {xs : List V} (h : KTup K a xs) : KV K (.ref a) (.tup (xs.map Dt.raw))
theorem KV.is {K : PySem.W.Frag} {B : Hp} {v : V} {d : Dt} (h : KV K v d) : Is K B v d := by
  cases h with
  | raw => exact .raw _
  | @tup a xs h =>
    have ha : IsA K B xs (xs.map Dt.raw) := IsA.raws
    exact Is.tup (.inr h) ha.len ha.at_
def KEnts (K : PySem.W.Frag) : List DictEntry → List (Str × Dt) → Prop
  | [], [] => True
  | e :: es, kv :: kvs => (∃ t, e.key = .str kv.1 t) ∧ (∃ v, RelV v e.val ∧ KV K v kv.2) ∧ KEnts K es kvs
  | _, _ => False
def valS (kvs : List (Str × Dt)) (z : Str) : Option Dt := (kvs.find? fun kv => decide (kv.1 = z)).map (·.2)
structure KDic (K : PySem.W.Frag) (w : World) (c : Addr) (kvs : List (Str × Dt)) : Prop where
  ex : ∃ es n, KDict K w c es n ∧ KEnts K es.toList kvs
theorem KEnts.val {K : PySem.W.Frag} : ∀ {es : List DictEntry} {kvs : List (Str × Dt)}, KEnts K es kvs → ∀ z, (es.any fun e => e.refKey) = false ∧ ((valS kvs z = none ∧ es.find? (fun e => e.key.isStr z) = none) ∨ ∃ e d v, valS kvs z = some d ∧ es.find? (fun e => e.key.isStr z) = some e ∧ RelV v e.val ∧ KV K v d)
  | [], [], _, z => ⟨rfl, .inl ⟨rfl, rfl⟩⟩
  | [], _ :: _, h, _ => h.elim
  | _ :: _, [], h, _ => h.elim
  | e :: es, kv :: kvs, h, z => by
    obtain ⟨⟨t, hk⟩, ⟨v, hv, hd⟩, hr⟩ := h
    obtain ⟨i1, i2⟩ := KEnts.val hr z
    refine ⟨?_, ?_⟩
    · rw [List.any_cons, i1, Bool.or_false]
      unfold DictEntry.refKey
      rw [hk]
    · unfold valS at *
      rw [List.find?_cons, List.find?_cons]
      have e1 : e.key.isStr z = decide (kv.1 = z) := by
        rw [hk]
        show (kv.1 == z) = decide (kv.1 = z)
        rw [Bool.eq_iff_iff]; simp
      rw [e1]
      by_cases c : kv.1 = z
      · rw [decide_eq_true c]
        exact .inr ⟨e, kv.2, v, rfl, rfl, hv, hd⟩
      · rw [decide_eq_false c]
        exact i2
theorem KDic.val {K : PySem.W.Frag} {w : World} {c : Addr} {kvs : List (Str × Dt)} (h : KDic K w c kvs) (z : Str) : (valS kvs z = none ∧ PySem.W.nsIn K c z = some none) ∨ ∃ u d v, valS kvs z = some d ∧ PySem.W.nsIn K c z = some (some u) ∧ RelV v u ∧ KV K v d := by
  obtain ⟨es, n, D, E⟩ := h.ex
  have hn : PySem.W.nsIn K c z = match es.toList.find? (fun x => x.key.isStr z) with
    | some e => some (some e.val)
    | none => if (es.toList.any fun x => x.refKey) = true then none else some none := by
    unfold PySem.W.nsIn; rw [D.at_]
    rfl
  obtain ⟨i1, i2⟩ := E.val z
  rw [hn, i1]
  rcases i2 with ⟨a, b⟩ | ⟨e, d, v, a, b, c1, c2⟩
  · rw [b]; exact .inl ⟨a, rfl⟩
  · rw [b]; exact .inr ⟨e.val, d, v, a, rfl, c1, c2⟩
section
variable {K : PySem.W.Frag} {w : World} {c : Addr} {kvs : List (Str × Dt)} {Γ : List Sl} {Post : Re → List Sl → Prop} {tk tx : TE}
theorem we_ki (D : KDic K w c kvs) (h : WE K tk Γ fun r Γ1 => ∃ z d, r = .val (.str z) ∧ valS kvs z = some d ∧ Post (.val d) Γ1) : WE K (tOp (rKI K c) (tC (.ref c)) tk) Γ Post := fun σ B H E Q q => by
  refine h σ B H E _ fun y B1 H1 r Γ1 g1 k1 p1 => ?_
  obtain ⟨z, d, rfl, hv, p⟩ := p1
  cases Is.rawI k1
  rcases D.val z with ⟨a, _⟩ | ⟨u, d', v, a, b, c1, c2⟩
  · rw [a] at hv; cases hv
  · rw [a] at hv; cases hv
    exact ⟨z, u, v, rfl, rfl, b, c1, q v B1 H1 (.val _) Γ1 g1 c2.is p⟩
theorem we_kin (D : KDic K w c kvs) (h : WE K tk Γ fun r Γ1 => ∃ z, r = .val (.str z) ∧ Post (.val (.bl (valS kvs z).isSome)) Γ1) : WE K (tOp (rKIn K c) tk (tC (.ref c))) Γ Post := fun σ B H E Q q => by
  refine h σ B H E _ fun y B1 H1 r Γ1 g1 k1 p1 => ?_
  obtain ⟨z, rfl, p⟩ := p1
  cases Is.rawI k1
  rcases D.val z with ⟨a, b⟩ | ⟨u, d', v, a, b, _, _⟩
  · exact ⟨z, none, rfl, rfl, b, q _ B1 H1 _ Γ1 g1 (.raw _) (by rw [a] at p; exact p)⟩
  · exact ⟨z, some u, rfl, rfl, b, q _ B1 H1 _ Γ1 g1 (.raw _) (by rw [a] at p; exact p)⟩
theorem we_knotin (D : KDic K w c kvs) (h : WE K tk Γ fun r Γ1 => ∃ z, r = .val (.str z) ∧ Post (.val (.bl (!(valS kvs z).isSome))) Γ1) : WE K (tOp (rKNotIn K c) tk (tC (.ref c))) Γ Post := fun σ B H E Q q => by
  refine h σ B H E _ fun y B1 H1 r Γ1 g1 k1 p1 => ?_
  obtain ⟨z, rfl, p⟩ := p1
  cases Is.rawI k1
  rcases D.val z with ⟨a, b⟩ | ⟨u, d', v, a, b, _, _⟩
  · exact ⟨z, none, rfl, rfl, b, q _ B1 H1 _ Γ1 g1 (.raw _) (by rw [a] at p; exact p)⟩
  · exact ⟨z, some u, rfl, rfl, b, q _ B1 H1 _ Γ1 g1 (.raw _) (by rw [a] at p; exact p)⟩
theorem we_kget1 (D : KDic K w c kvs) (h : WE K tk Γ fun r Γ1 => ∃ z, r = .val (.str z) ∧ (∀ d, valS kvs z = some d → Post (.val d) Γ1) ∧ (valS kvs z = none → Post (.val .non) Γ1)) : WE K (tMG (kdTy c) (rKGet K c) (tC (.ref c)) (tCons tk tNil)) Γ Post := fun σ B H E Q q => by
  refine ⟨rfl, h σ B H E _ fun y B1 H1 r Γ1 g1 k1 p1 => ?_⟩
  obtain ⟨z, rfl, pS, pN⟩ := p1
  cases Is.rawI k1
  rcases D.val z with ⟨a, b⟩ | ⟨u, d', v, a, b, c1, c2⟩
  · exact ⟨z, none, rfl, rfl, b, (fun u h => nomatch h), fun _ => q _ B1 H1 (.val .non) Γ1 g1 (.raw _) (pN a)⟩
  · exact ⟨z, some u, rfl, rfl, b, (fun u' h => by cases h; exact ⟨v, c1, q v B1 H1 (.val _) Γ1 g1 c2.is (pS _ a)⟩), (fun h => nomatch h)⟩
theorem we_kget2 (D : KDic K w c kvs) (h : WE K tk Γ fun r Γ1 => ∃ z, r = .val (.str z) ∧ WE K tx Γ1 fun rx Γ2 => (∀ d, valS kvs z = some d → Post (.val d) Γ2) ∧ (valS kvs z = none → Post rx Γ2)) : WE K (tMG (kdTy c) (rKGet2 K c) (tC (.ref c)) (tCons tk (tCons tx tNil))) Γ Post := fun σ B H E Q q => by
  refine ⟨rfl, h σ B H E _ fun y B1 H1 r Γ1 g1 k1 p1 => ?_⟩
  obtain ⟨z, rfl, p1⟩ := p1
  cases Is.rawI k1
  refine p1 σ B1 H1 g1.env _ fun x B2 H2 rx Γ2 g2 k2 p2 => ?_
  obtain ⟨pS, pN⟩ := p2
  rcases D.val z with ⟨a, b⟩ | ⟨u, d', v, a, b, c1, c2⟩
  · exact ⟨z, x, none, rfl, rfl, b, (fun u h => nomatch h), fun _ => q _ B2 H2 rx Γ2 (g1.trans g2) (ReOk.earlier k2 g1.mv fun a h => .inl (g1.sub a h)) (pN a)⟩
  · exact ⟨z, x, some u, rfl, rfl, b, (fun u' h => by cases h; exact ⟨v, c1, q v B2 H2 (.val _) Γ2 (g1.trans g2) c2.is (pS _ a)⟩), (fun h => nomatch h)⟩
end
def rUpper : V → List V → Hp → VK → Prop := fun x xs H Q => ∃ a, x = .str a ∧ xs = [] ∧ a.length ≤ 5592405 ∧ Q (.str (Txt.upper a)) H
section
variable {K : PySem.W.Frag} {pin : List Nat} {Γ : List Sl} {P : Ps} {Post : Re → List Sl → Prop} {te ta tb : TE} {g : TG} {tb' : TS}
theorem we_upper (h : WE K te Γ fun r Γ1 => ∃ z : Str, r = .val (.str z) ∧ z.length ≤ 5592405 ∧ Post (.val (.str (Txt.upper z))) Γ1) : WE K (tM0 rUpper te) Γ Post := fun σ B H E Q q => by
  refine h σ B H E _ fun y B1 H1 r Γ1 g1 k1 p1 => ?_
  obtain ⟨z, rfl, hz, p⟩ := p1
  cases Is.rawI k1
  exact ⟨⟨z, rfl⟩, z, rfl, rfl, hz, q _ B1 H1 _ Γ1 g1 (.raw _) p⟩
def rgD (a b : Int) : List Dt := (List.range (b - a).toNat).map fun i : Nat => .int (a + (i : Int))
theorem we_listRg2 (h : WE K ta Γ fun ra Γ1 => ∃ a, ra = .val (.int a) ∧ WE K tb Γ1 fun rb Γ2 => ∃ b, rb = .val (.int b) ∧ (-(2 ^ 62) ≤ a ∧ a < 2 ^ 62 ∧ -(2 ^ 62) ≤ b ∧ b < 2 ^ 62 ∧ (b - a).toNat ≤ 1000000) ∧ Post (.new (rgD a b)) Γ2) : WE K (tLstRg (tRg2 ta tb)) Γ Post := fun σ B H E Q q => by
  refine h σ B H E _ fun x B1 H1 ra Γ1 g1 k1 p1 => ?_
  obtain ⟨a, rfl, p1⟩ := p1
  cases Is.rawI k1
  refine p1 σ B1 H1 g1.env _ fun y B2 H2 rb Γ2 g2 k2 p2 => ?_
  obtain ⟨b, rfl, ⟨h1, h2, h3, h4, h5⟩, p⟩ := p2
  cases Is.rawI k2
  refine ⟨a, b, rfl, rfl, ⟨h1, h2, h3, h4, by omega⟩, fun p' hp' => ?_⟩
  have ha : IsA K B2 (rgV a b) (rgD a b) := by
    unfold rgV rgD
    rw [show ((List.range (b - a).toNat).map fun i : Nat => Dt.int (a + (i : Int))) = ((List.range (b - a).toNat).map fun i : Nat => V.int (a + (i : Int))).map Dt.raw by rw [List.map_map]; rfl]
    exact IsA.raws
  have kk : ReOk K σ (Own σ Γ2) (Own σ Γ2) B2 H2 (upd H2 p' (.lst (rgV a b))) (.ref p') (.new (rgD a b)) := ⟨p', _, rfl, .inr hp', g2.env.not_own hp', upd_same, g2.env.base_none hp', _, rfl, ha⟩
  exact q _ _ _ (.new (rgD a b)) Γ2 ((g1.trans g2).trans (Go.beside g2.env hp')) (ReOk.earlier kk (g1.trans g2).mv fun a h => .inl ((g1.trans g2).sub a h)) p
end
theorem norm_nw {c : Cn} : slOf (.nw c) = .cel c := rfl
section
variable {K : PySem.W.Frag} {pin : List Nat} {Γ : List Sl} {P : Ps} {Post : Re → List Sl → Prop} {td ty tv tx : TE}
theorem wp_consS {Po : List (Key × Dt) → List Sl → Prop} {tk tv : TE} {trs : List (TE × TE)} (h : WE K tk Γ fun rk Γ1 => ∃ z, rk = .val (.str z) ∧ WE K tv Γ1 fun rv Γ2 => ∃ d, rv.dt? = some d ∧ WP K trs Γ2 fun kds Γ3 => Po ((.inr z, d) :: kds) Γ3) : WP K ((tk, tv) :: trs) Γ Po :=
  wp_cons (we_mono h fun rk Γ1 ⟨z, e, p⟩ => ⟨.inr z, e, p⟩)
theorem we_dgetS (h : WE K td Γ fun ra Γ1 => WE K ty Γ1 fun rb Γ2 => ∃ kvs z, dkOf Γ2 ra = some kvs ∧ rb = .val (.str z) ∧ ∃ d, valD kvs (.inr z) = some d ∧ Post (.val d) Γ2) : WE K (tDGet td ty) Γ Post :=
  we_dgetK (we_mono h fun ra Γ1 h => we_mono h fun rb Γ2 ⟨kvs, z, e1, e2, d, e3, p⟩ => ⟨kvs, .inr z, d, e1, e2, e3, p⟩)
theorem we_dinS (h : WE K ty Γ fun rb Γ1 => WE K td Γ1 fun ra Γ2 => ∃ kvs z, dkOf Γ2 ra = some kvs ∧ rb = .val (.str z) ∧ Post (.val (.bl (valD kvs (.inr z)).isSome)) Γ2) : WE K (tDIn ty td) Γ Post :=
  we_dinK (we_mono h fun rb Γ1 h => we_mono h fun ra Γ2 ⟨kvs, z, e1, e2, p⟩ => ⟨kvs, .inr z, e1, e2, p⟩)
theorem we_dnotinS (h : WE K ty Γ fun rb Γ1 => WE K td Γ1 fun ra Γ2 => ∃ kvs z, dkOf Γ2 ra = some kvs ∧ rb = .val (.str z) ∧ Post (.val (.bl (!(valD kvs (.inr z)).isSome))) Γ2) : WE K (tDNotIn ty td) Γ Post :=
  we_dnotinK (we_mono h fun rb Γ1 h => we_mono h fun ra Γ2 ⟨kvs, z, e1, e2, p⟩ => ⟨kvs, .inr z, e1, e2, p⟩)
theorem we_dget2S (h : WE K td Γ fun ra Γ1 => (dkOf Γ1 ra).isSome = true ∧ WE K ty Γ1 fun rb Γ2 => WE K tx Γ2 fun rc Γ3 => ∃ kvs z, dkOf Γ3 ra = some kvs ∧ rb = .val (.str z) ∧ (∀ d, valD kvs (.inr z) = some d → Post (.val d) Γ3) ∧ (valD kvs (.inr z) = none → Post rc Γ3)) : WE K (tDGet2 td ty tx) Γ Post :=
  we_dget2K (we_mono h fun ra Γ1 ⟨h0, h⟩ => ⟨h0, we_mono h fun rb Γ2 h => we_mono h fun rc Γ3 ⟨kvs, z, e1, e2, p⟩ => ⟨kvs, .inr z, e1, e2, p⟩⟩)
theorem we_dget1S (h : WE K td Γ fun ra Γ1 => (dkOf Γ1 ra).isSome = true ∧ WE K ty Γ1 fun rb Γ2 => ∃ kvs z, dkOf Γ2 ra = some kvs ∧ rb = .val (.str z) ∧ (∀ d, valD kvs (.inr z) = some d → Post (.val d) Γ2) ∧ (valD kvs (.inr z) = none → Post (.val .non) Γ2)) : WE K (tDGet1 td ty) Γ Post :=
  we_dget1K (we_mono h fun ra Γ1 ⟨h0, h⟩ => ⟨h0, we_mono h fun rb Γ2 ⟨kvs, z, e1, e2, p⟩ => ⟨kvs, .inr z, e1, e2, p⟩⟩)
theorem ws_dputS {i : Nat} (h : WE K tv Γ fun z Γ1 => ∃ d, z.dt? = some d ∧ (∃ kvs1, Γ1[i]? = some (.cel kvs1)) ∧ WE K ty Γ1 fun y Γ2 => ∃ kvs k, y = .val (.str k) ∧ Γ2[i]? = some (.cel (.dK kvs)) ∧ kvs.length < 1000000 ∧ NormP (Γ2.set i (.cel (.dK (putE kvs (.inr k) d)))) P.nx) :
    WS K pin (sDPut (tVar i) ty tv) Γ P :=
  ws_dputK (we_mono h fun z Γ1 ⟨d, h1, h2, h⟩ => ⟨d, h1, h2, we_mono h fun y Γ2 ⟨kvs, k, e1, e2, e3, p⟩ => ⟨kvs, .inr k, e1, e2, e3, p⟩⟩)
end
def look {α κ : Type} [DecidableEq κ] (xs : List (κ × α)) (z : κ) : Option α := (xs.find? fun kv => decide (kv.1 = z)).map (·.2)
theorem valD_look {α : Type} (f : α → Dt) (xs : List (Str × α)) (z : Str) : valD (xs.map fun kv => ((Sum.inr kv.1 : Key), f kv.2)) (Sum.inr z) = (look xs z).map f := by
  unfold valD look
  induction xs with
  | nil => rfl
  | cons x r ih =>
    rw [List.map_cons, List.find?_cons, List.find?_cons]
    by_cases c : x.1 = z
    · rw [decide_eq_true c, decide_eq_true (show (Sum.inr x.1 : Key) = Sum.inr z by rw [c])]; rfl
    · rw [decide_eq_false c, decide_eq_false (show ¬ (Sum.inr x.1 : Key) = Sum.inr z from fun h => c (Sum.inr.inj h))]; exact ih
theorem merge_new : ∀ (more kvs : List (Key × Dt)), ((kvs ++ more).map (·.1)).Nodup → mergeD kvs more = kvs ++ more
  | [], kvs, _ => by rw [List.append_nil]; rfl
  | m :: more, kvs, h => by
    show mergeD (putE kvs m.1 m.2) more = _
    have hv : valD kvs m.1 = none := by
      unfold valD
      rw [Option.map_eq_none_iff, List.find?_eq_none]
      intro x hx hc
      have hc := of_decide_eq_true hc
      rw [List.map_append, List.nodup_append] at h
      exact h.2.2 x.1 (List.mem_map_of_mem hx) m.1 (by rw [List.map_cons]; exact List.mem_cons_self ..) hc
    rw [putE_new hv, merge_new more (kvs ++ [(m.1, m.2)]) (by rw [List.append_assoc]; exact h), List.append_assoc]; rfl
theorem merge_all {kds : List (Key × Dt)} (h : (kds.map (·.1)).Nodup) : mergeD [] kds = kds := merge_new kds [] h
section
variable {K : PySem.W.Frag} {pin : List Nat} {Γ : List Sl} {P : Ps} {te : TE} {g : TG} {tb' : TS}
end
end Ab

namespace Ab
open PySem L2
section
variable {K : PySem.W.Frag} {w : World} {c : Addr} {kvs : List (Str × Dt)} {pin : List Nat} {Γ : List Sl} {P : Ps} {Post : Re → List Sl → Prop} {te : TE}
def rDictD : List V → Hp → VK → Prop := fun xs H Q => ∃ (a : Addr) (kvs : List (Key × V)), xs = [.ref a] ∧ Rd H a (.dK kvs) ∧ ∀ p, H p = none → Q (.ref p) (upd H p (.dK kvs))
theorem we_dictD (h : WE K te Γ fun r Γ1 => ∃ kvs, dkOf Γ1 r = some kvs ∧ Post (.nw (.dK kvs)) Γ1) : WE K (tCB rDictD (tCons te tNil)) Γ Post := fun σ B H E Q q => by
  refine h σ B H E _ fun x B1 H1 r Γ1 g1 k1 p1 => ?_
  obtain ⟨kvs, e, p⟩ := p1
  obtain ⟨a, xs, rfl, ha, hk⟩ := rv_dK g1.env k1.rv e
  refine ⟨a, xs, rfl, .inl ha, fun q' hq' => ?_⟩
  have kk : ReOk K σ (Own σ Γ1) (Own σ Γ1) B1 H1 (upd H1 q' (.dK xs)) (.ref q') (.nw (.dK kvs)) := ⟨q', _, rfl, .inr hq', g1.env.not_own hq', upd_same, g1.env.base_none hq', xs, rfl, hk⟩
  exact q _ _ _ (.nw (.dK kvs)) Γ1 (g1.trans (Go.beside g1.env hq')) (ReOk.earlier kk g1.mv fun a h => .inl (g1.sub a h)) p
theorem we_listD (h : WE K te Γ fun r Γ1 => ∃ kvs, dkOf Γ1 r = some kvs ∧ Post (.new (kvs.map fun kv => .raw (kV kv.1))) Γ1) : WE K (tCB rListD (tCons te tNil)) Γ Post := fun σ B H E Q q => by
  refine h σ B H E _ fun x B1 H1 r Γ1 g1 k1 p1 => ?_
  obtain ⟨kvs, e, p⟩ := p1
  obtain ⟨a, xs, rfl, ha, hk⟩ := rv_dK g1.env k1.rv e
  refine ⟨a, xs, rfl, ha, fun q' hq' => ?_⟩
  have hx : (xs.map fun kv => kV kv.1).map Dt.raw = kvs.map fun kv => Dt.raw (kV kv.1) := by
    have := congrArg (List.map fun k => Dt.raw (kV k)) hk.ks
    rw [List.map_map, List.map_map] at this
    rw [List.map_map]; exact this
  have ia : IsA K B1 (xs.map fun kv => kV kv.1) (kvs.map fun kv => Dt.raw (kV kv.1)) := by rw [← hx]; exact IsA.raws
  have kk : ReOk K σ (Own σ Γ1) (Own σ Γ1) B1 H1 (upd H1 q' (.lst (xs.map fun kv => kV kv.1))) (.ref q') (.new (kvs.map fun kv => .raw (kV kv.1))) := ⟨q', _, rfl, .inr hq', g1.env.not_own hq', upd_same, g1.env.base_none hq', _, rfl, ia⟩
  exact q _ _ _ (.new _) Γ1 (g1.trans (Go.beside g1.env hq')) (ReOk.earlier kk g1.mv fun a h => .inl (g1.sub a h)) p
theorem we_isiD {i : Nat} {ds : List (Key × Dt)} {c : String} {b : Bool} (h : Γ[i]? = some (.cel (.dK ds))) (hk : kitB "dict" c = some b) (p : Post (.val (.bl b)) Γ) : WE K (tCB (rIsi K) (tCons (tVar i) (tCons (tC (.ty c)) tNil))) Γ Post := fun σ B H E Q q => by
  obtain ⟨l, o, e1, e2, e3, us, rfl, e4⟩ := E.cel i _ h
  exact ⟨.ref l, e1, .ref l, .ty c, .type "dict", .type c, b, rfl, .ty c, .base (.dK e2), kit_ty hk, q _ B H _ Γ (.refl E) (.raw _) p⟩
theorem kb_dd : kitB "dict" "dict" = some true := by decide +kernel
theorem kb_db : kitB "dict" "bool" = some false := by decide +kernel
theorem kb_di : kitB "dict" "int" = some false := by decide +kernel
theorem kb_ds : kitB "dict" "str" = some false := by decide +kernel
theorem kb_dt : kitB "dict" "tuple" = some false := by decide +kernel
theorem kb_dl : kitB "dict" "list" = some false := by decide +kernel
end
theorem ws_retK {K : PySem.W.Frag} {pin : List Nat} {Γ : List Sl} {P : Ps} {i : Nat} {kvs : List (Key × Dt)} (h : Γ[i]? = some (.cel (.dK kvs))) (p : P.rt (.nw (.dK kvs)) (Γ.set i .un)) : WS K pin (tRet (tVar i)) Γ P := ws_ret (we_move h ⟨rfl, p⟩)
end Ab

namespace Ab
open PySem L2
structure Yp where
  nx : List Dt → List Sl → Prop
  bk : List Dt → List Sl → Prop := fun _ _ => False
  ct : List Dt → List Sl → Prop := fun _ _ => False
section
variable {K : PySem.W.Frag} {pin : List Nat} {Γ : List Sl} {ys : List Dt} {P : Yp} {te : TE} {t u tb : TGn}
end
section
variable {K : PySem.W.Frag} {Γ : List Sl} {ta : TA} {Post : Re → List Sl → Prop}
end
section
variable {K : PySem.W.Frag} {pin : List Nat} {Γ : List Sl} {P : Ps} {g : TG} {tb' : TS}
theorem passL0 {X : Cx} : Passes (L2.CX X.prog X.w) X E0 := fun _ _ _ _ _ _ _ h => by
  obtain ⟨_, _, _, _, _, _, _, _, _, _, _, _, z⟩ := h
  exact z.elim
end
end Ab

namespace Ab
open PySem L2
def tExc (K : PySem.W.Frag) (cls : Value) (d : Option Addr) (t : Addr → TS) : TS := fun D σ H => ∃ C, cls = .ref C ∧ d = none ∧ ExcC K C ∧ t C D σ H
theorem ExB.nil {K : PySem.W.Frag} {B : Hp} {d : Option Addr} (h : ExB K B d []) : d = Option.none := by
  cases h with
  | none => rfl
  | some _ _ _ hne => exact absurd rfl hne
theorem pss_exc {X : Cx} {st : List Stmt} {cls : Value} {d : Option Addr} {t : Addr → TS} (h : ∀ C, cls = .ref C → d = none → ExcC X.K C → PSs X st (t C)) : PSs X st (tExc X.K cls d t) :=
  ⟨fun pins s σ H D I ⟨C, e, e2, hC, ht⟩ => (h C e e2 hC).run pins s σ H D I ht⟩
def tTryAs (K : PySem.W.Frag) (c : Value) (i : Nat) (tb : WX → TS) (ts : Addr → Addr → TS) (Wout : WX) : TS := fun D σ H => tb (wAs K c i (fun a cls d => tExc K cls d (ts a)) Wout D) D σ H
abbrev slE (a : Addr) : Sl := .val (.raw (.ref a))
section
variable {K : PySem.W.Frag} {pin : List Nat} {Γ : List Sl} {P : Ps}
theorem GoS.un {σ σ1 : L2.St} {B H B1 H1 : Hp} {Γ1 : List Sl} (g : GoS K pin σ B H Γ σ1 B1 H1 Γ1) {i : Nat} (hp : pin.contains i = false) : GoS K pin σ B H Γ (σ1.set i none) B1 H1 (Γ1.set i .un) := by
  by_cases hi : i < Γ1.length
  · refine g.trans ⟨Mv.refl _ _ _, fun a h => .inl (h.set_ne fun ds z => nomatch z), g.env.setU none hi, pin_set hp⟩
  · rw [List.set_eq_of_length_le (l := σ1) (by rw [g.env.len]; omega), List.set_eq_of_length_le (l := Γ1) (by omega)]
    exact g
theorem ws_tryAs {c : Value} {i : Nat} {tb : WX → TS} {ts : Addr → Addr → TS} {Wout : WX} (q' : Value → List (Str × Dt) → List Sl → Prop) (hp : pin.contains i = false)
    (h : ∀ W, WS K pin (tb W) Γ ⟨P.nx, P.rt, P.bk, P.ct, ⟨W, fun cls fs G => Hold (q' cls fs G)⟩⟩)
    (k : ∀ cls fs G, q' cls fs G → ∃ b, PySem.W.exmOne K cls c = some b ∧ (b = true → decide (i < G.length) = true ∧ fs = [] ∧ ∃ C, cls = .ref C ∧ ExcC K C ∧ ∀ a, WS K pin (ts a C) (G.set i (slE a)) ⟨fun G1 => NormP (G1.set i .un) P.nx, P.rt, fun G1 => P.bk (G1.set i .un), fun G1 => P.ct (G1.set i .un), P.ex⟩) ∧
      (b = false → P.ex.W = Wout ∧ P.ex.q cls fs G)) : WS K pin (tTryAs K c i tb ts Wout) Γ P := fun σ B H D E n r b cc xx => by
  refine h _ σ B H D E n r b cc fun cls d fs σ' B' H' Γ' g hx p => ?_
  obtain ⟨z, hz, hy, hn⟩ := k cls fs Γ' p.get
  refine ⟨z, hz, fun e a ha => ?_, fun e => ?_⟩
  · obtain ⟨hi, rfl, C, e1, e2, hs⟩ := hy e
    refine ⟨C, e1, hx.nil, e2, ?_⟩
    have g1 : GoS K pin σ' B' H' Γ' (σ'.set i (some (.ref a))) B' H' (Γ'.set i (slE a)) := goS_set (r := .val (.raw (.ref a))) (Go.refl g.env) (Is.raw _) hp (of_decide_eq_true hi)
    exact ws_from (hs a) (g.trans g1) (fun σ3 B3 H3 Γ3 g3 p => n _ B3 H3 _ (g3.un hp) p) r (fun σ3 B3 H3 Γ3 g3 p => b _ B3 H3 _ (g3.un hp) p) (fun σ3 B3 H3 Γ3 g3 p => cc _ B3 H3 _ (g3.un hp) p) xx
  · obtain ⟨rfl, pq⟩ := hn e
    exact xx cls d fs σ' B' H' Γ' g hx pq
theorem takes00 {X : Cx} : Takes X (fun _ _ _ _ => False) := fun _ _ x => by
  obtain ⟨_, _, _, _, _, _, _, _, _, _, _, _, _, _, _, _, z⟩ := x
  exact z.elim
theorem we_isE {ta : TA} {Post : Re → List Sl → Prop} {D a C : Addr} (h : WD K ta Γ fun ds Γ1 => ds = [.raw (.ref a), .raw (.ref C)] ∧ ∃ b, PySem.W.kitOne K (.ref D) (.ref C) = some b ∧ Post (.val (.bl b)) Γ1) : WE K (tCB (rIsE K D a) ta) Γ Post := fun σ B H E Q q => by
  refine h σ B H E _ fun vs B1 H1 ds Γ1 g k p => ?_
  obtain ⟨rfl, b, hb, p⟩ := p
  have ev : vs = [.ref a, .ref C] := IsA.rawsI (xs := [.ref a, .ref C]) k
  subst ev
  exact ⟨.ref C, .ref C, b, rfl, fun u h => h, hb, q _ B1 H1 (.val (.bl b)) Γ1 g (Is.raw _) p⟩
theorem we_isEty {ta : TA} {Post : Re → List Sl → Prop} {D a : Addr} {T : String} (h : WD K ta Γ fun ds Γ1 => ds = [.raw (.ref a), .raw (.ty T)] ∧ ∃ b, PySem.W.kitOne K (.ref D) (.type T) = some b ∧ Post (.val (.bl b)) Γ1) : WE K (tCB (rIsE K D a) ta) Γ Post := fun σ B H E Q q => by
  refine h σ B H E _ fun vs B1 H1 ds Γ1 g k p => ?_
  obtain ⟨rfl, b, hb, p⟩ := p
  have ev : vs = [.ref a, .ty T] := IsA.rawsI (xs := [.ref a, .ty T]) k
  subst ev
  exact ⟨.ty T, .type T, b, rfl, fun u h => h, hb, q _ B1 H1 (.val (.bl b)) Γ1 g (Is.raw _) p⟩
end
theorem kit_ref {K : PySem.W.Frag} {D C : Addr} {b : Bool} (hd : PySem.W.hasDictIn K C = true) (ht : PySem.W.typeIn K (.ref C) = some (.type "type")) (hs : PySem.W.subIn K (.ref D) (.ref D) = some true) (h : PySem.W.subIn K (.ref D) (.ref C) = some b) : PySem.W.kitOne K (.ref D) (.ref C) = some b := by
  obtain ⟨cd, hc, _⟩ := PySem.W.any_some hd
  have e2 : ((PySem.W.clsIn K C).isSome && PySem.W.typeIn K (.ref C) == some (.type "type")) = true := by rw [hc, ht] <;> rfl
  unfold PySem.W.kitOne
  split
  · rename_i e
    have e : Value.ref D = Value.ref C := beq_iff_eq.mp e
    cases e
    exact hs.symm.trans h
  · show (if ((PySem.W.clsIn K C).isSome && PySem.W.typeIn K (.ref C) == some (.type "type")) = true then PySem.W.subIn K (.ref D) (.ref C) else none) = some b
    rw [if_pos e2]
    exact h
theorem kit_ty2 {K : PySem.W.Frag} {D : Addr} {T : String} {b : Bool} (hm : PySem.W.kitMeta T = true) (h : PySem.W.subIn K (.ref D) (.type T) = some b) : PySem.W.kitOne K (.ref D) (.type T) = some b := by
  unfold PySem.W.kitOne
  rw [if_neg fun h => nomatch (beq_iff_eq.mp h : Value.ref D = Value.type T)]
  show (if PySem.W.kitMeta T = true then PySem.W.subIn K (.ref D) (.type T) else none) = some b
  rw [if_pos hm]
  exact h
end Ab

namespace Ab
open PySem L2
theorem upd_upd {H : Hp} {a : Addr} {o u : HO} : upd (upd H a o) a u = upd H a u := funext fun b => by
  by_cases h : b = a
  · subst h; rw [upd_same, upd_same]
  · rw [upd_ne h, upd_ne h, upd_ne h]
section
variable {K : PySem.W.Frag} {pin : List Nat} {Γ : List Sl} {P : Ps}
end
section
variable {K : PySem.W.Frag} {Γ : List Sl} {Post : Re → List Sl → Prop} {te tk tv : TE}
end
end Ab

namespace Ab
open PySem L2
inductive PD where
  | int (i : Int)
  | str (s : Str)
  | tup (l : List PD)
mutual
def PD.dt : PD → Dt
  | .int i => .int i
  | .str s => .str s
  | .tup l => .tup (PD.dts l)
def PD.dts : List PD → List Dt
  | [] => []
  | x :: r => x.dt :: PD.dts r
end
mutual
def PD.py : PD → PyData
  | .int i => .int i
  | .str s => .str s
  | .tup l => .tuple (PD.pys l)
def PD.pys : List PD → List PyData
  | [] => []
  | x :: r => x.py :: PD.pys r
end
mutual
def PD.dep : PD → Nat
  | .int _ => 0
  | .str _ => 0
  | .tup l => PD.deps l + 1
def PD.deps : List PD → Nat
  | [] => 0
  | x :: r => max x.dep (PD.deps r)
end
mutual
def PD.ok : PD → Prop
  | .int _ => True
  | .str s => CS s
  | .tup l => l.length ≤ 1000000 ∧ PD.oks l
def PD.oks : List PD → Prop
  | [] => True
  | x :: r => x.ok ∧ PD.oks r
end
def PD.eq (a b : PD) : Bool := PyData.eqv a.py b.py
def PD.eqs (a b : List PD) : Bool := PyData.eqvAll (PD.pys a) (PD.pys b)
inductive SmP : List Sl → Bool → Nat → Prop
  | dat (a b : PD) (ha : a.ok) (hb : b.ok) : SmP [.val a.dt, .val b.dt] (PD.eq a b) (max a.dep b.dep)
  | lst (a b : List PD) (ha : PD.oks a) (hb : PD.oks b) (la : a.length ≤ 1000000) (lb : b.length ≤ 1000000) : SmP [.acc (PD.dts a), .acc (PD.dts b)] (PD.eqs a b) (max (PD.deps a) (PD.deps b) + 1)
end Ab

namespace L2
open PySem PySem.Spec PyProof.Rows PySem.W PySem.Calls
section
variable {X : Cx} {pins : List (Addr × Obj)} {σ : St} {H : Hp} {s : Shared} {D : Ends} {C f cda cc : Addr} {fd : FuncData} {body rest : List Stmt} {e : Expr} {es : List Expr} {p0 p1 p2 p3 p4 : Pos} {ta : TA} {t : TS}
  {oc ccl cl : Value} {od cdd cld : Option Addr} {osl ccs csl : Array (Option Value)} {ar : Arg} {vs : Array Value} {file : Str} {tf : Tok}
end
structure SupF (P : Program) (K : Frag) (C f : Addr) (F : NdefX.NF) (fd : FuncData) (x0 : Str) : Prop where
  lk : ∃ oc od dV kV doc pm an ct osl, fd = fnX F.name F.qual F.params F.body F.scope F.cl dV kV doc pm an (.ref F.c) ct ∧ K.lookup f = some ⟨oc, od, .func fd, osl⟩
  cd : codeIn K (.ref F.c) F.qual = true
  code : ∃ ccl cdd vs ccs file tf, K.lookup F.c = some ⟨ccl, cdd, .fields vs, ccs⟩ ∧ vs[2]? = some (.str file tf) ∧ ((P.main.file : Str) == file) = true
  top : (P.main.scope.names.lookup ("super" : Str)).isSome = false
  cell : ∃ cc cl cld csl, F.cl = [(("__class__" : Str), cc)] ∧ K.lookup cc = some ⟨cl, cld, .cell (some (.ref C)), csl⟩
  arg : ∃ ar, (F.params.posonlyargs ++ F.params.args).head? = some ar ∧ ar.arg = x0
  sup : ks_superIn K C C "__init__" = some (some (.builtin "ValueError.__init__"))
  opq : nsIn K cStatics "thirdparty.any" = some none
section
variable {CX : CXT} {P : Program} {w : World} {K : Frag} {mg : Str → Option Value} {base : Heap} {fI C : Addr} {F : NdefX.NF} {fd : FuncData} {x y f g msg : Str} {j : Nat} {p0 p1 p2 p3 p4 p5 p6 p7 q0 q1 q2 q3 q4 q5 q6 q7 : Pos}
end
end L2

namespace Ab
open PySem L2
theorem pe_cvalN {X : Cx} {x f : Str} {p pos : Pos} {C : Addr} {mc : Value} {v : V} (hd : (x == Str.ofString "__debug__") = false) (hg : Gl X x) (hm : X.mg x = some (.ref C)) (r : ClX.CRead X.K C mc) (k : ∃ u, ClX.CVal X.K C mc f v u)
    (hb : attributeBase (.Name x p) f X.env (eval (.Name x p) X.env) = eval (.Name x p) X.env) : PE X (.Attribute (.Name x p) f pos) (tC v) := by
  refine ⟨fun pins s σ H Q I h => ?_⟩
  have he : PE X (.Name x p) (tC (.ref C)) := pe_glob hg hm rfl hd
  obtain ⟨u, k⟩ := k
  refine attr_of hb (thn (he.run pins s σ H (fun y H1 => y = .ref C ∧ Q v H1) I ⟨rfl, h⟩) fun w s1 ⟨y, H1, I1, ry, ey, q⟩ => ?_)
  subst ey
  obtain rfl : w = Value.ref C := ry
  exact ClX.getcval_ok I1 r k fun s2 I2 => ⟨v, H1, I2, k.rel, q⟩
section
variable {K : PySem.W.Frag} {Γ : List Sl} {Post : Re → List Sl → Prop} {ta tb : TE}
end
end Ab

namespace Ab
open PySem L2
def XD (d : Option Addr) (H : Hp) : Prop := d = none ∨ ∃ (dd : Addr) (fs : List (Str × V)), d = some dd ∧ H dd = some (.xd fs)
def rIsEd (K : PySem.W.Frag) (D a : Addr) (d : Option Addr) : List V → Hp → VK → Prop := fun xs H Q => ∃ (c : V) (cv : Value) (b : Bool), xs = [.ref a, c] ∧ XD d H ∧ (∀ u, RelV c u → u = cv) ∧ PySem.W.kitOne K (.ref D) cv = some b ∧ Q (.bl b) H
theorem inst_d {X : Cx} {a D : Addr} {oe : Obj} {d : Option Addr} {pn pins : List (Addr × Obj)} {σ : L2.St} {H : Hp} {s : Shared} (hz : Zc (.ref D) d oe) (hf : ∃ vs, oe.data = .fields vs) (I : Inv (X.suite a ((a, oe) :: pn)) pins σ H s) (hd : XD d H) : ∃ od, PySem.W.InstAt s.heap a oe D od := by
  obtain ⟨hget, _⟩ := I.pin (a, oe) (List.mem_append.mpr (.inl List.mem_cons_self))
  obtain ⟨vs, hv⟩ := hf
  rcases hd with rfl | ⟨dd, fs, rfl, ea⟩
  · exact ⟨none, hget, hz.1, by unfold PySem.W.notCls; rw [hv] <;> rfl, by rw [hz.2]; trivial⟩
  · have hx : ObjOk X.prog X.w H s.heap dd (.xd fs) := I.hok dd _ ea
    obtain ⟨mA, hns, hr⟩ := hx
    obtain ⟨od, ho, hl⟩ := lookIn_ns hns
    exact ⟨some od, hget, hz.1, by unfold PySem.W.notCls; rw [hv] <;> rfl, by rw [hz.2]; exact ho⟩
theorem exc_cls {K : PySem.W.Frag} {D : Addr} (C : ExcC K D) : (PySem.W.clsIn K D).isSome = true := by
  obtain ⟨cd, hc, _⟩ := PySem.W.any_some C.hd
  rw [hc]
  rfl
theorem call_isEd {X : Cx} {a D : Addr} {oe : Obj} {d : Option Addr} {pn : List (Addr × Obj)} (C : ExcC X.K D) (hz : Zc (.ref D) d oe) (hf : ∃ vs, oe.data = .fields vs) : CallR (X.suite a ((a, oe) :: pn)) (.builtin "isinstance") (rIsEd X.K D a d) := by
  intro pins s σ H xs us Q I r h
  obtain ⟨c, cv, b, rfl, hd, hcv, e, q⟩ := h
  cases r with
  | cons rx rr =>
    cases rr with
    | cons rt rr =>
      cases rr
      cases rx
      have ec := hcv _ rt
      subst ec
      obtain ⟨od, J⟩ := inst_d hz hf I hd
      exact PySem.W.kia_one (PySem.W.kitx_exc (exc_cls C) C.hg C.hk C.hs C.ha C.hn C.ht C.hm) I.kIn J e (fun z => nomatch z) fun tk => ⟨.bl b, H, I.kept (t' := tk) fun _ _ z => z, rfl, q⟩
def tExcD (K : PySem.W.Frag) (fs : List Str) (cls : Value) (t : Addr → TS) : TS := fun D σ H => ∃ C, cls = .ref C ∧ ExcC K C ∧ XfC K C ∧ (∀ f ∈ fs, PySem.W.findIn K (.ref C) f = some none) ∧ t C D σ H
theorem pss_excD {X : Cx} {st : List Stmt} {cls : Value} {fs : List Str} {t : Addr → TS} (h : ∀ C, cls = .ref C → ExcC X.K C → XfC X.K C → (∀ f ∈ fs, PySem.W.findIn X.K (.ref C) f = some none) → PSs X st (t C)) : PSs X st (tExcD X.K fs cls t) :=
  ⟨fun pins s σ H D I ⟨C, e, hC, hX, hN, ht⟩ => (h C e hC hX hN).run pins s σ H D I ht⟩
theorem ExB.is {K : PySem.W.Frag} {B : Hp} {a : Addr} {d : Option Addr} {gs : List (Str × Dt)} (h : ExB K B d gs) : Is K B (.ref a) (.exn a d gs) := by
  cases h with
  | none => exact .exn0
  | some h hk hi _ => exact .exnD h hk hi
theorem Is.exnI {K : PySem.W.Frag} {B : Hp} {v : V} {a : Addr} {d : Option Addr} {gs : List (Str × Dt)} (h : Is K B v (.exn a d gs)) : v = .ref a ∧ XD d B := by
  cases h with
  | exn0 => exact ⟨rfl, .inl rfl⟩
  | exnD h hk hi => exact ⟨rfl, .inr ⟨_, _, rfl, h⟩⟩
theorem XD.mono {d : Option Addr} {B H : Hp} (e : Same B H) (h : XD d B) : XD d H := by
  rcases h with h | ⟨dd, fs, h1, h2⟩
  · exact .inl h
  · exact .inr ⟨dd, fs, h1, e _ _ h2⟩
section
variable {K : PySem.W.Frag} {pin : List Nat} {Γ : List Sl} {P : Ps}
theorem we_isEd {ta : TA} {Post : Re → List Sl → Prop} {D a C : Addr} {d : Option Addr} (h : WD K ta Γ fun ds Γ1 => ∃ gs, ds = [.exn a d gs, .raw (.ref C)] ∧ ∃ b, PySem.W.kitOne K (.ref D) (.ref C) = some b ∧ Post (.val (.bl b)) Γ1) : WE K (tCB (rIsEd K D a d) ta) Γ Post := fun σ B H E Q q => by
  refine h σ B H E _ fun vs B1 H1 ds Γ1 g k p => ?_
  obtain ⟨gs, rfl, b, hb, p⟩ := p
  obtain ⟨v1, v2, rfl⟩ : ∃ v1 v2, vs = [v1, v2] := by
    match vs, k.len with
    | [v1, v2], _ => exact ⟨v1, v2, rfl⟩
  obtain ⟨rfl, hd⟩ := (k.at_ 0 v1 _ rfl rfl).exnI
  cases Is.rawI (k.at_ 1 v2 _ rfl rfl)
  exact ⟨.ref C, .ref C, b, rfl, hd.mono g.env.bh, fun u h => h, hb, q _ B1 H1 (.val (.bl b)) Γ1 g (Is.raw _) p⟩
theorem we_isEdty {ta : TA} {Post : Re → List Sl → Prop} {D a : Addr} {T : String} {d : Option Addr} (h : WD K ta Γ fun ds Γ1 => ∃ gs, ds = [.exn a d gs, .raw (.ty T)] ∧ ∃ b, PySem.W.kitOne K (.ref D) (.type T) = some b ∧ Post (.val (.bl b)) Γ1) : WE K (tCB (rIsEd K D a d) ta) Γ Post := fun σ B H E Q q => by
  refine h σ B H E _ fun vs B1 H1 ds Γ1 g k p => ?_
  obtain ⟨gs, rfl, b, hb, p⟩ := p
  obtain ⟨v1, v2, rfl⟩ : ∃ v1 v2, vs = [v1, v2] := by
    match vs, k.len with
    | [v1, v2], _ => exact ⟨v1, v2, rfl⟩
  obtain ⟨rfl, hd⟩ := (k.at_ 0 v1 _ rfl rfl).exnI
  cases Is.rawI (k.at_ 1 v2 _ rfl rfl)
  exact ⟨.ty T, .type T, b, rfl, hd.mono g.env.bh, fun u h => h, hb, q _ B1 H1 (.val (.bl b)) Γ1 g (Is.raw _) p⟩
end
end Ab

namespace L2
open PySem PySem.Spec PyProof.Rows
section
variable {X : Cx} {CX : CXT} {k : Nat} {f C : Addr} {fd : FuncData} {ps : List Str} {sp : Sp} {E : St → XK} {x m : Str} {p pos apos : Pos} {e o : Expr} {es : List Expr} {ta : TE} {t : TA}
def tMakeS (C : Addr) (sp : Sp) (E : St → XK) (t : TA) : TE := fun σ H Q => t σ H fun vs H1 => ∀ x dx, H1 x = none → H1 dx = none → dx ≠ x → sp (.ref x :: vs) (upd (upd H1 dx (.own x)) x (.ins C dx [])) (fun v H2 => v = .non ∧ Q (.ref x) H2) (E σ)
theorem run_makeS {pins : List (Addr × Obj)} {σ : St} {H : Hp} {s : Shared} {Q : VK} {us : List Value} {vs : List V} (M : Mk X.K C f) (F : FnOk X.prog X.w X.K X.mg X.base CX k f fd ps sp) (hr : Room (k + 1) X.A) (hb : Binds X.K fd ps [])
    (hx : PassesAt CX X σ (E σ)) (I : Inv X pins σ H s) (r : Vals vs us)
    (h : ∀ x dx, H x = none → H dx = none → dx ≠ x → sp (.ref x :: vs) (upd (upd H dx (.own x)) x (.ins C dx [])) (fun v H2 => v = .non ∧ Q (.ref x) H2) (E σ)) :
    wpAny (model X.prog X.w) X.A (call (.ref C) us) (EP X pins σ Q) X.xe s := by
  have hq := h (s.heap.objs.size + 1) s.heap.objs.size (I.hok.fresh (Nat.le_succ _)) (I.hok.fresh (Nat.le_refl _)) (Nat.ne_of_lt (Nat.lt_succ_self _))
  have I2 := Inv.made (C := C) I
  have r2 : Vals (V.ref (s.heap.objs.size + 1) :: vs) (Value.ref (s.heap.objs.size + 1) :: us) := .cons rfl r
  have hl : (Value.ref (s.heap.objs.size + 1) :: us).length = ps.length := by
    have e := r2.length
    rw [F.len _ _ _ _ hq] at e
    exact e.symm
  have b := hb _ (Value.ref (s.heap.objs.size + 1) :: us) I2.kIn (by rw [List.append_nil]; exact hl)
  rw [List.append_nil] at b
  refine wpAny_call (make_map (f := f) I.kIn M.makes M.init (beq_iff_eq.mp M.fn) (codeAny_mono (F.run _ X.stack _ _ ⟨Value.ref (s.heap.objs.size + 1) :: us, []⟩ (Value.ref (s.heap.objs.size + 1) :: us) _ _ (E σ) (hr.make C us [])
    (I2.env0.make C us []) b r2 hq) fun r s' hq' => ?_))
  cases r with
  | error e => exact hx pins _ _ e s' I2 hq'
  | ok fl =>
    cases fl with
    | ret u =>
      obtain ⟨v, H', I3, rv, ev, q3⟩ := I2.after hq'
      subst ev
      exact ⟨rv, ⟨V.ref (s.heap.objs.size + 1), H', I3, rfl, q3⟩⟩
    | next => exact False.elim hq'
    | brk => exact False.elim hq'
    | cont => exact False.elim hq'
theorem pe_makeS (M : Mk X.K C f) (F : FnOk X.prog X.w X.K X.mg X.base CX k f fd ps sp) (hr : Room (k + 1) X.A) (hg : Gl X x) (hm : X.mg x = some (.ref C)) (hb : Binds X.K fd ps []) (hx : ∀ σ, PassesAt CX X σ (E σ))
    (ha : PA X (e :: es) t) (hdb : (x == ("__debug__" : Str)) = false := by decide) (he : starEach (e :: es) X.env = (false, eval e X.env) :: starEach es X.env := by rfl) (hpl : (backTo pos (starEach es X.env)).any (·.1) = false := by rfl) :
    PE X (.Call (.Name x p) (e :: es) [] pos) (tMakeS C sp E t) := by
  refine ⟨fun pins s σ H Q I h => ?_⟩
  refine wpAny_Call_Name_kw (ld_glob I hg hm ?_ hdb)
  refine PySem.W.callWith_K (h₀ := X.base) I.ok.mod.kin M.kp (thn (ha.run pos pins s σ H _ I h) fun us s1 ⟨vs, H1, I1, r, q⟩ => ⟨I1.kIn, ?_⟩) he hpl
  exact run_makeS M F hr hb (hx σ) I1 r q
end
end L2
namespace Ab
open PySem L2
abbrev AIX := List Dt → (List (Str × Dt) → Prop) → (Value → List (Str × Dt) → Prop) → Prop
def toSpIX (K : PySem.W.Frag) (C : Addr) (ai : AIX) : Sp := fun vs H Q E => ∃ x dx ws B ds Post XP, vs = V.ref x :: ws ∧ H x = some (.ins C dx []) ∧ B x = none ∧ Same B H ∧ IsA K B ws ds ∧ ai ds Post XP ∧
  (∀ B' H' fs gs, Mv (fun a => a = x) B H B' H' → Same B' H' → H' x = some (.ins C dx fs) → B' x = none → FsIs K B' fs gs → Post gs → Q .non H') ∧
  ∀ cls d fs B' H', Mv (fun a => a = x) B H B' H' → Same B' H' → H' x ≠ none → B' x = none → ExB K B' d fs → XP cls fs → E cls d H'
def WIX (K : PySem.W.Frag) (C : Addr) (t : TS) (Γ : List Sl) (gs : List (Str × Dt)) (P : List (Str × Dt) → List Sl → Prop) (W : WX) (q : Value → List (Str × Dt) → Prop) : Prop := ∀ σ B H (D : Ends) x dx, Mg K C x dx σ B H Γ gs →
  (∀ σ' B' H' Γ' gs', GoI K C x dx σ B H Γ σ' B' H' Γ' gs' → P gs' Γ' → D.nx σ' H') →
  (∀ cls d fs σ' B' H' Γ' gs', GoI K C x dx σ B H Γ σ' B' H' Γ' gs' → ExB K B' d fs → q cls fs → W cls d σ' H') → t D σ H
section
variable {K : PySem.W.Frag} {C : Addr} {Γ : List Sl} {gs : List (Str × Dt)} {P : List (Str × Dt) → List Sl → Prop} {t u : TS} {te : TE} {W : WX} {q : Value → List (Str × Dt) → Prop}
theorem wix_seq (h : WIX K C t Γ gs (fun gs1 Γ1 => WIX K C u Γ1 gs1 P W q) W q) : WIX K C (tSeq t u) Γ gs P W q := fun σ B H D x dx M n xx =>
  h σ B H { D with nx := u D } x dx M (fun σ1 B1 H1 Γ1 gs1 g p => p σ1 B1 H1 D x dx g.mg (fun σ2 B2 H2 Γ2 gs2 g2 p2 => n σ2 B2 H2 Γ2 gs2 (g.trans g2) p2) fun cls d fs σ2 B2 H2 Γ2 gs2 g2 k p2 => xx cls d fs σ2 B2 H2 Γ2 gs2 (g.trans g2) k p2) xx
theorem wix_set {f : Str} (cl : Cls K C) (na : NoAttr K C f) (hl : gs.lookup f = none) (hz : gs.length < 900) (h : WE K te Γ fun r Γ1 => ∃ d, r.dt? = some d ∧ Γ1[0]? = some .un ∧ P (gs ++ [(f, d)]) Γ1) : WIX K C (sFld K (tVar 0) te f) Γ gs P W q := fun σ B H D x dx M n xx =>
  wi_set cl na hl hz h σ B H D x dx M n
theorem wix_ws (h : WS K [0] t Γ ⟨fun G => G[0]? = some .un ∧ P gs G, fun _ _ => False, fun _ => False, fun _ => False, ⟨W, fun cls fs G => G[0]? = some .un ∧ q cls fs⟩⟩) : WIX K C t Γ gs P W q := fun σ B H D x dx M n xx => by
  obtain ⟨fs, hx, hf⟩ := M.hx
  have mk : ∀ {σ' B' H' Γ'}, GoS K [0] σ B H Γ σ' B' H' Γ' → Γ'[0]? = some .un → GoI K C x dx σ B H Γ σ' B' H' Γ' gs := fun {σ' B' H' Γ'} g p => by
    refine ⟨⟨fun a o na e => g.mv.kp a o (fun z => na (.inl z)) e, g.mv.bb, fun a na ha hb => g.mv.off a (fun z => na (.inl z)) ha hb⟩, g.new, ⟨g.env, by rw [g.pin 0 List.mem_cons_self]; exact M.sl, p, fun z => ?_, ⟨fs, g.mv.kp x _ M.no hx, hf.mono g.mv.bb⟩, g.mv.off x M.no (by rw [hx]; exact fun z => nomatch z) M.bx⟩⟩
    rcases g.new x z with h1 | h1
    · exact M.no h1
    · rw [hx] at h1; cases h1
  exact h σ B H D M.env (fun σ' B' H' Γ' g p => n σ' B' H' Γ' gs (mk g p.1) p.2) (fun _ _ _ _ _ _ _ _ p => p.elim) (fun _ _ _ _ _ p => p.elim) (fun _ _ _ _ _ p => p.elim)
    fun cls d fs' σ' B' H' Γ' g k p => xx cls d fs' σ' B' H' Γ' gs (mk g p.1) k p.2
variable {Pg : Program} {w : World} {mg : Str → Option Value} {base : Heap}
theorem fn_initX {x qual : Str} {st : Stmt} {f : Addr} {fd : FuncData} {N ps : List Str} {k : Nat} {ai : AIX} (F : Fun K x qual st f fd) (S : FnScope N ps (defScope st))
    (hlen : ∀ ds Post XP, ai ds Post XP → ds.length + 1 = ps.length) (hN : decide (ps.length ≤ N.length) = true) (t : WX → TS)
    (body : ∀ (cdv : Value) (A : Around) (outer : List PySem.Env) (s : Shared) (H : Hp) (E : XK), Room k (A.deeper (PyProof.Rows.envOfC qual (defScope st) s.heap.objs.size f cdv)) →
      PSs (cxOf (L2.CX Pg w) Pg w K mg base N qual (defScope st) f cdv A outer s H E) (defBody st) (t fun cls d _ H' => E cls d H'))
    (run : ∀ (W : WX) ds Post XP, ai ds Post XP → WIX K C (t W) ((.un :: ds.map Sl.val) ++ List.replicate (N.length - (ds.length + 1)) .un) [] (fun gs _ => Post gs) W XP) :
    FnOk Pg w K mg base (L2.CX Pg w) (k + 1) f fd ps (toSpIX K C ai) := by
  refine F.okX S (fun vs H Q E h => ?_) (fun cdv A outer s H vs Q E hr h => ?_)
  · obtain ⟨x, dx, ws, B, ds, Post, XP, rfl, _, _, _, ha, hai, _⟩ := h
    rw [List.length_cons, ha.len]; exact hlen ds Post XP hai
  · obtain ⟨x, dx, ws, B, ds, Post, XP, rfl, hx, bx, hbh, ha, hai, qn, qx⟩ := h
    refine ⟨_, body cdv A outer s H E hr, ?_⟩
    have E1 : Env K B H ((V.ref x :: ws).map some) (.un :: ds.map Sl.val) := by
      have e := env_vals hbh ha
      refine ⟨by simp [ha.len], hbh, fun i d h => ?_, fun i es h => ?_, fun i j es fs l h1 h2 h3 h4 => ?_⟩
      · cases i with
        | zero => cases h
        | succ i => exact e.val i d (by simpa using h)
      · cases i with
        | zero => cases h
        | succ i => exact e.cel i es (by simpa using h)
      · cases i with
        | zero => cases h1
        | succ i =>
          cases j with
          | zero => cases h2
          | succ j => exact congrArg Nat.succ (e.sep i j es fs l (by simpa using h1) (by simpa using h2) (by simpa using h3) (by simpa using h4))
    have hps : (Sl.un :: ds.map Sl.val).length ≤ N.length := by
      rw [List.length_cons, List.length_map, hlen ds Post XP hai]; exact of_decide_eq_true hN
    have E0 := env_start E1 hps
    have no : ∀ a, ¬ Own (L2.start N (V.ref x :: ws)) ((Sl.un :: ds.map Sl.val) ++ List.replicate (N.length - (Sl.un :: ds.map Sl.val).length) .un) a := fun a z => by
      have := (own_start (N := N) (vs := V.ref x :: ws) (as := Sl.un :: ds.map Sl.val) (by simp [ha.len])).mp z
      obtain ⟨i, es, h1, h2⟩ := this
      cases i with
      | zero => cases h1
      | succ i =>
        have h1 : (ds.map Sl.val)[i]? = some (.cel es) := by simpa using h1
        rw [List.getElem?_map] at h1
        cases q : ds[i]? with
        | none => rw [q] at h1; cases h1
        | some d => rw [q] at h1; cases h1
    have hlN : (Sl.un :: ds.map Sl.val).length = ds.length + 1 := by rw [List.length_cons, List.length_map]
    rw [hlN] at E0 no
    have mvx : ∀ {σ' B' H' Γ' gs'}, GoI K C x dx (L2.start N (V.ref x :: ws)) B H ((.un :: ds.map Sl.val) ++ List.replicate (N.length - (ds.length + 1)) .un) σ' B' H' Γ' gs' → Mv (fun a => a = x) B H B' H' := fun {σ' B' H' Γ' gs'} g =>
      ⟨fun a o na e => g.mv.kp a o (fun z => z.elim (no a) na) e, g.mv.bb, fun a na ha hb => g.mv.off a (fun z => z.elim (no a) na) ha hb⟩
    refine run _ ds Post XP hai (L2.start N (V.ref x :: ws)) B H _ x dx ⟨E0, rfl, rfl, no x, ⟨[], hx, ⟨Nat.le_refl _, fun _ => rfl, fun _ _ _ z => by cases z⟩⟩, bx⟩ (fun σ' B' H' Γ' gs' g p => ?_) fun cls d fs σ' B' H' Γ' gs' g k p => ?_
    · obtain ⟨fs, e1, e2⟩ := g.mg.hx
      exact qn B' H' fs gs' (mvx g) g.mg.env.bh e1 g.mg.bx e2 p
    · obtain ⟨fs', e1, e2⟩ := g.mg.hx
      exact qx cls d fs B' H' (mvx g) g.mg.env.bh (by rw [e1]; exact fun z => nomatch z) g.mg.bx k p
def tMakeX (K : PySem.W.Frag) (C : Addr) (ai : AIX) (W : WX) (t : TA) : TE := tMakeS C (toSpIX K C ai) (fun σ cls d H => W cls d σ H) t
theorem mk_core {σ : L2.St} {B1 H1 : Hp} {Γ1 : List Sl} {vs : List V} {ds : List Dt} {ai : AIX} {Post : Re → List Sl → Prop} {XP : Value → List (Str × Dt) → Prop} {Q : VK} {EX : XK} (E1 : Env K B1 H1 σ Γ1) (k1 : IsA K B1 vs ds)
    (p1 : ai ds (fun gs => Post (.val (.obj C gs)) Γ1) XP)
    (qq : ∀ v B' H' r Γ', Go K σ B1 H1 Γ1 B' H' Γ' → Is K B' v r → Post (.val r) Γ' → Q v H')
    (qx : ∀ cls d fs B' H', Go K σ B1 H1 Γ1 B' H' Γ1 → ExB K B' d fs → XP cls fs → EX cls d H') :
    ∀ x dx, H1 x = none → H1 dx = none → dx ≠ x → toSpIX K C ai (.ref x :: vs) (upd (upd H1 dx (.own x)) x (.ins C dx [])) (fun v H2 => v = .non ∧ Q (.ref x) H2) EX := by
  intro x dx hx hdx hne
  have hxx : upd (upd H1 dx (.own x)) x (.ins C dx []) x = some (.ins C dx []) := upd_same
  have b1x : B1 x = none := E1.base_none hx
  have s12 : ∀ a o, H1 a = some o → upd (upd H1 dx (.own x)) x (.ins C dx []) a = some o := fun a o e => by
    rw [upd_ne (ne_of_none e hx), upd_ne (ne_of_none e hdx)]; exact e
  have go : ∀ {B' H'}, Mv (fun a => a = x) B1 (upd (upd H1 dx (.own x)) x (.ins C dx [])) B' H' → Same B' H' → Go K σ B1 H1 Γ1 B' H' Γ1 := fun {B' H'} mv sb => by
    have kept : ∀ a o, H1 a = some o → H' a = some o := fun a o e => mv.kp a o (fun z => by subst z; rw [hx] at e; cases e) (s12 a o e)
    have offB : ∀ a, H1 a ≠ none → B1 a = none → B' a = none := fun a ha hb => by
      have hne : a ≠ x := fun z => by subst z; exact ha hx
      refine mv.off a hne ?_ hb
      cases qq : H1 a with
      | none => exact absurd qq ha
      | some o => rw [s12 a o qq]; exact fun z => nomatch z
    refine ⟨⟨fun a o _ e => kept a o e, mv.bb, fun a na ha hb => offB a ha hb⟩, fun i es hi => ⟨es, hi⟩, ⟨E1.len, sb, fun i d hi => ?_, fun i es hi => ?_, E1.sep⟩⟩
    · obtain ⟨v, e1, e2⟩ := E1.val i d hi
      exact ⟨v, e1, e2.mono mv.bb⟩
    · obtain ⟨l, us, e1, e2, e3, e4⟩ := E1.cel i es hi
      exact ⟨l, us, e1, kept l _ e2, offB l (by rw [e2]; exact fun z => nomatch z) e3, e4.mono mv.bb⟩
  refine ⟨x, dx, vs, B1, ds, _, _, rfl, hxx, b1x, fun a o e => s12 a o (E1.bh a o e), k1, p1, fun B' H' fs gs mv sb hx' bx' hf p => ⟨rfl, ?_⟩, fun cls d fs B' H' mv sb _ _ k p => qx cls d fs B' H' (go mv sb) k p⟩
  have g := go mv sb
  have sBB : Same B' (upd B' x (.ins C dx fs)) := fun a o e => by rw [upd_ne (ne_of_none e bx')]; exact e
  have E2 : Env K (upd B' x (.ins C dx fs)) H' σ Γ1 := by
    refine ⟨g.env.len, fun a o e => ?_, fun i d hi => ?_, fun i es hi => ?_, g.env.sep⟩
    · by_cases ha : a = x
      · subst ha; rw [upd_same] at e; cases e; exact hx'
      · rw [upd_ne ha] at e; exact sb a o e
    · obtain ⟨v, e1, e2⟩ := g.env.val i d hi
      exact ⟨v, e1, e2.mono sBB⟩
    · obtain ⟨l, us, e1, e2, e3, e4⟩ := g.env.cel i es hi
      have hl : l ≠ x := fun z => by
        subst z
        rw [hx'] at e2; cases e2; cases es <;> (obtain ⟨_, z, _⟩ := e4; cases z)
      exact ⟨l, us, e1, e2, by rw [upd_ne hl]; exact e3, e4.mono sBB⟩
  have g2 : Go K σ B1 H1 Γ1 (upd B' x (.ins C dx fs)) H' Γ1 := by
    refine ⟨⟨g.mv.kp, g.mv.bb.trans sBB, fun a na ha hb => ?_⟩, fun i es hi => ⟨es, hi⟩, E2⟩
    have hne : a ≠ x := fun z => by subst z; exact ha hx
    rw [upd_ne hne]; exact g.mv.off a na ha hb
  have hf' := hf.mono sBB
  exact qq (.ref x) _ H' (.obj C gs) Γ1 g2 (Is.obj upd_same hf'.hk hf'.hi) p
theorem wx_make {X : Ex} {W : WX} {Post : Re → List Sl → Prop} {ai : AIX} {t : TA} (hW : X.W = W) (h : WD K t Γ fun ds Γ1 => Hold (ai ds (fun gs => Post (.val (.obj C gs)) Γ1) fun cls fs => X.q cls fs Γ1)) : WX' K X (tMakeX K C ai W t) Γ Post := fun σ B H E Q qn qx => by
  subst hW
  refine h σ B H E _ fun vs B1 H1 ds Γ1 g1 k1 p1 => ?_
  exact mk_core g1.env k1 p1.get (fun v B' H' r Γ' g k p => qn v B' H' (.val r) Γ' (g1.trans g) k p) fun cls d fs B' H' g k p => qx cls d fs B' H' Γ1 (g1.trans g) k p
theorem we_makeN0 {E0 : XK} {Post : Re → List Sl → Prop} {ai : AIX} {t : TA} (h : WD K t Γ fun ds Γ1 => Hold (ai ds (fun gs => Post (.val (.obj C gs)) Γ1) fun cls fs => False)) : WE K (tMake C (toSpIX K C ai) [] E0 t) Γ Post := fun σ B H E Q qn => by
  refine h σ B H E _ fun vs B1 H1 ds Γ1 g1 k1 p1 => ?_
  intro x dx hx hdx hne
  rw [List.append_nil]
  exact mk_core g1.env k1 p1.get (fun v B' H' r Γ' g k p => qn v B' H' (.val r) Γ' (g1.trans g) k p) (fun cls d fs B' H' g k p => (show False from p).elim) x dx hx hdx hne
end
end Ab

namespace PySem.W
open Lean Elab Tactic Meta PySem PySem.Calls PyProof.Rows PyProof.V PySem.Spec
section
variable {M : Model} {A : Around} {E : Value → Shared → Prop} {s : Shared} {K : Frag} {x C f : Addr} {ox : Obj} {od : Option Obj} {v : Value}
theorem contains_own {Q : Bool → Shared → Prop} (X : K.In s.heap) (I : InstAt s.heap x ox C od) (hs : findIn K (.ref C) "__contains__" = some (some (.ref f))) (hf : isFn K (.ref f) = true)
    (h : wpAny M A (call (.ref f) [.ref x, v]) (fun r s' => ∃ b, r = .bool b ∧ Q b s') E s) : wpAny M A (contains (.ref x) v) Q E s := by
  unfold contains
  refine wpAny_holding ?_
  have e : stdlibNamesSay? (.ref x) v = none := rfl
  simp only [e]
  refine wpAny_bind (wpAny_bind (I.type.here ((looks_findIn X hs).here ?_)))
  refine KFB.if_not rfl ?_
  unfold callSpecialUnlessNone?
  refine wpAny_bind (wpAny_bind (wpAny_bind (I.type.here ((looks_findIn X hs).here ?_))))
  refine wpAny_holding (wpAny_bind ((bind_fn X _ (beq_iff_eq.mp hf)).here ?_))
  refine KFB.if_not rfl ?_
  refine wpAny_bind (wpAny_mono h (fun r s' hr => wpAny_pure ?_) fun _ _ z => z)
  obtain ⟨b, rfl, q⟩ := hr
  exact wpAny_truthy_bool q
theorem len_own {prog : Program} {w : World} {Q : Value → Shared → Prop} {n : Nat} (X : K.In s.heap) (I : InstAt s.heap x ox C od) (hs : findIn K (.ref C) "__len__" = some (some (.ref f))) (hf : isFn K (.ref f) = true) (hn : (n : Int) < 2 ^ 63)
    (h : wpAny (model prog w) A.in1 (call (.ref f) [.ref x]) (fun r s' => (∃ t, r = .int n t) ∧ Q (.int n s'.toks) { s' with toks := s'.toks + 1 }) E s) : wpAny (model prog w) A (call (.builtin "len") [.ref x]) Q E s := by
  refine Calls.call_function_entry kind_len plain_len entry_len (args_len1 _) ?_
  unfold Builtin.«len»
  refine wpAny_bind (m := oneArg "len" _) (wpAny_pure ?_)
  refine wpAny_bind (m := callSpecial? (.ref x) (PySem.Str.ofString "__len__")) (special_fn (args := []) X I hs (beq_iff_eq.mp hf) ?_)
  refine wpAny_mono h (fun r s' hr => ?_) fun _ _ z => z
  obtain ⟨⟨t, rfl⟩, q⟩ := hr
  refine wpAny_bind (wpAny_holding (wpAny_pure ?_))
  refine wpAny_bind (wpAny_letGo ?_)
  show wpAny _ _ (if ((n : Nat) : Int) < 0 then _ else _) _ _ _
  rw [if_neg (by omega)]
  show wpAny _ _ (if ((n : Nat) : Int) ≥ 2 ^ 63 then _ else _) _ _ _
  rw [if_neg (by omega)]
  exact wpAny_bind (wpAny_mkInt (wpAny_pure ⟨_, rfl, q⟩))
theorem hint_own {prog : Program} {w : World} {Q : Bool → Shared → Prop} {n : Nat} (X : K.In s.heap) (I : InstAt s.heap x ox C od) (hs : findIn K (.ref C) "__len__" = some (some (.ref f))) (hf : isFn K (.ref f) = true) (hn : Builtin.List.listTooLong n = false)
    (h : wpAny (model prog w) A (call (.builtin "len") [.ref x]) (fun r s' => (∃ t, r = .int n t) ∧ Q ((n : Int) != 0) s') (fun _ _ => False) s) : wpAny (model prog w) A (Builtin.List.listLengthHint (.ref x)) Q E s := by
  unfold Builtin.List.listLengthHint
  refine wpAny_bind (wpAny_bind (I.type.here ((looks_findIn X hs).here ?_)))
  refine KFB.if_not rfl ?_
  refine KFB.if_so rfl ?_
  refine wpAny_bind (wpAny_rule ?_)
  refine wpAny_bind (wpAny_attempt (wpAny_mono h (fun r s' hr => ?_) fun _ _ z => z.elim))
  obtain ⟨⟨t, rfl⟩, q⟩ := hr
  show wpAny _ _ (asInt? (.int n t) >>= _) _ _ _
  refine wpAny_bind (wpAny_pure ?_)
  show wpAny _ _ (if Builtin.List.listTooLong ((n : Int).toNat) = true then _ else _) _ _ _
  rw [Int.toNat_natCast, hn, if_neg (by decide)]
  exact wpAny_pure q
end
end PySem.W
namespace L2
open PySem PySem.Spec PyProof.Rows
structure FnIt (P : Program) (w : World) (K : PySem.W.Frag) (mg : Str → Option Value) (base : Heap) (k : Nat) (f C : Addr) (fld : Str) : Prop where
  run : ∀ (A : Around) (outer : List PySem.Env) (s : Shared) (H : Hp) (a dx l : Addr) (fs : List (Str × V)) (zs : List V), Room k A → Env0 P w K mg base A outer s H → H a = some (.ins C dx fs) → fs.lookup fld = some (.ref l) → SqL K H l zs →
    codeAny (model P w) A (.call (.ref f) ⟨[.ref a], []⟩) (CR CX0 outer P w H s (fun v H' => ∃ it, v = .ref it ∧ s.heap.objs.size ≤ it ∧ H it = none ∧ H' = upd H it (ItO l it 0)) E0) s
section
variable {P : Program} {w : World} {K : PySem.W.Frag} {mg : Str → Option Value} {base : Heap} {C f : Addr} {x qual : Str} {st : Stmt} {fd : FuncData} {k : Nat} {fld : Str}
end

section
variable {X : Cx} {C fi fl : Addr} {fld : Str} {k kl : Nat} {fdl : FuncData} {psl : List Str}
structure BoxC (K : PySem.W.Frag) (C fi fl : Addr) : Prop where
  it : PySem.W.findIn K (.ref C) "__iter__" = some (some (.ref fi))
  itF : PySem.W.isFn K (.ref fi) = true
  ln : PySem.W.findIn K (.ref C) "__len__" = some (some (.ref fl))
  lnF : PySem.W.isFn K (.ref fl) = true
section
variable {pins : List (Addr × Obj)} {σ : L2.St} {H : Hp} {s : Shared} {a dx l : Addr} {fs : List (Str × V)} {zs : List V} {A1 : Around}
theorem env0_sub {n : Nat} (I : Inv X pins σ H s) (sb : Sub X n A1) : Env0 X.prog X.w X.K X.mg X.base A1 X.stack s H := by
  have e := I.env0
  exact ⟨by rw [sb.fr]; exact e.frames, e.mod, e.bs, e.bsz, e.funs, e.frf, e.hok, e.bare⟩
end
end
end L2

namespace L2
open PySem PySem.Spec PyProof.Rows
section
variable {P : Program} {w : World} {K : PySem.W.Frag} {mg : Str → Option Value} {base : Heap} {C f : Addr} {x qual : Str} {st : Stmt} {fd : FuncData} {k : Nat} {fld : Str}
end
section
variable {X : Cx} {CX : CXT} {k : Nat} {f C : Addr} {fd : FuncData} {ps : List Str} {sp : Sp} {E : XK}
def rInO (C : Addr) (sp : Sp) (E : XK) (b0 : Bool) : R2 := fun x y H Q => ∃ a dx fs, y = .ref a ∧ H a = some (.ins C dx fs) ∧ sp [y, x] H (fun v H' => ∃ b, v = .bl b ∧ Q (.bl (b != b0)) H') E
theorem in_run (F : FnOk X.prog X.w X.K X.mg X.base CX k f fd ps sp) (hr : Room k X.A) (hs : PySem.W.findIn X.K (.ref C) "__contains__" = some (some (.ref f))) (hf : PySem.W.isFn X.K (.ref f) = true) (hb : Binds X.K fd ps []) (hx : Passes CX X E)
    {pins : List (Addr × Obj)} {s : Shared} {σ : L2.St} {H : Hp} {x : V} {v : Value} {a dx : Addr} {fs : List (Str × V)} {Q : Bool → Hp → Prop} (I : Inv X pins σ H s) (rx : RelV x v) (ha : H a = some (.ins C dx fs))
    (h : sp [.ref a, x] H (fun v H' => ∃ b, v = .bl b ∧ Q b H') E) : wpAny (model X.prog X.w) X.A (contains (.ref a) v) (fun b s' => ∃ H', Inv X pins σ H' s' ∧ Q b H') X.xe s := by
  obtain ⟨mA, J, _⟩ := ins_get I.hok ha
  obtain ⟨od, J, _⟩ := J.look
  refine PySem.W.contains_own I.kIn J hs hf ?_
  refine wpAny_mono (run_fn (us := [.ref a, v]) (vs := [.ref a, x]) F hr hb .nil hx I (.cons rfl (.cons rx .nil)) h) (fun w s' hw => ?_) fun _ _ z => z
  obtain ⟨z, H', I', rz, b, rfl, q⟩ := hw
  exact ⟨b, rz, H', I', q⟩
theorem op_inO (F : FnOk X.prog X.w X.K X.mg X.base CX k f fd ps sp) (hr : Room k X.A) (hs : PySem.W.findIn X.K (.ref C) "__contains__" = some (some (.ref f))) (hf : PySem.W.isFn X.K (.ref f) = true) (hb : Binds X.K fd ps []) (hx : Passes CX X E) : OpR X (compareOp .In) (rInO C sp E false) := by
  intro pins s σ H x y v u Q I rx ry hq
  obtain ⟨a, dx, fs, rfl, ha, h⟩ := hq
  cases ry
  show wpAny _ _ (contains (.ref a) v >>= fun r => pure (Value.bool r)) _ _ _
  refine wpAny_bind (wpAny_mono (in_run F hr hs hf hb hx I rx ha h) (fun b s' hb => wpAny_pure ?_) fun _ _ z => z)
  obtain ⟨H', I', q⟩ := hb
  exact ⟨.bl b, H', I', rfl, by simpa using q⟩
end
end L2
namespace Ab
open PySem L2
section
variable {K : PySem.W.Frag} {Γ : List Sl} {Post : Re → List Sl → Prop} {ta tb te : TE} {C : Addr} {fld : Str}
theorem we_inO {b0 : Bool} {ap : AP} {E0 : XK} (h : WE K ta Γ fun ra Γ1 => ∃ d, ra = .val d ∧ WE K tb Γ1 fun rb Γ2 => ∃ gs, rb = .val (.obj C gs) ∧ Hold (ap [.val (.obj C gs), .val d] fun r as' => ∃ b, r = .val (.bl b) ∧ Post (.val (.bl (b != b0))) Γ2)) : WE K (tOp (rInO C (toSp K ap) E0 b0) ta tb) Γ Post := fun σ B H E Q q => by
  refine h σ B H E _ fun x B1 H1 ra Γ1 g1 k1 p1 => ?_
  obtain ⟨d, rfl, p1⟩ := p1
  refine p1 σ B1 H1 g1.env _ fun y B2 H2 rb Γ2 g2 k2 p2 => ?_
  obtain ⟨gs, rfl, p2⟩ := p2
  have k1' : Is K B2 x d := Is.mono g2.mv.bb k1
  have k2' : Is K B2 y (.obj C gs) := k2
  obtain ⟨a, dx, fs, rfl, hb, _, _⟩ := Is.objR k2'
  refine ⟨a, dx, fs, rfl, g2.env.bh _ _ hb, ?_⟩
  have k3 : IsA K B2 [V.ref a, x] [.obj C gs, d] := .cons k2' (.cons k1' .nil)
  refine call_core E (g1.trans g2) (asOk_val k3) rfl (Post := fun r G => ∃ b, r = .val (.bl b) ∧ Post (.val (.bl (b != b0))) G) ?_ (fun v B' H' r Γ' g k p => ?_)
  · rw [args_vals]
    simp only [back_vals]
    exact p2.get
  · obtain ⟨b, rfl, p⟩ := p
    cases Is.rawI k
    exact ⟨b, rfl, q _ B' H' (.val (.bl (b != b0))) Γ' g (Is.raw _) p⟩
end
end Ab

namespace Ab
open PySem L2
structure PermO (o : List Nat) (n : Nat) : Prop where
  nd : o.Nodup
  mem : ∀ i, i ∈ o ↔ i < n
section
variable {K : PySem.W.Frag} {B H : Hp} {vs : List V} {as : List Sl} {o : List Nat} {n : Nat}
end
section
variable {K : PySem.W.Frag} {Γ : List Sl} {C : Addr}
end
end Ab

namespace Ab
open PySem L2
section
variable {X : Cx} {CX : CXT} {k : Nat} {f C : Addr} {fd : FuncData} {ps : List Str} {sp : Sp} {E : L2.St → XK} {m : Str} {pos apos : Pos} {e o : Expr} {es : List Expr} {ta : TE} {t : TA}
theorem pe_methS {pl : Sem Bool} (he : PE X o ta) (c : Cls X.K C) (hm : Meth X.K C m f) (F : FnOk X.prog X.w X.K X.mg X.base CX k f fd ps sp) (hr : Room k X.A) (hb : Binds X.K fd ps []) (hx : ∀ σ, PassesAt CX X σ (E σ)) (ha : PA X (e :: es) t)
    (hst : starEach (e :: es) X.env = (false, eval e X.env) :: starEach es X.env := by rfl) (hpl : (backTo pos (starEach es X.env)).any (·.1) = false := by rfl)
    (ht : eval (.Call (.Attribute o m apos) (e :: es) [] pos) X.env = (do
      let ov ← eval o X.env
      standAt apos.atName
      let (f, first) ← holding [ov] (getMethod ov m pl)
      callWith pos f first (backTo pos (starEach (e :: es) X.env)) (backToKw pos (keywordEach [] X.env))) := by rfl) :
    PE X (.Call (.Attribute o m apos) (e :: es) [] pos) (fun σ H Q => ta σ H fun x H1 => ∃ a dx fs, x = .ref a ∧ H1 a = some (.ins C dx fs) ∧ fs.lookup m = none ∧ t σ H1 fun vs H2 => sp (x :: vs) H2 Q (E σ)) := by
  refine ⟨fun pins s σ H Q I h => ?_⟩
  refine PySem.W.methodCall_KW (pl := pl) (thn (he.run pins s σ H _ I h) fun u s1 ⟨x, H1, I1, rx, a, dx, fs, ex, ea, l, q⟩ => ?_) ht
  subst ex
  obtain rfl : u = Value.ref a := rx
  refine getmeth_ok I1 ea c hm l ?_
  refine PySem.W.callWith_K (first := [.ref a]) (h₀ := X.base) I.ok.mod.kin hm.kp (thn (ha.run pos pins s1 σ H1 _ I1 q) fun us s2 ⟨vs, H2, I2, r, q2⟩ => ⟨I2.kIn, ?_⟩) hst hpl
  exact run_fnS (us := .ref a :: us) (vs := .ref a :: vs) F hr hb (hx σ) I2 (.cons rfl r) q2
end
def tMethX (K : PySem.W.Frag) (C : Addr) (m : Str) (ap : APX) (W : WX) (ta : TE) (t : TA) : TE := fun σ H Q => ta σ H fun x H1 => ∃ a dx fs, x = .ref a ∧ H1 a = some (.ins C dx fs) ∧ fs.lookup m = none ∧ t σ H1 fun vs H2 => toSpX K ap (x :: vs) H2 Q (fun cls d H' => W cls d σ H')
section
variable {K : PySem.W.Frag} {pin : List Nat} {Γ : List Sl} {P : Ps} {Post : Re → List Sl → Prop} {to ta tb : TE} {t : TA} {m : Str} {C : Addr} {ap : APX} {W : WX}
theorem wx_meth {X : Ex} (hW : X.W = W) (h : WE K to Γ fun r Γ1 => ∃ gs, r = .val (.obj C gs) ∧ gs.lookup m = none ∧ WD K t Γ1 fun ds Γ2 => Hold (ap (.val (.obj C gs) :: ds.map Sl.val) (fun r as' => NormP Γ2 (Post r)) fun cls fs as' => NormP Γ2 (X.q cls fs))) : WX' K X (tMethX K C m ap W to t) Γ Post := fun σ B H E Q q qx => by
  subst hW
  refine h σ B H E _ fun x B1 H1 r Γ1 g1 k1 p1 => ?_
  obtain ⟨gs, rfl, hl, p1⟩ := p1
  obtain ⟨a, dx, fs, rfl, hb, hk, hi⟩ := Is.objR k1
  refine ⟨a, dx, fs, rfl, g1.env.bh _ _ hb, lk_none (hk m) hl, ?_⟩
  refine p1 σ B1 H1 g1.env _ fun vs B2 H2 ds Γ2 g2 k2 p2 => ?_
  have k3 : IsA K B2 (V.ref a :: vs) (.obj C gs :: ds) := .cons (Is.mono g2.mv.bb k1) k2
  obtain ⟨E2, kk⟩ := call_go E (g1.trans g2) (asOk_val k3) (by rw [owns_vals]; rfl)
  have p3 := p2.get
  refine ⟨B2, _, _, _, E2, by rw [args_vals]; exact p3, fun v B3 H3 r as' g3 k3 p => ?_, fun cls d fs B3 H3 as' g3 hx p => ?_⟩
  · have z1 := (kk B3 H3 as' g3).1
    have z2 := (kk B3 H3 as' g3).2 v r k3
    rw [back_vals] at z1 z2
    exact q v B3 H3 r _ z1 z2 p
  · have z1 := (kk B3 H3 as' g3).1
    rw [back_vals] at z1
    exact qx cls d fs B3 H3 _ z1 hx p
end
end Ab

namespace L2
open PySem PySem.Spec PyProof.Rows
section
variable {X : Cx} {CX : CXT} {k : Nat} {f C : Addr} {fd : FuncData} {ps : List Str} {sp : Sp} {E : St → XK} {x m : Str} {p pos apos : Pos} {a b e o : Expr} {es : List Expr} {ta tb : TE} {t : TA}
theorem run_fnA {A1 : Around} {pins : List (Addr × Obj)} {σ : St} {H : Hp} {s : Shared} {Q : VK} {us : List Value} {vs : List V} (sb : Sub X k A1) (F : FnOk X.prog X.w X.K X.mg X.base CX k f fd ps sp) (hb : Binds X.K fd ps []) (hx : PassesAt CX X σ (E σ))
    (I : Inv X pins σ H s) (r : Vals vs us) (h : sp vs H Q (E σ)) : wpAny (model X.prog X.w) A1 (call (.ref f) us) (EP X pins σ Q) X.xe s := by
  have hl : us.length = ps.length := by rw [← r.length]; exact F.len _ _ _ _ h
  have b := hb s us I.kIn (by rw [List.append_nil]; exact hl)
  rw [List.append_nil] at b
  refine wpAny_call (codeAny_mono (F.run A1 X.stack s H ⟨us, []⟩ us vs Q (E σ) sb.room (env0_sub I sb) b r h) fun r s' hq => ?_)
  cases r with
  | error e => exact hx pins H s e s' I hq
  | ok fl =>
    cases fl with
    | ret u => exact I.after hq
    | next => exact False.elim hq
    | brk => exact False.elim hq
    | cont => exact False.elim hq
structure ItmC (K : PySem.W.Frag) (C f : Addr) : Prop where
  it : PySem.W.findIn K (.ref C) "__getitem__" = some (some (.ref f))
  fi : PySem.W.fnIn K f = true
  fn : PySem.W.isFn K (.ref f) = true
def tIt2 (C : Addr) (sp : Sp) (E : St → XK) (ta tb : TE) : TE := fun σ H Q => ta σ H fun x H1 => tb σ H1 fun y H2 => ∃ a dx fs, x = .ref a ∧ H2 a = some (.ins C dx fs) ∧ sp [x, y] H2 Q (E σ)
theorem pe_itm (ha : PE X a ta) (hb : PE X b tb) (c : ItmC X.K C f) (F : FnOk X.prog X.w X.K X.mg X.base CX k f fd ps sp) (hr : Room (k + 1) X.A) (hbn : Binds X.K fd ps []) (hx : ∀ σ, PassesAt CX X σ (E σ))
    (hsl : ∀ v u, subscripted b true v u = runValue (.builtin "lifetime.subscript" ⟨[v, u], []⟩)) : PE X (.Subscript a b pos) (tIt2 C sp E ta tb) := by
  refine ⟨fun pins s σ H Q I h => ?_⟩
  refine Subscript_ (binT (R := fun x y H2 => ∃ a dx fs, x = .ref a ∧ H2 a = some (.ins C dx fs) ∧ sp [x, y] H2 Q (E σ)) ha hb I h fun v u s2 x y H2 I2 rx ry q => ?_)
  obtain ⟨a0, dx, fs, rfl, hc, q⟩ := q
  obtain rfl : v = Value.ref a0 := rx
  obtain ⟨mA, J, _⟩ := ins_get I2.hok hc
  obtain ⟨od, J, _⟩ := J.look
  obtain ⟨m, hF⟩ := I2.fr
  refine PySem.W.sub_K hF I2.ok.mod.kin J c.it c.fi c.fn ?_ (hsl _ _)
  exact run_fnA (Sub.in1 (⟨hr, rfl⟩ : Sub X (k + 1) X.A)) F hbn (hx σ) I2 (vs := [V.ref a0, y]) (.cons rfl (.cons ry .nil)) q
def tOwn2 (C : Addr) (sp : Sp) (E : St → XK) (ta tb : TE) : TE := fun σ H Q => ta σ H fun x H1 => tb σ H1 fun y H2 => ∃ a b dx dy fs gs, x = .ref a ∧ y = .ref b ∧ H2 a = some (.ins C dx fs) ∧ H2 b = some (.ins C dy gs) ∧ sp [x, y] H2 Q (E σ)
theorem pe_own2 {op : Operator} (ha : PE X a ta) (hb : PE X b tb) (F : FnOk X.prog X.w X.K X.mg X.base CX k f fd ps sp) (hr : Room k X.A) (hc : PySem.W.selfFirst X.K C = true)
    (hs : PySem.W.findIn X.K (.ref C) (PySem.dunder op.info.2) = some (some (.ref f))) (hf : PySem.W.isFn X.K (.ref f) = true) (hbn : Binds X.K fd ps []) (hx : ∀ σ, PassesAt CX X σ (E σ)) : PE X (.BinOp a op b pos) (tOwn2 C sp E ta tb) := by
  refine ⟨fun pins s σ H Q I h => ?_⟩
  refine wpAny_BinOp (binT (R := fun x y H2 => ∃ a b dx dy fs gs, x = .ref a ∧ y = .ref b ∧ H2 a = some (.ins C dx fs) ∧ H2 b = some (.ins C dy gs) ∧ sp [x, y] H2 Q (E σ)) ha hb I h fun v u s2 x y H2 I2 rx ry q => ?_)
  obtain ⟨a0, b0, dx, dy, fs, gs, rfl, rfl, h1, h2, q⟩ := q
  cases rx
  cases ry
  obtain ⟨mA, J, _⟩ := ins_get I2.hok h1
  obtain ⟨mB, J', _⟩ := ins_get I2.hok h2
  obtain ⟨od, J, _⟩ := J.look
  obtain ⟨od', J', _⟩ := J'.look
  obtain ⟨m, hF⟩ := I2.fr
  refine PySem.W.binop_K hF I2.ok.mod.kin J J'.type hc hs hf ?_
  refine wpAny_mono (run_fnS (us := [.ref a0, .ref b0]) (vs := [.ref a0, .ref b0]) F hr hbn (hx σ) I2 (.cons rfl (.cons rfl .nil)) q) (fun w s' hw => ?_) fun _ _ z => z
  cases w with
  | notImplemented =>
    obtain ⟨z, H', I', rz, _⟩ := hw
    cases z <;> first | (obtain ⟨_, rz⟩ := rz; cases rz; done) | (cases rz; done)
  | _ => exact hw
end
end L2
namespace Ab
open PySem L2
section
variable {K : PySem.W.Frag} {pin : List Nat} {Γ Γ2 : List Sl} {P : Ps} {Post : Re → List Sl → Prop} {to ta tb : TE} {t : TA} {m : Str} {C : Addr} {ap : APX} {W : WX}
theorem call_data {σ : L2.St} {B H B2 H2 : Hp} {vs : List V} {ds : List Dt} {XQ : Value → List (Str × Dt) → List Sl → Prop} {Q : VK} {EX : XK} (E : Env K B H σ Γ) (g : Go K σ B H Γ B2 H2 Γ2) (k3 : IsA K B2 vs ds) (p3 : ap (ds.map Sl.val) (fun r as' => NormP Γ2 (Post r)) fun cls fs as' => NormP Γ2 (XQ cls fs))
    (q : ∀ v B' H' r Γ', Go K σ B H Γ B' H' Γ' → ReOk K σ (Own σ Γ) (Own σ Γ') B' H H' v r → Post r Γ' → Q v H') (qx : ∀ cls d fs B' H' Γ', Go K σ B H Γ B' H' Γ' → ExB K B' d fs → XQ cls fs Γ' → EX cls d H') : toSpX K ap vs H2 Q EX := by
  obtain ⟨E2, kk⟩ := call_go E g (asOk_val k3) (by rw [owns_vals]; rfl)
  refine ⟨B2, _, _, _, E2, by rw [args_vals]; exact p3, fun v B3 H3 r as' g3 k3 p => ?_, fun cls d fs B3 H3 as' g3 hx p => ?_⟩
  · have z1 := (kk B3 H3 as' g3).1
    have z2 := (kk B3 H3 as' g3).2 v r k3
    rw [back_vals] at z1 z2
    exact q v B3 H3 r _ z1 z2 p
  · have z1 := (kk B3 H3 as' g3).1
    rw [back_vals] at z1
    exact qx cls d fs B3 H3 _ z1 hx p
def tItX (K : PySem.W.Frag) (C : Addr) (ap : APX) (W : WX) (ta tb : TE) : TE := tIt2 C (toSpX K ap) (fun σ cls d H => W cls d σ H) ta tb
theorem wx_itX {X : Ex} (hW : X.W = W) (h : WE K ta Γ fun ra Γ1 => ∃ gs, ra = .val (.obj C gs) ∧ WE K tb Γ1 fun rb Γ2 => ∃ d, rb = .val d ∧ Hold (ap [.val (.obj C gs), .val d] (fun r as' => NormP Γ2 (Post r)) fun cls fs as' => NormP Γ2 (X.q cls fs))) : WX' K X (tItX K C ap W ta tb) Γ Post := fun σ B H E Q q qx => by
  subst hW
  refine h σ B H E _ fun x B1 H1 ra Γ1 g1 k1 p1 => ?_
  obtain ⟨gs, rfl, p1⟩ := p1
  refine p1 σ B1 H1 g1.env _ fun y B2 H2 rb Γ2 g2 k2 p2 => ?_
  obtain ⟨d, rfl, p2⟩ := p2
  have k1' := Is.mono g2.mv.bb k1
  obtain ⟨a, dx, fs, rfl, hb, _, _⟩ := Is.objR k1'
  have k2' : Is K B2 y d := k2
  have k3 : IsA K B2 [V.ref a, y] [.obj C gs, d] := .cons k1' (.cons k2' .nil)
  exact ⟨a, dx, fs, rfl, g2.env.bh _ _ hb, call_data E (g1.trans g2) k3 p2.get q qx⟩
def tOwnX (K : PySem.W.Frag) (C : Addr) (ap : APX) (W : WX) (ta tb : TE) : TE := tOwn2 C (toSpX K ap) (fun σ cls d H => W cls d σ H) ta tb
theorem wx_ownX {X : Ex} (hW : X.W = W) (h : WE K ta Γ fun ra Γ1 => ∃ gs, ra = .val (.obj C gs) ∧ WE K tb Γ1 fun rb Γ2 => ∃ hs, rb = .val (.obj C hs) ∧ Hold (ap [.val (.obj C gs), .val (.obj C hs)] (fun r as' => NormP Γ2 (Post r)) fun cls fs as' => NormP Γ2 (X.q cls fs))) : WX' K X (tOwnX K C ap W ta tb) Γ Post := fun σ B H E Q q qx => by
  subst hW
  refine h σ B H E _ fun x B1 H1 ra Γ1 g1 k1 p1 => ?_
  obtain ⟨gs, rfl, p1⟩ := p1
  refine p1 σ B1 H1 g1.env _ fun y B2 H2 rb Γ2 g2 k2 p2 => ?_
  obtain ⟨hs, rfl, p2⟩ := p2
  have k1' := Is.mono g2.mv.bb k1
  obtain ⟨a, dx, fs, rfl, hb, _, _⟩ := Is.objR k1'
  obtain ⟨b, dy, fs', rfl, hb', _, _⟩ := Is.objR k2
  have k3 : IsA K B2 [V.ref a, V.ref b] [.obj C gs, .obj C hs] := .cons k1' (.cons k2 .nil)
  exact ⟨a, b, dx, dy, fs, fs', rfl, rfl, g2.env.bh _ _ hb, g2.env.bh _ _ hb', call_data E (g1.trans g2) k3 p2.get q qx⟩
end
end Ab

namespace L2
open PySem PySem.Spec PyProof.Rows
abbrev asEnds (D : Ends) (i : Nat) : Ends := { nx := fun σ' H' => D.nx (σ'.set i none) H', rt := D.rt, bk := fun σ' H' => D.bk (σ'.set i none) H', ct := fun σ' H' => D.ct (σ'.set i none) H' }
def wMas (K : PySem.W.Frag) (Wout : WX) (D : Ends) : List (Value × Nat × (Addr → Value → Option Addr → TS)) → WX
  | [] => Wout
  | (c, i, ts) :: r => fun cls d σ H => ∃ b, PySem.W.exmOne K cls c = some b ∧ (b = true → ∀ a, H a = none → ts a cls d (asEnds D i) (σ.set i (some (.ref a))) H) ∧ (b = false → wMas K Wout D r cls d σ H)
inductive HdsA (X : Cx) : List ExceptHandler → List (Value × Nat × (Addr → Value → Option Addr → TS)) → Prop
  | nil : HdsA X [] []
  | cons {x n : Str} {c : Value} {i : Nat} {ts : Addr → Value → Option Addr → TS} {b₀ : Stmt} {suite : List Stmt} {np pos' : Pos} {hds : List ExceptHandler} {l : List (Value × Nat × (Addr → Value → Option Addr → TS))} (hi : X.N[i]? = some n) (hln : X.env.kindOf n = some .local) (hc : Names X x c)
      (hsu : ∀ (a : Addr) (oe : Obj) (cls : Value) (d : Option Addr) (pn : List (Addr × Obj)), Zc cls d oe → (∃ vs, oe.data = .fields vs) → PSs (X.suite a ((a, oe) :: pn)) (b₀ :: suite) (ts a cls d)) (r : HdsA X hds l) :
      HdsA X (.ExceptHandler (some (.Name x np)) (some n) (b₀ :: suite) pos' :: hds) ((c, i, ts) :: l)
section
variable {X : Cx} {body : List Stmt} {h₀ : ExceptHandler} {hds : List ExceptHandler} {l : List (Value × Nat × (Addr → Value → Option Addr → TS))} {pos : Pos} {tb : WX → TS} {Wout : WX}
theorem ps_try_mas (hs : X.stack = X.env :: X.outer) (hf : X.env.frame = some X.env.locals) (hN : X.N.Nodup) (tk : Takes X Wout)
    (hb : ∀ (W : WX) (pn : List (Addr × Obj)) (xe : Value → Shared → Prop), Takes (X.tr pn xe) W → PassesOwn (model X.prog X.w) X.A X.env xe → PSs (X.tr pn xe) body (tb W))
    (hh : HdsA X (h₀ :: hds) l) : PS X (.Try body (h₀ :: hds) [] [] pos) (fun D σ H => tb (wMas X.K Wout D l) D σ H) := by
  refine ⟨fun pins s σ H D I h => ?_⟩
  have ok := I.ok
  have hfr : X.A.frames = some (X.env :: X.outer) := by rw [ok.frames, hs]
  refine wpAny_Try_except ?_
  refine wpAny_mono ((hb (wMas X.K Wout D l) (X.pn ++ pins) (fun e s₁ => wpAny (model X.prog X.w) X.A (noteFrame e X.env) (fun _ s₂ => wpAny (model X.prog X.w) X.A (setFlight e none) (fun _ s₃ =>
    wpAny (model X.prog X.w) X.A (handleBy e X.env (h₀ :: hds)) (SP X pins D) X.xe s₃) X.xe s₂) X.xe s₁) (fun u s' xx => ?_) PassesOwn.looking).run [] s σ H D (I.toTry _) h) (fun f s1 hsp => ?_) (fun e s1 he => he)
  · -- the catch
    obtain ⟨a, B, sI, pins', σ', H', cls, d, rfl, J', nb, up, sky, na, os, ag, w⟩ := xx
    have J : Inv X pins σ' H' sI := J'.ofTry ok
    have sky' : Sky B (X.env :: X.outer) a (Zc cls d) X.env.locals s'.heap := by rw [← hs]; exact sky
    show wpAny (model X.prog X.w) X.A (noteFrame (.ref a) X.env) _ _ _
    refine Sky.land Zc.steady hfr hf sky' fun h3 fl3 up3 => ?_
    have J3 : Inv X pins σ' H' { s' with heap := h3 } := J.landed nb fl3.1 (up.trans up3) os ag
    obtain ⟨oe3, vs3, he3, hz3, hd3⟩ := fl3.there
    have notFr : ∀ {h : Heap} {o : Obj} {vs : Array Value}, h.FunFrames B (X.env :: X.outer) → h.get? a = some o → o.data = .fields vs → a ∉ frs (X.env :: X.outer) := fun {h o vs} ff e dd hm => by
      obtain ⟨_, o', e', hnf⟩ := ff.mem hm
      rw [e] at e'; cases e'
      exact hnf _ dd
    have nfr := notFr fl3.2.2.1 he3 hd3
    have nL : a ≠ X.env.locals := fun z => nfr (List.mem_filterMap.mpr ⟨X.env, List.mem_cons_self, by rw [hf, z]⟩)
    have nF : a ∉ X.fs := fun hm => by
      obtain ⟨e, he, q⟩ := List.mem_filterMap.mp hm
      exact nfr (List.mem_filterMap.mpr ⟨e, List.mem_cons_of_mem _ he, q⟩)
    have S3 := J3.suite he3 hd3 na nL nF
    have go : ∀ {hds' : List ExceptHandler} {l' : List (Value × Nat × (Addr → Value → Option Addr → TS))}, HdsA X hds' l' → wMas X.K Wout D l' cls d σ' H' →
        wpAny (model X.prog X.w) X.A (handleBy (.ref a) X.env hds') (SP X pins D) X.xe { s' with heap := h3 } := by
      intro hds' l' hk
      induction hk with
      | nil =>
        intro w
        refine wpAny_handleBy_nil ?_
        obtain ⟨k1, k2, k3, oe, vs, T, oT, ts', he, hz, hd, h1, hr⟩ := id fl3
        unfold PySem.passOn
        refine wpAny_bind (wpAny_field he hd h1 ?_)
        rw [if_neg (show ¬ ((Value.ref T == Value.none) = true) from by simp)]
        have fin : wpAny (model X.prog X.w) X.A (setFlight (.ref a) X.env.frame) (fun _ s4 => wpAny (model X.prog X.w) X.A (throw (.ref a) : Sem Flow) (SP X pins D) X.xe s4) X.xe { s' with heap := h3 } := by
          rw [hf]
          refine HandSPX.setFlight_upZ fl3 fun h4 hh4 up4 => wpAny_throw (tk _ _ ?_)
          exact ⟨a, B, sI, pins, σ', H', cls, d, rfl, J, nb, (up.trans up3).trans up4, .inr (.inr (by rw [hs]; exact hh4)), na, os, ag, w⟩
        first
          | exact wpAny_bind (wpAny_pure (wpAny_bind fin))
          | exact wpAny_bind fin
      | @cons x n c i ts b₀ suite np pos' hds2 l2 hi hln hc hsu r ih =>
        intro w
        obtain ⟨b, hb1, hyes, hno⟩ := w
        have hloc : Loc X.env.scope n := .inl hln
        refine wpAny_handleBy_cons (codeAny_handlers_test ?_) (by intro q; cases q)
        have LT : PySem.W.Looks (model X.prog X.w) h3 (typeOf (.ref a)) cls := fun A Q E s k q => wpAny_typeOf_ref (k _ _ he3) (by rw [hz3.1]; exact q)
        have LM := PySem.W.exm_one (M := model X.prog X.w) (J3.kIn) LT hb1
        have test : ∀ {Q : Value → Shared → Prop} {E : Value → Shared → Prop}, Q c { s' with heap := h3 } → wpAny (model X.prog X.w) (X.A.mark (some (.ref a))) (eval (.Name x np) X.env) Q E { s' with heap := h3 } := fun {Q E} q => by
          obtain ⟨hg, hdbg, hm | ⟨hm, hv, hnn⟩⟩ := hc
          · exact ld_glob (X := X.suite a ((a, oe3) :: (X.pn ++ pins))) S3 hg hm q hdbg
          · exact ld_blt (X := X.suite a ((a, oe3) :: (X.pn ++ pins))) S3 hg hm hv q hnn hdbg
        refine test (LM.here ?_)
        cases b with
        | true =>
          refine codeAny_handlers_suite_as ?_
          refine HandSPX.lands_againZ fl3 fun h4 fl4 up4 => ?_
          have J4 : Inv X pins σ' H' { s' with heap := h4 } := J.landed nb fl4.1 ((up.trans up3).trans up4) os ag
          obtain ⟨oe4, vs4, he4, hz4, hd4⟩ := fl4.there
          have S4 := J4.suite he4 hd4 na nL nF
          refine store_ok (X := X.suite a ((a, oe4) :: (X.pn ++ pins))) (v := .ref a) S4 hN hi hloc rfl (fun s5 S5 => ?_) (.inr hln)
          refine wpAny_mono ((hsu a oe4 cls d (X.pn ++ pins) hz4 ⟨_, hd4⟩).run [] s5 _ H' _ S5 (hyes rfl a na)) (fun f s6 hsp => ?_) (fun _ _ z => False.elim z)
          have end_ : ∀ {σ6 : St} {H6 : Hp} {Q : Shared → Prop}, Inv (X.suite a ((a, oe4) :: (X.pn ++ pins))) [] σ6 H6 s6 → (∀ s7, Inv X pins (σ6.set i none) H6 s7 → Q s7) →
              wpAny (model X.prog X.w) X.A (do bindName X.env n .none; unbindBehindTheSuite X.env n pos') (fun _ s7 => Q s7) X.xe s6 := fun {σ6 H6 Q} S6 hq => gone_ok (S6.unsuite ok) hN hi hln hq
          cases f with
          | next =>
            obtain ⟨σ6, H6, S6, q6⟩ := hsp
            exact end_ S6 fun s7 J7 => ⟨_, _, J7, q6⟩
          | brk =>
            obtain ⟨σ6, H6, S6, q6⟩ := hsp
            exact end_ S6 fun s7 J7 => ⟨_, _, J7, q6⟩
          | cont =>
            obtain ⟨σ6, H6, S6, q6⟩ := hsp
            exact end_ S6 fun s7 J7 => ⟨_, _, J7, q6⟩
          | ret u =>
            obtain ⟨v6, σ6, H6, S6, r6, q6⟩ := hsp
            exact end_ S6 fun s7 J7 => ⟨_, _, _, J7, r6, q6⟩
        | false =>
          show wpAny _ X.A (handleBy (.ref a) X.env hds2) _ _ _
          exact ih (hno rfl)
    exact go hh w
  · cases f with
    | next =>
      obtain ⟨σ', H', J', q⟩ := hsp
      exact wpAny_execs_nil ⟨σ', H', J'.ofTry ok, q⟩
    | brk =>
      obtain ⟨σ', H', J', q⟩ := hsp
      exact ⟨σ', H', J'.ofTry ok, q⟩
    | cont =>
      obtain ⟨σ', H', J', q⟩ := hsp
      exact ⟨σ', H', J'.ofTry ok, q⟩
    | ret u =>
      obtain ⟨v, σ', H', J', r, q⟩ := hsp
      exact ⟨v, σ', H', J'.ofTry ok, r, q⟩
end
end L2
namespace Ab
open PySem L2
abbrev Cls3 := Value × Nat × List Str × (Addr → Addr → Option Addr → TS)
def clOf (K : PySem.W.Frag) (c : Cls3) : Value × Nat × (Addr → Value → Option Addr → TS) := (c.1, c.2.1, fun a cls d => tExcD K c.2.2.1 cls fun C => c.2.2.2 a C d)
def tTryMas (K : PySem.W.Frag) (l : List Cls3) (tb : WX → TS) (Wout : WX) : TS := fun D σ H => tb (wMas K Wout D (l.map (clOf K))) D σ H
section
variable {K : PySem.W.Frag} {pin : List Nat} {Γ : List Sl} {P : Ps}
def MasK (K : PySem.W.Frag) (pin : List Nat) (P : Ps) (Wout : WX) (cls : Value) (gs : List (Str × Dt)) (G : List Sl) : List Cls3 → Prop
  | [] => P.ex.W = Wout ∧ P.ex.q cls gs G
  | (c, i, fs, ts) :: r => ∃ b, PySem.W.exmOne K cls c = some b ∧ (b = true → pin.contains i = false ∧ decide (i < G.length) = true ∧ ∃ C, cls = .ref C ∧ ExcC K C ∧ XfC K C ∧ (∀ f ∈ fs, PySem.W.findIn K (.ref C) f = some none) ∧
        ∀ a d, WS K pin (ts a C d) (G.set i (.val (.exn a d gs))) ⟨fun G1 => NormP (G1.set i .un) P.nx, P.rt, fun G1 => P.bk (G1.set i .un), fun G1 => P.ct (G1.set i .un), P.ex⟩) ∧
      (b = false → MasK K pin P Wout cls gs G r)
theorem mas_go {Wout : WX} {cls : Value} {d : Option Addr} {gs : List (Str × Dt)} {σ σ' : L2.St} {B H B' H' : Hp} {Γ' : List Sl} {D : Ends} (g : GoS K pin σ B H Γ σ' B' H' Γ') (hx : ExB K B' d gs)
    (n : ∀ σ' B' H' Γ', GoS K pin σ B H Γ σ' B' H' Γ' → P.nx Γ' → D.nx σ' H') (r : ∀ v σ' B' H' z Γ', GoS K pin σ B H Γ σ' B' H' Γ' → ReOk K [] (Own σ Γ) (Own σ' Γ') B' H H' v z → P.rt z Γ' → D.rt v H')
    (b : ∀ σ' B' H' Γ', GoS K pin σ B H Γ σ' B' H' Γ' → P.bk Γ' → D.bk σ' H') (cc : ∀ σ' B' H' Γ', GoS K pin σ B H Γ σ' B' H' Γ' → P.ct Γ' → D.ct σ' H')
    (xx : ∀ cls d fs σ' B' H' Γ', GoS K pin σ B H Γ σ' B' H' Γ' → ExB K B' d fs → P.ex.q cls fs Γ' → P.ex.W cls d σ' H') : ∀ l : List Cls3, MasK K pin P Wout cls gs Γ' l → wMas K Wout D (l.map (clOf K)) cls d σ' H'
  | [], ⟨e, q⟩ => by
    subst e
    exact xx cls d gs σ' B' H' Γ' g hx q
  | (c, i, fs, ts) :: l, ⟨z, hz, hy, hn⟩ => by
    refine ⟨z, hz, fun e a ha => ?_, fun e => mas_go g hx n r b cc xx l (hn e)⟩
    obtain ⟨hp, hi, C, e1, e2, e3, e4, hs⟩ := hy e
    refine ⟨C, e1, e2, e3, e4, ?_⟩
    have g1 : GoS K pin σ' B' H' Γ' (σ'.set i (some (.ref a))) B' H' (Γ'.set i (.val (.exn a d gs))) := goS_set (r := .val (.exn a d gs)) (Go.refl g.env) hx.is hp (of_decide_eq_true hi)
    exact ws_from (hs a d) (g.trans g1) (fun σ3 B3 H3 Γ3 g3 p => n _ B3 H3 _ (g3.un hp) p) r (fun σ3 B3 H3 Γ3 g3 p => b _ B3 H3 _ (g3.un hp) p) (fun σ3 B3 H3 Γ3 g3 p => cc _ B3 H3 _ (g3.un hp) p) xx
theorem ws_tryMas {l : List Cls3} {tb : WX → TS} {Wout : WX} (q' : Value → List (Str × Dt) → List Sl → Prop)
    (h : ∀ W, WS K pin (tb W) Γ ⟨P.nx, P.rt, P.bk, P.ct, ⟨W, fun cls fs G => Hold (q' cls fs G)⟩⟩)
    (k : ∀ cls gs G, q' cls gs G → MasK K pin P Wout cls gs G l) : WS K pin (tTryMas K l tb Wout) Γ P := fun σ B H D E n r b cc xx => by
  refine h _ σ B H D E n r b cc fun cls d gs σ' B' H' Γ' g hx p => ?_
  exact mas_go g hx n r b cc xx l (k cls gs Γ' p.get)
end
section
variable {K : PySem.W.Frag} {Γ : List Sl} {Post : Re → List Sl → Prop} {D a C : Addr} {d : Option Addr} {gs : List (Str × Dt)} {i : Nat} {b : Bool} {T : String}
theorem we_isEc (hk : PySem.W.kitOne K (.ref D) (.ref C) = some b) (hi : Γ[i]? = some (.val (.exn a d gs))) (p : Post (.val (.bl b)) Γ) : WE K (tCB (rIsEd K D a d) (tCons (tVar i) (tCons (tC (.ref C)) tNil))) Γ Post :=
  we_isEd (C := C) (wd_cons (we_var hi ⟨_, rfl, wd_cons (we_c ⟨_, rfl, wd_nil ⟨gs, rfl, b, hk, p⟩⟩)⟩))
theorem we_isEt (hk : PySem.W.kitOne K (.ref D) (.type T) = some b) (hi : Γ[i]? = some (.val (.exn a d gs))) (p : Post (.val (.bl b)) Γ) : WE K (tCB (rIsEd K D a d) (tCons (tVar i) (tCons (tC (.ty T)) tNil))) Γ Post :=
  we_isEdty (T := T) (wd_cons (we_var hi ⟨_, rfl, wd_cons (we_c ⟨_, rfl, wd_nil ⟨gs, rfl, b, hk, p⟩⟩)⟩))
end
end Ab

namespace L2
open PySem PySem.Spec PyProof.Rows
def ttObj (l : Addr) (i : Nat) : Obj := { cls := .type "tuple_iterator", data := .fields #[.ref l, .int i 0] }
def TtO (l it : Addr) (i : Nat) : HO := .ext fun h => h.get? it = some (ttObj l i)
theorem sqT_same {K : PySem.W.Frag} {B H : Hp} {a : Addr} {xs : List V} (e : Same B H) (h : SqT K B a xs) : SqT K H a xs := Ab.sqT_mono e h
section
variable {X : Cx} {pins : List (Addr × Obj)} {σ : St} {H : Hp} {s : Shared} {l it m : Addr} {i : Nat}
theorem ttO_ok {P : Program} {w : World} {H : Hp} {h : Heap} (e : h.get? it = some (ttObj l i)) : ObjOk P w H h it (TtO l it i) := ⟨e, ⟨_, e⟩, fun h1 h2 q k => k _ q⟩
theorem ttO_get (I : Inv X pins σ H s) (e : H it = some (TtO l it i)) : s.heap.get? it = some (ttObj l i) := (I.hok it _ e).1
theorem call_iterTup {prog : Program} {w : World} {A : Around} {E : Value → Shared → Prop} {items : Array Value} {Q : Value → Shared → Prop} (hl : s.heap.IsTuple l items) (h : Q (.ref s.heap.objs.size) { s with heap := s.heap.push (ttObj l 0) }) : wpAny (model prog w) A (call (.builtin "iter") [.ref l]) Q E s := by
  refine Calls.call_function_entry (by decide +kernel) (by decide +kernel) PySem.W.kdk_entry_iter (PySem.W.kdk_args_iter _) ?_
  unfold Builtin.«iter»
  refine wpAny_bind (m := someArgs "iter" 1 2 _) (wpAny_of_eq (a := [Value.ref l]) (by first | rfl | kernel_rfl!) ?_)
  show wpAny _ _ (pyIter (.ref l) >>= _) _ _ _
  refine wpAny_bind (wpAny_pyIter_tuple hl ?_)
  exact wpAny_pure ⟨_, rfl, h⟩
def rIterT (K : PySem.W.Frag) (n : Nat) : List V → Hp → VK → Prop := fun xs H Q => ∃ (l : Addr) (zs : List V), xs = [.ref l] ∧ SqT K H l zs ∧ ∀ it, H it = Option.none → n ≤ it → Q (.ref it) (upd H it (TtO l it 0))
theorem call_iterT : CallR X (.builtin "iter") (rIterT X.K X.s_0.heap.objs.size) := by
  intro pins s σ H xs us Q I r h
  obtain ⟨l, zs, rfl, hq, q⟩ := h
  obtain rfl := Vals.ref1 r
  obtain ⟨its, rv, pl, hz⟩ := I.tuple hq
  refine call_iterTup (show s.heap.IsTuple l its.toArray from pl) ?_
  exact ⟨.ref s.heap.objs.size, _, I.laid (t' := s.toks) (fun b u e => Heap.get?_push_of_some _ e) (Nat.le_refl _) (ttO_ok (Heap.get?_push_size _ rfl)), rfl, q _ (I.hok.fresh (Nat.le_refl _)) I.sz⟩
end
structure FnItT (P : Program) (w : World) (K : PySem.W.Frag) (mg : Str → Option Value) (base : Heap) (k : Nat) (f C : Addr) (fld : Str) : Prop where
  run : ∀ (A : Around) (outer : List PySem.Env) (s : Shared) (H : Hp) (a dx l : Addr) (fs : List (Str × V)) (zs : List V), Room k A → Env0 P w K mg base A outer s H → H a = some (.ins C dx fs) → fs.lookup fld = some (.ref l) → SqT K H l zs →
    codeAny (model P w) A (.call (.ref f) ⟨[.ref a], []⟩) (CR CX0 outer P w H s (fun v H' => ∃ it, v = .ref it ∧ s.heap.objs.size ≤ it ∧ H it = none ∧ H' = upd H it (TtO l it 0)) E0) s
def spLenT (K : PySem.W.Frag) (C : Addr) (fld : Str) : Sp := fun vs H Q _ => ∃ a dx fs l zs, vs = [V.ref a] ∧ H a = some (.ins C dx fs) ∧ fs.lookup fld = some (.ref l) ∧ SqT K H l zs ∧ Q (.int zs.length) H
section
variable {P : Program} {w : World} {K : PySem.W.Frag} {mg : Str → Option Value} {base : Heap} {C f : Addr} {x qual : Str} {st : Stmt} {fd : FuncData} {k : Nat} {fld : Str}
theorem fn_itT (F : Fun K x qual st f fd) (S : FnScope ["self"] ["self"] (defScope st)) (hb : Binds K fd ["self"] []) (cl : Cls K C) (na : NoAttr K C fld)
    (hbody : ∀ (cdv : Value) (A : Around) (outer : List PySem.Env) (s : Shared) (H : Hp) (E : XK), Room k (A.deeper (envOfC qual (defScope st) s.heap.objs.size f cdv)) →
      PSs (cxOf CX0 P w K mg base ["self"] qual (defScope st) f cdv A outer s H E).nox (defBody st) (tRet (tCB (rIterT K s.heap.objs.size) (tCons (tFld K (tVar 0) fld) tNil)))) : FnItT P w K mg base (k + 1) f C fld := by
  obtain ⟨oc, od, kV, doc, pm, an, cdv, ct, osl, rfl, lk, hcd⟩ := F.ex
  refine ⟨fun A outer s H a dx l fs zs hr e0 ha hl hz => ?_⟩
  have KX : K.In s.heap := e0.mod.kin.keeps fun b o e => (e0.bs b o e).1
  have lim : s.heap.NoLimit := e0.mod.nolimit.keeps fun b o e => (e0.bs b o e).1
  have r : Vals [V.ref a] [Value.ref a] := .cons rfl .nil
  have hb1 := hb s [Value.ref a] KX rfl
  have hkind : ∀ y ∈ (["self"] : List Str).zip [Value.ref a], (defScope st).names.lookup y.1 = some .local ∨ ((defScope st).names.lookup y.1 = some .cell ∧ ((cellsFrom (s.heap.objs.size + 1) (defScope st).names []).lookup y.1).isSome = true) := fun ⟨n, v⟩ hy => by
    rcases S.par n (List.of_mem_zip hy).1 with q | q
    · exact .inl q
    · exact .inr ⟨q, PySem.W.cellsFrom_some _ _ _ (.inl q)⟩
  refine codeAny_call_function hr.depth (KX _ _ lk) rfl S.co S.gen rfl (PySem.W.codeRec_of KX hcd) (hb1 _ _ _ _ ?_)
  refine wpAny_newFunctionEnv_cells S.kind hkind fun env he s1 x => ?_
  subst he
  refine ⟨lim.keeps x.toInCall.keep, codeAny_func ?_⟩
  have ht := hbody cdv A outer s H E0 (hr.deeper _)
  have I : Inv (cxOf CX0 P w K mg base ["self"] qual (defScope st) f cdv A outer s H E0) [] (L2.start ["self"] [V.ref a]) H s1 := inv_start S hr.hd e0 rfl r x
  refine wpAny_mono (ht.nox.run [] s1 (L2.start ["self"] [V.ref a]) H { nx := fun _ _ => False, rt := fun v H' => ∃ it, v = .ref it ∧ s.heap.objs.size ≤ it ∧ H it = none ∧ H' = upd H it (TtO l it 0) } I ?_) (fun fl s' hs => ?_) fun e s' hs => hs
  · refine ⟨.ref a, rfl, a, C, dx, fs, .ref l, rfl, ha, cl, na, hl, l, zs, rfl, hz, fun it h1 h2 => ⟨it, rfl, h2, h1, rfl⟩⟩
  · cases fl with
    | ret u =>
      obtain ⟨v, σ', H', J, rv, q⟩ := hs
      exact ⟨v, H', J.os, J.bare, J.base, J.hok, rv, q⟩
    | next =>
      obtain ⟨_, _, _, q⟩ := hs
      exact False.elim q
    | brk =>
      obtain ⟨_, _, _, q⟩ := hs
      exact False.elim q
    | cont =>
      obtain ⟨_, _, _, q⟩ := hs
      exact False.elim q
end

section
variable {X : Cx} {C fi fl : Addr} {fld : Str} {k kl : Nat} {fdl : FuncData} {psl : List Str}
section
variable {pins : List (Addr × Obj)} {σ : L2.St} {H : Hp} {s : Shared} {a dx l : Addr} {fs : List (Str × V)} {zs : List V} {A1 : Around}
theorem iter_boxT {Q : Value → Shared → Prop} {E : Value → Shared → Prop} (sb : Sub X k A1) (hc : BoxC X.K C fi fl) (FI : FnItT X.prog X.w X.K X.mg X.base k fi C fld) (I : Inv X pins σ H s) (ha : H a = some (.ins C dx fs)) (hl : fs.lookup fld = some (.ref l)) (hz : SqT X.K H l zs)
    (h : ∀ it s', s.heap.objs.size ≤ it → H it = none → Inv X pins σ (upd H it (TtO l it 0)) s' → Q (.ref it) s') : wpAny (model X.prog X.w) A1 (pyIter (.ref a)) Q E s := by
  obtain ⟨mA, J, _⟩ := ins_get I.hok ha
  obtain ⟨od, J, _⟩ := J.look
  obtain ⟨m, hF⟩ := I.fr
  refine PySem.W.owit_iter hF I.ok.mod.kin J hc.it hc.itF ?_
  refine wpAny_call (codeAny_mono (FI.run A1 X.stack s H a dx l fs zs sb.room (env0_sub I sb) ha hl hz) fun r s' hq => ?_)
  cases r with
  | error e => exact False.elim hq
  | ok f =>
    cases f with
    | next => exact False.elim hq
    | brk => exact False.elim hq
    | cont => exact False.elim hq
    | ret u =>
      obtain ⟨v, H', I', rv, it, ev, hs, hn, eH⟩ := I.after hq
      subst ev
      rw [eH] at I'
      cases rv
      have hx := ttO_get I' upd_same
      have hT : s'.TypeIs (.ref it) "tuple_iterator" := ⟨_, hx, rfl⟩
      show PySem.W.OwitIt _ _ _ _ _ _
      unfold PySem.W.OwitIt
      refine wpAny_specialOf (name := Str.ofString "__next__") hT PySem.F.slot_tuple_iterator_next.lookup ?_
      exact h it s' hs hn I'
theorem len_boxT {Q : Value → Shared → Prop} {E : Value → Shared → Prop} (sb : Sub X kl A1.in1) (hc : BoxC X.K C fi fl) (FL : FnOk X.prog X.w X.K X.mg X.base CX0 kl fl fdl psl (spLenT X.K C fld)) (bl : Binds X.K fdl psl []) (I : Inv X pins σ H s) (ha : H a = some (.ins C dx fs)) (hl : fs.lookup fld = some (.ref l)) (hz : SqT X.K H l zs)
    (h : ∀ t s', Inv X pins σ H s' → Q (.int zs.length t) s') : wpAny (model X.prog X.w) A1 (call (.builtin "len") [.ref a]) Q E s := by
  obtain ⟨mA, J, _⟩ := ins_get I.hok ha
  obtain ⟨od, J, _⟩ := J.look
  obtain ⟨its, _, _, hsz⟩ := I.tuple hz
  have hsl : sizeLine = 16777216 := sizeLine_eq
  refine PySem.W.len_own (n := zs.length) I.kIn J hc.ln hc.lnF (by omega) ?_
  have sp : spLenT X.K C fld [.ref a] H (fun v H' => v = .int zs.length ∧ H' = H) E0 := ⟨a, dx, fs, l, zs, rfl, ha, hl, hz, rfl, rfl⟩
  have hlen := FL.len _ _ _ _ sp
  refine wpAny_call (codeAny_mono (FL.run A1.in1 X.stack s H ⟨[.ref a], []⟩ [.ref a] [.ref a] _ E0 sb.room (env0_sub I sb) (by
    have := bl s [.ref a] I.kIn (by simpa using hlen)
    simpa using this) (.cons rfl .nil) sp) fun r s' hq => ?_)
  cases r with
  | error e => exact False.elim hq
  | ok f =>
    cases f with
    | next => exact False.elim hq
    | brk => exact False.elim hq
    | cont => exact False.elim hq
    | ret u =>
      obtain ⟨v, H', I', rv, ev, eH⟩ := I.after hq
      subst ev
      rw [eH] at I'
      obtain ⟨t, rfl⟩ := rv
      exact ⟨⟨t, rfl⟩, h _ _ (I'.tok _)⟩
end
def rBoxLenT (K : PySem.W.Frag) (C : Addr) (fld : Str) : List V → Hp → VK → Prop := fun xs H Q => ∃ a dx fs l zs, xs = [.ref a] ∧ H a = some (.ins C dx fs) ∧ fs.lookup fld = some (.ref l) ∧ SqT K H l zs ∧ Q (.int zs.length) H
theorem call_lenBoxT (hc : BoxC X.K C fi fl) (FL : FnOk X.prog X.w X.K X.mg X.base CX0 kl fl fdl psl (spLenT X.K C fld)) (bl : Binds X.K fdl psl []) (hr : Room (kl + 1) X.A) : CallR X (.builtin "len") (rBoxLenT X.K C fld) := by
  intro pins s σ H xs us Q I rv h
  obtain ⟨a, dx, fs, l, zs, rfl, ha, hl, hz, q⟩ := h
  obtain ⟨u, rfl, ru⟩ := rv.one
  cases ru
  have sb : Sub X kl X.A.in1 := (Sub.in1 (⟨hr, rfl⟩ : Sub X (kl + 1) X.A))
  exact len_boxT sb hc FL bl I ha hl hz fun t s' I' => ⟨.int zs.length, H, I', ⟨t, rfl⟩, q⟩
def rBoxListT (K : PySem.W.Frag) (C : Addr) (fld : Str) : List V → Hp → VK → Prop := fun xs H Q => ∃ a dx fs l zs, xs = [.ref a] ∧ H a = some (.ins C dx fs) ∧ fs.lookup fld = some (.ref l) ∧ SqT K H l zs ∧ ∀ q, H q = none → Q (.ref q) (upd H q (.lst zs))
theorem ext_loopT {A1 : Around} {pins : List (Addr × Obj)} {σ : L2.St} {Rs : Result → Shared → Prop} {q l it : Addr} {zs : List V} {H0 : Hp} (hh : A1.in1.handled = none) (hf : FpOk X pins H0 it) (hql : q ≠ it) (hH : H0 q = none) (hz : SqT X.K H0 l zs) (hzl : zs.length ≤ sizeLine)
    (hdone : ∀ s, Inv X pins σ (upd H0 q (.lst zs)) s → Rs (.ok (.ret .none)) s) :
    ∀ (m i : Nat) (s : Shared), m = zs.length - i → i ≤ zs.length → Inv X pins σ (upd H0 q (.lst (zs.take i))) s → s.heap.IsTupleIter it l i → codeAny (model X.prog X.w) A1 (.builtin "list.extend.loop" ⟨[.ref q, .ref it, .none], []⟩) Rs s := by
  have fp : ∀ i, FpOk X pins (upd H0 q (.lst (zs.take i))) it := fun i => ⟨by rw [upd_ne (Ne.symm hql)]; exact hf.1, hf.2⟩
  have sq : ∀ i, SqT X.K (upd H0 q (.lst (zs.take i))) l zs := fun i => sqT_same (fun a o e => by rw [upd_ne (ne_of_none e hH)]; exact e) hz
  intro m
  induction m with
  | zero =>
    intro i s hm hi I st
    refine codeAny_builtin PySem.F.entry_extend_loop ?_
    rw [Around.under_plainId PySem.F.plain_extend_loop _]
    show wpAny _ A1.in1 (pyNext (.ref it) >>= _) _ _ s
    obtain ⟨its, rv, p, _⟩ := I.tuple (sq i)
    obtain ⟨f0, f1, f2, f3, f4, f5⟩ := fp i
    have hl := rv.length
    refine wpAny_bind (wpAny_pyNext_tuple_end hh st (show s.heap.IsTuple l its.toArray from p) (by simp; omega) fun h' eb => ?_)
    have I1 := I.turned (h' := h') (t' := s.toks) (fun b o hb e => eb b o hb e) f0 f1 f3 f4 f5
    rw [List.take_of_length_le (by omega)] at I1
    exact wpAny_pure (hdone _ I1)
  | succ m ih =>
    intro i s hm hi I st
    refine codeAny_builtin PySem.F.entry_extend_loop ?_
    rw [Around.under_plainId PySem.F.plain_extend_loop _]
    show wpAny _ A1.in1 (pyNext (.ref it) >>= _) _ _ s
    have hlt : i < zs.length := by omega
    obtain ⟨its, rv, p, _⟩ := I.tuple (sq i)
    obtain ⟨f0, f1, f2, f3, f4, f5⟩ := fp i
    obtain ⟨u, hu, ru⟩ := rv.get (List.getElem?_eq_getElem hlt)
    refine wpAny_bind (wpAny_pyNext_tuple_item st (show s.heap.IsTuple l its.toArray from p) (x := u) (by simpa using hu) fun h' st' sb => ?_)
    have I1 := I.turned (h' := h') (t' := s.toks) (fun b o hb e => (sb.2 b hb).trans e) f0 f1 f3 f4 f5
    show wpAny _ A1.in1 (updateSeq q (·.push u) >>= _) _ _ _
    obtain ⟨z, its2, k, r2, hl2, e⟩ := I1.lstM upd_same
    have hlen := r2.length
    rw [List.length_take, Nat.min_eq_left hi] at hlen
    refine wpAny_bind (wpAny_updateSeq e rfl (wpAny_pure ⟨plainId_quiet PySem.F.plain_extend_loop _, ?_⟩) (by rw [List.size_toArray]; omega) (by show (its2.toArray.push u).size ≤ sizeLine + 1; rw [Array.size_push, List.size_toArray]; omega))
    have I2 := I1.lset (f := (·.push u)) (its' := its2 ++ [u]) (ys := zs.take i ++ [zs[i]]) (t' := s.toks) upd_same e (by simp) (r2.append (.cons ru .nil)) (by rw [List.length_append, List.length_singleton, List.length_take]; omega)
    rw [upd_upd, List.take_append_getElem hlt] at I2
    refine ih (i + 1) _ (by omega) hlt I2 (st'.at fun o e => ?_)
    rw [Heap.get?_update_other _ _ hql]
    exact e
theorem call_listBoxT (hc : BoxC X.K C fi fl) (FI : FnItT X.prog X.w X.K X.mg X.base k fi C fld) (FL : FnOk X.prog X.w X.K X.mg X.base CX0 kl fl fdl psl (spLenT X.K C fld)) (bl : Binds X.K fdl psl []) (hr : Room (k + 3) X.A) (hr2 : Room (kl + 3) X.A) (hcalm : X.calm = true) : CallR X (.type "list") (rBoxListT X.K C fld) := by
  intro pins s σ H xs us Q I rv h
  obtain ⟨a, dx, fs, l, zs, rfl, ha, hl, hz, hq⟩ := h
  obtain ⟨u, rfl, ru⟩ := rv.one
  cases ru
  have sbI : Sub X k X.A.in1.in1 := (Sub.in1 (Sub.in1 ((⟨hr, rfl⟩ : Sub X (k + 3) X.A).mono (by omega))))
  have sbL : Sub X kl X.A.in1.in1.in1 := (Sub.in1 (Sub.in1 (Sub.in1 (⟨hr2, rfl⟩ : Sub X (kl + 3) X.A))))
  refine callType_codes (Q₁ := fun obj s₁ => obj = .ref s.heap.objs.size ∧ s₁ = { s with heap := s.heap.push { cls := .type "list", data := .seq #[] } }) PySem.F.called_list (PySem.F.typeCall_list_1 _) PySem.F.entry_list_init
    (code_list_new _ ⟨rfl, rfl⟩) fun obj s₁ h₁ => ?_
  obtain ⟨rfl, rfl⟩ := h₁
  have hS : (s.heap.push { cls := .type "list", data := .seq #[] }).get? s.heap.objs.size = some { cls := .type "list", data := .seq #[] } := Heap.get?_push_size _ rfl
  refine ⟨⟨_, hS, rfl⟩, PySem.F.args_list_init_2 _ _, ?_⟩
  generalize hqe : s.heap.objs.size = q at hS ⊢
  have fr : H q = none := I.hok.fresh (by rw [hqe]; exact Nat.le_refl _)
  have I1 : Inv X pins σ (upd H q (.lst [])) { s with heap := s.heap.push { cls := .type "list", data := .seq #[] } } := by
    rw [← hqe]
    exact I.lnew (its := []) (t' := s.toks) .nil (Nat.zero_le _)
  show wpAny _ _ (do let old ← Builtin.List.listItems (.ref q); Builtin.List.listUpdate (.ref q) (fun _ => #[]); letGo old.toList.reverse; Builtin.List.listExtendWith (.ref q) (.ref a) .none) _ _ _
  refine wpAny_bind ?_
  unfold Builtin.List.listItems
  refine wpAny_bind (wpAny_seqItems hS rfl (wpAny_pure ?_))
  show wpAny _ _ (updateSeq q (fun _ => #[]) >>= fun _ => letGo (#[] : Array Value).toList.reverse >>= fun _ => Builtin.List.listExtendWith (.ref q) (.ref a) .none) _ _ _
  refine wpAny_bind (wpAny_updateSeq hS rfl ?_)
  have I2 := I1.lset (f := fun _ => #[]) (its := []) (its' := []) (ys := []) (t' := s.toks) upd_same hS rfl .nil (Nat.zero_le _)
  rw [upd_upd] at I2
  refine wpAny_bind (wpAny_letGo ?_)
  have hne : q ≠ a := fun z => by rw [z, ha] at fr; cases fr
  have ha2 : upd H q (.lst []) a = some (.ins C dx fs) := by rw [upd_ne (Ne.symm hne)]; exact ha
  have hz2 : SqT X.K (upd H q (.lst [])) l zs := sqT_same (fun b o e => by rw [upd_ne (ne_of_none e fr)]; exact e) hz
  have up : ∀ o, upd (upd H q (.lst [])) q o = upd H q o := fun o => upd_upd
  obtain ⟨_, _, _, hzl⟩ := I.tuple hz
  have hsl : sizeLine = 16777216 := sizeLine_eq
  generalize hs2 : ({ s with heap := (s.heap.push { cls := .type "list", data := .seq #[] }).update q (Obj.mapSeq fun _ => #[]) } : Shared) = s2 at I2 ⊢
  unfold Builtin.List.listExtendWith
  obtain ⟨mA, J, _⟩ := ins_get I2.hok ha2
  obtain ⟨od, J, _⟩ := J.look
  refine wpAny_bind (J.type.here ?_)
  have h1 : Builtin.List.listSameRef (.ref q) (.ref a) = false := by simp [Builtin.List.listSameRef, hne]
  have h2 : (Value.ref C == Value.type "list") = false := rfl
  have h3 : (Value.ref C == Value.type "tuple") = false := rfl
  simp only [h1, h2, h3, Bool.or_false, Bool.false_eq_true, if_false]
  refine wpAny_bind (iter_boxT sbI hc FI I2 ha2 hl hz2 fun it s3 hs hn I3 => ?_)
  have hit : s3.heap.IsTupleIter it l 0 := ⟨_, ttO_get I3 upd_same, rfl, rfl⟩
  have hi' : upd (upd H q (.lst [])) it (TtO l it 0) it = some (TtO l it 0) := upd_same
  have I4 := ItX.inv_drop I3 (by unfold TtO at hi'; exact hi')
  have fp4 := ItX.inv_fp I3 upd_same (Nat.le_trans I2.sz hs)
  rw [ItX.dropH_upd hn] at I4 fp4
  have hqi : q ≠ it := fun z => by rw [← z, upd_same] at hn; cases hn
  have P4 := I4.pinned (fp := [it]) (fun b hb => by rw [show b = it by simpa using hb]; exact fp4) (fun b hb => by
    rw [show b = it by simpa using hb]
    exact ⟨_, ttO_get I3 upd_same, fun v z => by cases z⟩)
  obtain ⟨mB, J4, _⟩ := ins_get P4.hok ha2
  obtain ⟨od4, J4, _⟩ := J4.look
  refine wpAny_bind (wpAny_holding (PySem.W.hint_own (n := zs.length) P4.kIn J4 hc.ln hc.lnF ?_ (len_boxT sbL hc FL bl P4 ha2 hl hz2 fun t s5 P5 => ⟨⟨t, rfl⟩, ?_⟩)))
  · unfold Builtin.List.listTooLong
    simp only [decide_eq_false_iff_not]
    omega
  have I5 := P5.unpinned
  have e5 : s5.heap.IsTupleIter it l 0 := hit.at fun o e => (P5.pin (it, o) (List.mem_append_right _ (List.mem_append_right _ (mem_pinsAt (by simp) e)))).1
  have hh : X.A.in1.in1.handled = none := I5.ok.hd hcalm
  have done : ∀ s6, Inv X pins σ (upd (upd H q (.lst [])) q (.lst zs)) s6 → wants (fun r s₂ => r = .none ∧ EP X pins σ Q (.ref q) s₂) X.xe (.ok (.ret .none)) s6 := fun s6 I6 => by
    rw [upd_upd] at I6
    exact ⟨rfl, .ref q, _, I6, rfl, hq q fr⟩
  have fp0 : FpOk X pins H it := ⟨by
    have := fp4.1
    rw [upd_ne (Ne.symm hqi)] at this
    exact this, fp4.2⟩
  have go : ∀ s6, Inv X pins σ (upd H q (.lst [])) s6 → s6.heap.IsTupleIter it l 0 → codeAny (model X.prog X.w) X.A.in1 (.builtin "list.extend.loop" ⟨[.ref q, .ref it, .none], []⟩) (wants (fun r s₂ => r = .none ∧ EP X pins σ Q (.ref q) s₂) X.xe) s6 := fun s6 I6 st6 =>
    ext_loopT hh fp0 hqi fr hz (by omega) (fun s7 I7 => ⟨rfl, .ref q, _, I7, rfl, hq q fr⟩) zs.length 0 s6 (by omega) (Nat.zero_le _) I6 st6
  refine wpAny_ite_split (fun _ => ?_) (fun _ => wpAny_pure ⟨plainId_quiet PySem.F.plain_extend_loop _, go _ I5 e5⟩)
  obtain ⟨z, its, k3, r3, hl3, e3⟩ := I5.lstM upd_same
  cases r3
  refine wpAny_bind (wpAny_rule ?_)
  refine wpAny_bind ?_
  show wpAny _ _ (updateSeq q (·.push .none) >>= fun _ => updateSeq q (·.pop)) _ _ _
  refine wpAny_bind (wpAny_updateSeq e3 rfl ?_)
  have I6 := I5.lset (f := (·.push Value.none)) (its' := [Value.none]) (ys := [.non]) (t' := s5.toks) upd_same e3 (by simp) (.cons rfl .nil) (by rw [List.length_singleton, sizeLine_eq]; decide)
  obtain ⟨z4, its4, k4, r4, hl4, e4⟩ := I6.lstM upd_same
  obtain ⟨u4, rfl, ru4⟩ := r4.one
  refine wpAny_updateSeq e4 rfl ?_ (by show 1 ≤ sizeLine; rw [sizeLine_eq]; decide) (by show 0 ≤ sizeLine + 1; exact Nat.zero_le _)
  have I7 := I6.lset (f := (·.pop)) (its := [u4]) (its' := []) (ys := []) (t' := s5.toks) upd_same e4 (by rfl) .nil (Nat.zero_le _)
  rw [upd_upd, upd_upd] at I7
  refine wpAny_pure ⟨plainId_quiet PySem.F.plain_extend_loop _, go _ I7 ?_⟩
  exact e5.at fun o e => by
    show Heap.get? _ it = _
    rw [Heap.get?_update_other _ _ hqi, Heap.get?_update_other _ _ hqi]
    exact e
end
end L2
namespace L2
open PySem PySem.Spec PyProof.Rows
section
variable {P : Program} {w : World} {K : PySem.W.Frag} {mg : Str → Option Value} {base : Heap} {C f : Addr} {x qual : Str} {st : Stmt} {fd : FuncData} {k : Nat} {fld : Str}
theorem fn_lenT (F : Fun K x qual st f fd) (S : FnScope ["self"] ["self"] (defScope st)) (cl : Cls K C) (na : NoAttr K C fld)
    (hbody : ∀ (cdv : Value) (A : Around) (outer : List PySem.Env) (s : Shared) (H : Hp) (E : XK), Room k (A.deeper (envOfC qual (defScope st) s.heap.objs.size f cdv)) →
      PSs (cxOf CX0 P w K mg base ["self"] qual (defScope st) f cdv A outer s H E).nox (defBody st) (tRet (tCB (Ab.rLenV K) (tCons (tFld K (tVar 0) fld) tNil)))) : FnOk P w K mg base CX0 (k + 1) f fd ["self"] (spLenT K C fld) := by
  refine F.ok S (fun vs H Q E h => ?_) (fun cdv A outer s H vs Q E hr h => ?_)
  · obtain ⟨_, _, _, _, _, rfl, _⟩ := h; rfl
  · obtain ⟨a, dx, fs, l, zs, rfl, ha, hl, hz, q⟩ := h
    refine ⟨_, hbody cdv A outer s H E hr, ?_⟩
    refine ⟨.ref a, rfl, a, C, dx, fs, .ref l, rfl, ha, cl, na, hl, ?_⟩
    exact ⟨_, _, rfl, .inr ⟨zs, hz, rfl⟩, q⟩
end
end L2
namespace Ab
open PySem L2
section
variable {K : PySem.W.Frag} {Γ : List Sl} {Post : Re → List Sl → Prop} {ta tb te : TE} {C : Addr} {fld : Str}
theorem box_getT {B H : Hp} {x : V} {gs : List (Str × Dt)} {ds : List Dt} (k1 : Is K B x (.obj C gs)) (hl : gs.lookup fld = some (.tup ds)) (hb : Same B H) : ∃ a dx fs l zs, x = .ref a ∧ H a = some (.ins C dx fs) ∧ fs.lookup fld = some (.ref l) ∧ SqT K H l zs ∧ IsA K B zs ds := by
  obtain ⟨a, dx, fs, rfl, ha, hk, hi⟩ := Is.objR k1
  obtain ⟨w, hw⟩ := lk_some (hk fld) hl
  obtain ⟨l, zs, rfl, h1, h2⟩ := Is.tupR (hi fld w _ hw hl)
  exact ⟨a, dx, fs, l, zs, rfl, hb _ _ ha, hw, sqT_mono hb h1, h2⟩
theorem we_boxLenT (h : WE K te Γ fun r Γ1 => ∃ gs ds, r = .val (.obj C gs) ∧ gs.lookup fld = some (.tup ds) ∧ Post (.val (.int ds.length)) Γ1) : WE K (tCB (rBoxLenT K C fld) (tCons te tNil)) Γ Post := fun σ B H E Q q => by
  refine h σ B H E _ fun x B1 H1 r Γ1 g1 k1 p1 => ?_
  obtain ⟨gs, ds, rfl, hl, p⟩ := p1
  obtain ⟨a, dx, fs, l, zs, rfl, ha, hw, hz, hi⟩ := box_getT k1 hl g1.env.bh
  exact ⟨a, dx, fs, l, zs, rfl, ha, hw, hz, q _ B1 H1 _ Γ1 g1 (by rw [hi.len]; exact Is.raw _) p⟩
theorem we_boxListT (h : WE K te Γ fun r Γ1 => ∃ gs ds, r = .val (.obj C gs) ∧ gs.lookup fld = some (.tup ds) ∧ Post (.new ds) Γ1) : WE K (tCB (rBoxListT K C fld) (tCons te tNil)) Γ Post := fun σ B H E Q q => by
  refine h σ B H E _ fun x B1 H1 r Γ1 g1 k1 p1 => ?_
  obtain ⟨gs, ds, rfl, hl, p⟩ := p1
  obtain ⟨a, dx, fs, l, zs, rfl, ha, hw, hz, hi⟩ := box_getT k1 hl g1.env.bh
  refine ⟨a, dx, fs, l, zs, rfl, ha, hw, hz, fun b hb => ?_⟩
  exact q _ _ _ (.new ds) Γ1 (g1.trans (Go.beside (o := .lst zs) g1.env hb)) ⟨b, _, rfl, g1.mv.back hb, g1.env.not_own hb, upd_same, g1.env.base_none hb, zs, rfl, hi⟩ p
end
end Ab

namespace L2
open PySem PySem.Spec PyProof.Rows
theorem fnIn_of {K : PySem.W.Frag} {x qual : Str} {st : Stmt} {f : Addr} {fd : FuncData} (F : Fun K x qual st f fd) : PySem.W.fnIn K f = true := by
  obtain ⟨oc, od, kV, doc, pm, an, cdv, ct, osl, rfl, lk, hcd⟩ := F.ex
  unfold PySem.W.fnIn
  rw [lk]
theorem itmC {K : PySem.W.Frag} {C f : Addr} {x qual : Str} {st : Stmt} {fd : FuncData} (m : Meth K C "__getitem__" f) (F : Fun K x qual st f fd) : ItmC K C f := ⟨m.at_, fnIn_of F, m.fn⟩
section
variable {X : Cx} {CX : CXT} {k : Nat} {f : Addr} {sp : Sp} {E : St → XK} {x : Str} {p pos : Pos} {e : Expr} {es : List Expr} {t : TA}
theorem run_fnRS {pins : List (Addr × Obj)} {σ : St} {H : Hp} {s : Shared} {Q : VK} {us : List Value} {vs : List V} (F : FnR X.prog X.w X.K X.mg X.base CX k f sp) (hr : Room k X.A) (hx : PassesAt CX X σ (E σ))
    (I : Inv X pins σ H s) (r : Vals vs us) (h : sp vs H Q (E σ)) : wpAny (model X.prog X.w) X.A (call (.ref f) us) (EP X pins σ Q) X.xe s := by
  refine wpAny_call (codeAny_mono (F X.A X.stack s H us vs Q (E σ) hr I.env0 r h) fun r s' hq => ?_)
  cases r with
  | error e => exact hx pins H s e s' I hq
  | ok fl =>
    cases fl with
    | ret u => exact I.after hq
    | next => exact False.elim hq
    | brk => exact False.elim hq
    | cont => exact False.elim hq
theorem pe_callRS (F : FnR X.prog X.w X.K X.mg X.base CX k f sp) (hr : Room k X.A) (hg : Gl X x) (hm : X.mg x = some (.ref f)) (hk : PySem.W.keepIn X.K (.ref f) = true) (hx : ∀ σ, PassesAt CX X σ (E σ))
    (ha : PA X (e :: es) t) (hdb : (x == ("__debug__" : Str)) = false := by decide) (he : starEach (e :: es) X.env = (false, eval e X.env) :: starEach es X.env := by rfl) (hpl : (backTo pos (starEach es X.env)).any (·.1) = false := by rfl) :
    PE X (.Call (.Name x p) (e :: es) [] pos) (tCallS sp E t) := by
  refine ⟨fun pins s σ H Q I h => ?_⟩
  refine wpAny_Call_Name_kw (ld_glob I hg hm ?_ hdb)
  refine PySem.W.callWith_K (h₀ := X.base) I.ok.mod.kin hk (thn (ha.run pos pins s σ H _ I h) fun us s1 ⟨vs, H1, I1, r, q⟩ => ⟨I1.kIn, ?_⟩) he hpl
  exact run_fnRS F hr (hx σ) I1 r q
theorem pe_callRS0 (F : FnR X.prog X.w X.K X.mg X.base CX k f sp) (hr : Room k X.A) (hg : Gl X x) (hm : X.mg x = some (.ref f)) (hk : PySem.W.keepIn X.K (.ref f) = true) (hx : ∀ σ, PassesAt CX X σ (E σ))
    (hdb : (x == ("__debug__" : Str)) = false := by decide) : PE X (.Call (.Name x p) [] [] pos) (tCallS sp E tNil) := by
  refine ⟨fun pins s σ H Q I h => ?_⟩
  refine wpAny_Call_Name_kw (ld_glob I hg hm ?_ hdb)
  exact PySem.W.callWith_K0 I.kIn hk (run_fnRS (us := []) F hr (hx σ) I .nil h)
theorem passS {X : Cx} {CX : CXT} {E0 : XK} (h : Passes CX X E0) (σ : St) : PassesAt CX X σ ((fun _ => E0 : St → XK) σ) := fun pins H s e s' I c => h pins σ H s e s' I c
end
end L2
namespace Ab
open PySem L2
section
variable {X : Cx} {body : List Stmt} {h₀ : ExceptHandler} {hds : List ExceptHandler} {pos : Pos} {tb : WX → TS} {Wout : WX} {l : List Cls3}
theorem ps_tryM (hs : X.stack = X.env :: X.outer) (hf : X.env.frame = some X.env.locals) (hN : X.N.Nodup) (tk : Takes X Wout)
    (hb : ∀ (W : WX) (pn : List (Addr × Obj)) (xe : Value → Shared → Prop), Takes (X.tr pn xe) W → PassesOwn (model X.prog X.w) X.A X.env xe → PSs (X.tr pn xe) body (tb W))
    (hh : HdsA X (h₀ :: hds) (l.map (clOf X.K))) : PS X (.Try body (h₀ :: hds) [] [] pos) (tTryMas X.K l tb Wout) := ps_try_mas hs hf hN tk hb hh
theorem hds_nil : HdsA X [] (([] : List Cls3).map (clOf X.K)) := .nil
theorem hds_cons {x n : Str} {c : Value} {i : Nat} {fs : List Str} {ts : Addr → Addr → Option Addr → TS} {b₀ : Stmt} {suite : List Stmt} {np pos' : Pos} {hds : List ExceptHandler} {l : List Cls3} (hi : X.N[i]? = some n) (hln : X.env.kindOf n = some .local) (hc : Names X x c)
      (hsu : ∀ (a : Addr) (oe : Obj) (cls : Value) (d : Option Addr) (pn : List (Addr × Obj)), Zc cls d oe → (∃ vs, oe.data = .fields vs) → PSs (X.suite a ((a, oe) :: pn)) (b₀ :: suite) (tExcD X.K fs cls fun C => ts a C d)) (r : HdsA X hds (l.map (clOf X.K))) :
      HdsA X (.ExceptHandler (some (.Name x np)) (some n) (b₀ :: suite) pos' :: hds) (((c, i, fs, ts) :: l).map (clOf X.K)) := .cons hi hln hc hsu r
end
def toSpSt (K : PySem.W.Frag) (ap : APX) : Sp := fun vs H Q E => vs.length ≤ sizeLine ∧ ∀ p, H p = none → toSpX K ap [.ref p] (upd H p (.tup vs)) Q E
def StarB (fd : FuncData) (pv : Str) : Prop := ∀ rest : List Value, bindArgs fd ⟨rest, []⟩ = (newTuple rest >>= fun t => pure [(pv, t)])
section
variable {P : Program} {w : World} {K : PySem.W.Frag} {mg : Str → Option Value} {base : Heap}
theorem fn_abSt {x qual : Str} {st : Stmt} {f : Addr} {fd : FuncData} {N : List Str} {pv : Str} {k : Nat} {ap : APX} (F : Fun K x qual st f fd) (S : FnScope N [pv] (defScope st)) (hb : StarB fd pv)
    (hlen : ∀ as Post XP, ap as Post XP → as.length = 1) (hN : decide (1 ≤ N.length) = true) (t : WX → TS)
    (body : ∀ (cdv : Value) (A : Around) (outer : List PySem.Env) (s : Shared) (H : Hp) (E : XK), Room k (A.deeper (PyProof.Rows.envOfC qual (defScope st) s.heap.objs.size f cdv)) →
      PSs (cxOf (L2.CX P w) P w K mg base N qual (defScope st) f cdv A outer s H E) (defBody st) (t fun cls d _ H' => E cls d H'))
    (run : RunOkX K [] t N.length ap) : FnR P w K mg base (L2.CX P w) (k + 1) f (toSpSt K ap) := by
  obtain ⟨oc, od, kV, doc, pm, an, cdv, ct, osl, rfl, lk, hcd⟩ := F.ex
  refine FnR.imp (StX.fn_star (ps := []) (pv := pv) (sp := toSpX K ap) lk hcd S StX.cxUp (fun us rest hu => ?_) (fun A outer s H vs Q E hr h => ?_)) (fun vs H Q E ⟨hl, h⟩ => ⟨[], vs, rfl, rfl, hl, h⟩)
  · cases us with
    | nil => exact hb rest
    | cons a r => cases hu
  · obtain ⟨B, as, Post, XP, E1, ha, q, qx⟩ := h
    refine ⟨_, body cdv A outer s H E hr, ?_⟩
    have hl : vs.length = as.length := by have := E1.len; simpa using this
    have hps : as.length ≤ N.length := by rw [hlen as Post XP ha]; exact of_decide_eq_true hN
    have E0 := env_start E1 hps
    have fin : ∀ v σ' B' H' r Γ', GoS K [] (L2.start N vs) B H (as ++ List.replicate (N.length - as.length) .un) σ' B' H' Γ' → ReOk K [] (Own (L2.start N vs) (as ++ List.replicate (N.length - as.length) .un)) (Own σ' Γ') B' H H' v r → Post r (exitArgs [] Γ' as) → Q v H' := by
      intro v σ' B' H' r Γ' g kk p
      obtain ⟨g', kr⟩ := exit_go E1 hl g
      exact q v B' H' r _ g' (kr v r kk) p
    exact run _ as Post XP ha (L2.start N vs) B H _ E0 (fun σ' B' H' Γ' g p => fin .non σ' B' H' (.val .non) Γ' g (Is.raw _) p) (fun v σ' B' H' r Γ' g kk p => fin v σ' B' H' r Γ' g kk p) (fun _ _ _ _ _ p => p.elim) (fun _ _ _ _ _ p => p.elim)
      (fun cls d fs σ' B' H' Γ' g hx p => qx cls d fs B' H' _ (exit_go E1 hl g).1 hx p)
variable {pin : List Nat} {Γ : List Sl} {Pp : Ps} {Post : Re → List Sl → Prop} {ta : TA} {ap : APX}
def tCallSt (K : PySem.W.Frag) (ap : APX) (W : WX) (ta : TA) : TE := tCallS (toSpSt K ap) (fun σ cls d H => W cls d σ H) ta
theorem st_core {σ : L2.St} {B H B2 H2 : Hp} {Γ2 : List Sl} {vs : List V} {ds : List Dt} {XQ : Value → List (Str × Dt) → List Sl → Prop} {Q : VK} {EX : XK} (E : Env K B H σ Γ) (g : Go K σ B H Γ B2 H2 Γ2) (k3 : IsA K B2 vs ds) (hz : ds.length ≤ sizeLine) (p3 : ap [.val (.tup ds)] (fun r as' => NormP Γ2 (Post r)) fun cls fs as' => NormP Γ2 (XQ cls fs))
    (q : ∀ v B' H' r Γ', Go K σ B H Γ B' H' Γ' → ReOk K σ (Own σ Γ) (Own σ Γ') B' H H' v r → Post r Γ' → Q v H') (qx : ∀ cls d fs B' H' Γ', Go K σ B H Γ B' H' Γ' → ExB K B' d fs → XQ cls fs Γ' → EX cls d H') : toSpSt K ap vs H2 Q EX := by
  refine ⟨by rw [k3.len]; exact hz, fun p hp => ?_⟩
  have g2 := Go.laid (o := .tup vs) g.env hp
  have k4 : Is K (upd B2 p (.tup vs)) (.ref p) (.tup ds) := by
    have := k3.mono g2.mv.bb
    exact Is.tup (.inl (.inl upd_same)) this.len this.at_
  exact call_data E (g.trans g2) (.cons k4 .nil) p3 q qx
theorem wx_star {X : Ex} {W : WX} (hW : X.W = W) (h : WD K ta Γ fun ds Γ2 => (Nat.ble ds.length 1000) = true ∧ Hold (ap [.val (.tup ds)] (fun r as' => NormP Γ2 (Post r)) fun cls fs as' => NormP Γ2 (X.q cls fs))) : WX' K X (tCallSt K ap W ta) Γ Post := fun σ B H E Q q qx => by
  subst hW
  refine h σ B H E _ fun vs B2 H2 ds Γ2 g2 k2 p2 => ?_
  have hz : ds.length ≤ sizeLine := Nat.le_trans (Nat.le_of_ble_eq_true p2.1) (by rw [sizeLine_eq]; decide)
  exact st_core E g2 k2 hz p2.2.get q qx
theorem we_star0 {E0 : XK} (h : WD K ta Γ fun ds Γ2 => (Nat.ble ds.length 1000) = true ∧ Hold (ap [.val (.tup ds)] (fun r as' => NormP Γ2 (Post r)) fun cls fs as' => False)) : WE K (tCallS (toSpSt K ap) (fun _ => E0) ta) Γ Post := fun σ B H E Q q => by
  refine h σ B H E _ fun vs B2 H2 ds Γ2 g2 k2 p2 => ?_
  have hz : ds.length ≤ sizeLine := Nat.le_trans (Nat.le_of_ble_eq_true p2.1) (by rw [sizeLine_eq]; decide)
  exact st_core (XQ := fun _ _ _ => False) E g2 k2 hz p2.2.get q fun _ _ _ _ _ _ _ _ z => z.elim
end
end Ab

namespace Ns
open PySem L2 Ab
def tq_letters (K : PySem.W.Frag) (ap__law_take : AP) : TS :=
    (tSeq (tAsg (tC (.str "abcdefghijklmnopqrstuvwxyz")) (gName 2))
    (tRet (tM1 (rJoin K) (tC (.str "")) (tLc (iRng1 (tCons (tVar 1) tNil)) (gName 3) tYes (tOp (rIx K) (tVar 2) (tCall (toSp K ap__law_take) [] E0 (tCons (tVar 0) (tCons (tC (.int 26)) tNil)))) [3]))))
def tq_names (K : PySem.W.Frag) (ap__law_letters : AP) (ap__law_take : AP) : TS :=
    (tSeq (tAsg (tCall (toSp K ap__law_letters) [] E0 (tCons (tVar 0) (tCons (tCall (toSp K ap__law_take) [] E0 (tCons (tVar 0) (tCons (tC (.int 6)) tNil))) tNil))) (gName 2))
    (tSeq (tAsg (tCall (toSp K ap__law_take) [] E0 (tCons (tVar 0) (tCons (tOp (rAddG K) (tCB (rLenV K) (tCons (tVar 2) tNil)) (tC (.int 1))) tNil))) (gName 3))
    (tSeq (tAsg (tCall (toSp K ap__law_take) [] E0 (tCons (tVar 0) (tCons (tC (.int 26)) tNil))) (gName 4))
    (tSeq (tAsg (tCall (toSp K ap__law_take) [] E0 (tCons (tVar 0) (tCons (tC (.int 2)) tNil))) (gName 5))
    (tSeq (tAsg (tC (.str "abcdefghijklmnopqrstuvwxyz")) (gName 6))
    (tSeq (tAsg (tLst tNil) (gName 7))
    (tSeq (tFor (iRng1 (tCons (tVar 1) tNil)) (gName 8) (tSeq (tAsg (tOp (rIx K) (tVar 6) (tOp rModI (tCB rInt1 (tCons (tOp (rAddG K) (tVar 4) (tVar 8)) tNil)) (tC (.int 26)))) (gName 9))
    (tSeq (tAsg (tOp rRepS (tC (.str "z")) (tOp (rMulG K) (tVar 5) (tOp rModI (tCB rInt1 (tCons (tVar 8) tNil)) (tC (.int 3))))) (gName 10))
    (tDrop (tBM K "list" rAppend (tVar 7) (tCons (tOp (rAddG K) (tOp (rAddG K) (tOp (rAddG K) (tSl (rSlG K) (tVar 2) tNoPart (tPart (tVar 3))) (tVar 9)) (tSl (rSlG K) (tVar 2) (tPart (tVar 3)) tNoPart)) (tVar 10)) tNil))))))
    (tRet (tVar 7)))))))))
def tq_any_names (K : PySem.W.Frag) (ap__law_take : AP) (ap__law_names : AP) (ap__law_letters : AP) : TS :=
    (tSeq (tIfS (tTest (tOp (rEqG K) (tCall (toSp K ap__law_take) [] E0 (tCons (tVar 0) (tCons (tC (.int 2)) tNil))) (tC (.int 1)))) (tRet (tCall (toSp K ap__law_names) [] E0 (tCons (tVar 0) (tCons (tVar 1) tNil)))) tNext)
    (tSeq (tAsg (tLst tNil) (gName 2))
    (tSeq (tFor (iRng1 (tCons (tVar 1) tNil)) (gName 3) (tSeq (tAsg (tCall (toSp K ap__law_letters) [] E0 (tCons (tVar 0) (tCons (tOp (rAddG K) (tC (.int 1)) (tCall (toSp K ap__law_take) [] E0 (tCons (tVar 0) (tCons (tC (.int 8)) tNil)))) tNil))) (gName 4))
    (tSeq (tIfS (tTest (tOp (rInG K) (tVar 4) (tVar 2))) (tAsg (tOp (rIx K) (tLc (iStr (tC (.str "abcdefghijklmnopqrstuvwxyz"))) (gName 5) (tTest (tOp (rIn K true) (tVar 5) (tVar 2))) (tVar 5) [5]) (tC (.int 0))) (gName 4)) tNext)
    (tDrop (tBM K "list" rAppend (tVar 2) (tCons (tVar 4) tNil))))))
    (tRet (tVar 2)))))
local macro_rules | `(tactic| walk_at "no") => `(tactic| first
  | exact fun h => Bool.noConfusion (show true = false from h)
  | exact fun h => Bool.noConfusion (show false = true from h)
  | exact fun h => absurd (of_decide_eq_true h) (by omega)
  | exact fun h => absurd (by omega) (of_decide_eq_false h)
  | exact fun h => absurd (by omega) (nd_t h)
  | exact fun h => absurd (nd_f h) (by omega)
  | fail "no")
local macro_rules | `(tactic| walk_at "kb") => `(tactic| first | exact kb_tt | exact kb_ll | exact kb_ii | exact kb_ib | exact kb_ss | exact kb_sb | exact kb_si | exact kb_tb | exact kb_ti | exact kb_ts | exact kb_tl | exact kb_lb | exact kb_li | exact kb_ls | exact kb_lt | exact kb_is | exact kb_it | exact kb_il | exact kb_st | exact kb_sl | exact kb_bb | exact kb_bi | exact kb_nb | exact kb_ni | exact kb_ns | exact kb_nt | exact kb_nl | exact kb_bs | exact kb_bt | exact kb_bl | fail "kb")
local macro_rules | `(tactic| walk_at "norm") => `(tactic| first
  | exact (rfl : _ = ([] : List Sl))
  | ((refine' norm_cons (rfl : _ = _ :: _) ?ea ?et); (case ea => first | exact norm_v | exact norm_n | exact norm_o | exact rfl | fail "norm"); (case et => walk_at "norm"))
  | fail "norm")
local macro_rules | `(tactic| walk_at "x") => `(tactic| first
  | ((with_reducible refine' norm_intro ?hn ?_); (case hn => walk_at "norm"))
  | ((with_reducible refine' we_var ?hh ?_); (case hh => exact rfl))
  | ((with_reducible refine' we_own ?hh ?_); (case hh => exact rfl))
  | with_reducible refine we_c ?_
  | with_reducible refine we_addG ?_
  | with_reducible refine addp_i ?_
  | with_reducible refine we_opI0 ?_
  | with_reducible refine we_opI ?_
  | with_reducible refine we_mulG ?_
  | ((with_reducible refine' mulp_r ?h1 ?_); (case h1 => first | decide | omega | fail "m"))
  | ((with_reducible refine' mulp_l ?h1 ?_); (case h1 => first | decide | omega | fail "m"))
  | with_reducible refine we_neg ?_
  | with_reducible refine we_ltG ?_
  | with_reducible refine ltp_i ?_
  | with_reducible refine we_eqG ?_
  | with_reducible refine we_neG ?_
  | with_reducible refine eqp_i ?_
  | with_reducible refine nep_i ?_
  | with_reducible refine we_ixG ?_
  | ((with_reducible refine' ixp ?h1 ?h2 ?_); (case h1 => exact rfl); (case h2 => exact rfl))
  | with_reducible refine we_lenG ?_
  | ((with_reducible refine' lenp ?hh ?_); (case hh => exact rfl))
  | with_reducible refine we_intG ?_
  | with_reducible refine intp_i ?_
  | with_reducible refine intp_b ?_
  | with_reducible refine we_abs ?_
  | with_reducible refine we_tup ?_
  | with_reducible refine we_lst ?_
  | with_reducible refine we_tuple ?_
  | with_reducible refine we_list ?_
  | with_reducible refine we_sum ?_
  | with_reducible refine we_max2 ?_
  | with_reducible refine we_min2 ?_
  | with_reducible refine wd_cons ?_
  | with_reducible refine wd_nil ?_
  | with_reducible refine wa_cons ?_
  | with_reducible refine wa_nil ?_
  | with_reducible refine we_callH ?_
  | with_reducible refine we_isiG ?_
  | ((with_reducible refine' isi_own ?h1 ?h2 ?_); (case h1 => exact rfl); (case h2 => walk_at "kb"))
  | ((with_reducible refine' isi_val ?h1 ?h2 ?_); (case h1 => exact rfl); (case h2 => walk_at "kb"))
  | ((with_reducible refine' isi_new ?h2 ?_); (case h2 => walk_at "kb"))
  | with_reducible refine we_chainI ?_
  | with_reducible refine we_andV ?_
  | with_reducible refine we_orV ?_
  | with_reducible refine we_notV ?_
  | with_reducible refine wt_test ?_
  | with_reducible refine wt_B ?_
  | with_reducible refine wt_yes ?_
  | with_reducible refine wt_and ?_
  | with_reducible refine wt_or ?_
  | with_reducible refine wt_not ?_
  | ((with_reducible refine' ws_retA ?hh ?_); (case hh => exact rfl))
  | with_reducible refine ws_ret ?_
  | with_reducible refine ws_if ?_
  | with_reducible refine ws_nil ?_
  | with_reducible refine ws_expr ?_
  | with_reducible refine ws_asgN rfl rfl ?_
  | with_reducible refine ws_setN ?_
  | with_reducible refine ws_asgG ?_
  | ((with_reducible refine' wg_tup ?hh ?_); (case hh => exact rfl))
  | with_reducible refine wgs_cons ?_
  | with_reducible refine wgs_nil ?_
  | with_reducible refine wg_nameN rfl rfl ?_
  | ((with_reducible refine' we_appendN ?hh ?_); (case hh => exact rfl))
  | ((with_reducible refine' we_reverseN ?hh ?_); (case hh => exact rfl))
  | ((with_reducible refine' ws_augN ?h1 ?h2 ?_); (case h1 => exact rfl); (case h2 => exact rfl))
  | (refine ⟨_, rfl, ⟨_, rfl⟩, ?_⟩)
  | (refine ⟨_, rfl, ?_⟩)
  | (refine ⟨_, _, _, rfl, rfl, rfl, ?_⟩)
  | (refine ⟨_, _, rfl, rfl, (Nat.le_of_ble_eq_true rfl : _ ≤ _), ?_⟩)
  | (refine ⟨_, _, rfl, rfl, ?_⟩)
  | (refine ⟨(Nat.le_of_ble_eq_true rfl : _ ≤ _), ?_⟩)
  | (refine ⟨(rfl : _ = true), ?_⟩)
  | ((refine' ⟨fun _ => ?_, fun hY => absurd hY ?k2⟩); (case k2 => walk_at "no"))
  | ((refine' ⟨fun hY => absurd hY ?k2, fun _ => ?_⟩); (case k2 => walk_at "no"))
  | (refine ⟨⟨(by omega), (by omega)⟩, ?_⟩)
  | (refine ⟨⟨(by decide), (by decide), (by decide)⟩, ?_⟩)
  | (refine ⟨(by first | decide | omega | fail "c"), ?_⟩)
  | fail "stop")
local macro_rules | `(tactic| walk_at "e") => `(tactic| first | with_reducible refine ws_seq ?_ | walk_at "x" | fail "stop")
local macro_rules | `(tactic| walk_at "xs") => `(tactic| repeat' walk_at "x")
local macro_rules | `(tactic| walk_at "es") => `(tactic| repeat' walk_at "e")
local macro_rules | `(tactic| walk_at "len") => `(tactic| ((intro as Post h); (repeat (first | (obtain ⟨e, _⟩ := h; exact (congrArg List.length e).trans rfl) | (obtain ⟨_, h⟩ := h)))))
local macro_rules | `(tactic| walk_at "x") => `(tactic| first
  | with_reducible refine we_isN ?_
  | with_reducible refine we_notN ?_
  | with_reducible refine we_slG ?_
  | with_reducible refine wo_none ?_
  | with_reducible refine wo_some ?_
  | ((with_reducible refine' ixp ?h1 ?h2 ?_); (case h1 => exact rfl); (case h2 => assumption))
  | ((with_reducible refine' ixp_s ?h1 ?h2 ?_); (case h1 => assumption); (case h2 => assumption))
  | ((with_reducible refine' lenp_s ?h1 ?_); (case h1 => assumption))
  | ((with_reducible refine' slp_s ?h1 ?_); (case h1 => assumption))
  | with_reducible refine we_join ?_
  | with_reducible refine we_gtS ?_
  | ((with_reducible refine' we_ktup ?h1 ?_); (case h1 => assumption))
  | fail "x3")
local macro_rules | `(tactic| walk_at "nd") => `(tactic| first
  | exact (rfl : _ = ([] : List Dt))
  | ((refine' normD_cons (rfl : _ = _ :: _) ?et); (case et => walk_at "nd"))
  | fail "nd")
local macro_rules | `(tactic| walk_at "x") => `(tactic| first
  | with_reducible refine we_sumG ?_
  | with_reducible refine eqp_st ?_
  | with_reducible refine nep_st ?_
  | ((with_reducible refine' eqp_sf ?h1 ?_); (case h1 => first | assumption | decide +kernel))
  | ((with_reducible refine' nep_sf ?h1 ?_); (case h1 => first | assumption | decide +kernel))
  | with_reducible refine we_inG ?_
  | with_reducible refine we_if ?_
  | ((with_reducible refine' we_clearN ?hh ?_); (case hh => exact rfl))
  | with_reducible refine we_notInG ?_
  | with_reducible refine we_smeth ?_
  | with_reducible refine we_makeD ?_
  | with_reducible refine we_makeK ?_
  | ((with_reducible refine' slp_tE ?h ?_); (case h => walk_at "nd"))
  | ((with_reducible refine' addp_tE ?hz ?h ?_); (case h => walk_at "nd"); (case hz => exact Nat.le_of_ble_eq_true rfl))
  | fail "x5")
local macro_rules | `(tactic| walk_at "tk") => `(tactic| refine .a (tk (by assumption) (by omega) (by omega) (by omega) fun _ _ _ _ _ => ?_))
local macro_rules | `(tactic| walk_at "ln") => `(tactic| first
  | omega
  | decide
  | exact Nat.le_refl _
  | exact (Nat.le_of_ble_eq_true rfl)
  | (simp only [List.length_append, List.length_cons, List.length_nil, List.length_map, List.length_take, List.length_drop, List.length_set, List.length_replicate, List.length_reverse, PySem.Str.length_append] at *; omega)
  | fail "ln")
local macro_rules | `(tactic| walk_at "az") => `(tactic| first
  | assumption
  | exact Az.nil
  | exact az_abc
  | exact Az.one (az_abc _ (by assumption))
  | ((refine' Az.app ?h1 ?h2); (case h1 => walk_at "az"); (case h2 => walk_at "az"))
  | ((refine' Az.cut ?h1 _ _); (case h1 => walk_at "az"))
  | fail "az")
local macro_rules | `(tactic| walk_at "ty") => `(tactic| first
  | assumption
  | exact EnvT.nil
  | ((refine' EnvT.cons ?ha ?ht); (case ha => walk_at "ty"); (case ht => walk_at "ty"))
  | exact SAny.mk
  | exact SIs.mk
  | exact SPool.mk (by assumption)
  | exact SPool.mk (PoolUp.mono (by assumption) (by omega))
  | ((refine' SVal.mk ?ha); (case ha => walk_at "ty"))
  | ((refine' RVal.mk ?ha); (case ha => walk_at "ty"))
  | ((refine' SAcc.mk ?h0 ?h1 ?h); (case h0 => walk_at "ln"); (case h1 => walk_at "ln"); (case h => walk_at "ty"))
  | ((refine' RNew.mk ?h0 ?h1 ?h); (case h0 => walk_at "ln"); (case h1 => walk_at "ln"); (case h => walk_at "ty"))
  | ((refine' TTs.mk ?h0 ?h1 ?h); (case h0 => walk_at "ln"); (case h1 => walk_at "ln"); (case h => walk_at "ty"))
  | ((refine' TLs.mk ?h0 ?h1 ?h); (case h0 => walk_at "ln"); (case h1 => walk_at "ln"); (case h => walk_at "ty"))
  | exact TIs.mk
  | exact TBl.mk
  | ((refine' TInt.mk ?h0 ?h1); (case h0 => walk_at "ln"); (case h1 => walk_at "ln"))
  | ((refine' TStr.mk ?h0 ?h1); (case h0 => walk_at "ln"); (case h1 => walk_at "ln"))
  | ((refine' TNm.mk ?h0 ?h1 ?h2); (case h0 => walk_at "ln"); (case h1 => walk_at "ln"); (case h2 => walk_at "az"))
  | ((refine' T2.mk ?ha ?hb); (case ha => walk_at "ty"); (case hb => walk_at "ty"))
  | ((refine' T3.mk ?ha ?hb ?hc); (case ha => walk_at "ty"); (case hb => walk_at "ty"); (case hc => walk_at "ty"))
  | ((refine' T4.mk ?ha ?hb ?hc ?hd); (case ha => walk_at "ty"); (case hb => walk_at "ty"); (case hc => walk_at "ty"); (case hd => walk_at "ty"))
  | ((refine' T1.mk ?ha); (case ha => walk_at "ty"))
  | exact all_nil
  | ((refine' all_cons ?ha ?ht); (case ha => walk_at "ty"); (case ht => walk_at "ty"))
  | ((refine' all_app ?ha ?ht); (case ha => walk_at "ty"); (case ht => walk_at "ty"))
  | exact all_take (by assumption)
  | exact all_drop (by assumption)
  | exact all_cut (by assumption)
  | exact all_erase (by assumption)
  | ((refine' all_set (by assumption) ?ha); (case ha => walk_at "ty"))
  | fail "ty")
local macro_rules | `(tactic| walk_at "cs") => `(tactic| repeat (first
  | cases ‹EnvT (_ :: _) _›
  | cases ‹EnvT [] _›
  | cases ‹SAny _›
  | cases ‹SIs _ _›
  | cases ‹SVal _ _›
  | cases ‹SAcc _ _ _ _›
  | cases ‹SPool _ _›
  | cases ‹RVal _ _›
  | cases ‹RNew _ _ _ _›
  | cases ‹TIs _ _›
  | cases ‹TInt _ _ _›
  | cases ‹TBl _›
  | cases ‹TStr _ _ _›
  | cases ‹TNm _ _ _›
  | cases ‹T1 _ _›
  | cases ‹T2 _ _ _›
  | cases ‹T3 _ _ _ _›
  | cases ‹T4 _ _ _ _ _›
  | cases ‹TTs _ _ _ _›
  | cases ‹TLs _ _ _ _›))
local macro_rules | `(tactic| walk_at "if") => `(tactic| ((refine ⟨fun hY => ?_, fun hY => ?_⟩) <;> (try simp only [decide_eq_true_eq, decide_eq_false_iff_not, Bool.not_eq_true', Bool.not_eq_false', Bool.not_eq_true, Bool.not_eq_false] at hY)))
local macro_rules | `(tactic| walk_at "c1") => `(tactic| ((refine' Hold.a ⟨_, ?ce, ?co, fun _ _ _ _ => ?_⟩); (case ce => walk_at "ty"); (case co => first | omega | fail "co"); walk_at "cs"))
local macro_rules | `(tactic| walk_at "c2") => `(tactic| ((refine' Hold.a ⟨_, _, ?ce, ?co, fun _ _ _ _ => ?_⟩); (case ce => walk_at "ty"); (case co => first | omega | fail "co"); walk_at "cs"))
local macro_rules | `(tactic| walk_at "c3") => `(tactic| ((refine' Hold.a ⟨_, _, _, ?ce, ?co, fun _ _ _ _ => ?_⟩); (case ce => walk_at "ty"); (case co => first | omega | fail "co"); walk_at "cs"))
local macro_rules | `(tactic| walk_at "ix") => `(tactic| first
  | ((refine' ixp_c0 ?h1 ?_); (case h1 => exact rfl))
  | ((refine' ixp_kT ?h1 ?h2 ?h3 ?h4 fun _ _ => ?_); (case h1 => exact rfl); (case h2 => walk_at "ln"); (case h3 => walk_at "ln"); (case h4 => assumption); walk_at "cs")
  | ((refine' ixp_sk ?h1 ?h2 ?h3 fun _ _ => ?_); (case h1 => walk_at "ln"); (case h2 => walk_at "ln"); (case h3 => walk_at "ln"))
  | fail "ix")
local macro_rules | `(tactic| walk_at "tx") => `(tactic| first
  | ((with_reducible refine' lenp_s ?h1 ?_); (case h1 => walk_at "ln"))
  | ((with_reducible refine' slp_s ?h1 ?_); (case h1 => walk_at "ln"))
  | ((with_reducible refine' addp_s ?h1 ?_); (case h1 => walk_at "ln"))
  | ((with_reducible refine' addp_l ?h1 ?h2 ?h3 ?h4 ?h5 ?_); (case h1 => exact rfl); (case h2 => exact rfl); (case h3 => exact rfl); (case h4 => exact rfl); (case h5 => walk_at "ln"))
  | with_reducible refine we_repS ?_
  | with_reducible refine we_repA ?_
  | with_reducible refine we_strG ?_
  | with_reducible refine strp_s ?_
  | with_reducible refine we_sortedS ?_
  | with_reducible refine we_sorted ?_
  | with_reducible refine we_all ?_
  | with_reducible refine we_any ?_
  | with_reducible refine eqp_str ?_
  | with_reducible refine nep_str ?_
  | (refine ⟨_, _, rfl, rfl, (by omega), (by omega), (by walk_at "ln"), ?_⟩)
  | (refine ⟨_, _, rfl, rfl, (by walk_at "ln"), ?_⟩)
  | (refine ⟨(by walk_at "ln"), ?_⟩)
  | fail "tx")
local macro_rules | `(tactic| walk_at "go1") => `(tactic| first
  | walk_at "e"
  | walk_at "tk"
  | walk_at "c1"
  | walk_at "c2"
  | walk_at "ix"
  | walk_at "tx"
  | fail "go")
local macro_rules | `(tactic| walk_at "go") => `(tactic| repeat' walk_at "go1")
local macro_rules | `(tactic| walk_at "gi") => `(tactic| repeat' (first | walk_at "go1" | walk_at "if" | fail "gi"))
section
variable {K : PySem.W.Frag}
def ap_let : AP := fun as Post => ∃ (b n : Int), EnvT [SPool b, SVal (TIs (.int n))] as ∧ (0 ≤ n ∧ n ≤ 100 ∧ b ≤ 800000000) ∧ ∀ r as', RVal (TNm n.toNat n.toNat) r → EnvT [SPool (b + n), SAny] as' → Post r as'
theorem run_let : RunOk K [0] (tq_letters K ap_take) 4 ap_let := by
  rintro as Post ⟨b, n, he, ho, k⟩
  walk_at "cs"
  unfold tq_letters
  refine ws_norm (by walk_at "norm") ?_
  have hz : Str.length "abcdefghijklmnopqrstuvwxyz" = 26 := by decide +kernel
  walk_at "go"
  refine lc_range1H ?_
  walk_at "go"
  refine .a ⟨n.toNat, by rw [Int.toNat_of_nonneg ho.1], by omega, rfl, rfl, fun i es G => EnvT [SPool (b + i), SIs (.val (.int n)), SIs (.val (.str "abcdefghijklmnopqrstuvwxyz")), SIs .un] G ∧ es.length = i ∧ ∀ d ∈ es, TNm 1 1 d, ?_, ?_, ?_⟩
  · exact ⟨by walk_at "ty", rfl, all_nil⟩
  · rintro i es G hi ⟨he, hl, ha⟩
    walk_at "cs"
    walk_at "go"
    exact .a ⟨by walk_at "ty", by walk_at "ln", by walk_at "ty"⟩
  · rintro es G ⟨he, hl, ha⟩
    walk_at "cs"
    obtain ⟨ys, rfl, hy⟩ := nms_of ha
    have h1 : ∀ y ∈ ys, y.length = 1 := fun y h => by have := hy y h; omega
    rw [List.length_map] at hl
    refine .a ⟨ys, rfl, ?_, ?_⟩
    · rw [ones_len h1]
      show _ + _ * 0 ≤ _
      omega
    walk_at "go"
    have hj : (Txt.join "" ys).length = n.toNat := by rw [join_len, ones_len h1, hl]
    exact k _ _ (.mk (.mk (by omega) (by omega) (join_all fun y h => (hy y h).2.2))) (by walk_at "ty")
theorem z_one : ("z" : Str) = ⟨#[122]⟩ := by decide +kernel
theorem zs_az (n : Int) : Az (PySem.Txt.mul "z" n) := fun d hd => by
  rw [z_one] at hd
  rw [mul_len.2 d hd]; omega
theorem zs_len (n : Int) : (PySem.Txt.mul "z" n).length = n.toNat := by rw [z_one]; exact mul_len.1
theorem nodup_le {α : Type} [DecidableEq α] : ∀ {xs ys : List α}, xs.Nodup → (∀ x ∈ xs, x ∈ ys) → xs.length ≤ ys.length
  | [], _, _, _ => Nat.zero_le _
  | x :: r, ys, h, hs => by
    have h1 : x ∈ ys := hs x List.mem_cons_self
    have h2 : ∀ z ∈ r, z ∈ ys.erase x := fun z hz => by
      have : z ≠ x := fun e => by subst e; exact (List.nodup_cons.mp h).1 hz
      exact (List.mem_erase_of_ne this).mpr (hs z (List.mem_cons_of_mem _ hz))
    have h3 := nodup_le (List.nodup_cons.mp h).2 h2
    have h4 := List.length_erase_of_mem h1
    have h5 : 0 < ys.length := List.length_pos_of_mem h1
    rw [List.length_cons]
    omega
end
end Ns

namespace Ns
open PySem L2 Ab
def tq_marks (K : PySem.W.Frag) (ap__law_take : AP) : TS :=
    (tSeq (tAsg (tLst tNil) (gName 2))
    (tSeq (tFor (iList K (tCB (rSortedS K) (tCons (tLc (iList K (tVar 1)) (gName 4) tYes (tCB rStrG (tCons (tVar 4) tNil)) [4]) tNil))) (gName 3) (tIfS (tAnd (tTest (tOp (rLtG K) (tCB (rLenV K) (tCons (tVar 2) tNil)) (tC (.int 3)))) (tTest (tOp (rEqG K) (tCall (toSp K ap__law_take) [] E0 (tCons (tVar 0) (tCons (tC (.int 3)) tNil))) (tC (.int 0))))) (tDrop (tBM K "list" rAppend (tVar 2) (tCons (tVar 3) tNil))) tNext))
    (tRet (tCB (rTupleOf K) (tCons (tVar 2) tNil)))))
def tq_selector (K : PySem.W.Frag) (ap__law_take : AP) (ap__law_marks : AP) : TS :=
    (tSeq (tAsg (tLst tNil) (gName 4))
    (tSeq (tFor (iRng1 (tCons (tOp (rAddG K) (tC (.int 1)) (tCall (toSp K ap__law_take) [] E0 (tCons (tVar 0) (tCons (tVar 3) tNil)))) tNil)) (gName 5) (tSeq (tAsg (tOp (rIx K) (tLst (tCons (tC (.str "")) (tCons (tC (.str " ")) (tCons (tC (.str ">")) tNil)))) (tOp (rMulG K) (tCB rInt1 (tCons (tOp rGtI (tVar 5) (tC (.int 0))) tNil)) (tOp (rAddG K) (tC (.int 1)) (tCall (toSp K ap__law_take) [] E0 (tCons (tVar 0) (tCons (tC (.int 2)) tNil)))))) (gName 6))
    (tSeq (tAsg (tOp (rIx K) (tOp (rAddG K) (tLst (tCons (tC (.str "*")) tNil)) (tVar 1)) (tCall (toSp K ap__law_take) [] E0 (tCons (tVar 0) (tCons (tOp (rAddG K) (tCB (rLenV K) (tCons (tVar 1) tNil)) (tC (.int 1))) tNil)))) (gName 7))
    (tDrop (tBM K "list" rAppend (tVar 4) (tCons (tTup (tCons (tVar 6) (tCons (tVar 7) (tCons (tCall (toSp K ap__law_marks) [] E0 (tCons (tVar 0) (tCons (tVar 2) tNil))) tNil)))) tNil))))))
    (tRet (tCB (rTupleOf K) (tCons (tVar 4) tNil)))))
section
variable {K : PySem.W.Frag}
structure Stp where
  jt : Str
  kd : Str
  ms : List Str
def Stp.dt (s : Stp) : Dt := .tup [.str s.jt, .str s.kd, .tup (s.ms.map Dt.str)]
def NmL (n m : Nat) (z : Str) : Prop := n ≤ z.length ∧ z.length ≤ m ∧ Az z
structure StpOk (s : Stp) : Prop where
  kd : s.kd = "*" ∨ NmL 1 8 s.kd
  ml : s.ms.length ≤ 3
  ms : ∀ z ∈ s.ms, NmL 1 8 z
structure SelOk (ss : List Stp) : Prop where
  ok : ∀ s ∈ ss, StpOk s
  j0 : ∀ s : Stp, ss[0]? = some s → s.jt = ""
  j1 : ∀ (i : Nat) (s : Stp), ss[i + 1]? = some s → s.jt = " " ∨ s.jt = ">"
inductive TSel (n : Nat) : Ty where
  | mk {ss : List Stp} (h0 : 1 ≤ ss.length) (h1 : ss.length ≤ n) (h : SelOk ss) : TSel n (.tup (ss.map Stp.dt))
inductive TKd : Ty where
  | mk {z : Str} (h : z = "*" ∨ NmL 1 8 z) : TKd (.str z)
theorem TNm.kd {d : Dt} (h : TNm 1 8 d) : TKd d := by
  cases h with
  | mk h0 h1 h2 => exact .mk (.inr ⟨h0, h1, h2⟩)
theorem joint_at {i : Nat} {g : Int} (g0 : 0 ≤ g) (g1 : g < 2) : ∃ jt : Str, atI [Dt.str "", Dt.str " ", Dt.str ">"] ((if decide (0 < (i : Int)) = true then 1 else 0) * (1 + g)) = some (.str jt) ∧ (i = 0 → jt = "") ∧ (0 < i → jt = " " ∨ jt = ">") := by
  rcases (by omega : i = 0 ∨ 0 < i) with rfl | h
  · exact ⟨"", by simp; rfl, fun _ => rfl, fun h => absurd h (by omega)⟩
  · have e : decide (0 < (i : Int)) = true := decide_eq_true (by omega)
    rw [e, if_pos rfl]
    rcases (by omega : g = 0 ∨ g = 1) with rfl | rfl
    · exact ⟨" ", rfl, fun h' => absurd h' (by omega), fun _ => .inl rfl⟩
    · exact ⟨">", rfl, fun h' => absurd h' (by omega), fun _ => .inr rfl⟩
theorem SelOk.snoc {ss : List Stp} {s : Stp} (h : SelOk ss) (hs : StpOk s) (h0 : ss.length = 0 → s.jt = "") (h1 : 0 < ss.length → s.jt = " " ∨ s.jt = ">") : SelOk (ss ++ [s]) := by
  refine ⟨fun t ht => ?_, fun t ht => ?_, fun i t ht => ?_⟩
  · rcases List.mem_append.mp ht with ht | ht
    · exact h.ok t ht
    · rw [List.mem_singleton.mp ht]; exact hs
  · by_cases hl : 0 < ss.length
    · rw [List.getElem?_append_left hl] at ht; exact h.j0 t ht
    · rw [List.getElem?_append_right (by omega), show 0 - ss.length = 0 by omega] at ht
      cases ht; exact h0 (by omega)
  · by_cases hl : i + 1 < ss.length
    · rw [List.getElem?_append_left hl] at ht; exact h.j1 i t ht
    · rw [List.getElem?_append_right (by omega)] at ht
      cases q : i + 1 - ss.length with
      | zero => rw [q] at ht; cases ht; exact h1 (by omega)
      | succ j => rw [q] at ht; simp at ht
structure Pr where
  kd : Str
  ms : List Str
def Pr.dt (s : Pr) : Dt := .tup [.str s.kd, .tup (s.ms.map Dt.str)]
structure PrOk (s : Pr) : Prop where
  kd : NmL 1 8 s.kd
  ml : s.ms.length ≤ 3
  ms : ∀ z ∈ s.ms, NmL 1 8 z
inductive TPr : Ty where
  | mk {s : Pr} (h : PrOk s) : TPr s.dt
inductive TLin (n : Nat) : Ty where
  | mk {ss : List Pr} (h0 : 1 ≤ ss.length) (h1 : ss.length ≤ n) (h : ∀ s ∈ ss, PrOk s) : TLin n (.tup (ss.map Pr.dt))
end
end Ns

namespace Ns
open PySem L2 Ab
section
variable {K : PySem.W.Frag}
def selD (ss : List Stp) : Dt := .tup (ss.map Stp.dt)
end
section
variable {K : PySem.W.Frag}
end
end Ns

namespace Ab
open PySem L2
local macro_rules | `(tactic| walk_at "no") => `(tactic| first
  | exact fun h => Bool.noConfusion (show true = false from h)
  | exact fun h => Bool.noConfusion (show false = true from h)
  | exact fun h => absurd (of_decide_eq_true h) (by omega)
  | exact fun h => absurd (by omega) (of_decide_eq_false h)
  | exact fun h => absurd (by omega) (nd_t h)
  | exact fun h => absurd (nd_f h) (by omega)
  | fail "no")
local macro_rules | `(tactic| walk_at "kb") => `(tactic| first | exact kb_tt | exact kb_ll | exact kb_ii | exact kb_ib | exact kb_ss | exact kb_sb | exact kb_si | exact kb_tb | exact kb_ti | exact kb_ts | exact kb_tl | exact kb_lb | exact kb_li | exact kb_ls | exact kb_lt | exact kb_is | exact kb_it | exact kb_il | exact kb_st | exact kb_sl | exact kb_bb | exact kb_bi | exact kb_nb | exact kb_ni | exact kb_ns | exact kb_nt | exact kb_nl | exact kb_bs | exact kb_bt | exact kb_bl | exact kb_nd | fail "kb")
local macro_rules | `(tactic| walk_at "norm") => `(tactic| first
  | exact (rfl : _ = ([] : List Sl))
  | ((refine' norm_cons (rfl : _ = _ :: _) ?ea ?et); (case ea => first | exact norm_v | exact norm_n | exact norm_o | exact rfl | fail "norm"); (case et => walk_at "norm"))
  | fail "norm")
local macro_rules | `(tactic| walk_at "e") => `(tactic| first
  | ((with_reducible refine' norm_intro ?hn ?_); (case hn => walk_at "norm"))
  | ((with_reducible refine' we_var ?hh ?_); (case hh => exact rfl))
  | ((with_reducible refine' we_own ?hh ?_); (case hh => exact rfl))
  | with_reducible refine we_c ?_
  | with_reducible refine we_addG ?_
  | with_reducible refine addp_i ?_
  | with_reducible refine we_opI0 ?_
  | with_reducible refine we_opI ?_
  | with_reducible refine we_mulG ?_
  | ((with_reducible refine' mulp_r ?h1 ?_); (case h1 => first | decide | omega | fail "m"))
  | ((with_reducible refine' mulp_l ?h1 ?_); (case h1 => first | decide | omega | fail "m"))
  | with_reducible refine we_neg ?_
  | with_reducible refine we_ltG ?_
  | with_reducible refine ltp_i ?_
  | with_reducible refine we_eqG ?_
  | with_reducible refine we_neG ?_
  | with_reducible refine eqp_i ?_
  | with_reducible refine nep_i ?_
  | with_reducible refine we_ixG ?_
  | ((with_reducible refine' ixp ?h1 ?h2 ?_); (case h1 => exact rfl); (case h2 => exact rfl))
  | with_reducible refine we_lenG ?_
  | ((with_reducible refine' lenp ?hh ?_); (case hh => exact rfl))
  | with_reducible refine we_intG ?_
  | with_reducible refine intp_i ?_
  | with_reducible refine intp_b ?_
  | with_reducible refine we_abs ?_
  | with_reducible refine we_tup ?_
  | with_reducible refine we_lst ?_
  | with_reducible refine we_tuple ?_
  | with_reducible refine we_list ?_
  | with_reducible refine we_sum ?_
  | with_reducible refine we_max2 ?_
  | with_reducible refine we_min2 ?_
  | with_reducible refine wd_cons ?_
  | with_reducible refine wd_nil ?_
  | with_reducible refine wa_cons ?_
  | with_reducible refine wa_nil ?_
  | with_reducible refine we_callH ?_
  | with_reducible refine we_isiG ?_
  | ((with_reducible refine' isi_own ?h1 ?h2 ?_); (case h1 => exact rfl); (case h2 => walk_at "kb"))
  | ((with_reducible refine' isi_val ?h1 ?h2 ?_); (case h1 => exact rfl); (case h2 => walk_at "kb"))
  | ((with_reducible refine' isi_new ?h2 ?_); (case h2 => walk_at "kb"))
  | with_reducible refine we_chainI ?_
  | with_reducible refine we_andV ?_
  | with_reducible refine we_orV ?_
  | with_reducible refine we_notV ?_
  | with_reducible refine wt_test ?_
  | with_reducible refine wt_B ?_
  | with_reducible refine wt_yes ?_
  | with_reducible refine wt_and ?_
  | with_reducible refine wt_or ?_
  | with_reducible refine wt_not ?_
  | with_reducible refine ws_seq ?_
  | ((with_reducible refine' ws_retA ?hh ?_); (case hh => exact rfl))
  | with_reducible refine ws_ret ?_
  | with_reducible refine ws_if ?_
  | with_reducible refine ws_nil ?_
  | with_reducible refine ws_expr ?_
  | with_reducible refine ws_asgN rfl rfl ?_
  | with_reducible refine ws_setN ?_
  | with_reducible refine ws_asgG ?_
  | ((with_reducible refine' wg_tup ?hh ?_); (case hh => exact rfl))
  | with_reducible refine wgs_cons ?_
  | with_reducible refine wgs_nil ?_
  | with_reducible refine wg_nameN rfl rfl ?_
  | ((with_reducible refine' we_appendN ?hh ?_); (case hh => exact rfl))
  | ((with_reducible refine' we_reverseN ?hh ?_); (case hh => exact rfl))
  | ((with_reducible refine' ws_augN ?h1 ?h2 ?_); (case h1 => exact rfl); (case h2 => exact rfl))
  | (refine ⟨_, rfl, ⟨_, rfl⟩, ?_⟩)
  | (refine ⟨_, rfl, ?_⟩)
  | (refine ⟨_, _, _, rfl, rfl, rfl, ?_⟩)
  | (refine ⟨_, _, rfl, rfl, (Nat.le_of_ble_eq_true rfl : _ ≤ _), ?_⟩)
  | (refine ⟨_, _, rfl, rfl, ?_⟩)
  | (refine ⟨(Nat.le_of_ble_eq_true rfl : _ ≤ _), ?_⟩)
  | (refine ⟨(rfl : _ = true), ?_⟩)
  | ((refine' ⟨fun _ => ?_, fun hY => absurd hY ?k2⟩); (case k2 => walk_at "no"))
  | ((refine' ⟨fun hY => absurd hY ?k2, fun _ => ?_⟩); (case k2 => walk_at "no"))
  | (refine ⟨⟨(by omega), (by omega)⟩, ?_⟩)
  | (refine ⟨⟨(by decide), (by decide), (by decide)⟩, ?_⟩)
  | (refine ⟨(by first | decide | omega | fail "c"), ?_⟩)
  | fail "stop")
local macro_rules | `(tactic| walk_at "es") => `(tactic| repeat' walk_at "e")
local macro_rules | `(tactic| walk_at "e") => `(tactic| first | with_reducible refine we_isN ?_ | with_reducible refine we_notN ?_ | fail "is")
def tSameE (K : PySem.W.Frag) (ap__law_same : AP) : TS :=
    (tSeq (tIfS (tOr (tB (tCB (rIsi K) (tCons (tVar 0) (tCons (tC (.ty "bool")) tNil)))) (tB (tCB (rIsi K) (tCons (tVar 1) (tCons (tC (.ty "bool")) tNil))))) (tRet (tAndV (tCB (rIsi K) (tCons (tVar 0) (tCons (tC (.ty "bool")) tNil))) (tAndV (tCB (rIsi K) (tCons (tVar 1) (tCons (tC (.ty "bool")) tNil))) (tOp (rEqG K) (tVar 0) (tVar 1))))) tNext)
    (tSeq (tIfS (tAnd (tB (tCB (rIsi K) (tCons (tVar 0) (tCons (tC (.ty "int")) tNil)))) (tB (tCB (rIsi K) (tCons (tVar 1) (tCons (tC (.ty "int")) tNil))))) (tRet (tOp (rEqG K) (tVar 0) (tVar 1))) tNext)
    (tSeq (tIfS (tAnd (tB (tCB (rIsi K) (tCons (tVar 0) (tCons (tC (.ty "str")) tNil)))) (tB (tCB (rIsi K) (tCons (tVar 1) (tCons (tC (.ty "str")) tNil))))) (tRet (tOp (rEqG K) (tVar 0) (tVar 1))) tNext)
    (tSeq (tAsg (tAndV (tCB (rIsi K) (tCons (tVar 0) (tCons (tC (.ty "tuple")) tNil))) (tCB (rIsi K) (tCons (tVar 1) (tCons (tC (.ty "tuple")) tNil)))) (gName 2))
    (tSeq (tIfS (tOr (tB (tVar 2)) (tAnd (tB (tCB (rIsi K) (tCons (tVar 0) (tCons (tC (.ty "list")) tNil)))) (tB (tCB (rIsi K) (tCons (tVar 1) (tCons (tC (.ty "list")) tNil)))))) (tSeq (tIfS (tTest (tOp (rNeG K) (tCB (rLenV K) (tCons (tVar 0) tNil)) (tCB (rLenV K) (tCons (tVar 1) tNil)))) (tRet (tC (.bl false))) tNext)
    (tSeq (tFor (iRng1 (tCons (tCB (rLenV K) (tCons (tVar 0) tNil)) tNil)) (gName 3) (tIfS (tNot (tB (tCall (toSp K ap__law_same) [] E0 (tCons (tOp (rIx K) (tVar 0) (tVar 3)) (tCons (tOp (rIx K) (tVar 1) (tVar 3)) tNil))))) (tRet (tC (.bl false))) tNext))
    (tRet (tC (.bl true))))) tNext)
    (tSeq (tIfS (tAnd (tB (tCB (rIsi K) (tCons (tVar 0) (tCons (tC (.ty "dict")) tNil)))) (tB (tCB (rIsi K) (tCons (tVar 1) (tCons (tC (.ty "dict")) tNil))))) (tSeq (tIfS (tNot (tB (tCall (toSp K ap__law_same) [] E0 (tCons (tCB rListD (tCons (tVar 0) tNil)) (tCons (tCB rListD (tCons (tVar 1) tNil)) tNil))))) (tRet (tC (.bl false))) tNext)
    (tSeq (tFor (iList K (tCB rListD (tCons (tVar 0) tNil))) (gName 3) (tIfS (tNot (tB (tCall (toSp K ap__law_same) [] E0 (tCons (tDGet (tVar 0) (tVar 3)) (tCons (tDGet (tVar 1) (tVar 3)) tNil))))) (tRet (tC (.bl false))) tNext))
    (tRet (tC (.bl true))))) tNext)
    (tRet (tAndV (tIsN (tVar 0)) (tIsN (tVar 1))))))))))

def SameIn2 (n : Nat) (ap : AP) : Prop := ∀ s0 s1 d Post, slDt s0 = some d → slDt s1 = some d → okD d = true → depD d < n → Post (.val (.bl true)) [s0, s1] → ap [s0, s1] Post
theorem run_tSameEd {K : PySem.W.Frag} {n : Nat} {ap : AP} (hap : SameIn2 n ap) (as : List Sl) (Post : Re → List Sl → Prop) (h : ap_same n as Post) : WS K [0, 1] (tSameE K ap) (as ++ List.replicate (4 - as.length) .un) ⟨fun G => Post (.val .non) (exitArgs [0, 1] G as), fun r G => Post r (exitArgs [0, 1] G as), fun _ => False, fun _ => False, .no⟩ := by
  obtain ⟨s0, s1, d, rfl, h0, h1, ok, dp, p⟩ := h
  unfold tSameE
  show WS K [0, 1] _ [s0, s1, .un, .un] _
  have acc0 : ∀ {s : Sl} {d : Dt}, slDt s = some d → s = .val d ∨ ∃ ds, d = .lst ds ∧ s = .acc ds := fun {s d} h => by
    cases s with
    | un => cases h
    | val e => cases h; exact .inl rfl
    | cel c =>
      cases c with
      | lst es => cases h; exact .inr ⟨es, rfl, rfl⟩
      | dK es => cases h
      | dT es => cases h
      | dN w es => cases h
  have scal : ∀ v : V, d = .raw v → s0 = .val (.raw v) ∧ s1 = .val (.raw v) := fun v e => by
    subst e
    rcases acc0 h0 with rfl | ⟨ds, e, _⟩
    · rcases acc0 h1 with rfl | ⟨ds, e, _⟩
      · exact ⟨rfl, rfl⟩
      · cases e
    · cases e
  cases d with
  | obj C fs => simp [okD] at ok
  | dK fs => simp [okD] at ok
  | dT fs => simp [okD] at ok
  | exn a d fs => simp [okD] at ok
  | err C fs => simp [okD] at ok
  | fz kvs => simp [okD] at ok
  | dN w es => simp [okD] at ok
  | scr ns => simp [okD] at ok
  | raw v =>
    obtain ⟨rfl, rfl⟩ := scal v rfl
    cases v with
    | non => walk_at "es"; exact p
    | bl b =>
      walk_at "es"
      refine eqp_s rfl ?_
      rw [decide_eq_true rfl]
      exact ⟨rfl, p⟩
    | int i =>
      walk_at "es"
      rw [decide_eq_true rfl]
      exact p
    | str x =>
      walk_at "es"
      refine eqp_s rfl ?_
      rw [decide_eq_true rfl]
      exact ⟨rfl, p⟩
    | byt b => simp [okD] at ok
    | flt b => simp [okD] at ok
    | ref a => simp [okD] at ok
    | ty t => simp [okD] at ok
  | tup ds =>
    rw [okD, Bool.and_eq_true, decide_eq_true_eq] at ok
    obtain ⟨hlen, ok⟩ := ok
    rw [depD] at dp
    have e0 : s0 = .val (.tup ds) := by
      rcases acc0 h0 with rfl | ⟨_, e, _⟩
      · rfl
      · cases e
    have e1 : s1 = .val (.tup ds) := by
      rcases acc0 h1 with rfl | ⟨_, e, _⟩
      · rfl
      · cases e
    subst e0 e1
    walk_at "es"
    refine for_range1 ds.length (fun i G => ∃ s3, G = [.val (.tup ds), .val (.tup ds), .val (.bl true), s3]) ?_ ?_ ?_
    · walk_at "es"
      exact .a ⟨rfl, by omega, by omega, _, rfl⟩
    · rintro i G hi ⟨s3, rfl⟩
      have hi' : i < ds.length := by omega
      have g := List.getElem?_eq_getElem hi'
      walk_at "es"
      refine ixp rfl (atI_of (j := i) rfl g) ?_
      walk_at "es"
      refine ixp rfl (atI_of (j := i) rfl g) ?_
      walk_at "es"
      refine .a (hap (.val _) (.val _) _ _ rfl rfl (okAll_at ok g) (by have := depAll_at g; omega) ?_)
      walk_at "es"
      exact .a ⟨_, rfl⟩
    · rintro G ⟨s3, rfl⟩
      walk_at "es"
      exact p
  | lst ds =>
    rw [okD, Bool.and_eq_true, decide_eq_true_eq] at ok
    obtain ⟨hlen, ok⟩ := ok
    rw [depD] at dp
    have e0 : s0 = .val (.lst ds) ∨ s0 = .acc ds := by
      rcases acc0 h0 with rfl | ⟨_, e, rfl⟩
      · exact .inl rfl
      · cases e; exact .inr rfl
    have e1 : s1 = .val (.lst ds) ∨ s1 = .acc ds := by
      rcases acc0 h1 with rfl | ⟨_, e, rfl⟩
      · exact .inl rfl
      · cases e; exact .inr rfl
    rcases e0 with rfl | rfl <;> rcases e1 with rfl | rfl
    · walk_at "es"
      refine for_range1 ds.length (fun i G => ∃ s3, G = [.val (.lst ds), .val (.lst ds), .val (.bl false), s3]) ?_ ?_ ?_
      · walk_at "es"
        exact .a ⟨rfl, by omega, by omega, _, rfl⟩
      · rintro i G hi ⟨s3, rfl⟩
        have hi' : i < ds.length := by omega
        have g := List.getElem?_eq_getElem hi'
        walk_at "es"
        refine ixp rfl (atI_of (j := i) rfl g) ?_
        walk_at "es"
        refine ixp rfl (atI_of (j := i) rfl g) ?_
        walk_at "es"
        refine .a (hap (.val _) (.val _) _ _ rfl rfl (okAll_at ok g) (by have := depAll_at g; omega) ?_)
        walk_at "es"
        exact .a ⟨_, rfl⟩
      · rintro G ⟨s3, rfl⟩
        walk_at "es"
        exact p
    · walk_at "es"
      refine for_range1 ds.length (fun i G => ∃ s3, G = [.val (.lst ds), .acc ds, .val (.bl false), s3]) ?_ ?_ ?_
      · walk_at "es"
        exact .a ⟨rfl, by omega, by omega, _, rfl⟩
      · rintro i G hi ⟨s3, rfl⟩
        have hi' : i < ds.length := by omega
        have g := List.getElem?_eq_getElem hi'
        walk_at "es"
        refine ixp rfl (atI_of (j := i) rfl g) ?_
        walk_at "es"
        refine ixp rfl (atI_of (j := i) rfl g) ?_
        walk_at "es"
        refine .a (hap (.val _) (.val _) _ _ rfl rfl (okAll_at ok g) (by have := depAll_at g; omega) ?_)
        walk_at "es"
        exact .a ⟨_, rfl⟩
      · rintro G ⟨s3, rfl⟩
        walk_at "es"
        exact p
    · walk_at "es"
      refine for_range1 ds.length (fun i G => ∃ s3, G = [.acc ds, .val (.lst ds), .val (.bl false), s3]) ?_ ?_ ?_
      · walk_at "es"
        exact .a ⟨rfl, by omega, by omega, _, rfl⟩
      · rintro i G hi ⟨s3, rfl⟩
        have hi' : i < ds.length := by omega
        have g := List.getElem?_eq_getElem hi'
        walk_at "es"
        refine ixp rfl (atI_of (j := i) rfl g) ?_
        walk_at "es"
        refine ixp rfl (atI_of (j := i) rfl g) ?_
        walk_at "es"
        refine .a (hap (.val _) (.val _) _ _ rfl rfl (okAll_at ok g) (by have := depAll_at g; omega) ?_)
        walk_at "es"
        exact .a ⟨_, rfl⟩
      · rintro G ⟨s3, rfl⟩
        walk_at "es"
        exact p
    · walk_at "es"
      refine for_range1 ds.length (fun i G => ∃ s3, G = [.acc ds, .acc ds, .val (.bl false), s3]) ?_ ?_ ?_
      · walk_at "es"
        exact .a ⟨rfl, by omega, by omega, _, rfl⟩
      · rintro i G hi ⟨s3, rfl⟩
        have hi' : i < ds.length := by omega
        have g := List.getElem?_eq_getElem hi'
        walk_at "es"
        refine ixp rfl (atI_of (j := i) rfl g) ?_
        walk_at "es"
        refine ixp rfl (atI_of (j := i) rfl g) ?_
        walk_at "es"
        refine .a (hap (.val _) (.val _) _ _ rfl rfl (okAll_at ok g) (by have := depAll_at g; omega) ?_)
        walk_at "es"
        exact .a ⟨_, rfl⟩
      · rintro G ⟨s3, rfl⟩
        walk_at "es"
        exact p
def slKv : Sl → Option (List (Key × Dt))
  | .val (.dK kvs) => some kvs
  | .cel (.dK kvs) => some kvs
  | _ => none
def keysD (kvs : List (Key × Dt)) : Dt := .lst (kvs.map fun kv => .raw (kV kv.1))
def ap_sameK (n : Nat) : AP := fun as Post => ∃ s0 s1 kvs, as = [s0, s1] ∧ slKv s0 = some kvs ∧ slKv s1 = some kvs ∧ (kvs.map (·.1)).Nodup ∧ kvs.length ≤ 1000000 ∧ (∀ kv ∈ kvs, okD kv.2 = true ∧ depD kv.2 < n) ∧ 1 < n ∧ Post (.val (.bl true)) [s0, s1]
def ap_sameE (n : Nat) : AP := fun as Post => ap_same n as Post ∨ ap_sameK n as Post
theorem len_sameE {n : Nat} (as : List Sl) (Post : Re → List Sl → Prop) (h : ap_sameE n as Post) : as.length = 2 := by
  rcases h with ⟨s0, s1, d, rfl, _⟩ | ⟨s0, s1, d, rfl, _⟩ <;> rfl
theorem valD_at : ∀ {kvs : List (Key × Dt)} {i : Nat} {kv : Key × Dt}, (kvs.map (·.1)).Nodup → kvs[i]? = some kv → valD kvs kv.1 = some kv.2
  | [], _, _, _, h => by simp at h
  | x :: r, 0, kv, _, h => by
    simp at h; subst h
    unfold valD
    rw [List.find?_cons, decide_eq_true rfl]; rfl
  | x :: r, i + 1, kv, hn, h => by
    have h : r[i]? = some kv := by simpa using h
    have hn' := List.nodup_cons.mp hn
    have ih := valD_at hn'.2 h
    unfold valD at ih ⊢
    rw [List.find?_cons, decide_eq_false (fun e => hn'.1 (by show x.1 ∈ _; rw [e]; exact List.mem_map_of_mem (List.mem_of_getElem? h)))]
    exact ih
theorem keys_ok (kvs : List (Key × Dt)) (h : kvs.length ≤ 1000000) : okD (keysD kvs) = true ∧ depD (keysD kvs) ≤ 1 := by
  have a : ∀ ks : List (Key × Dt), okAll (ks.map fun kv => .raw (kV kv.1)) = true ∧ depAll (ks.map fun kv => .raw (kV kv.1)) = 0 := fun ks => by
    induction ks with
    | nil => exact ⟨rfl, rfl⟩
    | cons x r ih =>
      rw [List.map_cons, okAll, depAll, ih.1, ih.2]
      obtain ⟨k, d⟩ := x
      cases k <;> exact ⟨rfl, rfl⟩
  unfold keysD
  rw [okD, depD, List.length_map, decide_eq_true h, (a kvs).1, (a kvs).2]
  exact ⟨rfl, Nat.le_refl _⟩
local macro_rules | `(tactic| walk_at "e") => `(tactic| first
  | ((with_reducible refine' we_isiD ?h1 ?h2 ?_); (case h1 => exact rfl); (case h2 => first | exact kb_db | exact kb_di | exact kb_ds | exact kb_dt | exact kb_dl | exact kb_dd))
  | ((with_reducible refine' isi_val ?h1 ?h2 ?_); (case h1 => exact rfl); (case h2 => first | exact kb_db | exact kb_di | exact kb_ds | exact kb_dt | exact kb_dl | exact kb_dd))
  | with_reducible refine we_listD ?_
  | with_reducible refine we_dgetK ?_
  | fail "eD")
theorem run_tSameEk {K : PySem.W.Frag} {n : Nat} {ap : AP} (hap : SameIn2 n ap) (as : List Sl) (Post : Re → List Sl → Prop) (h : ap_sameK n as Post) : WS K [0, 1] (tSameE K ap) (as ++ List.replicate (4 - as.length) .un) ⟨fun G => Post (.val .non) (exitArgs [0, 1] G as), fun r G => Post r (exitArgs [0, 1] G as), fun _ => False, fun _ => False, .no⟩ := by
  obtain ⟨s0, s1, kvs, rfl, h0, h1, hnd, hln, hv, hn, p⟩ := h
  unfold tSameE
  show WS K [0, 1] _ [s0, s1, .un, .un] _
  obtain ⟨ko, kd⟩ := keys_ok kvs hln
  have c0 : ∀ s : Sl, slKv s = some kvs → s = .val (.dK kvs) ∨ s = .cel (.dK kvs) := fun s h => by
    cases s with
    | un => cases h
    | val d => cases d <;> first | (cases h; exact .inl rfl) | cases h
    | cel c => cases c <;> first | (cases h; exact .inr rfl) | cases h
  rcases c0 s0 h0 with rfl | rfl <;> rcases c0 s1 h1 with rfl | rfl
  · walk_at "es"
    refine .a (hap _ _ (keysD kvs) _ rfl rfl ko (by omega) ?_)
    walk_at "es"
    refine for_lstH ?_
    walk_at "es"
    refine .a ⟨_, rfl, fun i G => ∃ s3, G = [.val (.dK kvs), .val (.dK kvs), .val (.bl false), s3], ⟨_, rfl⟩, ?_, ?_⟩
    · rintro i d G hd ⟨s3, rfl⟩
      rw [List.getElem?_map] at hd
      obtain ⟨kv, hkv, rfl⟩ := Option.map_eq_some_iff.mp hd
      have hvv := valD_at hnd hkv
      obtain ⟨ok, dp⟩ := hv kv (List.mem_of_getElem? hkv)
      walk_at "es"
      first | refine ⟨kv.1, kv.2, rfl, rfl, hvv, ?_⟩ | refine ⟨kvs, kv.1, kv.2, rfl, rfl, hvv, ?_⟩
      walk_at "es"
      first | refine ⟨kv.1, kv.2, rfl, rfl, hvv, ?_⟩ | refine ⟨kvs, kv.1, kv.2, rfl, rfl, hvv, ?_⟩
      walk_at "es"
      refine .a (hap _ _ kv.2 _ rfl rfl ok dp ?_)
      walk_at "es"
      exact .a ⟨_, rfl⟩
    · rintro G ⟨s3, rfl⟩
      walk_at "es"
      exact p
  · walk_at "es"
    refine .a (hap _ _ (keysD kvs) _ rfl rfl ko (by omega) ?_)
    walk_at "es"
    refine for_lstH ?_
    walk_at "es"
    refine .a ⟨_, rfl, fun i G => ∃ s3, G = [.val (.dK kvs), .cel (.dK kvs), .val (.bl false), s3], ⟨_, rfl⟩, ?_, ?_⟩
    · rintro i d G hd ⟨s3, rfl⟩
      rw [List.getElem?_map] at hd
      obtain ⟨kv, hkv, rfl⟩ := Option.map_eq_some_iff.mp hd
      have hvv := valD_at hnd hkv
      obtain ⟨ok, dp⟩ := hv kv (List.mem_of_getElem? hkv)
      walk_at "es"
      first | refine ⟨kv.1, kv.2, rfl, rfl, hvv, ?_⟩ | refine ⟨kvs, kv.1, kv.2, rfl, rfl, hvv, ?_⟩
      walk_at "es"
      first | refine ⟨kv.1, kv.2, rfl, rfl, hvv, ?_⟩ | refine ⟨kvs, kv.1, kv.2, rfl, rfl, hvv, ?_⟩
      walk_at "es"
      refine .a (hap _ _ kv.2 _ rfl rfl ok dp ?_)
      walk_at "es"
      exact .a ⟨_, rfl⟩
    · rintro G ⟨s3, rfl⟩
      walk_at "es"
      exact p
  · walk_at "es"
    refine .a (hap _ _ (keysD kvs) _ rfl rfl ko (by omega) ?_)
    walk_at "es"
    refine for_lstH ?_
    walk_at "es"
    refine .a ⟨_, rfl, fun i G => ∃ s3, G = [.cel (.dK kvs), .val (.dK kvs), .val (.bl false), s3], ⟨_, rfl⟩, ?_, ?_⟩
    · rintro i d G hd ⟨s3, rfl⟩
      rw [List.getElem?_map] at hd
      obtain ⟨kv, hkv, rfl⟩ := Option.map_eq_some_iff.mp hd
      have hvv := valD_at hnd hkv
      obtain ⟨ok, dp⟩ := hv kv (List.mem_of_getElem? hkv)
      walk_at "es"
      first | refine ⟨kv.1, kv.2, rfl, rfl, hvv, ?_⟩ | refine ⟨kvs, kv.1, kv.2, rfl, rfl, hvv, ?_⟩
      walk_at "es"
      first | refine ⟨kv.1, kv.2, rfl, rfl, hvv, ?_⟩ | refine ⟨kvs, kv.1, kv.2, rfl, rfl, hvv, ?_⟩
      walk_at "es"
      refine .a (hap _ _ kv.2 _ rfl rfl ok dp ?_)
      walk_at "es"
      exact .a ⟨_, rfl⟩
    · rintro G ⟨s3, rfl⟩
      walk_at "es"
      exact p
  · walk_at "es"
    refine .a (hap _ _ (keysD kvs) _ rfl rfl ko (by omega) ?_)
    walk_at "es"
    refine for_lstH ?_
    walk_at "es"
    refine .a ⟨_, rfl, fun i G => ∃ s3, G = [.cel (.dK kvs), .cel (.dK kvs), .val (.bl false), s3], ⟨_, rfl⟩, ?_, ?_⟩
    · rintro i d G hd ⟨s3, rfl⟩
      rw [List.getElem?_map] at hd
      obtain ⟨kv, hkv, rfl⟩ := Option.map_eq_some_iff.mp hd
      have hvv := valD_at hnd hkv
      obtain ⟨ok, dp⟩ := hv kv (List.mem_of_getElem? hkv)
      walk_at "es"
      first | refine ⟨kv.1, kv.2, rfl, rfl, hvv, ?_⟩ | refine ⟨kvs, kv.1, kv.2, rfl, rfl, hvv, ?_⟩
      walk_at "es"
      first | refine ⟨kv.1, kv.2, rfl, rfl, hvv, ?_⟩ | refine ⟨kvs, kv.1, kv.2, rfl, rfl, hvv, ?_⟩
      walk_at "es"
      refine .a (hap _ _ kv.2 _ rfl rfl ok dp ?_)
      walk_at "es"
      exact .a ⟨_, rfl⟩
    · rintro G ⟨s3, rfl⟩
      walk_at "es"
      exact p
theorem run_tSameEx {K : PySem.W.Frag} {n : Nat} {ap : AP} (hap : SameIn2 n ap) (as : List Sl) (Post : Re → List Sl → Prop) (h : ap_sameE n as Post) : WS K [0, 1] (tSameE K ap) (as ++ List.replicate (4 - as.length) .un) ⟨fun G => Post (.val .non) (exitArgs [0, 1] G as), fun r G => Post r (exitArgs [0, 1] G as), fun _ => False, fun _ => False, .no⟩ := by
  rcases h with h | h
  · exact run_tSameEd hap as Post h
  · exact run_tSameEk hap as Post h
theorem same_up {n : Nat} : SameIn2 (n + 1) (ap_sameE n) := fun s0 s1 d Post h0 h1 ok dp p => .inl ⟨s0, s1, d, rfl, h0, h1, ok, Nat.le_of_lt_succ dp, p⟩
theorem same_zero {ap : AP} : SameIn2 0 ap := fun s0 s1 d Post h0 h1 ok dp p => absurd dp (Nat.not_lt_zero _)
end Ab

namespace Ns
open PySem L2 Ab
local macro_rules | `(tactic| walk_at "no") => `(tactic| first
  | with_reducible exact fun h => Bool.noConfusion (show true = false from h)
  | with_reducible exact fun h => Bool.noConfusion (show false = true from h)
  | exact fun h => absurd h (by decide)
  | exact fun h => absurd (of_decide_eq_true h) (by omega)
  | exact fun h => absurd (by omega) (of_decide_eq_false h)
  | exact fun h => absurd (by omega) (nd_t h)
  | exact fun h => absurd (nd_f h) (by omega)
  | fail "no")
local macro_rules | `(tactic| walk_at "kb") => `(tactic| first | exact kb_tt | exact kb_ll | exact kb_ii | exact kb_ib | exact kb_ss | exact kb_sb | exact kb_si | exact kb_tb | exact kb_ti | exact kb_ts | exact kb_tl | exact kb_lb | exact kb_li | exact kb_ls | exact kb_lt | exact kb_is | exact kb_it | exact kb_il | exact kb_st | exact kb_sl | exact kb_bb | exact kb_bi | exact kb_nb | exact kb_ni | exact kb_ns | exact kb_nt | exact kb_nl | exact kb_bs | exact kb_bt | exact kb_bl | fail "kb")
local macro_rules | `(tactic| walk_at "norm") => `(tactic| first
  | ((refine' norm_cons (rfl : _ = _ :: _) ?ea ?et); (case ea => first | with_reducible exact (rfl : Sl.val _ = _) | with_reducible exact (rfl : Sl.cel _ = _) | with_reducible exact (rfl : Sl.un = _) | with_reducible exact norm_v | with_reducible exact norm_n | with_reducible exact norm_o | exact norm_v | exact norm_n | exact norm_o | exact rfl | fail "norm"); (case et => walk_at "norm"))
  | exact (rfl : _ = ([] : List Sl))
  | fail "norm")
local macro_rules | `(tactic| walk_at "x") => `(tactic| first
  | ((with_reducible refine' norm_intro ?hn ?_); (case hn => walk_at "norm"))
  | ((with_reducible refine' we_var ?hh ?_); (case hh => exact rfl))
  | ((with_reducible refine' we_own ?hh ?_); (case hh => exact rfl))
  | with_reducible refine we_c ?_
  | with_reducible refine we_addG ?_
  | with_reducible refine addp_i ?_
  | with_reducible refine we_opI0 ?_
  | with_reducible refine we_opI ?_
  | with_reducible refine we_mulG ?_
  | ((with_reducible refine' mulp_r ?h1 ?_); (case h1 => first | decide | omega | fail "m"))
  | ((with_reducible refine' mulp_l ?h1 ?_); (case h1 => first | decide | omega | fail "m"))
  | with_reducible refine we_neg ?_
  | with_reducible refine we_ltG ?_
  | with_reducible refine ltp_i ?_
  | with_reducible refine we_eqG ?_
  | with_reducible refine we_neG ?_
  | with_reducible refine eqp_i ?_
  | with_reducible refine nep_i ?_
  | with_reducible refine we_ixG ?_
  | ((with_reducible refine' ixp ?h1 ?h2 ?_); (case h1 => exact rfl); (case h2 => exact rfl))
  | with_reducible refine we_lenG ?_
  | ((with_reducible refine' lenp ?hh ?_); (case hh => exact rfl))
  | with_reducible refine we_intG ?_
  | with_reducible refine intp_i ?_
  | with_reducible refine intp_b ?_
  | with_reducible refine we_abs ?_
  | with_reducible refine we_tup ?_
  | with_reducible refine we_lst ?_
  | with_reducible refine we_tuple ?_
  | with_reducible refine we_list ?_
  | with_reducible refine we_sum ?_
  | with_reducible refine we_max2 ?_
  | with_reducible refine we_min2 ?_
  | with_reducible refine wd_cons ?_
  | with_reducible refine wd_nil ?_
  | with_reducible refine wa_cons ?_
  | with_reducible refine wa_nil ?_
  | with_reducible refine we_callH ?_
  | with_reducible refine we_isiG ?_
  | ((with_reducible refine' isi_own ?h1 ?h2 ?_); (case h1 => exact rfl); (case h2 => walk_at "kb"))
  | ((with_reducible refine' isi_val ?h1 ?h2 ?_); (case h1 => exact rfl); (case h2 => walk_at "kb"))
  | ((with_reducible refine' isi_new ?h2 ?_); (case h2 => walk_at "kb"))
  | with_reducible refine we_chainI ?_
  | with_reducible refine we_andV ?_
  | with_reducible refine we_orV ?_
  | with_reducible refine we_notV ?_
  | with_reducible refine wt_test ?_
  | with_reducible refine wt_B ?_
  | with_reducible refine wt_yes ?_
  | with_reducible refine wt_and ?_
  | with_reducible refine wt_or ?_
  | with_reducible refine wt_not ?_
  | ((with_reducible refine' ws_retA ?hh ?_); (case hh => exact rfl))
  | with_reducible refine ws_ret ?_
  | with_reducible refine ws_if ?_
  | with_reducible refine ws_nil ?_
  | with_reducible refine ws_expr ?_
  | with_reducible refine ws_asgN rfl rfl ?_
  | with_reducible refine ws_setN ?_
  | with_reducible refine ws_asgG ?_
  | ((with_reducible refine' wg_tup ?hh ?_); (case hh => exact rfl))
  | with_reducible refine wgs_cons ?_
  | with_reducible refine wgs_nil ?_
  | with_reducible refine wg_nameN rfl rfl ?_
  | ((with_reducible refine' we_appendN ?hh ?_); (case hh => exact rfl))
  | ((with_reducible refine' we_reverseN ?hh ?_); (case hh => exact rfl))
  | ((with_reducible refine' ws_augN ?h1 ?h2 ?_); (case h1 => exact rfl); (case h2 => exact rfl))
  | (refine ⟨_, rfl, ⟨_, rfl⟩, ?_⟩)
  | (refine ⟨_, rfl, ?_⟩)
  | (refine ⟨_, _, _, rfl, rfl, rfl, ?_⟩)
  | (refine ⟨_, _, rfl, rfl, (Nat.le_of_ble_eq_true rfl : _ ≤ _), ?_⟩)
  | (refine ⟨_, _, rfl, rfl, ?_⟩)
  | (refine ⟨(Nat.le_of_ble_eq_true rfl : _ ≤ _), ?_⟩)
  | (refine ⟨(rfl : _ = true), ?_⟩)
  | ((refine' ⟨fun _ => ?_, fun hY => absurd hY ?k2⟩); (case k2 => walk_at "no"))
  | ((refine' ⟨fun hY => absurd hY ?k2, fun _ => ?_⟩); (case k2 => walk_at "no"))
  | (refine ⟨⟨(by omega), (by omega)⟩, ?_⟩)
  | (refine ⟨⟨(by decide), (by decide), (by decide)⟩, ?_⟩)
  | (refine ⟨(show (_ : Prop) from by first | decide | omega | fail "c"), ?_⟩)
  | fail "stop")
local macro_rules | `(tactic| walk_at "e") => `(tactic| first | with_reducible refine ws_seq ?_ | walk_at "x" | fail "stop")
local macro_rules | `(tactic| walk_at "xs") => `(tactic| repeat' walk_at "x")
local macro_rules | `(tactic| walk_at "es") => `(tactic| repeat' walk_at "e")
local macro_rules | `(tactic| walk_at "len") => `(tactic| ((intro as Post h); (repeat (first | (obtain ⟨e, _⟩ := h; exact (congrArg List.length e).trans rfl) | (obtain ⟨_, h⟩ := h)))))
local macro_rules | `(tactic| walk_at "x") => `(tactic| first
  | with_reducible refine we_isN ?_
  | with_reducible refine we_notN ?_
  | with_reducible refine we_slG ?_
  | with_reducible refine wo_none ?_
  | with_reducible refine wo_some ?_
  | ((with_reducible refine' ixp ?h1 ?h2 ?_); (case h1 => exact rfl); (case h2 => assumption))
  | ((with_reducible refine' ixp_s ?h1 ?h2 ?_); (case h1 => assumption); (case h2 => assumption))
  | ((with_reducible refine' lenp_s ?h1 ?_); (case h1 => assumption))
  | ((with_reducible refine' slp_s ?h1 ?_); (case h1 => assumption))
  | with_reducible refine we_join ?_
  | with_reducible refine we_gtS ?_
  | ((with_reducible refine' we_ktup ?h1 ?_); (case h1 => assumption))
  | fail "x3")
local macro_rules | `(tactic| walk_at "x") => `(tactic| first
  | with_reducible refine we_fldG ?_
  | ((with_reducible refine' fldp ?h1 ?h2 ?h3 ?_); (case h1 => assumption); (case h2 => assumption); (case h3 => walk_at "lk"))
  | with_reducible refine we_methG ?_
  | ((with_reducible refine' metp ?h3 ?_); (case h3 => walk_at "lk"))
  | with_reducible refine we_make ?_
  | with_reducible refine we_own2 ?_
  | with_reducible refine we_isoG ?_
  | ((with_reducible refine' isop ?h1 ?_); (case h1 => assumption))
  | fail "x4")
local macro_rules | `(tactic| walk_at "nd") => `(tactic| first
  | exact (rfl : _ = ([] : List Dt))
  | ((refine' normD_cons (rfl : _ = _ :: _) ?et); (case et => walk_at "nd"))
  | fail "nd")
local macro_rules | `(tactic| walk_at "x") => `(tactic| first
  | with_reducible refine we_sumG ?_
  | with_reducible refine eqp_st ?_
  | with_reducible refine nep_st ?_
  | ((with_reducible refine' eqp_sf ?h1 ?_); (case h1 => first | assumption | decide +kernel))
  | ((with_reducible refine' nep_sf ?h1 ?_); (case h1 => first | assumption | decide +kernel))
  | with_reducible refine we_inG ?_
  | with_reducible refine we_if ?_
  | ((with_reducible refine' we_clearN ?hh ?_); (case hh => exact rfl))
  | with_reducible refine we_notInG ?_
  | with_reducible refine we_smeth ?_
  | with_reducible refine we_makeD ?_
  | with_reducible refine we_makeK ?_
  | ((with_reducible refine' slp_tE ?h ?_); (case h => walk_at "nd"))
  | ((with_reducible refine' addp_tE ?hz ?h ?_); (case h => walk_at "nd"); (case hz => exact Nat.le_of_ble_eq_true rfl))
  | fail "x5")
local macro_rules | `(tactic| walk_at "tk") => `(tactic| refine .a (tk (by assumption) (by omega) (by omega) (by omega) fun _ _ _ _ _ => ?_))
local macro_rules | `(tactic| walk_at "ln") => `(tactic| first
  | omega
  | (simp only [List.length_append, List.length_cons, List.length_nil, List.length_map, List.length_take, List.length_drop, List.length_set, List.length_replicate, List.length_reverse, PySem.Str.length_append]; omega)
  | decide
  | with_reducible exact Nat.le_refl _
  | (simp only [List.length_append, List.length_cons, List.length_nil, List.length_map, List.length_take, List.length_drop, List.length_set, List.length_replicate, List.length_reverse, PySem.Str.length_append] at *; omega)
  | exact (Nat.le_of_ble_eq_true rfl)
  | fail "ln")
local macro_rules | `(tactic| walk_at "az") => `(tactic| first
  | assumption
  | exact Az.nil
  | exact az_abc
  | exact Az.one (az_abc _ (by assumption))
  | ((refine' Az.app ?h1 ?h2); (case h1 => walk_at "az"); (case h2 => walk_at "az"))
  | ((refine' Az.cut ?h1 _ _); (case h1 => walk_at "az"))
  | fail "az")
local macro_rules | `(tactic| walk_at "ty") => `(tactic| first
  | assumption
  | exact EnvT.nil
  | ((refine' EnvT.cons ?ha ?ht); (case ha => walk_at "ty"); (case ht => walk_at "ty"))
  | exact SAny.mk
  | exact SIs.mk
  | exact SPool.mk (by assumption)
  | exact SPool.mk (PoolUp.mono (by assumption) (by omega))
  | ((refine' SVal.mk ?ha); (case ha => walk_at "ty"))
  | ((refine' RVal.mk ?ha); (case ha => walk_at "ty"))
  | ((refine' SAcc.mk ?h0 ?h1 ?h); (case h0 => walk_at "ln"); (case h1 => walk_at "ln"); (case h => walk_at "ty"))
  | ((refine' RNew.mk ?h0 ?h1 ?h); (case h0 => walk_at "ln"); (case h1 => walk_at "ln"); (case h => walk_at "ty"))
  | ((refine' TTs.mk ?h0 ?h1 ?h); (case h0 => walk_at "ln"); (case h1 => walk_at "ln"); (case h => walk_at "ty"))
  | ((refine' TLs.mk ?h0 ?h1 ?h); (case h0 => walk_at "ln"); (case h1 => walk_at "ln"); (case h => walk_at "ty"))
  | exact TIs.mk
  | exact TBl.mk
  | ((refine' TInt.mk ?h0 ?h1); (case h0 => walk_at "ln"); (case h1 => walk_at "ln"))
  | ((refine' TStr.mk ?h0 ?h1); (case h0 => walk_at "ln"); (case h1 => walk_at "ln"))
  | ((refine' TNm.mk ?h0 ?h1 ?h2); (case h0 => walk_at "ln"); (case h1 => walk_at "ln"); (case h2 => walk_at "az"))
  | ((refine' T2.mk ?ha ?hb); (case ha => walk_at "ty"); (case hb => walk_at "ty"))
  | ((refine' T3.mk ?ha ?hb ?hc); (case ha => walk_at "ty"); (case hb => walk_at "ty"); (case hc => walk_at "ty"))
  | ((refine' T4.mk ?ha ?hb ?hc ?hd); (case ha => walk_at "ty"); (case hb => walk_at "ty"); (case hc => walk_at "ty"); (case hd => walk_at "ty"))
  | ((refine' T1.mk ?ha); (case ha => walk_at "ty"))
  | exact all_nil
  | ((refine' all_cons ?ha ?ht); (case ha => walk_at "ty"); (case ht => walk_at "ty"))
  | ((refine' all_app ?ha ?ht); (case ha => walk_at "ty"); (case ht => walk_at "ty"))
  | exact all_take (by assumption)
  | exact all_drop (by assumption)
  | exact all_cut (by assumption)
  | exact all_erase (by assumption)
  | ((refine' all_set (by assumption) ?ha); (case ha => walk_at "ty"))
  | fail "ty")
local macro_rules | `(tactic| walk_at "cs") => `(tactic| repeat (first
  | cases ‹EnvT (_ :: _) _›
  | cases ‹EnvT [] _›
  | cases ‹SAny _›
  | cases ‹SIs _ _›
  | cases ‹SVal _ _›
  | cases ‹SAcc _ _ _ _›
  | cases ‹SPool _ _›
  | cases ‹RVal _ _›
  | cases ‹RNew _ _ _ _›
  | cases ‹TIs _ _›
  | cases ‹TInt _ _ _›
  | cases ‹TBl _›
  | cases ‹TStr _ _ _›
  | cases ‹TNm _ _ _›
  | cases ‹T1 _ _›
  | cases ‹T2 _ _ _›
  | cases ‹T3 _ _ _ _›
  | cases ‹T4 _ _ _ _ _›
  | cases ‹TTs _ _ _ _›
  | cases ‹TLs _ _ _ _›))
local macro_rules | `(tactic| walk_at "if") => `(tactic| ((refine ⟨fun hY => ?_, fun hY => ?_⟩) <;> (try simp only [decide_eq_true_eq, decide_eq_false_iff_not, Bool.not_eq_true', Bool.not_eq_false', Bool.not_eq_true, Bool.not_eq_false] at hY)))
local macro_rules | `(tactic| walk_at "c1") => `(tactic| ((refine' Hold.a ⟨_, ?ce, ?co, fun _ _ _ _ => ?_⟩); (case ce => (show EnvT _ _; walk_at "ty")); (case co => first | omega | fail "co"); walk_at "cs"))
local macro_rules | `(tactic| walk_at "c2") => `(tactic| ((refine' Hold.a ⟨_, _, ?ce, ?co, fun _ _ _ _ => ?_⟩); (case ce => (show EnvT _ _; walk_at "ty")); (case co => first | omega | fail "co"); walk_at "cs"))
local macro_rules | `(tactic| walk_at "c3") => `(tactic| ((refine' Hold.a ⟨_, _, _, ?ce, ?co, fun _ _ _ _ => ?_⟩); (case ce => (show EnvT _ _; walk_at "ty")); (case co => first | omega | fail "co"); walk_at "cs"))
local macro_rules | `(tactic| walk_at "ix") => `(tactic| first
  | ((refine' ixp_c0 ?h1 ?_); (case h1 => exact rfl))
  | ((refine' ixp_kT ?h1 ?h2 ?h3 ?h4 fun _ _ => ?_); (case h1 => exact rfl); (case h2 => walk_at "ln"); (case h3 => walk_at "ln"); (case h4 => assumption); walk_at "cs")
  | ((refine' ixp_sk ?h1 ?h2 ?h3 fun _ _ => ?_); (case h1 => walk_at "ln"); (case h2 => walk_at "ln"); (case h3 => walk_at "ln"))
  | fail "ix")
local macro_rules | `(tactic| walk_at "tx") => `(tactic| first
  | ((with_reducible refine' lenp_s ?h1 ?_); (case h1 => walk_at "ln"))
  | ((with_reducible refine' slp_s ?h1 ?_); (case h1 => walk_at "ln"))
  | ((with_reducible refine' addp_s ?h1 ?_); (case h1 => walk_at "ln"))
  | ((with_reducible refine' addp_l ?h1 ?h2 ?h3 ?h4 ?h5 ?_); (case h1 => exact rfl); (case h2 => exact rfl); (case h3 => exact rfl); (case h4 => exact rfl); (case h5 => walk_at "ln"))
  | with_reducible refine we_repS ?_
  | with_reducible refine we_repA ?_
  | with_reducible refine we_strG ?_
  | with_reducible refine strp_s ?_
  | with_reducible refine we_sortedS ?_
  | with_reducible refine we_sorted ?_
  | with_reducible refine we_all ?_
  | with_reducible refine we_any ?_
  | with_reducible refine eqp_str ?_
  | with_reducible refine nep_str ?_
  | (refine ⟨_, _, rfl, rfl, (by omega), (by omega), (by walk_at "ln"), ?_⟩)
  | (refine ⟨_, _, rfl, rfl, (by walk_at "ln"), ?_⟩)
  | (refine ⟨(show (_ : Prop) from by walk_at "ln"), ?_⟩)
  | fail "tx")
local macro_rules | `(tactic| walk_at "go1") => `(tactic| first
  | walk_at "e"
  | walk_at "tk"
  | walk_at "c1"
  | walk_at "c2"
  | walk_at "ix"
  | walk_at "tx"
  | fail "go")
local macro_rules | `(tactic| walk_at "go") => `(tactic| repeat' walk_at "go1")
local macro_rules | `(tactic| walk_at "gi") => `(tactic| repeat' (first | walk_at "go1" | walk_at "if" | fail "gi"))
local macro_rules | `(tactic| walk_at "gx") => `(tactic| repeat' (first
  | walk_at "x"
  | walk_at "tk"
  | walk_at "c1"
  | walk_at "c2"
  | walk_at "ix"
  | walk_at "tx"
  | fail "gx"))
local macro_rules | `(tactic| walk_at "len") => `(tactic| ((intro as Post h); (repeat (first | (obtain ⟨e, _⟩ := h; exact (congrArg List.length e).trans rfl) | (obtain ⟨e, _⟩ := h; exact (EnvT.len e).trans rfl) | (obtain ⟨_, h⟩ := h)))))
local macro_rules | `(tactic| walk_at "norm") => `(tactic| first
  | ((refine' norm_cons (rfl : _ = _ :: _) ?ea ?et); (case ea => first | with_reducible exact (rfl : Sl.val _ = _) | with_reducible exact (rfl : Sl.cel _ = _) | with_reducible exact (rfl : Sl.un = _) | with_reducible exact norm_v | with_reducible exact norm_n | with_reducible exact norm_o | with_reducible exact norm_nw | exact norm_v | exact norm_n | exact norm_o | exact norm_nw | exact rfl | fail "norm"); (case et => walk_at "norm"))
  | exact (rfl : _ = ([] : List Sl))
  | fail "norm")
local macro_rules | `(tactic| walk_at "x") => `(tactic| first
  | ((with_reducible refine' we_ki (by assumption) ?_))
  | ((with_reducible refine' we_kin (by assumption) ?_))
  | ((with_reducible refine' we_knotin (by assumption) ?_))
  | ((with_reducible refine' we_kget1 (by assumption) ?_))
  | ((with_reducible refine' we_kget2 (by assumption) ?_))
  | with_reducible refine we_upper ?_
  | with_reducible refine we_listRg2 ?_
  | with_reducible refine we_disp ?_
  | with_reducible refine wp_consS ?_
  | with_reducible refine wp_nil ?_
  | with_reducible refine we_dgetS ?_
  | with_reducible refine we_dinS ?_
  | with_reducible refine we_dnotinS ?_
  | with_reducible refine we_dnewK ?_
  | with_reducible refine we_dget1S ?_
  | with_reducible refine we_dget2S ?_
  | with_reducible refine ws_dputS ?_
  | ((with_reducible refine' ws_retK ?hh ?_); (case hh => exact rfl))
  | with_reducible refine we_dictD ?_
  | with_reducible refine we_listD ?_
  | ((with_reducible refine' we_isiD ?h1 ?h2 ?_); (case h1 => exact rfl); (case h2 => first | exact kb_db | exact kb_di | exact kb_ds | exact kb_dt | exact kb_dl | exact kb_dd))
  | fail "xK")
def tq_lproperties (K : PySem.W.Frag) : TS :=
    (tRet (tLst (tCons (tC (.str "size")) (tCons (tC (.str "lead")) (tCons (tC (.str "face")) (tCons (tC (.str "align")) (tCons (tC (.str "least")) (tCons (tC (.str "place")) (tCons (tC (.str "keep")) (tCons (tC (.str "indent")) (tCons (tC (.str "above")) (tCons (tC (.str "below")) tNil))))))))))))
def tq_lvalue (K : PySem.W.Frag) (ap__law_take : AP) : TS :=
    (tSeq (tAsg (tDisp [((tC (.str "face")), (tLst (tCons (tC (.str "plain")) (tCons (tC (.str "bold")) tNil)))), ((tC (.str "align")), (tLst (tCons (tC (.str "both")) (tCons (tC (.str "left")) tNil)))), ((tC (.str "keep")), (tLst (tCons (tC (.str "yes")) (tCons (tC (.str "no")) tNil)))), ((tC (.str "place")), (tLst (tCons (tC (.str "block")) (tCons (tC (.str "line")) (tCons (tC (.str "none")) (tCons (tC (.str "note")) (tCons (tC (.str "float")) tNil)))))))]) (gName 2))
    (tSeq (tAsg (tCall (toSp K ap__law_take) [] E0 (tCons (tVar 0) (tCons (tC (.int 9)) tNil))) (gName 3))
    (tSeq (tIfS (tTest (tOp (rEqG K) (tVar 3) (tC (.int 0)))) (tRet (tC (.str "same"))) tNext)
    (tSeq (tIfS (tTest (tOp (rEqG K) (tVar 3) (tC (.int 1)))) (tRet (tC (.str "first"))) tNext)
    (tSeq (tIfS (tB (tDIn (tVar 1) (tVar 2))) (tSeq (tAsg (tDGet (tVar 2) (tVar 1)) (gName 4))
    (tRet (tOp (rIx K) (tVar 4) (tCall (toSp K ap__law_take) [] E0 (tCons (tVar 0) (tCons (tCB (rLenV K) (tCons (tVar 4) tNil)) tNil)))))) tNext)
    (tSeq (tIfS (tTest (tOp (rEqG K) (tVar 1) (tC (.str "least")))) (tRet (tOp (rAddG K) (tC (.int 1)) (tCall (toSp K ap__law_take) [] E0 (tCons (tVar 0) (tCons (tC (.int 4)) tNil))))) tNext)
    (tSeq (tIfS (tTest (tOp (rLtG K) (tVar 3) (tC (.int 5)))) (tSeq (tAsg (tOp (rAddG K) (tC (.int 1)) (tCall (toSp K ap__law_take) [] E0 (tCons (tVar 0) (tCons (tC (.int 99)) tNil)))) (gName 5))
    (tRet (tTup (tCons (tVar 5) (tCons (tOp (rAddG K) (tC (.int 1)) (tCall (toSp K ap__law_take) [] E0 (tCons (tVar 0) (tCons (tC (.int 99)) tNil)))) tNil))))) tNext)
    (tSeq (tIfS (tTest (tOp (rEqG K) (tVar 1) (tC (.str "size")))) (tRet (tOp (rAddG K) (tC (.int 1)) (tCall (toSp K ap__law_take) [] E0 (tCons (tVar 0) (tCons (tC (.int 12)) tNil))))) tNext)
    (tSeq (tIfS (tTest (tOp (rEqG K) (tVar 1) (tC (.str "lead")))) (tRet (tOp (rAddG K) (tC (.int 1)) (tCall (toSp K ap__law_take) [] E0 (tCons (tVar 0) (tCons (tC (.int 99)) tNil))))) tNext)
    (tRet (tCall (toSp K ap__law_take) [] E0 (tCons (tVar 0) (tCons (tC (.int 100)) tNil)))))))))))))
def nmL : List Str := ["size", "lead", "face", "align", "least", "place", "keep", "indent", "above", "below"]
def ini : List Dt := [.int 2, .int 12, .str "plain", .str "both", .int 1, .str "line", .str "no", .int 0, .int 0, .int 0]
def inhL : List Str := ["size", "lead", "face", "align", "least"]
def rtoL : List Str := ["size", "lead", "indent", "above", "below"]
def rngT : List (Str × (Int × Int)) := [("size", (1, 12)), ("lead", (1, 99)), ("least", (1, 4)), ("indent", (0, 99)), ("above", (0, 99)), ("below", (0, 99))]
def kvOf (vs : List Dt) : List (Key × Dt) := List.zipWith (fun n d => ((Sum.inr n : Key), d)) nmL vs
def initV (z : Str) : Dt := (look (nmL.zip ini) z).getD .non
inductive Dc where
  | i (n : Int)
  | s (z : Str)
  | r (a b : Int)
def Dc.dt : Dc → Dt
  | .i n => .int n
  | .s z => .str z
  | .r a b => .tup [.int a, .int b]
def mulV (z : Str) (s a b : Int) : Int := match look rngT z with
  | some (lo, hi) => if (if s * a / b < hi then s * a / b else hi) > lo then (if s * a / b < hi then s * a / b else hi) else lo
  | none => 0
def cv (z : Str) (pv : Dt) (s : Int) : Option Dc → Dt
  | none => if z ∈ inhL then pv else initV z
  | some (.i n) => .int n
  | some (.s x) => if x = "same" then pv else if x = "first" then initV z else .str x
  | some (.r a b) => .int (mulV z s a b)
structure DcOk (z : Str) (d : Dc) : Prop where
  r : ∀ a b, d = .r a b → (1 ≤ a ∧ a ≤ 99) ∧ (1 ≤ b ∧ b ≤ 99) ∧ z ∈ rtoL
  s : z = "size" → ∀ x, d = .s x → x = "same" ∨ x = "first"
  i : ∀ n, d = .i n → 0 ≤ n
section
variable {Γ : List Sl} {Post : Re → List Sl → Prop}
end
section
variable {K : PySem.W.Frag} {w : World} {cI cR cH cP : Addr} {Γ : List Sl} {Post : Re → List Sl → Prop} {td ty : TE}
theorem we_dget1V (h : WE K td Γ fun ra Γ1 => (dkOf Γ1 ra).isSome = true ∧ WE K ty Γ1 fun rb Γ2 => ∃ kvs z, dkOf Γ2 ra = some kvs ∧ rb = .val (.str z) ∧ Post (.val ((valD kvs (.inr z)).getD .non)) Γ2) : WE K (tDGet1 td ty) Γ Post :=
  we_dget1S (we_mono h fun ra Γ1 ⟨h0, h⟩ => ⟨h0, we_mono h fun rb Γ2 ⟨kvs, z, e1, e2, p⟩ => ⟨kvs, z, e1, e2, fun d e => by rw [e] at p; exact p, fun e => by rw [e] at p; exact p⟩⟩)
local macro_rules | `(tactic| walk_at "x") => `(tactic| first | with_reducible refine we_dget1V ?_ | fail "xV")
structure DOk (D : List (Str × Dc)) : Prop where
  nd : (D.map (·.1)).Nodup
  ok : ∀ kv ∈ D, kv.1 ∈ nmL ∧ DcOk kv.1 kv.2
theorem DOk.look {D : List (Str × Dc)} (h : DOk D) {z : Str} {d : Dc} (e : Ab.look D z = some d) : DcOk z d := by
  unfold Ab.look at e
  obtain ⟨q, hq, e⟩ := Option.map_eq_some_iff.mp e
  have h1 := h.ok q (List.mem_of_find?_eq_some hq)
  have h2 := List.find?_some hq
  have h2 : q.1 = z := of_decide_eq_true h2
  rw [← h2, ← e]; exact h1.2
theorem kv_len {vs : List Dt} (h : vs.length = 10) : (kvOf vs).length = 10 := by
  unfold kvOf; rw [List.length_zipWith, h]; rfl
theorem kv_keys {vs : List Dt} (h : vs.length = 10) : (kvOf vs).map (·.1) = nmL.map fun z => (Sum.inr z : Key) := by
  match vs, h with
  | [a, b, c, d, e, f, g, i, j, k], _ => rfl
theorem kv_get {vs : List Dt} {i : Nat} {z : Str} {d : Dt} (h1 : nmL[i]? = some z) (h2 : vs[i]? = some d) : (kvOf vs)[i]? = some (.inr z, d) := by
  unfold kvOf
  rw [List.getElem?_zipWith, h1, h2]
end
local macro_rules | `(tactic| walk_at "x") => `(tactic| first | with_reducible refine we_dget1V ?_ | fail "xV")
def wrdL : List (Str × List Str) := [("face", ["plain", "bold"]), ("align", ["both", "left"]), ("keep", ["yes", "no"]), ("place", ["block", "line", "none", "note", "float"])]
def wrdD (ws : List Str) : Dt := .lst (ws.map Dt.str)
section
variable {K : PySem.W.Frag}
def ap_props : AP := fun as Post => as = [] ∧ Post (.new (nmL.map Dt.str)) []
theorem run_props : RunOk K [] (tq_lproperties K) 0 ap_props := by
  rintro as Post ⟨rfl, k⟩
  unfold tq_lproperties
  show WS K [] _ [] _
  walk_at "gi"
  exact k
theorem put_kv {vs : List Dt} (h : vs.length = 10) {i : Nat} {z : Str} (h1 : nmL[i]? = some z) (d : Dt) : putE (kvOf vs) (.inr z) d = kvOf (vs.set i d) := by
  have hk := kv_keys h
  have hi : i < 10 := (List.getElem?_eq_some_iff.mp h1).1
  have ha : ((kvOf vs).any fun kv => decide (kv.1 = Sum.inr z)) = true := by
    rw [List.any_eq_true]
    exact ⟨_, List.mem_of_getElem? (kv_get h1 (List.getElem?_eq_getElem (l := vs) (i := i) (by omega))), decide_eq_true rfl⟩
  unfold putE
  rw [if_pos ha]
  have hl : (vs.set i d).length = 10 := by rw [List.length_set]; exact h
  refine List.ext_getElem? fun j => ?_
  by_cases hj : j < 10
  · obtain ⟨y, hy⟩ : ∃ y, nmL[j]? = some y := ⟨nmL[j]'hj, List.getElem?_eq_getElem (l := nmL) hj⟩
    have e1 := kv_get hy (List.getElem?_eq_getElem (l := vs) (i := j) (by omega))
    rw [List.getElem?_map, e1, kv_get hy (List.getElem?_eq_getElem (l := vs.set i d) (i := j) (by omega))]
    have nd : nmL.Nodup := by decide +kernel
    by_cases c : j = i
    · subst c
      rw [h1] at hy; cases hy
      simp
    · have hne : ¬ (Sum.inr y : Key) = Sum.inr z := fun e => by
        have e := Sum.inr.inj e
        subst e
        exact c ((List.getElem?_inj (show j < nmL.length from hj) nd).mp (hy.trans h1.symm))
      simp only [Option.map_some]
      rw [if_neg hne, List.getElem_set_ne (fun e => c e.symm)]
  · rw [List.getElem?_eq_none (by rw [List.length_map, kv_len h]; omega), List.getElem?_eq_none (by rw [kv_len hl]; omega)]
structure VOk (vs : List Dt) : Prop where
  l : vs.length = 10
  s : ∃ s, vs[0]? = some (.int s)
  o : ∀ d ∈ vs, Ab.okD d = true ∧ depD d = 0
theorem VOk.set {vs : List Dt} (h : VOk vs) {i : Nat} {d : Dt} (ho : Ab.okD d = true ∧ depD d = 0) (h0 : i = 0 → ∃ s, d = .int s) : VOk (vs.set i d) := by
  refine ⟨by rw [List.length_set]; exact h.l, ?_, fun x hx => ?_⟩
  · have hl := h.l
    by_cases c : i = 0
    · obtain ⟨s, e⟩ := h0 c
      subst c
      exact ⟨s, by rw [List.getElem?_set_self (by omega), e]⟩
    · obtain ⟨s, e⟩ := h.s
      exact ⟨s, by rw [List.getElem?_set_ne (fun e => c e), e]⟩
  · rcases List.mem_or_eq_of_mem_set hx with h1 | h1
    · exact h.o x h1
    · rw [h1]; exact ho
theorem VOk.put {vs : List Dt} (h : VOk vs) {i : Nat} {z : Str} (h1 : nmL[i]? = some z) (d : Dt) : putE (kvOf vs) (.inr z) d = kvOf (vs.set i d) := put_kv h.l h1 d
end
end Ns

namespace Ns
open PySem L2 Ab
structure Dl where
  nm : Str
  v : Dc
  st : Bool
def Dl.dt (d : Dl) : Dt := .tup [.str d.nm, d.v.dt, .bl d.st]
structure DlOk (d : Dl) : Prop where
  nm : d.nm ∈ nmL
  v : DcOk d.nm d.v
structure Ru where
  sel : List Stp
  ds : List Dl
def Ru.dt (r : Ru) : Dt := .tup [selD r.sel, .tup (r.ds.map Dl.dt)]
structure RuOk (r : Ru) : Prop where
  s1 : 1 ≤ r.sel.length
  s4 : r.sel.length ≤ 4
  sk : SelOk r.sel
  d1 : 1 ≤ r.ds.length
  d6 : r.ds.length ≤ 6
  dk : ∀ d ∈ r.ds, DlOk d
section
variable {K : PySem.W.Frag}
end
end Ns

namespace Ns
open PySem L2 Ab
structure WtOk (K : PySem.W.Frag) (c : Addr) : Prop where
  co : ClsOk K c
  n1 : NoAttr K c "marks"
  n2 : NoAttr K c "kinds"
section
variable {K : PySem.W.Frag} {c : Addr}
structure Wn where
  num : Nat
  place : Nat
  st : Bool
  m : Int
  k : Int
def Wn.d2 (w : Wn) : Dt := .tup [.int (w.num : Int), .int (w.place : Int)]
structure ShOk (K : PySem.W.Frag) (c : Addr) : Prop where
  co : ClsOk K c
  n1 : NoAttr K c "rule_row"
abbrev rsD (rs : List Ru) : Dt := .tup (rs.map Ru.dt)
abbrev shD (c : Addr) (rs : List Ru) : Dt := .obj c [("rule_row", rsD rs)]
theorem lk_sh_row {rs : List Ru} : List.lookup ("rule_row" : Str) ([("rule_row", rsD rs)] : List (Str × Dt)) = some (rsD rs) := lk_hit
theorem lk_sh_no {d : Dt} {m : Str} (h : (m == ("rule_row" : Str)) = false) : List.lookup m ([("rule_row", d)] : List (Str × Dt)) = none := by rw [List.lookup_cons, h]; rfl
end
end Ns

section
open PySem L2 Ab
local macro_rules | `(tactic| walk_at "no") => `(tactic| first
  | with_reducible exact fun h => Bool.noConfusion (show true = false from h)
  | with_reducible exact fun h => Bool.noConfusion (show false = true from h)
  | exact fun h => absurd h (by decide)
  | exact fun h => absurd (of_decide_eq_true h) (by omega)
  | exact fun h => absurd (by omega) (of_decide_eq_false h)
  | exact fun h => absurd (by omega) (nd_t h)
  | exact fun h => absurd (nd_f h) (by omega)
  | fail "no")
local macro_rules | `(tactic| walk_at "kb") => `(tactic| first | exact kb_tt | exact kb_ll | exact kb_ii | exact kb_ib | exact kb_ss | exact kb_sb | exact kb_si | exact kb_tb | exact kb_ti | exact kb_ts | exact kb_tl | exact kb_lb | exact kb_li | exact kb_ls | exact kb_lt | exact kb_is | exact kb_it | exact kb_il | exact kb_st | exact kb_sl | exact kb_bb | exact kb_bi | exact kb_nb | exact kb_ni | exact kb_ns | exact kb_nt | exact kb_nl | exact kb_bs | exact kb_bt | exact kb_bl | fail "kb")
local macro_rules | `(tactic| walk_at "norm") => `(tactic| first
  | ((refine' norm_cons (rfl : _ = _ :: _) ?ea ?et); (case ea => first | with_reducible exact (rfl : Sl.val _ = _) | with_reducible exact (rfl : Sl.cel _ = _) | with_reducible exact (rfl : Sl.un = _) | with_reducible exact norm_v | with_reducible exact norm_n | with_reducible exact norm_o | exact norm_v | exact norm_n | exact norm_o | exact rfl | fail "norm"); (case et => walk_at "norm"))
  | exact (rfl : _ = ([] : List Sl))
  | fail "norm")
local macro_rules | `(tactic| walk_at "nd") => `(tactic| first
  | exact (rfl : _ = ([] : List Dt))
  | ((refine' normD_cons (rfl : _ = _ :: _) ?et); (case et => walk_at "nd"))
  | fail "nd")
local macro_rules | `(tactic| walk_at "yO") => `(tactic| first
  | with_reducible refine we_ixG ?_
  | with_reducible refine we_opI0 ?_
  | with_reducible refine we_addG ?_
  | with_reducible refine we_eqG ?_
  | with_reducible refine we_neG ?_
  | with_reducible refine we_ltG ?_
  | with_reducible refine we_mulG ?_
  | with_reducible refine we_opI ?_
  | with_reducible refine we_inG ?_
  | with_reducible refine we_notInG ?_
  | with_reducible refine we_gtS ?_
  | fail "yO")
local macro_rules | `(tactic| walk_at "yB") => `(tactic| first
  | with_reducible refine we_lenG ?_
  | with_reducible refine we_isiG ?_
  | with_reducible refine we_intG ?_
  | with_reducible refine we_tuple ?_
  | with_reducible refine we_list ?_
  | with_reducible refine we_sumG ?_
  | with_reducible refine we_sum ?_
  | with_reducible refine we_max2 ?_
  | with_reducible refine we_min2 ?_
  | with_reducible refine we_abs ?_
  | with_reducible refine we_isoG ?_
  | with_reducible refine we_join ?_
  | with_reducible refine we_nlist ?_
  | fail "yB")
local macro_rules | `(tactic| walk_at "yV") => `(tactic| first
  | ((with_reducible refine' we_var ?hh ?_); (case hh => exact rfl))
  | ((with_reducible refine' we_own ?hh ?_); (case hh => exact rfl))
  | fail "yV")
local macro_rules | `(tactic| walk_at "yC") => `(tactic| first
  | ((with_reducible refine' we_kst ?h1 ?_); (case h1 => assumption))
  | with_reducible refine we_c ?_
  | fail "yC")
local macro_rules | `(tactic| walk_at "yE") => `(tactic| first
  | ((with_reducible show Ab.WE _ (L2.tVar _) _ _); walk_at "yV")
  | ((with_reducible show Ab.WE _ (L2.tOp _ _ _) _ _); walk_at "yO")
  | ((with_reducible show Ab.WE _ (L2.tC _) _ _); walk_at "yC")
  | ((with_reducible show Ab.WE _ (L2.tCB _ _) _ _); walk_at "yB")
  | with_reducible refine we_callH ?_
  | with_reducible refine we_fldG ?_
  | with_reducible refine we_tup ?_
  | with_reducible refine we_lst ?_
  | with_reducible refine we_nget ?_
  | with_reducible refine we_nin ?_
  | with_reducible refine we_notN ?_
  | with_reducible refine we_isN ?_
  | with_reducible refine we_if ?_
  | with_reducible refine we_methG ?_
  | ((with_reducible refine' we_appendN ?hh ?_); (case hh => exact rfl))
  | with_reducible refine we_slG ?_
  | with_reducible refine we_nnotin ?_
  | with_reducible refine we_nnew ?_
  | with_reducible refine we_ndisp1 ?_
  | with_reducible refine we_nget1 ?_
  | with_reducible refine we_neg ?_
  | with_reducible refine we_make ?_
  | with_reducible refine we_own2 ?_
  | with_reducible refine we_smeth ?_
  | with_reducible refine we_makeD ?_
  | with_reducible refine we_makeK ?_
  | ((with_reducible refine' we_clearN ?hh ?_); (case hh => exact rfl))
  | with_reducible refine we_chainI ?_
  | with_reducible refine we_andV ?_
  | with_reducible refine we_orV ?_
  | with_reducible refine we_notV ?_
  | ((with_reducible refine' we_reverseN ?hh ?_); (case hh => exact rfl))
  | ((with_reducible refine' we_ktup ?h1 ?_); (case h1 => assumption))
  | fail "yE")
local macro_rules | `(tactic| walk_at "yS") => `(tactic| first
  | with_reducible refine ws_if ?_
  | with_reducible refine ws_expr ?_
  | with_reducible refine ws_asgN rfl rfl ?_
  | with_reducible refine ws_asgG ?_
  | with_reducible refine ws_nil ?_
  | ((with_reducible refine' ws_retDN ?hh ?_); (case hh => exact rfl))
  | ((with_reducible refine' ws_retA ?hh ?_); (case hh => exact rfl))
  | with_reducible refine ws_ret ?_
  | with_reducible refine ws_nput ?_
  | with_reducible refine ws_setN ?_
  | ((with_reducible refine' ws_augN ?h1 ?h2 ?_); (case h1 => exact rfl); (case h2 => exact rfl))
  | with_reducible refine ws_par rfl rfl rfl rfl ?_
  | with_reducible refine ws_par3 rfl rfl rfl rfl rfl rfl ?_
  | fail "yS")
local macro_rules | `(tactic| walk_at "yT") => `(tactic| first
  | with_reducible refine wt_test ?_
  | with_reducible refine wt_B ?_
  | with_reducible refine wt_not ?_
  | with_reducible refine wt_and ?_
  | with_reducible refine wt_or ?_
  | with_reducible refine wt_yes ?_
  | fail "yT")
local macro_rules | `(tactic| walk_at "yG") => `(tactic| first
  | with_reducible refine wg_nameN rfl rfl ?_
  | ((with_reducible refine' wg_tup ?hh ?_); (case hh => exact rfl))
  | fail "yG")
local macro_rules | `(tactic| walk_at "yD") => `(tactic| first
  | with_reducible refine wd_cons ?_
  | with_reducible refine wd_nil ?_
  | fail "yD")
local macro_rules | `(tactic| walk_at "yW") => `(tactic| first
  | with_reducible refine wa_cons ?_
  | with_reducible refine wa_nil ?_
  | fail "yW")
local macro_rules | `(tactic| walk_at "yR") => `(tactic| first
  | with_reducible refine wo_none ?_
  | with_reducible refine wo_some ?_
  | fail "yR")
local macro_rules | `(tactic| walk_at "yP") => `(tactic| first
  | ((with_reducible refine' fldp ?h1 ?h2 ?h3 ?_); (case h1 => assumption); (case h2 => assumption); (case h3 => walk_at "lk"))
  | ((with_reducible refine' ixp ?h1 ?h2 ?_); (case h1 => exact rfl); (case h2 => assumption))
  | ((with_reducible refine' ixp ?h1 ?h2 ?_); (case h1 => exact rfl); (case h2 => exact rfl))
  | with_reducible refine eqp_st ?_
  | with_reducible refine nep_st ?_
  | ((with_reducible refine' eqp_sf ?h1 ?_); (case h1 => first | assumption | decide +kernel))
  | ((with_reducible refine' nep_sf ?h1 ?_); (case h1 => first | assumption | decide +kernel))
  | with_reducible refine eqp_i ?_
  | with_reducible refine nep_i ?_
  | with_reducible refine addp_i ?_
  | with_reducible refine ltp_i ?_
  | ((with_reducible refine' lenp ?hh ?_); (case hh => exact rfl))
  | ((with_reducible refine' metp ?h3 ?_); (case h3 => walk_at "lk"))
  | ((with_reducible refine' addp_tE ?hz ?h ?_); (case h => walk_at "nd"); (case hz => exact Nat.le_of_ble_eq_true rfl))
  | ((with_reducible refine' slp_tE ?h ?_); (case h => walk_at "nd"))
  | ((with_reducible refine' mulp_r ?h1 ?_); (case h1 => first | decide | omega | fail "m"))
  | ((with_reducible refine' mulp_l ?h1 ?_); (case h1 => first | decide | omega | fail "m"))
  | with_reducible refine intp_i ?_
  | with_reducible refine intp_b ?_
  | ((with_reducible refine' isi_own ?h1 ?h2 ?_); (case h1 => exact rfl); (case h2 => walk_at "kb"))
  | ((with_reducible refine' isi_val ?h1 ?h2 ?_); (case h1 => exact rfl); (case h2 => walk_at "kb"))
  | ((with_reducible refine' isi_new ?h2 ?_); (case h2 => walk_at "kb"))
  | ((with_reducible refine' isop ?h1 ?_); (case h1 => assumption))
  | ((with_reducible refine' lenp_s ?h1 ?_); (case h1 => assumption))
  | ((with_reducible refine' slp_s ?h1 ?_); (case h1 => assumption))
  | ((with_reducible refine' ixp_s ?h1 ?h2 ?_); (case h1 => assumption); (case h2 => assumption))
  | with_reducible refine wgs_cons ?_
  | with_reducible refine wgs_nil ?_
  | fail "yP")
local macro_rules | `(tactic| walk_at "yA") => `(tactic| first
  | (refine ⟨_, rfl, ⟨_, rfl⟩, ?_⟩)
  | (refine ⟨_, rfl, ?_⟩)
  | (refine ⟨_, _, _, rfl, rfl, rfl, ?_⟩)
  | (refine ⟨_, _, rfl, rfl, (Nat.le_of_ble_eq_true rfl : _ ≤ _), ?_⟩)
  | (refine ⟨_, _, rfl, rfl, ?_⟩)
  | (refine ⟨(Nat.le_of_ble_eq_true rfl : _ ≤ _), ?_⟩)
  | (refine ⟨(rfl : _ = true), ?_⟩)
  | ((refine' ⟨fun _ => ?_, fun hY => absurd hY ?k2⟩); (case k2 => walk_at "no"))
  | ((refine' ⟨fun hY => absurd hY ?k2, fun _ => ?_⟩); (case k2 => walk_at "no"))
  | (refine ⟨⟨(by omega), (by omega)⟩, ?_⟩)
  | (refine ⟨⟨(by decide), (by decide), (by decide)⟩, ?_⟩)
  | (refine ⟨(show (_ : Prop) from by first | decide | omega | fail "c"), ?_⟩)
  | fail "yA")
local macro_rules | `(tactic| walk_at "x") => `(tactic| first
  | ((with_reducible refine' norm_intro ?hn ?_); (case hn => walk_at "norm"))
  | ((with_reducible show Ab.WE _ _ _ _); walk_at "yE")
  | ((with_reducible show Ab.WS _ _ _ _ _); walk_at "yS")
  | ((with_reducible show Ab.WD _ _ _ _); walk_at "yD")
  | ((with_reducible show Ab.WT _ _ _ _); walk_at "yT")
  | ((with_reducible show Ab.WG _ _ _ _ _ _); walk_at "yG")
  | ((with_reducible show Ab.WA _ _ _ _); walk_at "yW")
  | ((with_reducible show Ab.WO _ _ _ _); walk_at "yR")
  | ((fail_if_success with_reducible show Ab.Hold _); (first | walk_at "yP" | walk_at "yA" | fail "p"))
  | fail "x")
local macro_rules | `(tactic| walk_at "e") => `(tactic| first | with_reducible refine ws_seq ?_ | walk_at "x" | fail "stop")
local macro_rules | `(tactic| walk_at "xs") => `(tactic| repeat' walk_at "x")
local macro_rules | `(tactic| walk_at "es") => `(tactic| repeat' walk_at "e")
local macro_rules | `(tactic| walk_at "len") => `(tactic| ((intro as Post h); (repeat (first | (obtain ⟨e, _⟩ := h; exact (congrArg List.length e).trans rfl) | (obtain ⟨_, h⟩ := h)))))
local macro_rules | `(tactic| walk_at "tk") => `(tactic| refine .a (tk (by assumption) (by omega) (by omega) (by omega) fun _ _ _ _ _ => ?_))
local macro_rules | `(tactic| walk_at "ln") => `(tactic| first
  | omega
  | (simp only [List.length_append, List.length_cons, List.length_nil, List.length_map, List.length_take, List.length_drop, List.length_set, List.length_replicate, List.length_reverse, PySem.Str.length_append]; omega)
  | decide
  | with_reducible exact Nat.le_refl _
  | (simp only [List.length_append, List.length_cons, List.length_nil, List.length_map, List.length_take, List.length_drop, List.length_set, List.length_replicate, List.length_reverse, PySem.Str.length_append] at *; omega)
  | exact (Nat.le_of_ble_eq_true rfl)
  | fail "ln")
local macro_rules | `(tactic| walk_at "az") => `(tactic| first
  | assumption
  | exact Az.nil
  | exact az_abc
  | exact Az.one (az_abc _ (by assumption))
  | ((refine' Az.app ?h1 ?h2); (case h1 => walk_at "az"); (case h2 => walk_at "az"))
  | ((refine' Az.cut ?h1 _ _); (case h1 => walk_at "az"))
  | fail "az")
local macro_rules | `(tactic| walk_at "ty") => `(tactic| first
  | assumption
  | exact EnvT.nil
  | ((refine' EnvT.cons ?ha ?ht); (case ha => walk_at "ty"); (case ht => walk_at "ty"))
  | exact SAny.mk
  | exact SIs.mk
  | exact SPool.mk (by assumption)
  | exact SPool.mk (PoolUp.mono (by assumption) (by omega))
  | ((refine' SVal.mk ?ha); (case ha => walk_at "ty"))
  | ((refine' RVal.mk ?ha); (case ha => walk_at "ty"))
  | ((refine' SAcc.mk ?h0 ?h1 ?h); (case h0 => walk_at "ln"); (case h1 => walk_at "ln"); (case h => walk_at "ty"))
  | ((refine' RNew.mk ?h0 ?h1 ?h); (case h0 => walk_at "ln"); (case h1 => walk_at "ln"); (case h => walk_at "ty"))
  | ((refine' TTs.mk ?h0 ?h1 ?h); (case h0 => walk_at "ln"); (case h1 => walk_at "ln"); (case h => walk_at "ty"))
  | ((refine' TLs.mk ?h0 ?h1 ?h); (case h0 => walk_at "ln"); (case h1 => walk_at "ln"); (case h => walk_at "ty"))
  | exact TIs.mk
  | exact TBl.mk
  | ((refine' TInt.mk ?h0 ?h1); (case h0 => walk_at "ln"); (case h1 => walk_at "ln"))
  | ((refine' TStr.mk ?h0 ?h1); (case h0 => walk_at "ln"); (case h1 => walk_at "ln"))
  | ((refine' TNm.mk ?h0 ?h1 ?h2); (case h0 => walk_at "ln"); (case h1 => walk_at "ln"); (case h2 => walk_at "az"))
  | ((refine' T2.mk ?ha ?hb); (case ha => walk_at "ty"); (case hb => walk_at "ty"))
  | ((refine' T3.mk ?ha ?hb ?hc); (case ha => walk_at "ty"); (case hb => walk_at "ty"); (case hc => walk_at "ty"))
  | ((refine' T4.mk ?ha ?hb ?hc ?hd); (case ha => walk_at "ty"); (case hb => walk_at "ty"); (case hc => walk_at "ty"); (case hd => walk_at "ty"))
  | ((refine' T1.mk ?ha); (case ha => walk_at "ty"))
  | exact all_nil
  | ((refine' all_cons ?ha ?ht); (case ha => walk_at "ty"); (case ht => walk_at "ty"))
  | ((refine' all_app ?ha ?ht); (case ha => walk_at "ty"); (case ht => walk_at "ty"))
  | exact all_take (by assumption)
  | exact all_drop (by assumption)
  | exact all_cut (by assumption)
  | exact all_erase (by assumption)
  | ((refine' all_set (by assumption) ?ha); (case ha => walk_at "ty"))
  | fail "ty")
local macro_rules | `(tactic| walk_at "cs") => `(tactic| repeat (first
  | cases ‹EnvT (_ :: _) _›
  | cases ‹EnvT [] _›
  | cases ‹SAny _›
  | cases ‹SIs _ _›
  | cases ‹SVal _ _›
  | cases ‹SAcc _ _ _ _›
  | cases ‹SPool _ _›
  | cases ‹RVal _ _›
  | cases ‹RNew _ _ _ _›
  | cases ‹TIs _ _›
  | cases ‹TInt _ _ _›
  | cases ‹TBl _›
  | cases ‹TStr _ _ _›
  | cases ‹TNm _ _ _›
  | cases ‹T1 _ _›
  | cases ‹T2 _ _ _›
  | cases ‹T3 _ _ _ _›
  | cases ‹T4 _ _ _ _ _›
  | cases ‹TTs _ _ _ _›
  | cases ‹TLs _ _ _ _›))
local macro_rules | `(tactic| walk_at "if") => `(tactic| ((refine ⟨fun hY => ?_, fun hY => ?_⟩) <;> (try simp only [decide_eq_true_eq, decide_eq_false_iff_not, Bool.not_eq_true', Bool.not_eq_false', Bool.not_eq_true, Bool.not_eq_false] at hY)))
local macro_rules | `(tactic| walk_at "c1") => `(tactic| ((refine' Hold.a ⟨_, ?ce, ?co, fun _ _ _ _ => ?_⟩); (case ce => (show EnvT _ _; walk_at "ty")); (case co => first | omega | fail "co"); walk_at "cs"))
local macro_rules | `(tactic| walk_at "c2") => `(tactic| ((refine' Hold.a ⟨_, _, ?ce, ?co, fun _ _ _ _ => ?_⟩); (case ce => (show EnvT _ _; walk_at "ty")); (case co => first | omega | fail "co"); walk_at "cs"))
local macro_rules | `(tactic| walk_at "c3") => `(tactic| ((refine' Hold.a ⟨_, _, _, ?ce, ?co, fun _ _ _ _ => ?_⟩); (case ce => (show EnvT _ _; walk_at "ty")); (case co => first | omega | fail "co"); walk_at "cs"))
local macro_rules | `(tactic| walk_at "ix") => `(tactic| first
  | ((refine' ixp_c0 ?h1 ?_); (case h1 => exact rfl))
  | ((refine' ixp_kT ?h1 ?h2 ?h3 ?h4 fun _ _ => ?_); (case h1 => exact rfl); (case h2 => walk_at "ln"); (case h3 => walk_at "ln"); (case h4 => assumption); walk_at "cs")
  | ((refine' ixp_sk ?h1 ?h2 ?h3 fun _ _ => ?_); (case h1 => walk_at "ln"); (case h2 => walk_at "ln"); (case h3 => walk_at "ln"))
  | fail "ix")
local macro_rules | `(tactic| walk_at "tx") => `(tactic| first
  | ((with_reducible refine' lenp_s ?h1 ?_); (case h1 => walk_at "ln"))
  | ((with_reducible refine' slp_s ?h1 ?_); (case h1 => walk_at "ln"))
  | ((with_reducible refine' addp_s ?h1 ?_); (case h1 => walk_at "ln"))
  | ((with_reducible refine' addp_l ?h1 ?h2 ?h3 ?h4 ?h5 ?_); (case h1 => exact rfl); (case h2 => exact rfl); (case h3 => exact rfl); (case h4 => exact rfl); (case h5 => walk_at "ln"))
  | with_reducible refine we_repS ?_
  | with_reducible refine we_repA ?_
  | with_reducible refine we_strG ?_
  | with_reducible refine strp_s ?_
  | with_reducible refine we_sortedS ?_
  | with_reducible refine we_sorted ?_
  | with_reducible refine we_all ?_
  | with_reducible refine we_any ?_
  | with_reducible refine eqp_str ?_
  | with_reducible refine nep_str ?_
  | (refine ⟨_, _, rfl, rfl, (by omega), (by omega), (by walk_at "ln"), ?_⟩)
  | (refine ⟨_, _, rfl, rfl, (by walk_at "ln"), ?_⟩)
  | (refine ⟨(show (_ : Prop) from by walk_at "ln"), ?_⟩)
  | fail "tx")
local macro_rules | `(tactic| walk_at "go1") => `(tactic| first
  | walk_at "e"
  | walk_at "tk"
  | walk_at "c1"
  | walk_at "c2"
  | walk_at "ix"
  | walk_at "tx"
  | fail "go")
local macro_rules | `(tactic| walk_at "go") => `(tactic| repeat' walk_at "go1")
local macro_rules | `(tactic| walk_at "gi") => `(tactic| repeat' (first | walk_at "go1" | walk_at "if" | fail "gi"))
local macro_rules | `(tactic| walk_at "gx") => `(tactic| repeat' (first
  | walk_at "x"
  | walk_at "tk"
  | walk_at "c1"
  | walk_at "c2"
  | walk_at "ix"
  | walk_at "tx"
  | fail "gx"))
local macro_rules | `(tactic| walk_at "len") => `(tactic| ((intro as Post h); (repeat (first | (obtain ⟨e, _⟩ := h; exact (congrArg List.length e).trans rfl) | (obtain ⟨e, _⟩ := h; exact (EnvT.len e).trans rfl) | (obtain ⟨_, h⟩ := h)))))
namespace Ns
open PySem L2 Ab
local macro_rules | `(tactic| walk_at "lk") => `(tactic| first | exact lk_sh_row | exact lk_sh_no (by decide +kernel) | fail "lk")
local macro_rules | `(tactic| walk_at "x") => `(tactic| first
  | with_reducible refine ws_raise rfl ?_
  | with_reducible refine ws_retX (wx_make rfl ?_)
  | with_reducible refine ws_asgX rfl rfl (wx_make rfl ?_)
  | with_reducible refine ws_asgX rfl rfl (wx_ownX rfl ?_)
  | fail "x")
def tx_Sheet___init__ (K : PySem.W.Frag) (c_TooLarge : Addr) (W : WX) : TS :=
    (tSeq (tIfS (tTest (tOp rGtI (tCB (rLenV K) (tCons (tVar 1) tNil)) (tC (.int 12)))) (tRaise W (.ref c_TooLarge)) tNext)
    (sFld K (tVar 0) (tCB (rTupleOf K) (tCons (tVar 1) tNil)) "rule_row"))
def tx_Sheet___getitem__ (K : PySem.W.Frag) (c_BadPath : Addr) (W : WX) : TS :=
    (tSeq (tIfS (tNot (tTest (tChain rLeI rLtI (tC (.int 0)) (tVar 1) (tCB (rLenV K) (tCons (tFld K (tVar 0) "rule_row") tNil))))) (tRaise W (.ref c_BadPath)) tNext)
    (tRet (tOp (rIx K) (tFld K (tVar 0) "rule_row") (tVar 1))))
def tx_Sheet___contains__ (K : PySem.W.Frag) : TS :=
    (tSeq (tFor (iTup K (tFld K (tVar 0) "rule_row")) (gName 2) (tFor (iTup K (tOp (rIx K) (tVar 2) (tC (.int 1)))) (gName 3) (tIfS (tTest (tOp (rEqG K) (tOp (rIx K) (tVar 3) (tC (.int 0))) (tVar 1))) (tRet (tC (.bl true))) tNext)))
    (tRet (tC (.bl false))))
def tx_Sheet___add__ (K : PySem.W.Frag) (c_Sheet : Addr) (ai_Sheet : AIX) (W : WX) : TS :=
    (tSeq (tIfS (tNot (tB (tCB (rIsi K) (tCons (tVar 1) (tCons (tC (.ref c_Sheet)) tNil))))) tNever tNext)
    (tRet (tMakeX K c_Sheet ai_Sheet W (tCons (tOp (rAddG K) (tFld K (tVar 0) "rule_row") (tFld K (tVar 1) "rule_row")) tNil))))
def tx_Sheet_with_rule (K : PySem.W.Frag) (c_Sheet : Addr) (c_BadPath : Addr) (ai_Sheet : AIX) (W : WX) : TS :=
    (tSeq (tIfS (tNot (tTest (tChain rLeI rLeI (tC (.int 0)) (tVar 1) (tCB (rLenV K) (tCons (tFld K (tVar 0) "rule_row") tNil))))) (tRaise W (.ref c_BadPath)) tNext)
    (tRet (tMakeX K c_Sheet ai_Sheet W (tCons (tOp (rAddG K) (tOp (rAddG K) (tSl (rSlG K) (tFld K (tVar 0) "rule_row") tNoPart (tPart (tVar 1))) (tTup (tCons (tVar 2) tNil))) (tSl (rSlG K) (tFld K (tVar 0) "rule_row") (tPart (tVar 1)) tNoPart)) tNil))))
def tx_Sheet_without_rule (K : PySem.W.Frag) (c_Sheet : Addr) (c_BadPath : Addr) (ai_Sheet : AIX) (W : WX) : TS :=
    (tSeq (tIfS (tNot (tTest (tChain rLeI rLtI (tC (.int 0)) (tVar 1) (tCB (rLenV K) (tCons (tFld K (tVar 0) "rule_row") tNil))))) (tRaise W (.ref c_BadPath)) tNext)
    (tRet (tMakeX K c_Sheet ai_Sheet W (tCons (tOp (rAddG K) (tSl (rSlG K) (tFld K (tVar 0) "rule_row") tNoPart (tPart (tVar 1))) (tSl (rSlG K) (tFld K (tVar 0) "rule_row") (tPart (tOp (rAddG K) (tVar 1) (tC (.int 1)))) tNoPart)) tNil))))
def tx_joined (K : PySem.W.Frag) (c_Sheet : Addr) (ai_Sheet : AIX) (ap_Sheet___add__ : APX) (W : WX) : TS :=
    (tSeq (tAsg (tMakeX K c_Sheet ai_Sheet W (tCons (tTup tNil) tNil)) (gName 1))
    (tSeq (tFor (iTup K (tVar 0)) (gName 2) (tAsg (tOwnX K c_Sheet ap_Sheet___add__ W (tVar 1) (tVar 2)) (gName 1)))
    (tRet (tVar 1))))
theorem cut_to {ds : List Dt} {n : Nat} {i : Int} (hi : i = n) (h : n ≤ ds.length) : cutD ds none (some i) = ds.take n := by
  subst hi
  have h1 : HT.sIx ds.length 0 none = 0 := rfl
  have h2 : HT.sIx ds.length ds.length (some (n : Int)) = n := by
    show (if ((n : Nat) : Int) < 0 then ((n : Int) + ds.length).toNat else min (n : Int).toNat ds.length) = n
    rw [if_neg (by omega)]
    show min n ds.length = n
    omega
  unfold cutD
  rw [h1, h2]; simp
theorem cut_fr {ds : List Dt} {n : Nat} {i : Int} (hi : i = n) (h : n ≤ ds.length) : cutD ds (some i) none = ds.drop n := by
  subst hi
  have h1 : HT.sIx ds.length ds.length none = ds.length := rfl
  have h2 : HT.sIx ds.length 0 (some (n : Int)) = n := by
    show (if ((n : Nat) : Int) < 0 then ((n : Int) + ds.length).toNat else min (n : Int).toNat ds.length) = n
    rw [if_neg (by omega)]
    show min n ds.length = n
    omega
  unfold cutD
  rw [h1, h2, List.take_of_length_le (by rw [List.length_drop]; omega)]
def ai_shX (cT : Addr) : AIX := fun ds Post XP => ∃ (rs : List Ru) (d : Dt), ds = [d] ∧ (d = rsD rs ∨ d = .lst (rs.map Ru.dt)) ∧ rs.length ≤ 1000 ∧ (rs.length ≤ 12 → Post [("rule_row", rsD rs)]) ∧ (12 < rs.length → XP (.ref cT) [])
theorem len_shX {cT : Addr} : ∀ ds Post XP, ai_shX cT ds Post XP → ds.length + 1 = (["self", "rules"] : List Str).length := by rintro ds Post XP ⟨rs, d, rfl, _⟩; rfl
section
variable {K : PySem.W.Frag} {c cT cB : Addr}
theorem run_shX (go : ShOk K c) : ∀ (W : WX) ds Post XP, ai_shX cT ds Post XP → WIX K c (tx_Sheet___init__ K cT W) ((.un :: ds.map Sl.val) ++ List.replicate ((["self", "rules"] : List Str).length - (ds.length + 1)) .un) [] (fun gs _ => Post gs) W XP := by
  rintro W ds Post XP ⟨rs, d, rfl, hd, hl, k, kx⟩
  unfold tx_Sheet___init__
  show WIX K c _ [.un, .val d] [] _ _ _
  have e1 : ((rs.map Ru.dt).length : Int) = rs.length := by rw [List.length_map]
  rcases hd with rfl | rfl
  · refine wix_seq (wix_ws ?_)
    walk_at "es"
    rw [e1]
    refine ⟨fun h => ?_, fun h => ?_⟩
    · have h := of_decide_eq_true h
      walk_at "es"
      exact ⟨rfl, kx (by omega)⟩
    · have h := of_decide_eq_false h
      walk_at "es"
      refine ⟨rfl, wix_set go.co.cl go.n1 rfl (Nat.le_of_ble_eq_true rfl) ?_⟩
      walk_at "es"
      exact ⟨rfl, k (by omega)⟩
  · refine wix_seq (wix_ws ?_)
    walk_at "es"
    rw [e1]
    refine ⟨fun h => ?_, fun h => ?_⟩
    · have h := of_decide_eq_true h
      walk_at "es"
      exact ⟨rfl, kx (by omega)⟩
    · have h := of_decide_eq_false h
      walk_at "es"
      refine ⟨rfl, wix_set go.co.cl go.n1 rfl (Nat.le_of_ble_eq_true rfl) ?_⟩
      walk_at "es"
      exact ⟨rfl, k (by omega)⟩
def ap_shget (c cB : Addr) : APX := fun as Post XP => ∃ (rs : List Ru) (i : Int), as = [.val (shD c rs), .val (.int i)] ∧ rs.length ≤ 12 ∧ (-100 ≤ i ∧ i ≤ 100) ∧ (∀ r, 0 ≤ i → rs[i.toNat]? = some r → Post (.val r.dt) as) ∧ (¬ (0 ≤ i ∧ i < rs.length) → XP (.ref cB) [] as)
theorem run_shget (go : ShOk K c) : RunOkX K [] (tx_Sheet___getitem__ K cB) 2 (ap_shget c cB) := by
  rintro W as Post XP ⟨rs, i, rfl, hl, hi, k, kx⟩
  have co := go.co; have cl := go.co.cl; have n1 := go.n1
  unfold tx_Sheet___getitem__
  show WS K [] _ [.val (shD c rs), .val (.int i)] _
  have e1 : ((rs.map Ru.dt).length : Int) = rs.length := by rw [List.length_map]
  walk_at "es"
  refine ⟨fun h => ?_, fun h => ?_⟩
  · have h := of_decide_eq_true h
    walk_at "es"
    rw [e1]
    refine ⟨fun h2 => ?_, fun h2 => ?_⟩
    · have h2 : ¬ i < (rs.length : Int) := by simpa using h2
      walk_at "es"
      exact kx (fun z => h2 z.2)
    · have h2 : i < (rs.length : Int) := by simpa using h2
      walk_at "es"
      obtain ⟨m, rfl⟩ := Int.eq_ofNat_of_zero_le h
      have hm : m < rs.length := by omega
      have hat : atI (rs.map Ru.dt) (m : Int) = some (rs[m]).dt := atI_of rfl (by rw [List.getElem?_map, List.getElem?_eq_getElem hm]; rfl)
      refine ixp rfl hat ?_
      walk_at "es"
      exact k _ h (by simpa using List.getElem?_eq_getElem hm)
  · have h := of_decide_eq_false h
    walk_at "es"
    exact kx (fun z => h z.1)
def hasN (rs : List Ru) (nm : Str) : Bool := rs.any fun r => r.ds.any fun d => decide (d.nm = nm)
def ap_shhas (c : Addr) : AP := fun as Post => ∃ (rs : List Ru) (nm : Str), as = [.val (shD c rs), .val (.str nm)] ∧ rs.length ≤ 12 ∧ (∀ r ∈ rs, r.ds.length ≤ 6) ∧ Post (.val (.bl (hasN rs nm))) as
theorem run_shhas (go : ShOk K c) : RunOk K [] (tx_Sheet___contains__ K) 4 (ap_shhas c) := by
  rintro as Post ⟨rs, nm, rfl, hl, hd, k⟩
  have co := go.co; have cl := go.co.cl; have n1 := go.n1
  unfold tx_Sheet___contains__
  show WS K [] _ [.val (shD c rs), .val (.str nm), .un, .un] _
  walk_at "es"
  refine for_tupT rs Ru.dt (fun i G => (∃ s2 s3, G = [.val (shD c rs), .val (.str nm), s2, s3]) ∧ ∀ r ∈ rs.take i, (r.ds.any fun d => decide (d.nm = nm)) = false) ?_ ?_ ?_
  · walk_at "es"
    exact .a ⟨rfl, ⟨_, _, rfl⟩, by simp⟩
  · rintro i r G hi ⟨⟨s2, s3, rfl⟩, hG⟩
    have hrm := List.mem_of_getElem? hi
    unfold Ru.dt
    walk_at "es"
    refine for_tupT r.ds Dl.dt (fun j G => (∃ s3, G = [.val (shD c rs), .val (.str nm), .val (.tup [selD r.sel, .tup (r.ds.map Dl.dt)]), s3]) ∧ ∀ d ∈ r.ds.take j, ¬ d.nm = nm) ?_ ?_ ?_
    · walk_at "es"
      exact .a ⟨rfl, ⟨_, rfl⟩, by simp⟩
    · rintro j d G hj ⟨⟨s3, rfl⟩, hG2⟩
      unfold Dl.dt
      walk_at "es"
      refine eqp_str ?_
      walk_at "es"
      refine ⟨fun h => ?_, fun h => ?_⟩
      · have h := of_decide_eq_true h
        walk_at "es"
        have e : hasN rs nm = true := by
          unfold hasN
          rw [List.any_eq_true]
          exact ⟨r, hrm, by rw [List.any_eq_true]; exact ⟨d, List.mem_of_getElem? hj, decide_eq_true h⟩⟩
        rw [e] at k
        exact k
      · have h := of_decide_eq_false h
        walk_at "es"
        refine .a ⟨⟨_, rfl⟩, fun z hz => ?_⟩
        rw [List.take_succ, hj] at hz
        rcases List.mem_append.mp hz with hz | hz
        · exact hG2 z hz
        · rw [List.mem_singleton.mp (show z ∈ [d] from hz)]; exact h
    · rintro G ⟨⟨s3, rfl⟩, hG2⟩
      rw [List.take_length] at hG2
      refine .a ⟨⟨_, _, rfl⟩, fun z hz => ?_⟩
      rw [List.take_succ, hi] at hz
      rcases List.mem_append.mp hz with hz | hz
      · exact hG z hz
      · rw [List.mem_singleton.mp (show z ∈ [r] from hz), List.any_eq_false]
        intro d hd
        simpa using hG2 d hd
  · rintro G ⟨⟨s2, s3, rfl⟩, hG⟩
    rw [List.take_length] at hG
    walk_at "es"
    have e : hasN rs nm = false := by
      unfold hasN
      rw [List.any_eq_false]
      intro r hr
      rw [hG r hr]; simp
    rw [e] at k
    exact k
def ap_shadd (c cT : Addr) : APX := fun as Post XP => ∃ (rs qs : List Ru), as = [.val (shD c rs), .val (shD c qs)] ∧ rs.length ≤ 12 ∧ qs.length ≤ 12 ∧ (rs.length + qs.length ≤ 12 → Post (.val (shD c (rs ++ qs))) as) ∧ (12 < rs.length + qs.length → XP (.ref cT) [] as)
theorem run_shadd (go : ShOk K c) : RunOkX K [] (tx_Sheet___add__ K c (ai_shX cT)) 2 (ap_shadd c cT) := by
  rintro W as Post XP ⟨rs, qs, rfl, hl, hq, k, kx⟩
  have co := go.co; have cl := go.co.cl; have n1 := go.n1
  unfold tx_Sheet___add__
  show WS K [] _ [.val (shD c rs), .val (shD c qs)] _
  have e1 : (rs.map Ru.dt).length = rs.length := List.length_map _
  have e2 : (qs.map Ru.dt).length = qs.length := List.length_map _
  have e3 : (rs ++ qs).length = rs.length + qs.length := List.length_append
  walk_at "es"
  refine addp_t (by omega) ?_
  walk_at "es"
  refine .a ⟨rs ++ qs, _, rfl, .inl (by rw [rsD, List.map_append]), by omega, fun h => ⟨rfl, k (by omega)⟩, fun h => kx (by omega)⟩
def ap_shwith (c cB cT : Addr) : APX := fun as Post XP => ∃ (rs : List Ru) (i : Int) (r : Ru), as = [.val (shD c rs), .val (.int i), .val r.dt] ∧ rs.length ≤ 12 ∧ (-100 ≤ i ∧ i ≤ 100) ∧
  (0 ≤ i → i ≤ rs.length → rs.length < 12 → Post (.val (shD c (rs.take i.toNat ++ [r] ++ rs.drop i.toNat))) as) ∧ (0 ≤ i → i ≤ rs.length → rs.length = 12 → XP (.ref cT) [] as) ∧ (¬ (0 ≤ i ∧ i ≤ rs.length) → XP (.ref cB) [] as)
theorem run_shwith (go : ShOk K c) : RunOkX K [] (tx_Sheet_with_rule K c cB (ai_shX cT)) 3 (ap_shwith c cB cT) := by
  rintro W as Post XP ⟨rs, i, r, rfl, hl, hi, k, kT, kx⟩
  have co := go.co; have cl := go.co.cl; have n1 := go.n1
  unfold tx_Sheet_with_rule
  show WS K [] _ [.val (shD c rs), .val (.int i), .val r.dt] _
  have e1 : ((rs.map Ru.dt).length : Int) = rs.length := by rw [List.length_map]
  walk_at "es"
  refine ⟨fun h => ?_, fun h => ?_⟩
  · have h := of_decide_eq_true h
    walk_at "es"
    rw [e1]
    refine ⟨fun h2 => ?_, fun h2 => ?_⟩
    · have h2 : ¬ i ≤ (rs.length : Int) := by simpa using h2
      walk_at "es"
      exact kx (fun z => h2 z.2)
    · have h2 : i ≤ (rs.length : Int) := by simpa using h2
      obtain ⟨m, rfl⟩ := Int.eq_ofNat_of_zero_le h
      have hm : m ≤ (rs.map Ru.dt).length := by rw [List.length_map]; omega
      have f1 : ((m : Int)).toNat = m := rfl
      have g1 : ((rs.map Ru.dt).take m).length = m := by rw [List.length_take]; omega
      have g2 : ((rs.map Ru.dt).drop m).length = rs.length - m := by rw [List.length_drop, List.length_map]
      have g3 : (rs.take m ++ [r] ++ rs.drop m).length = rs.length + 1 := by simp only [List.length_append, List.length_take, List.length_drop, List.length_singleton]; omega
      walk_at "es"
      refine slp_tE (cut_to rfl hm) ?_
      walk_at "es"
      refine addp_t (by rw [g1]; simp; omega) ?_
      walk_at "es"
      refine slp_tE (cut_fr rfl hm) ?_
      walk_at "es"
      refine addp_t (by rw [List.length_append, g1, g2]; simp; omega) ?_
      walk_at "es"
      refine .a ⟨rs.take m ++ [r] ++ rs.drop m, _, rfl, .inl (by rw [rsD, List.map_append, List.map_append, List.map_take, List.map_drop]; rfl), by omega, fun h => ⟨rfl, k (by omega) h2 (by omega)⟩, fun h => kT (by omega) h2 (by omega)⟩
  · have h := of_decide_eq_false h
    walk_at "es"
    exact kx (fun z => h z.1)
def ap_shwo (c cB : Addr) : APX := fun as Post XP => ∃ (rs : List Ru) (i : Int), as = [.val (shD c rs), .val (.int i)] ∧ rs.length ≤ 12 ∧ (-100 ≤ i ∧ i ≤ 100) ∧
  (0 ≤ i → i < rs.length → Post (.val (shD c (rs.take i.toNat ++ rs.drop (i.toNat + 1)))) as) ∧ (¬ (0 ≤ i ∧ i < rs.length) → XP (.ref cB) [] as)
theorem run_shwo (go : ShOk K c) : RunOkX K [] (tx_Sheet_without_rule K c cB (ai_shX cT)) 2 (ap_shwo c cB) := by
  rintro W as Post XP ⟨rs, i, rfl, hl, hi, k, kx⟩
  have co := go.co; have cl := go.co.cl; have n1 := go.n1
  unfold tx_Sheet_without_rule
  show WS K [] _ [.val (shD c rs), .val (.int i)] _
  have e1 : ((rs.map Ru.dt).length : Int) = rs.length := by rw [List.length_map]
  walk_at "es"
  refine ⟨fun h => ?_, fun h => ?_⟩
  · have h := of_decide_eq_true h
    walk_at "es"
    rw [e1]
    refine ⟨fun h2 => ?_, fun h2 => ?_⟩
    · have h2 : ¬ i < (rs.length : Int) := by simpa using h2
      walk_at "es"
      exact kx (fun z => h2 z.2)
    · have h2 : i < (rs.length : Int) := by simpa using h2
      obtain ⟨m, rfl⟩ := Int.eq_ofNat_of_zero_le h
      have hm : m + 1 ≤ (rs.map Ru.dt).length := by rw [List.length_map]; omega
      have g1 : ((rs.map Ru.dt).take m).length = m := by rw [List.length_take]; omega
      have g2 : ((rs.map Ru.dt).drop (m + 1)).length = rs.length - (m + 1) := by rw [List.length_drop, List.length_map]
      have g3 : (rs.take m ++ rs.drop (m + 1)).length = rs.length - 1 := by simp only [List.length_append, List.length_take, List.length_drop]; omega
      walk_at "es"
      refine slp_tE (cut_to (n := m) rfl (by omega)) ?_
      walk_at "es"
      refine slp_tE (cut_fr (n := m + 1) (by omega) hm) ?_
      walk_at "es"
      refine addp_t (by rw [g1, g2]; omega) ?_
      walk_at "es"
      refine .a ⟨rs.take m ++ rs.drop (m + 1), _, rfl, .inl (by rw [rsD, List.map_append, List.map_take, List.map_drop]), by omega, fun h => ⟨rfl, k (by omega) h2⟩, fun h => absurd h (by omega)⟩
  · have h := of_decide_eq_false h
    walk_at "es"
    exact kx (fun z => h z.1)
def ap_join (c cT : Addr) : APX := fun as Post XP => ∃ (rss : List (List Ru)), as = [.val (.tup (rss.map (shD c)))] ∧ rss.length ≤ 10 ∧ (∀ rs ∈ rss, rs.length ≤ 12) ∧ (rss.flatten.length ≤ 12 → Post (.val (shD c rss.flatten)) as) ∧ (12 < rss.flatten.length → XP (.ref cT) [] as)
theorem run_join (go : ShOk K c) : RunOkX K [] (tx_joined K c (ai_shX cT) (ap_shadd c cT)) 3 (ap_join c cT) := by
  rintro W as Post XP ⟨rss, rfl, hl, hr, k, kx⟩
  have co := go.co; have cl := go.co.cl; have n1 := go.n1
  unfold tx_joined
  show WS K [] _ [.val (.tup (rss.map (shD c))), .un, .un] _
  walk_at "es"
  refine .a ⟨[], _, rfl, .inl rfl, by simp, fun _ => ?_, fun h => absurd h (by simp)⟩
  walk_at "es"
  refine for_tupT rss (shD c) (fun i G => (rss.take i).flatten.length ≤ 12 ∧ ∃ s2, G = [.val (.tup (rss.map (shD c))), .val (shD c (rss.take i).flatten), s2]) ?_ ?_ ?_
  · walk_at "es"
    exact .a ⟨rfl, by simp, _, rfl⟩
  · rintro i rs G hi ⟨h12, s2, rfl⟩
    have tk : (rss.take (i + 1)).flatten = (rss.take i).flatten ++ rs := by rw [List.take_add_one, hi]; simp
    have hrl := hr rs (List.mem_of_getElem? hi)
    walk_at "es"
    refine .a ⟨_, _, rfl, h12, hrl, fun h => ?_, fun h => ?_⟩
    · walk_at "es"
      rw [tk]
      exact .a ⟨by rw [List.length_append]; omega, _, rfl⟩
    · refine kx ?_
      have e : rss.flatten = (rss.take (i + 1)).flatten ++ (rss.drop (i + 1)).flatten := by rw [← List.flatten_append, List.take_append_drop]
      rw [e, List.length_append, tk, List.length_append]
      omega
  · rintro G ⟨h12, s2, rfl⟩
    rw [List.take_length] at h12 ⊢
    walk_at "es"
    exact k h12
end
end Ns

namespace Ns
open PySem L2 Ab
theorem joinL_len (S : List Nat) : ∀ l : List (List Nat), (TL.joinL S l).length ≤ (l.map (·.length)).sum + l.length * S.length
  | [] => by simp [TL.joinL]
  | [p] => by simp [TL.joinL]
  | p :: q :: r => by
    have ih := joinL_len S (q :: r)
    rw [TL.joinL, List.length_append, List.length_append]
    simp only [List.map_cons, List.sum_cons, List.length_cons, Nat.add_mul] at ih ⊢
    omega
theorem join_len (y : Str) (l : List Str) : (Txt.join y l).length ≤ (l.map (·.length)).sum + l.length * y.length := by
  rw [TL.len_tl, TL.join_eq, TL.tl_join]
  have := joinL_len (TL.tl y) (l.map TL.tl)
  rw [List.map_map, List.length_map, ← TL.len_tl] at this
  have e : (l.map ((fun p : List Nat => p.length) ∘ TL.tl)) = l.map fun z => z.length := List.map_congr_left fun z _ => (TL.len_tl z).symm
  rw [e] at this
  exact this
theorem app_len (a b : Str) : (a ++ b).length = a.length + b.length := by rw [TL.len_tl, TL.tl_append, List.length_append, ← TL.len_tl, ← TL.len_tl]
section
variable {K : PySem.W.Frag}
end
end Ns

namespace Ns
open PySem L2 Ab
def allW : List Str := ["same", "first", "plain", "bold", "both", "left", "block", "line", "none", "note", "float", "yes", "no"]
def VlG : Dc → Prop
  | .i n => 0 ≤ n ∧ n ≤ 99
  | .s x => x ∈ allW
  | .r a b => (1 ≤ a ∧ a ≤ 99) ∧ (1 ≤ b ∧ b ≤ 99)
def DlG (d : Dl) : Prop := d.nm ∈ nmL ∧ VlG d.v
def StG (s : Stp) : Prop := (s.kd = "*" ∨ NmL 1 8 s.kd) ∧ s.ms.length ≤ 3 ∧ (∀ z ∈ s.ms, NmL 1 8 z) ∧ s.ms.Pairwise fun a b => a.cps.toList < b.cps.toList
end Ns

namespace Ns
open PySem L2 Ab
def wrdT : List (Str × List Str) := [("face", ["plain", "bold"]), ("align", ["both", "left"]), ("place", ["block", "line", "none", "note", "float"]), ("keep", ["yes", "no"])]
inductive Th where
  | i (n : Int)
  | s (z : Str)
  | t (ns : List Int)
def Th.dt : Th → Dt
  | .i n => .int n
  | .s z => .str z
  | .t ns => .tup (ns.map Dt.int)
def ratioB (ns : List Int) : Bool := decide (ns.length = 2) && ns.all fun n => decide (1 ≤ n) && decide (n ≤ 99)
def isV (z : Str) : Th → Bool
  | .i n => match look rngT z with
    | some (a, b) => decide (a ≤ n) && decide (n ≤ b)
    | none => false
  | .s x => decide (x ∈ (["same", "first"] : List Str)) || decide (x ∈ (look wrdT z).getD [])
  | .t ns => decide (z ∈ rtoL) && ratioB ns
section
variable {K : PySem.W.Frag} {w : World} {cR cW cP : Addr}
end
end Ns

namespace Ns
open PySem L2 Ab
theorem sz {n : Nat} (h : n ≤ 100000) : n ≤ sizeLine := Nat.le_trans h (by decide)
def thOf : Dc → Th
  | .i n => .i n
  | .s x => .s x
  | .r a b => .t [a, b]
def ValOk (z : Str) (v : Dc) : Prop := isV z (thOf v) = true
section
variable {K : PySem.W.Frag} {w : World} {cP : Addr}
def SeG (ss : List Stp) : Prop := (1 ≤ ss.length ∧ ss.length ≤ 4) ∧ (∀ i s, ss[i]? = some s → (i = 0 → s.jt = ("" : Str)) ∧ (i ≠ 0 → s.jt = (" " : Str) ∨ s.jt = (">" : Str))) ∧ ∀ s ∈ ss, StG s
end
end Ns

namespace Ns
open PySem L2 Ab
section
variable {K : PySem.W.Frag} {w : World} {cP : Addr}
def RuG (r : Ru) : Prop := SeG r.sel ∧ (1 ≤ r.ds.length ∧ r.ds.length ≤ 6) ∧ ∀ d ∈ r.ds, DlG d ∧ ValOk d.nm d.v
end
end Ns

namespace Ns
open PySem L2 Ab
local macro_rules | `(tactic| walk_at "norm") => `(tactic| first
  | ((refine' norm_cons (rfl : _ = _ :: _) ?ea ?et); (case ea => first | with_reducible exact (rfl : Sl.val _ = _) | with_reducible exact (rfl : Sl.cel _ = _) | with_reducible exact (rfl : Sl.un = _) | with_reducible exact norm_v | with_reducible exact norm_n | with_reducible exact norm_o | with_reducible exact norm_nw | exact norm_v | exact norm_n | exact norm_o | exact norm_nw | exact rfl | fail "norm"); (case et => walk_at "norm"))
  | exact (rfl : _ = ([] : List Sl))
  | fail "norm")
local macro_rules | `(tactic| walk_at "x") => `(tactic| first
  | ((with_reducible refine' we_ki (by assumption) ?_))
  | ((with_reducible refine' we_kin (by assumption) ?_))
  | ((with_reducible refine' we_knotin (by assumption) ?_))
  | ((with_reducible refine' we_kget1 (by assumption) ?_))
  | ((with_reducible refine' we_kget2 (by assumption) ?_))
  | with_reducible refine we_upper ?_
  | with_reducible refine we_listRg2 ?_
  | with_reducible refine we_disp ?_
  | with_reducible refine wp_consS ?_
  | with_reducible refine wp_nil ?_
  | with_reducible refine we_dgetS ?_
  | with_reducible refine we_dinS ?_
  | with_reducible refine we_dnotinS ?_
  | with_reducible refine we_dnewK ?_
  | with_reducible refine we_dget1S ?_
  | with_reducible refine we_dget2S ?_
  | with_reducible refine ws_dputS ?_
  | ((with_reducible refine' ws_retK ?hh ?_); (case hh => exact rfl))
  | with_reducible refine we_dictD ?_
  | with_reducible refine we_listD ?_
  | ((with_reducible refine' we_isiD ?h1 ?h2 ?_); (case h1 => exact rfl); (case h2 => first | exact kb_db | exact kb_di | exact kb_ds | exact kb_dt | exact kb_dl | exact kb_dd))
  | fail "xK")
theorem cps_at {z : Str} {k : Int} (hz : z.length ≤ 1000000) (h2 : 0 ≤ k) (h3 : k < z.length) {Γ : List Sl} {Post : Re → List Sl → Prop} (p : ∀ c, z.cps.toList[k.toNat]? = some c → Post (.val (.str ⟨#[c]⟩)) Γ) : IxP (.val (.str z)) (.val (.int k)) Γ Post := by
  have e : z.length = z.cps.toList.length := by simp [Str.length]
  have hk : k.toNat < z.cps.toList.length := by omega
  exact ixp_s hz (atI_of (j := k.toNat) (by omega) (List.getElem?_eq_getElem hk)) (p _ (List.getElem?_eq_getElem hk))
def nmK (z : Str) (a bg t : Int) (k : Nat) : Str := cutS z none (some a) ++ ⟨#[97 + ((bg + (k : Int)) % 26).toNat]⟩ ++ cutS z (some a) none ++ PySem.Txt.mul "z" (t * ((k : Int) % 3))
theorem nmK_inj {z : Str} {a bg t : Int} {i j : Nat} (h0 : 0 ≤ bg) (hi : i < 26) (hj : j < 26) (h : nmK z a bg t i = nmK z a bg t j) : i = j := by
  have h2 := congrArg (fun s : Str => (TL.tl s)[(TL.tl (cutS z none (some a))).length]?) h
  have e : ∀ k, (TL.tl (nmK z a bg t k))[(TL.tl (cutS z none (some a))).length]? = some (97 + ((bg + (k : Int)) % 26).toNat) := fun k => by
    unfold nmK
    rw [TL.tl_append, TL.tl_append, TL.tl_append, List.append_assoc, List.append_assoc, List.getElem?_append_right (Nat.le_refl _), Nat.sub_self]
    rfl
  have h2 : some (97 + ((bg + (i : Int)) % 26).toNat) = some (97 + ((bg + (j : Int)) % 26).toNat) := (e i).symm.trans (h2.trans (e j))
  have := Option.some.inj h2
  omega
theorem nmK_nodup (z : Str) {a bg t : Int} (h0 : 0 ≤ bg) {n : Nat} (hn : n ≤ 26) : ((List.range n).map (nmK z a bg t)).Nodup := by
  rw [List.nodup_iff_pairwise_ne, List.pairwise_map]
  refine (List.pairwise_lt_range (n := n)).imp_of_mem fun {i j} hi hj hlt e => ?_
  have := nmK_inj h0 (by have := List.mem_range.mp hi; omega) (by have := List.mem_range.mp hj; omega) e
  omega
section
variable {K : PySem.W.Frag}
def ap_namesD : AP := fun as Post => ∃ (b n : Int), EnvT [SPool b, SVal (TIs (.int n))] as ∧ (0 ≤ n ∧ n ≤ 25 ∧ b ≤ 700000000) ∧ ∀ (xs : List Str) as', xs.length = n.toNat → xs.Nodup → (∀ z ∈ xs, NmL 1 8 z) → EnvT [SPool (b + 20), SAny] as' → Post (.new (xs.map Dt.str)) as'
theorem run_namesD : RunOk K [0] (tq_names K ap_let ap_take) 11 ap_namesD := by
  rintro as Post ⟨b, n, he, ho, k⟩
  walk_at "cs"
  unfold tq_names
  refine ws_norm (by walk_at "norm") ?_
  have hz : Str.length "abcdefghijklmnopqrstuvwxyz" = 26 := by decide +kernel
  have habc : ("abcdefghijklmnopqrstuvwxyz" : Str).cps.toList = List.range' 97 26 := by decide +kernel
  generalize hA : ("abcdefghijklmnopqrstuvwxyz" : Str) = abc at hz habc ⊢
  walk_at "go"
  refine for_range1H ?_
  walk_at "go"
  rename_i d9 gl hl9 gl0 gl1 s_ ds_ hs_ z z0 z1 za d8 at_ h8 a0 a1 d7 bg h7 bg0 bg1 d6 t h6 t0 t1
  refine .a ⟨_, rfl, by omega, by omega, fun i G => EnvT [SPool (b + 20), SIs (.val (.int n)), SIs (.val (.str z)), SIs (.val (.int at_)), SIs (.val (.int bg)), SIs (.val (.int t)), SIs (.val (.str abc)), SIs (.acc (((List.range i).map (nmK z at_ bg t)).map Dt.str)), SAny, SAny, SAny] G, by walk_at "ty", ?_, ?_⟩
  · intro i G hi he
    have hln0 : (((List.range i).map (nmK z at_ bg t)).map Dt.str).length < 1000000 := by rw [List.length_map, List.length_map, List.length_range]; omega
    have e2 : ((List.range (i + 1)).map (nmK z at_ bg t)).map Dt.str = ((List.range i).map (nmK z at_ bg t)).map Dt.str ++ [.str (nmK z at_ bg t i)] := by rw [List.range_succ, List.map_append, List.map_append]; rfl
    rw [show nmK z at_ bg t i = cutS z none (some at_) ++ ⟨#[97 + ((bg + (i : Int)) % 26).toNat]⟩ ++ cutS z (some at_) none ++ PySem.Txt.mul "z" (t * ((i : Int) % 3)) from rfl] at e2
    generalize hLd : ((List.range (i + 1)).map (nmK z at_ bg t)).map Dt.str = L1 at e2
    generalize ((List.range i).map (nmK z at_ bg t)).map Dt.str = L at *
    walk_at "cs"
    have hm : 0 ≤ t * ((i : Int) % 3) ∧ t * ((i : Int) % 3) ≤ 2 := by
      rcases (by omega : t = 0 ∨ t = 1) with rfl | rfl <;> omega
    have h1 : Str.length "z" = 1 := by decide +kernel
    have hl := zs_len (t * ((i : Int) % 3))
    have hb := cutS_both (z := z) a0
    have ho1 : Str.length ⟨#[97 + ((bg + (i : Int)) % 26).toNat]⟩ = 1 := rfl
    walk_at "xs"
    refine ws_cut (fun G => EnvT [SPool (b + 20), SIs (.val (.int n)), SIs (.val (.str z)), SIs (.val (.int at_)), SIs (.val (.int bg)), SIs (.val (.int t)), SIs (.val (.str abc)), SIs (.acc L), SIs (.val (.int i)), SIs (.val (.str ⟨#[97 + ((bg + (i : Int)) % 26).toNat]⟩)), SAny] G) ?_ ?_
    · walk_at "es"
      refine cps_at (by omega) (by omega) (by omega) fun c hc => ?_
      have : c = 97 + ((bg + (i : Int)) % 26).toNat := by
        rw [habc, List.getElem?_range' (by omega)] at hc
        have := Option.some.inj hc
        omega
      subst this
      walk_at "es"
      exact .a (by walk_at "ty")
    rintro G he
    walk_at "cs"
    walk_at "go"
    generalize PySem.Txt.mul "z" (t * ((i : Int) % 3)) = tl at hl e2 ⊢
    walk_at "go"
    refine .a ?_
    dsimp only
    rw [hLd, e2]
    walk_at "ty"
  · intro G he
    walk_at "cs"
    walk_at "go"
    refine k ((List.range n.toNat).map (nmK z at_ bg t)) _ (by rw [List.length_map, List.length_range]) (nmK_nodup z bg0 (by omega)) (fun y hy => ?_) (by walk_at "ty")
    obtain ⟨i, hi, rfl⟩ := List.mem_map.mp hy
    have hi := List.mem_range.mp hi
    have hm : 0 ≤ t * ((i : Int) % 3) ∧ t * ((i : Int) % 3) ≤ 2 := by
      rcases (by omega : t = 0 ∨ t = 1) with rfl | rfl <;> omega
    have hl := zs_len (t * ((i : Int) % 3))
    have ha := zs_az (t * ((i : Int) % 3))
    have hb := cutS_both (z := z) a0
    unfold nmK
    refine ⟨?_, ?_, ?_⟩
    · rw [app_len, app_len, app_len, show Str.length ⟨#[97 + ((bg + (i : Int)) % 26).toNat]⟩ = 1 from rfl]; omega
    · rw [app_len, app_len, app_len, show Str.length ⟨#[97 + ((bg + (i : Int)) % 26).toNat]⟩ = 1 from rfl]; omega
    · refine Az.app (Az.app (Az.app ?_ ?_) ?_) ha
      · exact Az.cut za _ _
      · intro c hc
        have : c = 97 + ((bg + (i : Int)) % 26).toNat := by simpa using hc
        omega
      · exact Az.cut za _ _
end
end Ns

namespace Ns
open PySem L2 Ab
local macro_rules | `(tactic| walk_at "norm") => `(tactic| first
  | ((refine' norm_cons (rfl : _ = _ :: _) ?ea ?et); (case ea => first | with_reducible exact (rfl : Sl.val _ = _) | with_reducible exact (rfl : Sl.cel _ = _) | with_reducible exact (rfl : Sl.un = _) | with_reducible exact norm_v | with_reducible exact norm_n | with_reducible exact norm_o | with_reducible exact norm_nw | exact norm_v | exact norm_n | exact norm_o | exact norm_nw | exact rfl | fail "norm"); (case et => walk_at "norm"))
  | exact (rfl : _ = ([] : List Sl))
  | fail "norm")
local macro_rules | `(tactic| walk_at "x") => `(tactic| first
  | ((with_reducible refine' we_ki (by assumption) ?_))
  | ((with_reducible refine' we_kin (by assumption) ?_))
  | ((with_reducible refine' we_knotin (by assumption) ?_))
  | ((with_reducible refine' we_kget1 (by assumption) ?_))
  | ((with_reducible refine' we_kget2 (by assumption) ?_))
  | with_reducible refine we_upper ?_
  | with_reducible refine we_listRg2 ?_
  | with_reducible refine we_disp ?_
  | with_reducible refine wp_consS ?_
  | with_reducible refine wp_nil ?_
  | with_reducible refine we_dgetS ?_
  | with_reducible refine we_dinS ?_
  | with_reducible refine we_dnotinS ?_
  | with_reducible refine we_dnewK ?_
  | with_reducible refine we_dget1S ?_
  | with_reducible refine we_dget2S ?_
  | with_reducible refine ws_dputS ?_
  | ((with_reducible refine' ws_retK ?hh ?_); (case hh => exact rfl))
  | with_reducible refine we_dictD ?_
  | with_reducible refine we_listD ?_
  | ((with_reducible refine' we_isiD ?h1 ?h2 ?_); (case h1 => exact rfl); (case h2 => first | exact kb_db | exact kb_di | exact kb_ds | exact kb_dt | exact kb_dl | exact kb_dd))
  | fail "xK")
section
variable {K : PySem.W.Frag}
def ap_anyD : AP := fun as Post => ∃ (b n : Int), EnvT [SPool b, SVal (TIs (.int n))] as ∧ (0 ≤ n ∧ n ≤ 25 ∧ b ≤ 600000000) ∧ ∀ (xs : List Str) as', xs.length = n.toNat → xs.Nodup → (∀ z ∈ xs, NmL 1 8 z) → EnvT [SPool (b + 500), SAny] as' → Post (.new (xs.map Dt.str)) as'
theorem nodup_snoc {xs : List Str} {z : Str} (h : xs.Nodup) (hz : z ∉ xs) : (xs ++ [z]).Nodup := by
  rw [List.nodup_append]
  exact ⟨h, by simp, fun a ha b hb e => by rw [List.mem_singleton.mp hb] at e; exact hz (e ▸ ha)⟩
theorem nml_snoc {xs : List Str} {z : Str} (h : ∀ y ∈ xs, NmL 1 8 y) (hz : NmL 1 8 z) : ∀ y ∈ xs ++ [z], NmL 1 8 y := fun y hy => by
  rcases List.mem_append.mp hy with hy | hy
  · exact h y hy
  · rw [List.mem_singleton.mp hy]; exact hz
theorem run_anyD : RunOk K [0] (tq_any_names K ap_take ap_namesD ap_let) 6 ap_anyD := by
  rintro as Post ⟨b, n, he, ho, k⟩
  walk_at "cs"
  unfold tq_any_names
  refine ws_norm (by walk_at "norm") ?_
  have hz : Str.length "abcdefghijklmnopqrstuvwxyz" = 26 := by decide +kernel
  walk_at "go"
  walk_at "if"
  · walk_at "go"
    rename_i xs as2 h1 h2
    intro h3 he2
    walk_at "cs"
    walk_at "go"
    exact k xs _ h1 h2 h3 (by walk_at "ty")
  walk_at "go"
  refine for_range1H ?_
  walk_at "go"
  refine .a ⟨_, rfl, by omega, by omega, fun i G => ∃ xs : List Str, EnvT [SPool (b + 2 + 10 * i), SIs (.val (.int n)), SIs (.acc (xs.map Dt.str)), SAny, SAny, SIs .un] G ∧ xs.length = i ∧ xs.Nodup ∧ (∀ z ∈ xs, NmL 1 8 z), ⟨[], by walk_at "ty", rfl, List.nodup_nil, (fun _ h => nomatch h)⟩, ?_, ?_⟩
  · rintro i G hi ⟨xs, he, hl, hnd, hnm⟩
    have hxl : (xs.map Dt.str).length ≤ 100 := by rw [List.length_map]; omega
    walk_at "cs"
    walk_at "go"
    rename_i d2 g g2 g0 g1 _ d3 h3 z z0 z1 za
    have hzn : NmL 1 8 z := ⟨by omega, by omega, za⟩
    refine inS rfl ?_
    walk_at "go"
    walk_at "if"
    · walk_at "go"
      refine lc_str "abcdefghijklmnopqrstuvwxyz" (fun j es G => G = [.acc d3, .val (.int n), .acc (xs.map Dt.str), .val (.int i), .val (.str z), .un] ∧ es = ((("abcdefghijklmnopqrstuvwxyz" : Str).cps.toList.take j).filter fun c => !decide ((⟨#[c]⟩ : Str) ∈ xs)).map fun c => Dt.str ⟨#[c]⟩) ?_ ?_ ?_
      · walk_at "go"
        exact .a ⟨rfl, by omega, rfl, rfl, rfl, rfl, rfl⟩
      · rintro j c es G hc ⟨rfl, rfl⟩
        have hj : ("abcdefghijklmnopqrstuvwxyz" : Str).cps.toList[j]? = some c := by rw [Array.getElem?_toList]; exact hc
        show WT K _ [.acc d3, .val (.int n), .acc (xs.map Dt.str), .val (.int i), .val (.str z), .val (.str ⟨#[c]⟩)] _
        walk_at "go"
        refine notInS rfl ?_
        walk_at "go"
        refine ⟨fun hY => ?_, fun hY => ?_⟩
        · walk_at "go"
          refine .a ⟨rfl, ?_⟩
          rw [List.take_succ, List.filter_append, List.map_append, hj]
          simp [hY]
        · refine .a ⟨rfl, ?_⟩
          rw [List.take_succ, List.filter_append, List.map_append, hj]
          simp [hY]
      · rintro es G ⟨rfl, rfl⟩
        have ht : ("abcdefghijklmnopqrstuvwxyz" : Str).cps.toList.take ("abcdefghijklmnopqrstuvwxyz" : Str).cps.size = ("abcdefghijklmnopqrstuvwxyz" : Str).cps.toList := by
          rw [← Array.length_toList, List.take_length]
        rw [ht]
        cases hf : (("abcdefghijklmnopqrstuvwxyz" : Str).cps.toList.filter fun c => !decide ((⟨#[c]⟩ : Str) ∈ xs)) with
        | nil =>
          exfalso
          have hin : ∀ y ∈ (("abcdefghijklmnopqrstuvwxyz" : Str).cps.toList.map fun c => (⟨#[c]⟩ : Str)), y ∈ xs := fun y hy => by
            obtain ⟨c, hc, rfl⟩ := List.mem_map.mp hy
            have := List.filter_eq_nil_iff.mp hf c hc
            simpa using this
          have hnd : (("abcdefghijklmnopqrstuvwxyz" : Str).cps.toList.map fun c => (⟨#[c]⟩ : Str)).Nodup := by decide +kernel
          have := nodup_le hnd hin
          rw [List.length_map] at this
          have e26 : ("abcdefghijklmnopqrstuvwxyz" : Str).cps.toList.length = 26 := by decide +kernel
          omega
        | cons c r =>
          have hc0 : c ∈ (("abcdefghijklmnopqrstuvwxyz" : Str).cps.toList.filter fun c => !decide ((⟨#[c]⟩ : Str) ∈ xs)) := by rw [hf]; exact List.mem_cons_self
          have hc := (List.mem_filter.mp hc0).1
          have hcx : (⟨#[c]⟩ : Str) ∉ xs := by simpa using (List.mem_filter.mp hc0).2
          have hcn : NmL 1 8 (⟨#[c]⟩ : Str) := ⟨Nat.le_refl 1, show (1 : Nat) ≤ 8 by omega, fun d hd => by
            have e : d = c := by simpa using hd
            have habc : ("abcdefghijklmnopqrstuvwxyz" : Str).cps.toList = List.range' 97 26 := by decide +kernel
            rw [habc] at hc
            have := List.mem_range'_1.mp hc
            omega⟩
          rw [List.map_cons]
          walk_at "go"
          refine .a ⟨xs ++ [⟨#[c]⟩], ?_, by rw [List.length_append, hl]; rfl, nodup_snoc hnd hcx, nml_snoc hnm hcn⟩
          rw [List.map_append]
          walk_at "ty"
    · rename_i hzx
      walk_at "go"
      refine .a ⟨xs ++ [z], ?_, by rw [List.length_append, hl]; rfl, nodup_snoc hnd (by simpa using hzx), nml_snoc hnm hzn⟩
      rw [List.map_append]
      walk_at "ty"
  · rintro G ⟨xs, he, hl, hnd, hnm⟩
    walk_at "cs"
    walk_at "go"
    exact k xs _ hl hnd hnm (by walk_at "ty")
theorem rising_lt : ∀ (l : List Str) (p : Str), PyProof.Rows.risingS p l = true → (p :: l).Nodup → (p :: l).Pairwise fun a b => a.cps.toList < b.cps.toList
  | [], p, _, _ => List.pairwise_singleton _ p
  | x :: r, p, h, hn => by
    have h : (!PySem.Spec.ltCps x.cps.toList p.cps.toList && PyProof.Rows.risingS x r) = true := h
    rw [Bool.and_eq_true] at h
    have ih := rising_lt r x h.2 (List.nodup_cons.mp hn).2
    have hne : p ≠ x := fun e => (List.nodup_cons.mp hn).1 (by rw [e]; exact List.mem_cons_self)
    have hlt : p.cps.toList < x.cps.toList := by
      have h1 := h.1
      rw [PyProof.Rows.ltCps_eq] at h1
      have h1 : ¬ x.cps.toList < p.cps.toList := by simpa using h1
      by_cases q : p.cps.toList < x.cps.toList
      · exact q
      · exact absurd (TL.ext_tl (List.le_antisymm (List.not_lt.mp h1) (List.not_lt.mp q))) hne
    refine List.pairwise_cons.mpr ⟨fun y hy => ?_, ih⟩
    rcases List.mem_cons.mp hy with rfl | hy
    · exact hlt
    · exact List.lt_trans hlt ((List.pairwise_cons.mp ih).1 y hy)
theorem sorted_lt {l : List Str} (h : PyProof.Rows.sortedS l = true) (hn : l.Nodup) : l.Pairwise fun a b => a.cps.toList < b.cps.toList := by
  cases l with
  | nil => exact .nil
  | cons x r => exact rising_lt r x h hn
def ap_mksD : AP := fun as Post => ∃ (b : Int) (xs : List Str), EnvT [SPool b, SIs (.val (.lst (xs.map Dt.str)))] as ∧ (b ≤ 600000000) ∧ xs.length ≤ 60 ∧ xs.Nodup ∧ (∀ z ∈ xs, NmL 1 8 z) ∧ ∀ (ms : List Str) as', ms.length ≤ 3 → (∀ z ∈ ms, NmL 1 8 z) → (ms.Pairwise fun a b => a.cps.toList < b.cps.toList) → EnvT [SPool (b + 60), SAny] as' → Post (.val (.tup (ms.map Dt.str))) as'
theorem run_mksD : RunOk K [0] (tq_marks K ap_take) 5 ap_mksD := by
  rintro as Post ⟨b, xs0, he, ho, h60, hnd, hnm, k⟩
  walk_at "cs"
  unfold tq_marks
  have hxl : (xs0.map Dt.str).length ≤ 60 := by rw [List.length_map]; exact h60
  refine ws_norm (by walk_at "norm") ?_
  walk_at "go"
  refine for_lstH ?_
  walk_at "go"
  refine lc_lstH ?_
  walk_at "go"
  refine .a ⟨_, rfl, by omega, rfl, rfl, fun i es G => EnvT [SPool b, SIs (.val (.lst (xs0.map Dt.str))), SAcc (TNm 1 8) 0 0, SIs .un, SIs .un] G ∧ es = (xs0.take i).map Dt.str, ⟨by walk_at "ty", rfl⟩, ?_, ?_⟩
  · rintro i d es G hd ⟨he, rfl⟩
    rw [List.getElem?_map] at hd
    obtain ⟨z, hz, rfl⟩ := Option.map_eq_some_iff.mp hd
    have hzn := hnm z (List.mem_of_getElem? hz)
    have e : (xs0.take (i + 1)).map Dt.str = (xs0.take i).map Dt.str ++ [.str z] := by rw [List.take_add_one, hz, List.map_append]; rfl
    walk_at "cs"
    walk_at "go"
    refine .a ⟨by walk_at "ty", e.symm⟩
  · rintro es G ⟨he, rfl⟩
    walk_at "cs"
    rw [show (xs0.map Dt.str).length = xs0.length from List.length_map _, List.take_length]
    refine .a ⟨xs0, rfl, by omega, fun xs hp hs => ?_⟩
    have hlt := sorted_lt hs (hp.nodup_iff.mpr hnd)
    have hxn : ∀ z ∈ xs, NmL 1 8 z := fun z hz => hnm z (hp.mem_iff.mp hz)
    have hxl := hp.length_eq
    refine .a ⟨_, rfl, fun i G => ∃ ms : List Str, EnvT [SPool (b + i), SAny, SIs (.acc (ms.map Dt.str)), SAny, SIs .un] G ∧ ms.length ≤ 3 ∧ ms.Sublist (xs.take i), ⟨[], by rename_i ds1 _ _ _ _ _; cases ds1 with | nil => walk_at "ty" | cons a b => exact absurd (by assumption : (a :: b).length ≤ 0) (by simp), by simp, by simp⟩, ?_, ?_⟩
    · rintro i d G hd ⟨ms, he, hl, hsub⟩
      rw [List.getElem?_map] at hd
      obtain ⟨z, hz, rfl⟩ := Option.map_eq_some_iff.mp hd
      have hil := (List.getElem?_eq_some_iff.mp hz).1
      have e : xs.take (i + 1) = xs.take i ++ [z] := by rw [List.take_add_one, hz]; rfl
      have hs0 : ms.Sublist (xs.take (i + 1)) := by rw [e]; exact hsub.trans (List.sublist_append_left _ _)
      have hs1 : (ms ++ [z]).Sublist (xs.take (i + 1)) := by rw [e]; exact hsub.append (List.Sublist.refl _)
      have hml : (ms.map Dt.str).length = ms.length := List.length_map _
      walk_at "cs"
      walk_at "gi"
      · exact .a ⟨ms ++ [z], by rw [List.map_append]; walk_at "ty", by rw [List.length_append]; simp only [List.length_cons, List.length_nil]; omega, hs1⟩
      all_goals exact .a ⟨ms, by walk_at "ty", hl, hs0⟩
    · rintro G ⟨ms, he, hl, hsub⟩
      rw [List.length_map, hxl] at he
      have hsx : ms.Sublist xs := hsub.trans (List.take_sublist _ _)
      walk_at "cs"
      walk_at "go"
      exact k ms _ hl (fun z hz => hxn z (hsx.subset hz)) (hlt.sublist hsx) (by walk_at "ty")
end
end Ns
end

namespace Ns
open PySem L2 Ab
local macro_rules | `(tactic| walk_at "no") => `(tactic| first
  | with_reducible exact fun h => Bool.noConfusion (show true = false from h)
  | with_reducible exact fun h => Bool.noConfusion (show false = true from h)
  | exact fun h => absurd h (by decide)
  | exact fun h => absurd (of_decide_eq_true h) (by omega)
  | exact fun h => absurd (by omega) (of_decide_eq_false h)
  | exact fun h => absurd (by omega) (nd_t h)
  | exact fun h => absurd (nd_f h) (by omega)
  | fail "no")
local macro_rules | `(tactic| walk_at "kb") => `(tactic| first | exact kb_tt | exact kb_ll | exact kb_ii | exact kb_ib | exact kb_ss | exact kb_sb | exact kb_si | exact kb_tb | exact kb_ti | exact kb_ts | exact kb_tl | exact kb_lb | exact kb_li | exact kb_ls | exact kb_lt | exact kb_is | exact kb_it | exact kb_il | exact kb_st | exact kb_sl | exact kb_bb | exact kb_bi | exact kb_nb | exact kb_ni | exact kb_ns | exact kb_nt | exact kb_nl | exact kb_bs | exact kb_bt | exact kb_bl | fail "kb")
local macro_rules | `(tactic| walk_at "norm") => `(tactic| first
  | ((refine' norm_cons (rfl : _ = _ :: _) ?ea ?et); (case ea => first | with_reducible exact (rfl : Sl.val _ = _) | with_reducible exact (rfl : Sl.cel _ = _) | with_reducible exact (rfl : Sl.un = _) | with_reducible exact norm_v | with_reducible exact norm_n | with_reducible exact norm_o | exact norm_v | exact norm_n | exact norm_o | exact rfl | fail "norm"); (case et => walk_at "norm"))
  | exact (rfl : _ = ([] : List Sl))
  | fail "norm")
local macro_rules | `(tactic| walk_at "x") => `(tactic| first
  | ((with_reducible refine' norm_intro ?hn ?_); (case hn => walk_at "norm"))
  | ((with_reducible refine' we_var ?hh ?_); (case hh => exact rfl))
  | ((with_reducible refine' we_own ?hh ?_); (case hh => exact rfl))
  | with_reducible refine we_c ?_
  | with_reducible refine we_addG ?_
  | with_reducible refine addp_i ?_
  | with_reducible refine we_opI0 ?_
  | with_reducible refine we_opI ?_
  | with_reducible refine we_mulG ?_
  | ((with_reducible refine' mulp_r ?h1 ?_); (case h1 => first | decide | omega | fail "m"))
  | ((with_reducible refine' mulp_l ?h1 ?_); (case h1 => first | decide | omega | fail "m"))
  | with_reducible refine we_neg ?_
  | with_reducible refine we_ltG ?_
  | with_reducible refine ltp_i ?_
  | with_reducible refine we_eqG ?_
  | with_reducible refine we_neG ?_
  | with_reducible refine eqp_i ?_
  | with_reducible refine nep_i ?_
  | with_reducible refine we_ixG ?_
  | ((with_reducible refine' ixp ?h1 ?h2 ?_); (case h1 => exact rfl); (case h2 => exact rfl))
  | with_reducible refine we_lenG ?_
  | ((with_reducible refine' lenp ?hh ?_); (case hh => exact rfl))
  | with_reducible refine we_intG ?_
  | with_reducible refine intp_i ?_
  | with_reducible refine intp_b ?_
  | with_reducible refine we_abs ?_
  | with_reducible refine we_tup ?_
  | with_reducible refine we_lst ?_
  | with_reducible refine we_tuple ?_
  | with_reducible refine we_list ?_
  | with_reducible refine we_sum ?_
  | with_reducible refine we_max2 ?_
  | with_reducible refine we_min2 ?_
  | with_reducible refine wd_cons ?_
  | with_reducible refine wd_nil ?_
  | with_reducible refine wa_cons ?_
  | with_reducible refine wa_nil ?_
  | with_reducible refine we_callH ?_
  | with_reducible refine we_isiG ?_
  | ((with_reducible refine' isi_own ?h1 ?h2 ?_); (case h1 => exact rfl); (case h2 => walk_at "kb"))
  | ((with_reducible refine' isi_val ?h1 ?h2 ?_); (case h1 => exact rfl); (case h2 => walk_at "kb"))
  | ((with_reducible refine' isi_new ?h2 ?_); (case h2 => walk_at "kb"))
  | with_reducible refine we_chainI ?_
  | with_reducible refine we_andV ?_
  | with_reducible refine we_orV ?_
  | with_reducible refine we_notV ?_
  | with_reducible refine wt_test ?_
  | with_reducible refine wt_B ?_
  | with_reducible refine wt_yes ?_
  | with_reducible refine wt_and ?_
  | with_reducible refine wt_or ?_
  | with_reducible refine wt_not ?_
  | ((with_reducible refine' ws_retA ?hh ?_); (case hh => exact rfl))
  | with_reducible refine ws_ret ?_
  | with_reducible refine ws_if ?_
  | with_reducible refine ws_nil ?_
  | with_reducible refine ws_expr ?_
  | with_reducible refine ws_asgN rfl rfl ?_
  | with_reducible refine ws_setN ?_
  | with_reducible refine ws_asgG ?_
  | ((with_reducible refine' wg_tup ?hh ?_); (case hh => exact rfl))
  | with_reducible refine wgs_cons ?_
  | with_reducible refine wgs_nil ?_
  | with_reducible refine wg_nameN rfl rfl ?_
  | ((with_reducible refine' we_appendN ?hh ?_); (case hh => exact rfl))
  | ((with_reducible refine' we_reverseN ?hh ?_); (case hh => exact rfl))
  | ((with_reducible refine' ws_augN ?h1 ?h2 ?_); (case h1 => exact rfl); (case h2 => exact rfl))
  | (refine ⟨_, rfl, ⟨_, rfl⟩, ?_⟩)
  | (refine ⟨_, rfl, ?_⟩)
  | (refine ⟨_, _, _, rfl, rfl, rfl, ?_⟩)
  | (refine ⟨_, _, rfl, rfl, (Nat.le_of_ble_eq_true rfl : _ ≤ _), ?_⟩)
  | (refine ⟨_, _, rfl, rfl, ?_⟩)
  | (refine ⟨(Nat.le_of_ble_eq_true rfl : _ ≤ _), ?_⟩)
  | (refine ⟨(rfl : _ = true), ?_⟩)
  | ((refine' ⟨fun _ => ?_, fun hY => absurd hY ?k2⟩); (case k2 => walk_at "no"))
  | ((refine' ⟨fun hY => absurd hY ?k2, fun _ => ?_⟩); (case k2 => walk_at "no"))
  | (refine ⟨⟨(by omega), (by omega)⟩, ?_⟩)
  | (refine ⟨⟨(by decide), (by decide), (by decide)⟩, ?_⟩)
  | (refine ⟨(show (_ : Prop) from by first | decide | omega | fail "c"), ?_⟩)
  | fail "stop")
local macro_rules | `(tactic| walk_at "e") => `(tactic| first | with_reducible refine ws_seq ?_ | walk_at "x" | fail "stop")
local macro_rules | `(tactic| walk_at "xs") => `(tactic| repeat' walk_at "x")
local macro_rules | `(tactic| walk_at "es") => `(tactic| repeat' walk_at "e")
local macro_rules | `(tactic| walk_at "len") => `(tactic| ((intro as Post h); (repeat (first | (obtain ⟨e, _⟩ := h; exact (congrArg List.length e).trans rfl) | (obtain ⟨_, h⟩ := h)))))
local macro_rules | `(tactic| walk_at "x") => `(tactic| first
  | with_reducible refine we_isN ?_
  | with_reducible refine we_notN ?_
  | with_reducible refine we_slG ?_
  | with_reducible refine wo_none ?_
  | with_reducible refine wo_some ?_
  | ((with_reducible refine' ixp ?h1 ?h2 ?_); (case h1 => exact rfl); (case h2 => assumption))
  | ((with_reducible refine' ixp_s ?h1 ?h2 ?_); (case h1 => assumption); (case h2 => assumption))
  | ((with_reducible refine' lenp_s ?h1 ?_); (case h1 => assumption))
  | ((with_reducible refine' slp_s ?h1 ?_); (case h1 => assumption))
  | with_reducible refine we_join ?_
  | with_reducible refine we_gtS ?_
  | ((with_reducible refine' we_ktup ?h1 ?_); (case h1 => assumption))
  | fail "x3")
local macro_rules | `(tactic| walk_at "x") => `(tactic| first
  | with_reducible refine we_fldG ?_
  | ((with_reducible refine' fldp ?h1 ?h2 ?h3 ?_); (case h1 => assumption); (case h2 => assumption); (case h3 => walk_at "lk"))
  | with_reducible refine we_methG ?_
  | ((with_reducible refine' metp ?h3 ?_); (case h3 => walk_at "lk"))
  | with_reducible refine we_make ?_
  | with_reducible refine we_own2 ?_
  | with_reducible refine we_isoG ?_
  | ((with_reducible refine' isop ?h1 ?_); (case h1 => assumption))
  | fail "x4")
local macro_rules | `(tactic| walk_at "nd") => `(tactic| first
  | exact (rfl : _ = ([] : List Dt))
  | ((refine' normD_cons (rfl : _ = _ :: _) ?et); (case et => walk_at "nd"))
  | fail "nd")
local macro_rules | `(tactic| walk_at "x") => `(tactic| first
  | with_reducible refine we_sumG ?_
  | with_reducible refine eqp_st ?_
  | with_reducible refine nep_st ?_
  | ((with_reducible refine' eqp_sf ?h1 ?_); (case h1 => first | assumption | decide +kernel))
  | ((with_reducible refine' nep_sf ?h1 ?_); (case h1 => first | assumption | decide +kernel))
  | with_reducible refine we_inG ?_
  | with_reducible refine we_if ?_
  | ((with_reducible refine' we_clearN ?hh ?_); (case hh => exact rfl))
  | with_reducible refine we_notInG ?_
  | with_reducible refine we_smeth ?_
  | with_reducible refine we_makeD ?_
  | with_reducible refine we_makeK ?_
  | ((with_reducible refine' slp_tE ?h ?_); (case h => walk_at "nd"))
  | ((with_reducible refine' addp_tE ?hz ?h ?_); (case h => walk_at "nd"); (case hz => exact Nat.le_of_ble_eq_true rfl))
  | fail "x5")
local macro_rules | `(tactic| walk_at "tk") => `(tactic| refine .a (tk (by assumption) (by omega) (by omega) (by omega) fun _ _ _ _ _ => ?_))
local macro_rules | `(tactic| walk_at "ln") => `(tactic| first
  | omega
  | (simp only [List.length_append, List.length_cons, List.length_nil, List.length_map, List.length_take, List.length_drop, List.length_set, List.length_replicate, List.length_reverse, PySem.Str.length_append]; omega)
  | decide
  | with_reducible exact Nat.le_refl _
  | (simp only [List.length_append, List.length_cons, List.length_nil, List.length_map, List.length_take, List.length_drop, List.length_set, List.length_replicate, List.length_reverse, PySem.Str.length_append] at *; omega)
  | exact (Nat.le_of_ble_eq_true rfl)
  | fail "ln")
local macro_rules | `(tactic| walk_at "az") => `(tactic| first
  | assumption
  | exact Az.nil
  | exact az_abc
  | exact Az.one (az_abc _ (by assumption))
  | ((refine' Az.app ?h1 ?h2); (case h1 => walk_at "az"); (case h2 => walk_at "az"))
  | ((refine' Az.cut ?h1 _ _); (case h1 => walk_at "az"))
  | fail "az")
local macro_rules | `(tactic| walk_at "ty") => `(tactic| first
  | assumption
  | exact EnvT.nil
  | ((refine' EnvT.cons ?ha ?ht); (case ha => walk_at "ty"); (case ht => walk_at "ty"))
  | exact SAny.mk
  | exact SIs.mk
  | exact SPool.mk (by assumption)
  | exact SPool.mk (PoolUp.mono (by assumption) (by omega))
  | ((refine' SVal.mk ?ha); (case ha => walk_at "ty"))
  | ((refine' RVal.mk ?ha); (case ha => walk_at "ty"))
  | ((refine' SAcc.mk ?h0 ?h1 ?h); (case h0 => walk_at "ln"); (case h1 => walk_at "ln"); (case h => walk_at "ty"))
  | ((refine' RNew.mk ?h0 ?h1 ?h); (case h0 => walk_at "ln"); (case h1 => walk_at "ln"); (case h => walk_at "ty"))
  | ((refine' TTs.mk ?h0 ?h1 ?h); (case h0 => walk_at "ln"); (case h1 => walk_at "ln"); (case h => walk_at "ty"))
  | ((refine' TLs.mk ?h0 ?h1 ?h); (case h0 => walk_at "ln"); (case h1 => walk_at "ln"); (case h => walk_at "ty"))
  | exact TIs.mk
  | exact TBl.mk
  | ((refine' TInt.mk ?h0 ?h1); (case h0 => walk_at "ln"); (case h1 => walk_at "ln"))
  | ((refine' TStr.mk ?h0 ?h1); (case h0 => walk_at "ln"); (case h1 => walk_at "ln"))
  | ((refine' TNm.mk ?h0 ?h1 ?h2); (case h0 => walk_at "ln"); (case h1 => walk_at "ln"); (case h2 => walk_at "az"))
  | ((refine' T2.mk ?ha ?hb); (case ha => walk_at "ty"); (case hb => walk_at "ty"))
  | ((refine' T3.mk ?ha ?hb ?hc); (case ha => walk_at "ty"); (case hb => walk_at "ty"); (case hc => walk_at "ty"))
  | ((refine' T4.mk ?ha ?hb ?hc ?hd); (case ha => walk_at "ty"); (case hb => walk_at "ty"); (case hc => walk_at "ty"); (case hd => walk_at "ty"))
  | ((refine' T1.mk ?ha); (case ha => walk_at "ty"))
  | exact all_nil
  | ((refine' all_cons ?ha ?ht); (case ha => walk_at "ty"); (case ht => walk_at "ty"))
  | ((refine' all_app ?ha ?ht); (case ha => walk_at "ty"); (case ht => walk_at "ty"))
  | exact all_take (by assumption)
  | exact all_drop (by assumption)
  | exact all_cut (by assumption)
  | exact all_erase (by assumption)
  | ((refine' all_set (by assumption) ?ha); (case ha => walk_at "ty"))
  | fail "ty")
local macro_rules | `(tactic| walk_at "cs") => `(tactic| repeat (first
  | cases ‹EnvT (_ :: _) _›
  | cases ‹EnvT [] _›
  | cases ‹SAny _›
  | cases ‹SIs _ _›
  | cases ‹SVal _ _›
  | cases ‹SAcc _ _ _ _›
  | cases ‹SPool _ _›
  | cases ‹RVal _ _›
  | cases ‹RNew _ _ _ _›
  | cases ‹TIs _ _›
  | cases ‹TInt _ _ _›
  | cases ‹TBl _›
  | cases ‹TStr _ _ _›
  | cases ‹TNm _ _ _›
  | cases ‹T1 _ _›
  | cases ‹T2 _ _ _›
  | cases ‹T3 _ _ _ _›
  | cases ‹T4 _ _ _ _ _›
  | cases ‹TTs _ _ _ _›
  | cases ‹TLs _ _ _ _›))
local macro_rules | `(tactic| walk_at "if") => `(tactic| ((refine ⟨fun hY => ?_, fun hY => ?_⟩) <;> (try simp only [decide_eq_true_eq, decide_eq_false_iff_not, Bool.not_eq_true', Bool.not_eq_false', Bool.not_eq_true, Bool.not_eq_false] at hY)))
local macro_rules | `(tactic| walk_at "c1") => `(tactic| ((refine' Hold.a ⟨_, ?ce, ?co, fun _ _ _ _ => ?_⟩); (case ce => (show EnvT _ _; walk_at "ty")); (case co => first | omega | fail "co"); walk_at "cs"))
local macro_rules | `(tactic| walk_at "c2") => `(tactic| ((refine' Hold.a ⟨_, _, ?ce, ?co, fun _ _ _ _ => ?_⟩); (case ce => (show EnvT _ _; walk_at "ty")); (case co => first | omega | fail "co"); walk_at "cs"))
local macro_rules | `(tactic| walk_at "c3") => `(tactic| ((refine' Hold.a ⟨_, _, _, ?ce, ?co, fun _ _ _ _ => ?_⟩); (case ce => (show EnvT _ _; walk_at "ty")); (case co => first | omega | fail "co"); walk_at "cs"))
local macro_rules | `(tactic| walk_at "ix") => `(tactic| first
  | ((refine' ixp_c0 ?h1 ?_); (case h1 => exact rfl))
  | ((refine' ixp_kT ?h1 ?h2 ?h3 ?h4 fun _ _ => ?_); (case h1 => exact rfl); (case h2 => walk_at "ln"); (case h3 => walk_at "ln"); (case h4 => assumption); walk_at "cs")
  | ((refine' ixp_sk ?h1 ?h2 ?h3 fun _ _ => ?_); (case h1 => walk_at "ln"); (case h2 => walk_at "ln"); (case h3 => walk_at "ln"))
  | fail "ix")
local macro_rules | `(tactic| walk_at "tx") => `(tactic| first
  | ((with_reducible refine' lenp_s ?h1 ?_); (case h1 => walk_at "ln"))
  | ((with_reducible refine' slp_s ?h1 ?_); (case h1 => walk_at "ln"))
  | ((with_reducible refine' addp_s ?h1 ?_); (case h1 => walk_at "ln"))
  | ((with_reducible refine' addp_l ?h1 ?h2 ?h3 ?h4 ?h5 ?_); (case h1 => exact rfl); (case h2 => exact rfl); (case h3 => exact rfl); (case h4 => exact rfl); (case h5 => walk_at "ln"))
  | with_reducible refine we_repS ?_
  | with_reducible refine we_repA ?_
  | with_reducible refine we_strG ?_
  | with_reducible refine strp_s ?_
  | with_reducible refine we_sortedS ?_
  | with_reducible refine we_sorted ?_
  | with_reducible refine we_all ?_
  | with_reducible refine we_any ?_
  | with_reducible refine eqp_str ?_
  | with_reducible refine nep_str ?_
  | (refine ⟨_, _, rfl, rfl, (by omega), (by omega), (by walk_at "ln"), ?_⟩)
  | (refine ⟨_, _, rfl, rfl, (by walk_at "ln"), ?_⟩)
  | (refine ⟨(show (_ : Prop) from by walk_at "ln"), ?_⟩)
  | fail "tx")
local macro_rules | `(tactic| walk_at "go1") => `(tactic| first
  | walk_at "e"
  | walk_at "tk"
  | walk_at "c1"
  | walk_at "c2"
  | walk_at "ix"
  | walk_at "tx"
  | fail "go")
local macro_rules | `(tactic| walk_at "go") => `(tactic| repeat' walk_at "go1")
local macro_rules | `(tactic| walk_at "gi") => `(tactic| repeat' (first | walk_at "go1" | walk_at "if" | fail "gi"))
local macro_rules | `(tactic| walk_at "gx") => `(tactic| repeat' (first
  | walk_at "x"
  | walk_at "tk"
  | walk_at "c1"
  | walk_at "c2"
  | walk_at "ix"
  | walk_at "tx"
  | fail "gx"))
local macro_rules | `(tactic| walk_at "len") => `(tactic| ((intro as Post h); (repeat (first | (obtain ⟨e, _⟩ := h; exact (congrArg List.length e).trans rfl) | (obtain ⟨e, _⟩ := h; exact (EnvT.len e).trans rfl) | (obtain ⟨_, h⟩ := h)))))
local macro_rules | `(tactic| walk_at "norm") => `(tactic| first
  | ((refine' norm_cons (rfl : _ = _ :: _) ?ea ?et); (case ea => first | with_reducible exact (rfl : Sl.val _ = _) | with_reducible exact (rfl : Sl.cel _ = _) | with_reducible exact (rfl : Sl.un = _) | with_reducible exact norm_v | with_reducible exact norm_n | with_reducible exact norm_o | with_reducible exact norm_nw | exact norm_v | exact norm_n | exact norm_o | exact norm_nw | exact rfl | fail "norm"); (case et => walk_at "norm"))
  | exact (rfl : _ = ([] : List Sl))
  | fail "norm")
local macro_rules | `(tactic| walk_at "x") => `(tactic| first
  | ((with_reducible refine' we_ki (by assumption) ?_))
  | ((with_reducible refine' we_kin (by assumption) ?_))
  | ((with_reducible refine' we_knotin (by assumption) ?_))
  | ((with_reducible refine' we_kget1 (by assumption) ?_))
  | ((with_reducible refine' we_kget2 (by assumption) ?_))
  | with_reducible refine we_upper ?_
  | with_reducible refine we_listRg2 ?_
  | with_reducible refine we_disp ?_
  | with_reducible refine wp_consS ?_
  | with_reducible refine wp_nil ?_
  | with_reducible refine we_dgetS ?_
  | with_reducible refine we_dinS ?_
  | with_reducible refine we_dnotinS ?_
  | with_reducible refine we_dnewK ?_
  | with_reducible refine we_dget1S ?_
  | with_reducible refine we_dget2S ?_
  | with_reducible refine ws_dputS ?_
  | ((with_reducible refine' ws_retK ?hh ?_); (case hh => exact rfl))
  | with_reducible refine we_dictD ?_
  | with_reducible refine we_listD ?_
  | ((with_reducible refine' we_isiD ?h1 ?h2 ?_); (case h1 => exact rfl); (case h2 => first | exact kb_db | exact kb_di | exact kb_ds | exact kb_dt | exact kb_dl | exact kb_dd))
  | fail "xK")
def VK (z : Str) (dc : Dc) : Prop := VlG dc ∧ ValOk z dc
theorem vk_w {z x : Str} (h : x ∈ (["same", "first"] : List Str)) : ValOk z (.s x) := by
  show (decide (x ∈ (["same", "first"] : List Str)) || decide (x ∈ (look wrdT z).getD [])) = true
  rw [decide_eq_true h]; rfl
theorem vk_same {z : Str} : VK z (.s "same") := ⟨by show ("same" : Str) ∈ allW; decide +kernel, vk_w (by simp)⟩
theorem vk_first {z : Str} : VK z (.s "first") := ⟨by show ("first" : Str) ∈ allW; decide +kernel, vk_w (by simp)⟩
theorem vk_s {z x : Str} {ws : List Str} (hz : z ∈ nmL) (hr : look wrdL z = some ws) (hx : x ∈ ws) : VK z (.s x) := by
  have h1 := (by decide +kernel : ∀ z ∈ nmL, look wrdT z = look wrdL z) z hz
  have h2 := (by decide +kernel : ∀ z ∈ nmL, ∀ x ∈ (look wrdL z).getD [], x ∈ allW) z hz x (by rw [hr]; exact hx)
  refine ⟨h2, ?_⟩
  show (_ || decide (x ∈ (look wrdT z).getD [])) = true
  rw [h1, hr, decide_eq_true (show x ∈ (some ws).getD [] from hx), Bool.or_true]
theorem vk_r {z : Str} {a b : Int} (h1 : 1 ≤ a ∧ a ≤ 99) (h2 : 1 ≤ b ∧ b ≤ 99) (h3 : z ∈ rtoL) : VK z (.r a b) := by
  refine ⟨⟨h1, h2⟩, ?_⟩
  show (decide (z ∈ rtoL) && ratioB [a, b]) = true
  rw [decide_eq_true h3]
  unfold ratioB
  simp only [List.all_cons, List.all_nil, Bool.and_true, Bool.true_and]
  rw [decide_eq_true (show [a, b].length = 2 from rfl), decide_eq_true h1.1, decide_eq_true h1.2, decide_eq_true h2.1, decide_eq_true h2.2]; rfl
theorem vi_rng {z : Str} {lo hi n : Int} (h : look rngT z = some (lo, hi)) (h0 : 0 ≤ lo) (h1 : hi ≤ 99) (h2 : lo ≤ n) (h3 : n ≤ hi) : VK z (.i n) := by
  refine ⟨⟨by omega, by omega⟩, ?_⟩
  show (match look rngT z with | some (a, b) => decide (a ≤ n) && decide (n ≤ b) | none => false) = true
  rw [h]
  show (decide (lo ≤ n) && decide (n ≤ hi)) = true
  rw [decide_eq_true h2, decide_eq_true h3]; rfl
theorem vi_least {z : Str} {n : Int} (e : z = "least") (h2 : 1 ≤ n) (h3 : n ≤ 4) : VK z (.i n) := vi_rng (lo := 1) (hi := 4) (by rw [e]; decide +kernel) (by omega) (by omega) h2 h3
theorem vi_size {z : Str} {n : Int} (e : z = "size") (h2 : 1 ≤ n) (h3 : n ≤ 12) : VK z (.i n) := vi_rng (lo := 1) (hi := 12) (by rw [e]; decide +kernel) (by omega) (by omega) h2 h3
theorem vi_lead {z : Str} {n : Int} (e : z = "lead") (h2 : 1 ≤ n) (h3 : n ≤ 99) : VK z (.i n) := vi_rng (lo := 1) (hi := 99) (by rw [e]; decide +kernel) (by omega) (by omega) h2 h3
theorem vi_else {z : Str} {n : Int} (hz : z ∈ nmL) (hr : look wrdL z = none) (q1 : ¬ z = ("least" : Str)) (q2 : ¬ z = ("size" : Str)) (q3 : ¬ z = ("lead" : Str)) (h2 : 0 ≤ n) (h3 : n ≤ 99) : VK z (.i n) := by
  have h := (by decide +kernel : ∀ z ∈ nmL, (look wrdL z).isNone = true → ¬ z = "least" → ¬ z = "size" → ¬ z = "lead" → look rngT z = some (0, 99)) z hz
  exact vi_rng (lo := 0) (hi := 99) (h (by rw [hr]; rfl) q1 q2 q3) (by omega) (by omega) h2 h3
section
variable {K : PySem.W.Frag}
def ap_valD : AP := fun as Post => ∃ (b : Int) (z : Str), EnvT [SPool b, SIs (.val (.str z))] as ∧ (0 ≤ b ∧ b ≤ 100000) ∧ z ∈ nmL ∧ ∀ dc as', VK z dc → EnvT [SPool (b + 3), SAny] as' → Post (.val dc.dt) as'
theorem run_valD : RunOk K [0] (tq_lvalue K ap_take) 6 ap_valD := by
  rintro as Post ⟨b, z, he, ho, hz, k⟩
  walk_at "cs"
  unfold tq_lvalue
  refine ws_norm (by walk_at "norm") ?_
  rename_i ds u0
  refine ws_cut (fun G => G = [.cel (.lst ds), .val (.str z), .cel (.dK (wrdL.map fun kv => ((Sum.inr kv.1 : Key), wrdD kv.2))), .un, .un, .un]) ?_ ?_
  · walk_at "gx"
    refine .a ?_
    show [.cel (.lst ds), .val (.str z), Sl.cel (.dK (mergeD [] (wrdL.map fun kv => ((Sum.inr kv.1 : Key), wrdD kv.2)))), .un, .un, .un] = _
    rw [merge_all (by decide +kernel)]
  rintro G rfl
  have hv := valD_look wrdD wrdL z
  generalize hD : (wrdL.map fun kv => ((Sum.inr kv.1 : Key), wrdD kv.2)) = D at hv
  have nsz : z = "size" → look wrdL z = none := fun e => by rw [e]; decide +kernel
  cases hr : look wrdL z with
  | none =>
    have hrt : z ≠ "least" → z ∈ rtoL := fun hne => by
      have := (by decide +kernel : ∀ z ∈ nmL, (look wrdL z).isNone = true → ¬ z = "least" → z ∈ rtoL) z hz
      exact this (by rw [hr]; rfl) hne
    rw [hr] at hv
    have hv : valD D (.inr z) = none := hv
    walk_at "gi"
    · exact k (.s "same") _ vk_same (by walk_at "ty")
    · exact k (.s "first") _ vk_first (by walk_at "ty")
    · rename_i hY
      rw [hv] at hY; cases hY
    · exact k (.i _) _ (vi_least (by assumption) (by omega) (by omega)) (by walk_at "ty")
    · rename_i hne hlt d1 a u1 a0 a1 d2 b' u2 b0 b1
      exact k (.r (1 + a) (1 + b')) _ (vk_r (by omega) (by omega) (hrt hne)) (by walk_at "ty")
    · exact k (.i _) _ (vi_size (by assumption) (by omega) (by omega)) (by walk_at "ty")
    · exact k (.i _) _ (vi_lead (by assumption) (by omega) (by omega)) (by walk_at "ty")
    · exact k (.i _) _ (vi_else hz hr (by assumption) (by assumption) (by assumption) (by omega) (by omega)) (by walk_at "ty")
  | some ws =>
    have hws : 1 ≤ ws.length ∧ ws.length ≤ 5 := by
      unfold look at hr
      obtain ⟨q, hq, e⟩ := Option.map_eq_some_iff.mp hr
      have := (by decide : ∀ p ∈ wrdL.map Prod.snd, 1 ≤ p.length ∧ p.length ≤ 5) q.2 (List.mem_map_of_mem (List.mem_of_find?_eq_some hq))
      rw [e] at this; exact this
    have hzs : z ≠ "size" := fun e => by rw [nsz e] at hr; cases hr
    have hwl : (ws.map Dt.str).length = ws.length := List.length_map _
    rw [hr] at hv
    have hv : valD D (.inr z) = some (.lst (ws.map Dt.str)) := hv
    walk_at "gi"
    · exact k (.s "same") _ vk_same (by walk_at "ty")
    · exact k (.s "first") _ vk_first (by walk_at "ty")
    · refine ⟨_, hv, ?_⟩
      walk_at "gi"
      refine ixp_kT (ds := ws.map Dt.str) (A := fun d => ∃ x : Str, d = .str x ∧ x ∈ ws) rfl (by omega) (by omega) (fun d hd => by obtain ⟨x, hx, rfl⟩ := List.mem_map.mp hd; exact ⟨x, rfl, hx⟩) fun d hd => ?_
      obtain ⟨x, rfl, hx⟩ := hd
      walk_at "gi"
      exact k (.s x) _ (vk_s hz hr hx) (by walk_at "ty")
    all_goals (have hY : (valD D (.inr z)).isSome = false := by assumption)
    all_goals (rw [hv] at hY; cases hY)
end
end Ns

section
open PySem L2 Ab
local macro_rules | `(tactic| walk_at "no") => `(tactic| first
  | with_reducible exact fun h => Bool.noConfusion (show true = false from h)
  | with_reducible exact fun h => Bool.noConfusion (show false = true from h)
  | exact fun h => absurd h (by decide)
  | exact fun h => absurd (of_decide_eq_true h) (by omega)
  | exact fun h => absurd (by omega) (of_decide_eq_false h)
  | exact fun h => absurd (by omega) (nd_t h)
  | exact fun h => absurd (nd_f h) (by omega)
  | fail "no")
local macro_rules | `(tactic| walk_at "kb") => `(tactic| first | exact kb_tt | exact kb_ll | exact kb_ii | exact kb_ib | exact kb_ss | exact kb_sb | exact kb_si | exact kb_tb | exact kb_ti | exact kb_ts | exact kb_tl | exact kb_lb | exact kb_li | exact kb_ls | exact kb_lt | exact kb_is | exact kb_it | exact kb_il | exact kb_st | exact kb_sl | exact kb_bb | exact kb_bi | exact kb_nb | exact kb_ni | exact kb_ns | exact kb_nt | exact kb_nl | exact kb_bs | exact kb_bt | exact kb_bl | fail "kb")
local macro_rules | `(tactic| walk_at "norm") => `(tactic| first
  | ((refine' norm_cons (rfl : _ = _ :: _) ?ea ?et); (case ea => first | with_reducible exact (rfl : Sl.val _ = _) | with_reducible exact (rfl : Sl.cel _ = _) | with_reducible exact (rfl : Sl.un = _) | with_reducible exact norm_v | with_reducible exact norm_n | with_reducible exact norm_o | exact norm_v | exact norm_n | exact norm_o | exact rfl | fail "norm"); (case et => walk_at "norm"))
  | exact (rfl : _ = ([] : List Sl))
  | fail "norm")
local macro_rules | `(tactic| walk_at "nd") => `(tactic| first
  | exact (rfl : _ = ([] : List Dt))
  | ((refine' normD_cons (rfl : _ = _ :: _) ?et); (case et => walk_at "nd"))
  | fail "nd")
local macro_rules | `(tactic| walk_at "yO") => `(tactic| first
  | with_reducible refine we_ixG ?_
  | with_reducible refine we_opI0 ?_
  | with_reducible refine we_addG ?_
  | with_reducible refine we_eqG ?_
  | with_reducible refine we_neG ?_
  | with_reducible refine we_ltG ?_
  | with_reducible refine we_mulG ?_
  | with_reducible refine we_opI ?_
  | with_reducible refine we_inG ?_
  | with_reducible refine we_notInG ?_
  | with_reducible refine we_gtS ?_
  | fail "yO")
local macro_rules | `(tactic| walk_at "yB") => `(tactic| first
  | with_reducible refine we_lenG ?_
  | with_reducible refine we_isiG ?_
  | with_reducible refine we_intG ?_
  | with_reducible refine we_tuple ?_
  | with_reducible refine we_list ?_
  | with_reducible refine we_sumG ?_
  | with_reducible refine we_sum ?_
  | with_reducible refine we_max2 ?_
  | with_reducible refine we_min2 ?_
  | with_reducible refine we_abs ?_
  | with_reducible refine we_isoG ?_
  | with_reducible refine we_join ?_
  | with_reducible refine we_nlist ?_
  | fail "yB")
local macro_rules | `(tactic| walk_at "yV") => `(tactic| first
  | ((with_reducible refine' we_var ?hh ?_); (case hh => exact rfl))
  | ((with_reducible refine' we_own ?hh ?_); (case hh => exact rfl))
  | fail "yV")
local macro_rules | `(tactic| walk_at "yC") => `(tactic| first
  | ((with_reducible refine' we_kst ?h1 ?_); (case h1 => assumption))
  | with_reducible refine we_c ?_
  | fail "yC")
local macro_rules | `(tactic| walk_at "yE") => `(tactic| first
  | ((with_reducible show Ab.WE _ (L2.tVar _) _ _); walk_at "yV")
  | ((with_reducible show Ab.WE _ (L2.tOp _ _ _) _ _); walk_at "yO")
  | ((with_reducible show Ab.WE _ (L2.tC _) _ _); walk_at "yC")
  | ((with_reducible show Ab.WE _ (L2.tCB _ _) _ _); walk_at "yB")
  | with_reducible refine we_callH ?_
  | with_reducible refine we_fldG ?_
  | with_reducible refine we_tup ?_
  | with_reducible refine we_lst ?_
  | with_reducible refine we_nget ?_
  | with_reducible refine we_nin ?_
  | with_reducible refine we_notN ?_
  | with_reducible refine we_isN ?_
  | with_reducible refine we_if ?_
  | with_reducible refine we_methG ?_
  | ((with_reducible refine' we_appendN ?hh ?_); (case hh => exact rfl))
  | with_reducible refine we_slG ?_
  | with_reducible refine we_nnotin ?_
  | with_reducible refine we_nnew ?_
  | with_reducible refine we_ndisp1 ?_
  | with_reducible refine we_nget1 ?_
  | with_reducible refine we_neg ?_
  | with_reducible refine we_make ?_
  | with_reducible refine we_own2 ?_
  | with_reducible refine we_smeth ?_
  | with_reducible refine we_makeD ?_
  | with_reducible refine we_makeK ?_
  | ((with_reducible refine' we_clearN ?hh ?_); (case hh => exact rfl))
  | with_reducible refine we_chainI ?_
  | with_reducible refine we_andV ?_
  | with_reducible refine we_orV ?_
  | with_reducible refine we_notV ?_
  | ((with_reducible refine' we_reverseN ?hh ?_); (case hh => exact rfl))
  | ((with_reducible refine' we_ktup ?h1 ?_); (case h1 => assumption))
  | fail "yE")
local macro_rules | `(tactic| walk_at "yS") => `(tactic| first
  | with_reducible refine ws_if ?_
  | with_reducible refine ws_expr ?_
  | with_reducible refine ws_asgN rfl rfl ?_
  | with_reducible refine ws_asgG ?_
  | with_reducible refine ws_nil ?_
  | ((with_reducible refine' ws_retDN ?hh ?_); (case hh => exact rfl))
  | ((with_reducible refine' ws_retA ?hh ?_); (case hh => exact rfl))
  | with_reducible refine ws_ret ?_
  | with_reducible refine ws_nput ?_
  | with_reducible refine ws_setN ?_
  | ((with_reducible refine' ws_augN ?h1 ?h2 ?_); (case h1 => exact rfl); (case h2 => exact rfl))
  | with_reducible refine ws_par rfl rfl rfl rfl ?_
  | with_reducible refine ws_par3 rfl rfl rfl rfl rfl rfl ?_
  | fail "yS")
local macro_rules | `(tactic| walk_at "yT") => `(tactic| first
  | with_reducible refine wt_test ?_
  | with_reducible refine wt_B ?_
  | with_reducible refine wt_not ?_
  | with_reducible refine wt_and ?_
  | with_reducible refine wt_or ?_
  | with_reducible refine wt_yes ?_
  | fail "yT")
local macro_rules | `(tactic| walk_at "yG") => `(tactic| first
  | with_reducible refine wg_nameN rfl rfl ?_
  | ((with_reducible refine' wg_tup ?hh ?_); (case hh => exact rfl))
  | fail "yG")
local macro_rules | `(tactic| walk_at "yD") => `(tactic| first
  | with_reducible refine wd_cons ?_
  | with_reducible refine wd_nil ?_
  | fail "yD")
local macro_rules | `(tactic| walk_at "yW") => `(tactic| first
  | with_reducible refine wa_cons ?_
  | with_reducible refine wa_nil ?_
  | fail "yW")
local macro_rules | `(tactic| walk_at "yR") => `(tactic| first
  | with_reducible refine wo_none ?_
  | with_reducible refine wo_some ?_
  | fail "yR")
local macro_rules | `(tactic| walk_at "yP") => `(tactic| first
  | ((with_reducible refine' fldp ?h1 ?h2 ?h3 ?_); (case h1 => assumption); (case h2 => assumption); (case h3 => walk_at "lk"))
  | ((with_reducible refine' ixp ?h1 ?h2 ?_); (case h1 => exact rfl); (case h2 => assumption))
  | ((with_reducible refine' ixp ?h1 ?h2 ?_); (case h1 => exact rfl); (case h2 => exact rfl))
  | with_reducible refine eqp_st ?_
  | with_reducible refine nep_st ?_
  | ((with_reducible refine' eqp_sf ?h1 ?_); (case h1 => first | assumption | decide +kernel))
  | ((with_reducible refine' nep_sf ?h1 ?_); (case h1 => first | assumption | decide +kernel))
  | with_reducible refine eqp_i ?_
  | with_reducible refine nep_i ?_
  | with_reducible refine addp_i ?_
  | with_reducible refine ltp_i ?_
  | ((with_reducible refine' lenp ?hh ?_); (case hh => exact rfl))
  | ((with_reducible refine' metp ?h3 ?_); (case h3 => walk_at "lk"))
  | ((with_reducible refine' addp_tE ?hz ?h ?_); (case h => walk_at "nd"); (case hz => exact Nat.le_of_ble_eq_true rfl))
  | ((with_reducible refine' slp_tE ?h ?_); (case h => walk_at "nd"))
  | ((with_reducible refine' mulp_r ?h1 ?_); (case h1 => first | decide | omega | fail "m"))
  | ((with_reducible refine' mulp_l ?h1 ?_); (case h1 => first | decide | omega | fail "m"))
  | with_reducible refine intp_i ?_
  | with_reducible refine intp_b ?_
  | ((with_reducible refine' isi_own ?h1 ?h2 ?_); (case h1 => exact rfl); (case h2 => walk_at "kb"))
  | ((with_reducible refine' isi_val ?h1 ?h2 ?_); (case h1 => exact rfl); (case h2 => walk_at "kb"))
  | ((with_reducible refine' isi_new ?h2 ?_); (case h2 => walk_at "kb"))
  | ((with_reducible refine' isop ?h1 ?_); (case h1 => assumption))
  | ((with_reducible refine' lenp_s ?h1 ?_); (case h1 => assumption))
  | ((with_reducible refine' slp_s ?h1 ?_); (case h1 => assumption))
  | ((with_reducible refine' ixp_s ?h1 ?h2 ?_); (case h1 => assumption); (case h2 => assumption))
  | with_reducible refine wgs_cons ?_
  | with_reducible refine wgs_nil ?_
  | fail "yP")
local macro_rules | `(tactic| walk_at "yA") => `(tactic| first
  | (refine ⟨_, rfl, ⟨_, rfl⟩, ?_⟩)
  | (refine ⟨_, rfl, ?_⟩)
  | (refine ⟨_, _, _, rfl, rfl, rfl, ?_⟩)
  | (refine ⟨_, _, rfl, rfl, (Nat.le_of_ble_eq_true rfl : _ ≤ _), ?_⟩)
  | (refine ⟨_, _, rfl, rfl, ?_⟩)
  | (refine ⟨(Nat.le_of_ble_eq_true rfl : _ ≤ _), ?_⟩)
  | (refine ⟨(rfl : _ = true), ?_⟩)
  | ((refine' ⟨fun _ => ?_, fun hY => absurd hY ?k2⟩); (case k2 => walk_at "no"))
  | ((refine' ⟨fun hY => absurd hY ?k2, fun _ => ?_⟩); (case k2 => walk_at "no"))
  | (refine ⟨⟨(by omega), (by omega)⟩, ?_⟩)
  | (refine ⟨⟨(by decide), (by decide), (by decide)⟩, ?_⟩)
  | (refine ⟨(show (_ : Prop) from by first | decide | omega | fail "c"), ?_⟩)
  | fail "yA")
local macro_rules | `(tactic| walk_at "x") => `(tactic| first
  | ((with_reducible refine' norm_intro ?hn ?_); (case hn => walk_at "norm"))
  | ((with_reducible show Ab.WE _ _ _ _); walk_at "yE")
  | ((with_reducible show Ab.WS _ _ _ _ _); walk_at "yS")
  | ((with_reducible show Ab.WD _ _ _ _); walk_at "yD")
  | ((with_reducible show Ab.WT _ _ _ _); walk_at "yT")
  | ((with_reducible show Ab.WG _ _ _ _ _ _); walk_at "yG")
  | ((with_reducible show Ab.WA _ _ _ _); walk_at "yW")
  | ((with_reducible show Ab.WO _ _ _ _); walk_at "yR")
  | ((fail_if_success with_reducible show Ab.Hold _); (first | walk_at "yP" | walk_at "yA" | fail "p"))
  | fail "x")
local macro_rules | `(tactic| walk_at "e") => `(tactic| first | with_reducible refine ws_seq ?_ | walk_at "x" | fail "stop")
local macro_rules | `(tactic| walk_at "xs") => `(tactic| repeat' walk_at "x")
local macro_rules | `(tactic| walk_at "es") => `(tactic| repeat' walk_at "e")
local macro_rules | `(tactic| walk_at "len") => `(tactic| ((intro as Post h); (repeat (first | (obtain ⟨e, _⟩ := h; exact (congrArg List.length e).trans rfl) | (obtain ⟨_, h⟩ := h)))))
local macro_rules | `(tactic| walk_at "tk") => `(tactic| refine .a (tk (by assumption) (by omega) (by omega) (by omega) fun _ _ _ _ _ => ?_))
local macro_rules | `(tactic| walk_at "ln") => `(tactic| first
  | omega
  | (simp only [List.length_append, List.length_cons, List.length_nil, List.length_map, List.length_take, List.length_drop, List.length_set, List.length_replicate, List.length_reverse, PySem.Str.length_append]; omega)
  | decide
  | with_reducible exact Nat.le_refl _
  | (simp only [List.length_append, List.length_cons, List.length_nil, List.length_map, List.length_take, List.length_drop, List.length_set, List.length_replicate, List.length_reverse, PySem.Str.length_append] at *; omega)
  | exact (Nat.le_of_ble_eq_true rfl)
  | fail "ln")
local macro_rules | `(tactic| walk_at "az") => `(tactic| first
  | assumption
  | exact Az.nil
  | exact az_abc
  | exact Az.one (az_abc _ (by assumption))
  | ((refine' Az.app ?h1 ?h2); (case h1 => walk_at "az"); (case h2 => walk_at "az"))
  | ((refine' Az.cut ?h1 _ _); (case h1 => walk_at "az"))
  | fail "az")
local macro_rules | `(tactic| walk_at "ty") => `(tactic| first
  | assumption
  | exact EnvT.nil
  | ((refine' EnvT.cons ?ha ?ht); (case ha => walk_at "ty"); (case ht => walk_at "ty"))
  | exact SAny.mk
  | exact SIs.mk
  | exact SPool.mk (by assumption)
  | exact SPool.mk (PoolUp.mono (by assumption) (by omega))
  | ((refine' SVal.mk ?ha); (case ha => walk_at "ty"))
  | ((refine' RVal.mk ?ha); (case ha => walk_at "ty"))
  | ((refine' SAcc.mk ?h0 ?h1 ?h); (case h0 => walk_at "ln"); (case h1 => walk_at "ln"); (case h => walk_at "ty"))
  | ((refine' RNew.mk ?h0 ?h1 ?h); (case h0 => walk_at "ln"); (case h1 => walk_at "ln"); (case h => walk_at "ty"))
  | ((refine' TTs.mk ?h0 ?h1 ?h); (case h0 => walk_at "ln"); (case h1 => walk_at "ln"); (case h => walk_at "ty"))
  | ((refine' TLs.mk ?h0 ?h1 ?h); (case h0 => walk_at "ln"); (case h1 => walk_at "ln"); (case h => walk_at "ty"))
  | exact TIs.mk
  | exact TBl.mk
  | ((refine' TInt.mk ?h0 ?h1); (case h0 => walk_at "ln"); (case h1 => walk_at "ln"))
  | ((refine' TStr.mk ?h0 ?h1); (case h0 => walk_at "ln"); (case h1 => walk_at "ln"))
  | ((refine' TNm.mk ?h0 ?h1 ?h2); (case h0 => walk_at "ln"); (case h1 => walk_at "ln"); (case h2 => walk_at "az"))
  | ((refine' T2.mk ?ha ?hb); (case ha => walk_at "ty"); (case hb => walk_at "ty"))
  | ((refine' T3.mk ?ha ?hb ?hc); (case ha => walk_at "ty"); (case hb => walk_at "ty"); (case hc => walk_at "ty"))
  | ((refine' T4.mk ?ha ?hb ?hc ?hd); (case ha => walk_at "ty"); (case hb => walk_at "ty"); (case hc => walk_at "ty"); (case hd => walk_at "ty"))
  | ((refine' T1.mk ?ha); (case ha => walk_at "ty"))
  | exact all_nil
  | ((refine' all_cons ?ha ?ht); (case ha => walk_at "ty"); (case ht => walk_at "ty"))
  | ((refine' all_app ?ha ?ht); (case ha => walk_at "ty"); (case ht => walk_at "ty"))
  | exact all_take (by assumption)
  | exact all_drop (by assumption)
  | exact all_cut (by assumption)
  | exact all_erase (by assumption)
  | ((refine' all_set (by assumption) ?ha); (case ha => walk_at "ty"))
  | fail "ty")
local macro_rules | `(tactic| walk_at "cs") => `(tactic| repeat (first
  | cases ‹EnvT (_ :: _) _›
  | cases ‹EnvT [] _›
  | cases ‹SAny _›
  | cases ‹SIs _ _›
  | cases ‹SVal _ _›
  | cases ‹SAcc _ _ _ _›
  | cases ‹SPool _ _›
  | cases ‹RVal _ _›
  | cases ‹RNew _ _ _ _›
  | cases ‹TIs _ _›
  | cases ‹TInt _ _ _›
  | cases ‹TBl _›
  | cases ‹TStr _ _ _›
  | cases ‹TNm _ _ _›
  | cases ‹T1 _ _›
  | cases ‹T2 _ _ _›
  | cases ‹T3 _ _ _ _›
  | cases ‹T4 _ _ _ _ _›
  | cases ‹TTs _ _ _ _›
  | cases ‹TLs _ _ _ _›))
local macro_rules | `(tactic| walk_at "if") => `(tactic| ((refine ⟨fun hY => ?_, fun hY => ?_⟩) <;> (try simp only [decide_eq_true_eq, decide_eq_false_iff_not, Bool.not_eq_true', Bool.not_eq_false', Bool.not_eq_true, Bool.not_eq_false] at hY)))
local macro_rules | `(tactic| walk_at "c1") => `(tactic| ((refine' Hold.a ⟨_, ?ce, ?co, fun _ _ _ _ => ?_⟩); (case ce => (show EnvT _ _; walk_at "ty")); (case co => first | omega | fail "co"); walk_at "cs"))
local macro_rules | `(tactic| walk_at "c2") => `(tactic| ((refine' Hold.a ⟨_, _, ?ce, ?co, fun _ _ _ _ => ?_⟩); (case ce => (show EnvT _ _; walk_at "ty")); (case co => first | omega | fail "co"); walk_at "cs"))
local macro_rules | `(tactic| walk_at "c3") => `(tactic| ((refine' Hold.a ⟨_, _, _, ?ce, ?co, fun _ _ _ _ => ?_⟩); (case ce => (show EnvT _ _; walk_at "ty")); (case co => first | omega | fail "co"); walk_at "cs"))
local macro_rules | `(tactic| walk_at "ix") => `(tactic| first
  | ((refine' ixp_c0 ?h1 ?_); (case h1 => exact rfl))
  | ((refine' ixp_kT ?h1 ?h2 ?h3 ?h4 fun _ _ => ?_); (case h1 => exact rfl); (case h2 => walk_at "ln"); (case h3 => walk_at "ln"); (case h4 => assumption); walk_at "cs")
  | ((refine' ixp_sk ?h1 ?h2 ?h3 fun _ _ => ?_); (case h1 => walk_at "ln"); (case h2 => walk_at "ln"); (case h3 => walk_at "ln"))
  | fail "ix")
local macro_rules | `(tactic| walk_at "tx") => `(tactic| first
  | ((with_reducible refine' lenp_s ?h1 ?_); (case h1 => walk_at "ln"))
  | ((with_reducible refine' slp_s ?h1 ?_); (case h1 => walk_at "ln"))
  | ((with_reducible refine' addp_s ?h1 ?_); (case h1 => walk_at "ln"))
  | ((with_reducible refine' addp_l ?h1 ?h2 ?h3 ?h4 ?h5 ?_); (case h1 => exact rfl); (case h2 => exact rfl); (case h3 => exact rfl); (case h4 => exact rfl); (case h5 => walk_at "ln"))
  | with_reducible refine we_repS ?_
  | with_reducible refine we_repA ?_
  | with_reducible refine we_strG ?_
  | with_reducible refine strp_s ?_
  | with_reducible refine we_sortedS ?_
  | with_reducible refine we_sorted ?_
  | with_reducible refine we_all ?_
  | with_reducible refine we_any ?_
  | with_reducible refine eqp_str ?_
  | with_reducible refine nep_str ?_
  | (refine ⟨_, _, rfl, rfl, (by omega), (by omega), (by walk_at "ln"), ?_⟩)
  | (refine ⟨_, _, rfl, rfl, (by walk_at "ln"), ?_⟩)
  | (refine ⟨(show (_ : Prop) from by walk_at "ln"), ?_⟩)
  | fail "tx")
local macro_rules | `(tactic| walk_at "go1") => `(tactic| first
  | walk_at "e"
  | walk_at "tk"
  | walk_at "c1"
  | walk_at "c2"
  | walk_at "ix"
  | walk_at "tx"
  | fail "go")
local macro_rules | `(tactic| walk_at "go") => `(tactic| repeat' walk_at "go1")
local macro_rules | `(tactic| walk_at "gi") => `(tactic| repeat' (first | walk_at "go1" | walk_at "if" | fail "gi"))
local macro_rules | `(tactic| walk_at "gx") => `(tactic| repeat' (first
  | walk_at "x"
  | walk_at "tk"
  | walk_at "c1"
  | walk_at "c2"
  | walk_at "ix"
  | walk_at "tx"
  | fail "gx"))
local macro_rules | `(tactic| walk_at "len") => `(tactic| ((intro as Post h); (repeat (first | (obtain ⟨e, _⟩ := h; exact (congrArg List.length e).trans rfl) | (obtain ⟨e, _⟩ := h; exact (EnvT.len e).trans rfl) | (obtain ⟨_, h⟩ := h)))))
namespace Ns
open PySem L2 Ab
local macro_rules | `(tactic| walk_at "norm") => `(tactic| first
  | ((refine' norm_cons (rfl : _ = _ :: _) ?ea ?et); (case ea => first | with_reducible exact (rfl : Sl.val _ = _) | with_reducible exact (rfl : Sl.cel _ = _) | with_reducible exact (rfl : Sl.un = _) | with_reducible exact norm_v | with_reducible exact norm_n | with_reducible exact norm_o | with_reducible exact norm_nw | exact norm_v | exact norm_n | exact norm_o | exact norm_nw | exact rfl | fail "norm"); (case et => walk_at "norm"))
  | exact (rfl : _ = ([] : List Sl))
  | fail "norm")
local macro_rules | `(tactic| walk_at "x") => `(tactic| first
  | ((with_reducible refine' we_ki (by assumption) ?_))
  | ((with_reducible refine' we_kin (by assumption) ?_))
  | ((with_reducible refine' we_knotin (by assumption) ?_))
  | ((with_reducible refine' we_kget1 (by assumption) ?_))
  | ((with_reducible refine' we_kget2 (by assumption) ?_))
  | with_reducible refine we_upper ?_
  | with_reducible refine we_listRg2 ?_
  | with_reducible refine we_disp ?_
  | with_reducible refine wp_consS ?_
  | with_reducible refine wp_nil ?_
  | with_reducible refine we_dgetS ?_
  | with_reducible refine we_dinS ?_
  | with_reducible refine we_dnotinS ?_
  | with_reducible refine we_dnewK ?_
  | with_reducible refine we_dget1S ?_
  | with_reducible refine we_dget2S ?_
  | with_reducible refine ws_dputS ?_
  | ((with_reducible refine' ws_retK ?hh ?_); (case hh => exact rfl))
  | with_reducible refine we_dictD ?_
  | with_reducible refine we_listD ?_
  | ((with_reducible refine' we_isiD ?h1 ?h2 ?_); (case h1 => exact rfl); (case h2 => first | exact kb_db | exact kb_di | exact kb_ds | exact kb_dt | exact kb_dl | exact kb_dd))
  | fail "xK")
section
variable {K : PySem.W.Frag}
theorem jt_snoc {ss : List Stp} {s : Stp} (h : ∀ i s, ss[i]? = some s → (i = 0 → s.jt = ("" : Str)) ∧ (i ≠ 0 → s.jt = (" " : Str) ∨ s.jt = (">" : Str))) (h0 : ss.length = 0 → s.jt = "") (h1 : 0 < ss.length → s.jt = " " ∨ s.jt = ">") : ∀ i x, (ss ++ [s])[i]? = some x → (i = 0 → x.jt = ("" : Str)) ∧ (i ≠ 0 → x.jt = (" " : Str) ∨ x.jt = (">" : Str)) := by
  intro i x hx
  by_cases hi : i < ss.length
  · rw [List.getElem?_append_left hi] at hx; exact h i x hx
  · rw [List.getElem?_append_right (by omega)] at hx
    have e0 : i - ss.length = 0 := by
      have := (List.getElem?_eq_some_iff.mp hx).1
      simp at this; omega
    rw [e0] at hx
    have : s = x := by simpa using hx
    subst this
    exact ⟨fun e => h0 (by omega), fun e => h1 (by omega)⟩
def ap_selD : AP := fun as Post => ∃ (b n : Int) (mks : List Str), EnvT [SPool b, SVal (TLs (TNm 1 8) 1 60), SIs (.val (.lst (mks.map Dt.str))), SVal (TIs (.int n))] as ∧ (1 ≤ n ∧ n ≤ 4 ∧ b ≤ 500000000) ∧ mks.length ≤ 60 ∧ mks.Nodup ∧ (∀ z ∈ mks, NmL 1 8 z) ∧ ∀ (ss : List Stp) as', SeG ss → EnvT [SPool (b + 100 * n + 10), SAny, SAny, SAny] as' → Post (.val (selD ss)) as'
theorem run_selD : RunOk K [0] (tq_selector K ap_take ap_mksD) 8 ap_selD := by
  rintro as Post ⟨b, n, mks, he, ho, mk6, mkn, mka, k⟩
  walk_at "cs"
  unfold tq_selector
  refine ws_norm (by walk_at "norm") ?_
  walk_at "go"
  refine for_range1H ?_
  walk_at "go"
  rename_i kds k0 k1 ka _ g h g0 g1
  refine .a ⟨_, rfl, by omega, by omega, fun i G => ∃ ss : List Stp, EnvT [SPool (b + 1 + 65 * i), SIs (.val (.lst kds)), SIs (.val (.lst (mks.map Dt.str))), SAny, SIs (.acc (ss.map Stp.dt)), SAny, SAny, SAny] G ∧ ss.length = i ∧ (∀ i s, ss[i]? = some s → (i = 0 → s.jt = ("" : Str)) ∧ (i ≠ 0 → s.jt = (" " : Str) ∨ s.jt = (">" : Str))) ∧ (∀ s ∈ ss, StG s), ⟨[], by walk_at "ty", rfl, (fun _ _ h => by simp at h), (fun _ h => nomatch h)⟩, ?_, ?_⟩
  · rintro i G hi ⟨ss, he, hl, hj, hs⟩
    walk_at "cs"
    walk_at "go"
    rename_i d2 g2 h2 g20 g21
    obtain ⟨jt, hjt, hj0, hj1⟩ := joint_at (i := i) g20 g21
    refine ixp rfl hjt ?_
    walk_at "go"
    refine ixp_kT (A := TKd) rfl (by omega) (by walk_at "ln") (all_cons (.mk (.inl rfl)) (all_mono ka fun _ h => TNm.kd h)) fun d hd => ?_
    cases hd with
    | mk hk =>
    rename_i kd
    walk_at "go"
    refine .a ⟨_, mks, by walk_at "ty", by omega, mk6, mkn, mka, fun ms as' q0 q1 q2 he2 => ?_⟩
    walk_at "cs"
    walk_at "go"
    refine .a ⟨ss ++ [⟨jt, kd, ms⟩], ?_, by rw [List.length_append, hl]; rfl, jt_snoc hj (fun e => hj0 (by omega)) (fun e => hj1 (by omega)), fun s hm => ?_⟩
    · rw [List.map_append]
      walk_at "ty"
    · rcases List.mem_append.mp hm with hm | hm
      · exact hs s hm
      · rw [List.mem_singleton.mp hm]; exact ⟨hk, q0, q1, q2⟩
  · rintro G ⟨ss, he, hl, hj, hs⟩
    walk_at "cs"
    walk_at "go"
    refine k ss _ ⟨⟨by omega, by omega⟩, hj, hs⟩ (by walk_at "ty")
end
end Ns

namespace Ns
open PySem L2 Ab
def tq_declarations (K : PySem.W.Frag) (ap__law_properties : AP) (ap__law_take : AP) (ap__law_value : AP) : TS :=
    (tSeq (tAsg (tCall (toSp K ap__law_properties) [] E0 tNil) (gName 2))
    (tSeq (tAsg (tLst tNil) (gName 3))
    (tSeq (tFor (iRng1 (tCons (tOp (rAddG K) (tC (.int 1)) (tCall (toSp K ap__law_take) [] E0 (tCons (tVar 0) (tCons (tVar 1) tNil)))) tNil)) (gName 4) (tSeq (tAsg (tOp (rIx K) (tVar 2) (tCall (toSp K ap__law_take) [] E0 (tCons (tVar 0) (tCons (tC (.int 10)) tNil)))) (gName 5))
    (tSeq (tAsg (tCall (toSp K ap__law_value) [] E0 (tCons (tVar 0) (tCons (tVar 5) tNil))) (gName 6))
    (tDrop (tBM K "list" rAppend (tVar 3) (tCons (tTup (tCons (tVar 5) (tCons (tVar 6) (tCons (tOp (rEqG K) (tCall (toSp K ap__law_take) [] E0 (tCons (tVar 0) (tCons (tC (.int 5)) tNil))) (tC (.int 0))) tNil)))) tNil))))))
    (tRet (tCB (rTupleOf K) (tCons (tVar 3) tNil))))))
def tq_rules (K : PySem.W.Frag) (ap__law_selector : AP) (ap__law_declarations : AP) : TS :=
    (tSeq (tAsg (tLst tNil) (gName 6))
    (tSeq (tFor (iRng1 (tCons (tVar 3) tNil)) (gName 7) (tSeq (tAsg (tCall (toSp K ap__law_selector) [] E0 (tCons (tVar 0) (tCons (tVar 1) (tCons (tVar 2) (tCons (tVar 4) tNil))))) (gName 8))
    (tDrop (tBM K "list" rAppend (tVar 6) (tCons (tTup (tCons (tVar 8) (tCons (tCall (toSp K ap__law_declarations) [] E0 (tCons (tVar 0) (tCons (tVar 5) tNil))) tNil))) tNil)))))
    (tRet (tVar 6))))
def tq_row (K : PySem.W.Frag) (ap__law_take : AP) (ap__law_rules : AP) : TS :=
    (tSeq (tAsg (tOp (rIx K) (tLst (tCons (tC (.int 0)) (tCons (tC (.int 3)) (tCons (tC (.int 4)) (tCons (tC (.int 5)) (tCons (tC (.int 2)) (tCons (tC (.int 6)) (tCons (tC (.int 1)) (tCons (tC (.int 7)) tNil))))))))) (tCall (toSp K ap__law_take) [] E0 (tCons (tVar 0) (tCons (tC (.int 8)) tNil)))) (gName 3))
    (tSeq (tIfS (tTest (tOp (rEqG K) (tCall (toSp K ap__law_take) [] E0 (tCons (tVar 0) (tCons (tC (.int 4)) tNil))) (tC (.int 3)))) (tAsg (tOp (rIx K) (tLst (tCons (tC (.int 8)) (tCons (tC (.int 9)) (tCons (tC (.int 10)) (tCons (tC (.int 11)) (tCons (tC (.int 12)) (tCons (tC (.int 12)) (tCons (tC (.int 12)) (tCons (tC (.int 12)) tNil))))))))) (tCall (toSp K ap__law_take) [] E0 (tCons (tVar 0) (tCons (tC (.int 8)) tNil)))) (gName 3)) tNext)
    (tRet (tCall (toSp K ap__law_rules) [] E0 (tCons (tVar 0) (tCons (tVar 1) (tCons (tVar 2) (tCons (tVar 3) (tCons (tC (.int 2)) (tCons (tC (.int 2)) tNil))))))))))
theorem okAll_m {α : Type} {f : α → Dt} : ∀ {xs : List α}, (∀ x ∈ xs, Ab.okD (f x) = true) → Ab.okAll (xs.map f) = true
  | [], _ => by rw [List.map_nil, okAll]
  | x :: r, h => by rw [List.map_cons, okAll, h x List.mem_cons_self, okAll_m fun y hy => h y (List.mem_cons_of_mem _ hy)]; rfl
theorem depAll_m {α : Type} {f : α → Dt} {n : Nat} : ∀ {xs : List α}, (∀ x ∈ xs, depD (f x) ≤ n) → depAll (xs.map f) ≤ n
  | [], _ => by rw [List.map_nil, depAll]; omega
  | x :: r, h => by
    have h1 := h x List.mem_cons_self
    have h2 := depAll_m (xs := r) fun y hy => h y (List.mem_cons_of_mem _ hy)
    rw [List.map_cons, depAll]
    omega
theorem stp_flat {s : Stp} (h3 : s.ms.length ≤ 3) : Ab.okD s.dt = true ∧ depD s.dt ≤ 2 := by
  have h1 : okAll (s.ms.map Dt.str) = true := okAll_m fun x _ => by show Ab.okD (.str x) = true; rw [okD]
  have h2 : depAll (s.ms.map Dt.str) ≤ 0 := depAll_m fun x _ => by show depD (.str x) ≤ 0; rw [depD]; omega
  constructor
  · show Ab.okD (.tup [.str s.jt, .str s.kd, .tup (s.ms.map Dt.str)]) = true
    simp [okD, okAll, h1]; omega
  · show depD (.tup [.str s.jt, .str s.kd, .tup (s.ms.map Dt.str)]) ≤ 2
    simp [depD, depAll]; omega
theorem dl_flat (d : Dl) : Ab.okD d.dt = true ∧ depD d.dt ≤ 2 := by
  have h : Ab.okD d.v.dt = true ∧ depD d.v.dt ≤ 1 := by
    cases d.v with
    | i n => exact ⟨by show Ab.okD (.int n) = true; rw [okD], by show depD (.int n) ≤ 1; rw [depD]; omega⟩
    | s x => exact ⟨by show Ab.okD (.str x) = true; rw [okD], by show depD (.str x) ≤ 1; rw [depD]; omega⟩
    | r a b => exact ⟨by show Ab.okD (.tup [.int a, .int b]) = true; simp [okD, okAll], by show depD (.tup [.int a, .int b]) ≤ 1; simp [depD, depAll]⟩
  constructor
  · show Ab.okD (.tup [.str d.nm, d.v.dt, .bl d.st]) = true
    simp [okD, okAll, h.1]
  · show depD (.tup [.str d.nm, d.v.dt, .bl d.st]) ≤ 2
    have := h.2
    simp [depD, depAll]; omega
theorem ru_flat {r : Ru} (hr : RuG r) : Ab.okD r.dt = true ∧ depD r.dt ≤ 5 := by
  have a1 := okAll_m (f := Stp.dt) (xs := r.sel) fun s hs => (stp_flat (hr.1.2.2 s hs).2.1).1
  have a2 := depAll_m (f := Stp.dt) (n := 2) (xs := r.sel) fun s hs => (stp_flat (hr.1.2.2 s hs).2.1).2
  have b1 := okAll_m (f := Dl.dt) (xs := r.ds) fun s _ => (dl_flat s).1
  have b2 := depAll_m (f := Dl.dt) (n := 2) (xs := r.ds) fun s _ => (dl_flat s).2
  constructor
  · show Ab.okD (.tup [.tup (r.sel.map Stp.dt), .tup (r.ds.map Dl.dt)]) = true
    have := hr.1.1.2
    have := hr.2.1.2
    simp [okD, okAll, a1, b1]; omega
  · show depD (.tup [.tup (r.sel.map Stp.dt), .tup (r.ds.map Dl.dt)]) ≤ 5
    simp [depD, depAll]; omega
theorem cut_map (xs : List Str) (lo hi : Option Int) : ∃ ys : List Str, cutD (xs.map Dt.str) lo hi = ys.map Dt.str ∧ ys.Sublist xs := by
  refine ⟨(xs.drop (HT.sIx (xs.map Dt.str).length 0 lo)).take (HT.sIx (xs.map Dt.str).length (xs.map Dt.str).length hi - HT.sIx (xs.map Dt.str).length 0 lo), ?_, (List.take_sublist _ _).trans (List.drop_sublist _ _)⟩
  unfold cutD
  rw [List.map_take, List.map_drop]
section
variable {K : PySem.W.Frag}
def ap_decl22 : AP := fun as Post => ∃ (b n : Int), EnvT [SPool b, SVal (TIs (.int n))] as ∧ (1 ≤ n ∧ n ≤ 6 ∧ 0 ≤ b ∧ b ≤ 50000) ∧
  ∀ (ds : List Dl) as', 1 ≤ ds.length → (ds.length : Int) ≤ n → (∀ d ∈ ds, DlG d ∧ ValOk d.nm d.v) → EnvT [SPool (b + 100), SAny] as' → Post (.val (.tup (ds.map Dl.dt))) as'
theorem run_decl22 : RunOk K [0] (tq_declarations K ap_props ap_take ap_valD) 7 ap_decl22 := by
  rintro as Post ⟨b, n, he, ho, k⟩
  unfold tq_declarations
  walk_at "cs"
  refine ws_norm (by walk_at "norm") ?_
  have hzl : (nmL.map Dt.str).length = 10 := rfl
  walk_at "go"
  refine .a ⟨rfl, ?_⟩
  walk_at "go"
  refine for_range1H ?_
  walk_at "go"
  rename_i d1 g h1 g0 g1
  refine .a ⟨_, rfl, by omega, by omega, fun i G => ∃ dl : List Dl, EnvT [SPool (b + 1 + 6 * i), SAny, SIs (.acc (nmL.map Dt.str)), SIs (.acc (dl.map Dl.dt)), SAny, SAny, SAny] G ∧ dl.length = i ∧ (∀ d ∈ dl, DlG d ∧ ValOk d.nm d.v), ⟨[], by walk_at "ty", rfl, (fun _ h => nomatch h)⟩, ?_, ?_⟩
  · rintro i G hi ⟨dl, he, hl, hd⟩
    walk_at "cs"
    walk_at "go"
    rename_i d2 g2 h2 g20 g21
    refine ixp_kT (A := fun d => ∃ z : Str, d = .str z ∧ z ∈ nmL) rfl (by omega) (by omega) (fun d hd => by obtain ⟨z, hz, rfl⟩ := List.mem_map.mp hd; exact ⟨z, rfl, hz⟩) fun d hd => ?_
    obtain ⟨z, rfl, hzn⟩ := hd
    walk_at "go"
    refine .a ⟨b + 1 + 6 * i + 1, z, by walk_at "ty", by omega, hzn, fun dc as' hdc he2 => ?_⟩
    walk_at "cs"
    walk_at "go"
    rename_i d5 g5 h5 g50 g51
    refine .a ⟨dl ++ [⟨z, dc, decide (g5 = 0)⟩], ?_, by rw [List.length_append, hl]; rfl, fun d hm => ?_⟩
    · rw [List.map_append]
      walk_at "ty"
    · rcases List.mem_append.mp hm with hm | hm
      · exact hd d hm
      · rw [List.mem_singleton.mp hm]; exact ⟨⟨hzn, hdc.1⟩, hdc.2⟩
  · rintro G ⟨dl, he, hl, hd⟩
    walk_at "cs"
    walk_at "go"
    exact k dl _ (by omega) (by omega) hd (by walk_at "ty")
def ap_lrules : AP := fun as Post => ∃ (b n st lg : Int) (mks : List Str), EnvT [SPool b, SVal (TLs (TNm 1 8) 1 60), SIs (.val (.lst (mks.map Dt.str))), SVal (TIs (.int n)), SVal (TIs (.int st)), SVal (TIs (.int lg))] as ∧ (0 ≤ b ∧ b ≤ 20000) ∧ (0 ≤ n ∧ n ≤ 14) ∧ (1 ≤ st ∧ st ≤ 4) ∧ (1 ≤ lg ∧ lg ≤ 6) ∧ mks.length ≤ 60 ∧ mks.Nodup ∧ (∀ z ∈ mks, NmL 1 8 z) ∧
  ∀ (rs : List Ru) as', rs.length = n.toNat → (∀ r ∈ rs, RuG r ∧ (r.ds.length : Int) ≤ lg) → EnvT [SPool (b + 600 * n), SAny, SAny, SAny, SAny, SAny] as' → Post (.new (rs.map Ru.dt)) as'
theorem run_lrules : RunOk K [0] (tq_rules K ap_selD ap_decl22) 9 ap_lrules := by
  rintro as Post ⟨b, n, st, lg, mks, he, hb, hn, hst, hlg, mk6, mkn, mka, k⟩
  unfold tq_rules
  walk_at "cs"
  refine ws_norm (by walk_at "norm") ?_
  walk_at "go"
  rename_i kds k0 k1 ka
  refine for_range1H ?_
  walk_at "go"
  refine .a ⟨_, rfl, by omega, by omega, fun i G => ∃ rs : List Ru, EnvT [SPool (b + 600 * i), SIs (.val (.lst kds)), SIs (.val (.lst (mks.map Dt.str))), SAny, SIs (.val (.int st)), SIs (.val (.int lg)), SIs (.acc (rs.map Ru.dt)), SAny, SAny] G ∧ rs.length = i ∧ (∀ r ∈ rs, RuG r ∧ (r.ds.length : Int) ≤ lg), ⟨[], by walk_at "ty", rfl, (fun _ h => nomatch h)⟩, ?_, ?_⟩
  · rintro i G hi ⟨rs, he, hl, hr⟩
    walk_at "cs"
    walk_at "go"
    refine .a ⟨b + 600 * i, st, mks, by walk_at "ty", by omega, mk6, mkn, mka, fun ss as' hg he2 => ?_⟩
    walk_at "cs"
    walk_at "go"
    rename_i ds as3 l1 l2
    intro hd he3
    walk_at "cs"
    walk_at "go"
    refine .a ⟨rs ++ [⟨ss, ds⟩], ?_, by rw [List.length_append, hl]; rfl, fun r hm => ?_⟩
    · rw [List.map_append]
      walk_at "ty"
    · rcases List.mem_append.mp hm with hm | hm
      · exact hr r hm
      · rw [List.mem_singleton.mp hm]; exact ⟨⟨hg, ⟨l1, by show ds.length ≤ 6; omega⟩, hd⟩, l2⟩
  · rintro G ⟨rs, he, hl, hr⟩
    walk_at "cs"
    walk_at "go"
    exact k rs _ (by omega) hr (by walk_at "ty")
def ap_lrow22 : AP := fun as Post => ∃ (b : Int) (mks : List Str), EnvT [SPool b, SVal (TLs (TNm 1 8) 1 60), SIs (.val (.lst (mks.map Dt.str)))] as ∧ (0 ≤ b ∧ b ≤ 10000) ∧ mks.length ≤ 60 ∧ mks.Nodup ∧ (∀ z ∈ mks, NmL 1 8 z) ∧
  ∀ (rs : List Ru) as', rs.length ≤ 12 → (∀ r ∈ rs, RuG r) → EnvT [SPool (b + 8000), SAny, SAny] as' → Post (.new (rs.map Ru.dt)) as'
theorem run_lrow22 : RunOk K [0] (tq_row K ap_take ap_lrules) 4 ap_lrow22 := by
  rintro as Post ⟨b, mks, he, hb, mk6, mkn, mka, k⟩
  unfold tq_row
  walk_at "cs"
  rename_i ds0 hp0 kds k0 k1 ka
  refine ws_norm (by walk_at "norm") ?_
  walk_at "go"
  rename_i d1 x1 hp1 x10 x11
  refine ixp_kT (A := fun d => ∃ n : Int, d = .int n ∧ 0 ≤ n ∧ n ≤ 12) rfl (by omega) (by show _ < ((8 : Nat) : Int); omega) (fun d hd => ?_) fun d hd => ?_
  · simp only [List.mem_cons, List.not_mem_nil, or_false] at hd
    rcases hd with rfl | rfl | rfl | rfl | rfl | rfl | rfl | rfl <;> exact ⟨_, rfl, by omega, by omega⟩
  obtain ⟨n, rfl, n0, n12⟩ := hd
  walk_at "xs"
  refine ws_cut (fun G => ∃ (n : Int) (d : List Dt), PoolUp (b + 1 + 1 + 1) d ∧ 0 ≤ n ∧ n ≤ 12 ∧ G = [.acc d, .val (.lst kds), .val (.lst (mks.map Dt.str)), .val (.int n)]) ?_ ?_
  · walk_at "go"
    rename_i d2 x2 hp2 x20 x21
    refine ⟨fun hg => ?_, fun hg => ?_⟩
    · walk_at "go"
      rename_i d3 x3 hp3 x30 x31
      refine ixp_kT (A := fun d => ∃ n : Int, d = .int n ∧ 0 ≤ n ∧ n ≤ 12) rfl (by omega) (by show _ < ((8 : Nat) : Int); omega) (fun d hd => ?_) fun d hd => ?_
      · simp only [List.mem_cons, List.not_mem_nil, or_false] at hd
        rcases hd with rfl | rfl | rfl | rfl | rfl | rfl | rfl | rfl <;> exact ⟨_, rfl, by omega, by omega⟩
      obtain ⟨m, rfl, m0, m12⟩ := hd
      walk_at "go"
      exact .a ⟨m, _, hp3, m0, m12, rfl⟩
    · walk_at "go"
      exact .a ⟨n, _, PoolUp.mono hp2 (by omega), n0, n12, rfl⟩
  rintro G ⟨m, d4, hp4, m0, m12, rfl⟩
  walk_at "go"
  refine .a ⟨b + 1 + 1 + 1, m, 2, 2, mks, by walk_at "ty", by omega, by omega, by omega, by omega, mk6, mkn, mka, fun rs as' hl hr he2 => ?_⟩
  walk_at "cs"
  walk_at "go"
  exact k rs _ (by omega) (fun r h => (hr r h).1) (by walk_at "ty")
end
end Ns

namespace Zz
open PySem L2 Ab
namespace Lk22
open PySem L2 Ab
def topS (i : Nat) : Stmt := PySem.Challenge.pw_stylepages_k22_sheets_as_rows_of_rules.main.body.getD i (.Pass ⟨0, 0, 0, 0⟩)
abbrev s_Sheet___init__ : Stmt := inClass (topS 50) 1
theorem sc_Sheet___init__ : FnScope ["self", "rules"] ["self", "rules"] (defScope s_Sheet___init__) := ⟨rfl, rfl, rfl, by decide +kernel, rfl, by decide +kernel, by decide +kernel⟩
abbrev s_Sheet___len__ : Stmt := inClass (topS 50) 4
theorem sc_Sheet___len__ : FnScope ["self"] ["self"] (defScope s_Sheet___len__) := ⟨rfl, rfl, rfl, by decide +kernel, rfl, by decide +kernel, by decide +kernel⟩
abbrev s_Sheet___iter__ : Stmt := inClass (topS 50) 5
theorem sc_Sheet___iter__ : FnScope ["self"] ["self"] (defScope s_Sheet___iter__) := ⟨rfl, rfl, rfl, by decide +kernel, rfl, by decide +kernel, by decide +kernel⟩
abbrev s_Sheet___getitem__ : Stmt := inClass (topS 50) 6
theorem sc_Sheet___getitem__ : FnScope ["self", "at"] ["self", "at"] (defScope s_Sheet___getitem__) := ⟨rfl, rfl, rfl, by decide +kernel, rfl, by decide +kernel, by decide +kernel⟩
abbrev s_Sheet___contains__ : Stmt := inClass (topS 50) 7
theorem sc_Sheet___contains__ : FnScope ["self", "name", "rule", "declaration"] ["self", "name"] (defScope s_Sheet___contains__) := ⟨rfl, rfl, rfl, by decide +kernel, rfl, by decide +kernel, by decide +kernel⟩
abbrev s_Sheet___add__ : Stmt := inClass (topS 50) 8
theorem sc_Sheet___add__ : FnScope ["self", "other"] ["self", "other"] (defScope s_Sheet___add__) := ⟨rfl, rfl, rfl, by decide +kernel, rfl, by decide +kernel, by decide +kernel⟩
abbrev s_Sheet_with_rule : Stmt := inClass (topS 50) 14
theorem sc_Sheet_with_rule : FnScope ["self", "at", "rule"] ["self", "at", "rule"] (defScope s_Sheet_with_rule) := ⟨rfl, rfl, rfl, by decide +kernel, rfl, by decide +kernel, by decide +kernel⟩
abbrev s_Sheet_without_rule : Stmt := inClass (topS 50) 15
theorem sc_Sheet_without_rule : FnScope ["self", "at"] ["self", "at"] (defScope s_Sheet_without_rule) := ⟨rfl, rfl, rfl, by decide +kernel, rfl, by decide +kernel, by decide +kernel⟩
abbrev s_joined : Stmt := topS 51
theorem sc_joined : FnScope ["sheets", "total", "sheet"] ["sheets"] (defScope s_joined) := ⟨rfl, rfl, rfl, by decide +kernel, rfl, by decide +kernel, by decide +kernel⟩
abbrev s__law_pool : Stmt := topS 53
theorem sc__law_pool : FnScope ["_law_script", "_law_at", "_law_cell"] ["_law_script", "_law_at"] (defScope s__law_pool) := ⟨rfl, rfl, rfl, by decide +kernel, rfl, by decide +kernel, by decide +kernel⟩
abbrev s__law_take : Stmt := topS 54
theorem sc__law_take : FnScope ["_law_pool_here", "_law_many", "_law_got", "_law_one", "_law_two"] ["_law_pool_here", "_law_many"] (defScope s__law_take) := ⟨rfl, rfl, rfl, by decide +kernel, rfl, by decide +kernel, by decide +kernel⟩
abbrev s__law_same : Stmt := topS 55
theorem sc__law_same : FnScope ["_law_one", "_law_two", "_law_both", "_law_k"] ["_law_one", "_law_two"] (defScope s__law_same) := ⟨rfl, rfl, rfl, by decide +kernel, rfl, by decide +kernel, by decide +kernel⟩
abbrev s__law_letters : Stmt := topS 56
theorem sc__law_letters : FnScope ["_law_pool_here", "_law_many", "_law_abc", "_law_k"] ["_law_pool_here", "_law_many"] (defScope s__law_letters) := ⟨rfl, rfl, rfl, by decide +kernel, rfl, by decide +kernel, by decide +kernel⟩
abbrev s__law_names : Stmt := topS 57
theorem sc__law_names : FnScope ["_law_pool_here", "_law_many", "_law_stem", "_law_at", "_law_begin", "_law_tails", "_law_abc", "_law_names_here", "_law_k", "_law_letter", "_law_tail"] ["_law_pool_here", "_law_many"] (defScope s__law_names) := ⟨rfl, rfl, rfl, by decide +kernel, rfl, by decide +kernel, by decide +kernel⟩
abbrev s__law_any_names : Stmt := topS 58
theorem sc__law_any_names : FnScope ["_law_pool_here", "_law_many", "_law_names_here", "_law_k", "_law_name", "_law_one"] ["_law_pool_here", "_law_many"] (defScope s__law_any_names) := ⟨rfl, rfl, rfl, by decide +kernel, rfl, by decide +kernel, by decide +kernel⟩
abbrev s__law_marks : Stmt := topS 59
theorem sc__law_marks : FnScope ["_law_pool_here", "_law_names_here", "_law_marks_here", "_law_name", "_law_one"] ["_law_pool_here", "_law_names_here"] (defScope s__law_marks) := ⟨rfl, rfl, rfl, by decide +kernel, rfl, by decide +kernel, by decide +kernel⟩
abbrev s__law_properties : Stmt := topS 60
theorem sc__law_properties : FnScope [] [] (defScope s__law_properties) := ⟨rfl, rfl, rfl, by decide +kernel, rfl, by decide +kernel, by decide +kernel⟩
abbrev s__law_selector : Stmt := topS 61
theorem sc__law_selector : FnScope ["_law_pool_here", "_law_kinds", "_law_marks_here", "_law_longest", "_law_steps", "_law_k", "_law_joint_here", "_law_kind"] ["_law_pool_here", "_law_kinds", "_law_marks_here", "_law_longest"] (defScope s__law_selector) := ⟨rfl, rfl, rfl, by decide +kernel, rfl, by decide +kernel, by decide +kernel⟩
abbrev s__law_value : Stmt := topS 62
theorem sc__law_value : FnScope ["_law_pool_here", "_law_name", "_law_words", "_law_sort", "_law_row_here", "_law_one"] ["_law_pool_here", "_law_name"] (defScope s__law_value) := ⟨rfl, rfl, rfl, by decide +kernel, rfl, by decide +kernel, by decide +kernel⟩
abbrev s__law_declarations : Stmt := topS 63
theorem sc__law_declarations : FnScope ["_law_pool_here", "_law_longest", "_law_names_here", "_law_rows", "_law_k", "_law_name", "_law_value_here"] ["_law_pool_here", "_law_longest"] (defScope s__law_declarations) := ⟨rfl, rfl, rfl, by decide +kernel, rfl, by decide +kernel, by decide +kernel⟩
abbrev s__law_rules : Stmt := topS 64
theorem sc__law_rules : FnScope ["_law_pool_here", "_law_kinds", "_law_marks_here", "_law_many", "_law_steps", "_law_longest", "_law_rules_here", "_law_k", "_law_selector_here"] ["_law_pool_here", "_law_kinds", "_law_marks_here", "_law_many", "_law_steps", "_law_longest"] (defScope s__law_rules) := ⟨rfl, rfl, rfl, by decide +kernel, rfl, by decide +kernel, by decide +kernel⟩
abbrev s__law_row : Stmt := topS 65
theorem sc__law_row : FnScope ["_law_pool_here", "_law_kinds", "_law_marks_here", "_law_many"] ["_law_pool_here", "_law_kinds", "_law_marks_here"] (defScope s__law_row) := ⟨rfl, rfl, rfl, by decide +kernel, rfl, by decide +kernel, by decide +kernel⟩
abbrev s__law_deed : Stmt := topS 66
theorem sc__law_deed : FnScope ["_law_sort", "_law_sheet", "_law_place", "_law_other", "_law_got", "_law_refused", "error", "_law_kept"] ["_law_sort", "_law_sheet", "_law_place", "_law_other"] (defScope s__law_deed) := ⟨rfl, rfl, rfl, by decide +kernel, rfl, by decide +kernel, by decide +kernel⟩
abbrev s__law_joint : Stmt := topS 67
theorem sc__law_joint : FnScope ["_law_sheets", "_law_got", "_law_refused", "error", "_law_kept"] ["_law_sheets"] (defScope s__law_joint) := ⟨rfl, rfl, rfl, by decide +kernel, rfl, by decide +kernel, by decide +kernel⟩
abbrev s__law_rows_of : Stmt := topS 68
theorem sc__law_rows_of : FnScope ["_law_sheet", "_law_rows"] ["_law_sheet"] (defScope s__law_rows_of) := ⟨rfl, rfl, rfl, by decide +kernel, rfl, by decide +kernel, by decide +kernel⟩
abbrev s__law_due : Stmt := topS 69
theorem sc__law_due : FnScope ["_law_sort", "_law_rules_here", "_law_place", "_law_other"] ["_law_sort", "_law_rules_here", "_law_place", "_law_other"] (defScope s__law_due) := ⟨rfl, rfl, rfl, by decide +kernel, rfl, by decide +kernel, by decide +kernel⟩
abbrev s__law_sum_due : Stmt := topS 70
theorem sc__law_sum_due : FnScope ["_law_rules_here"] ["_law_rules_here"] (defScope s__law_sum_due) := ⟨rfl, rfl, rfl, by decide +kernel, rfl, by decide +kernel, by decide +kernel⟩
abbrev s__law_places_right : Stmt := topS 71
theorem sc__law_places_right : FnScope ["_law_sheet", "_law_rules_here", "_law_one", "_law_place", "_law_sort", "_law_got", "_law_name", "_law_due_here", "_law_told", "_law_row_here"] ["_law_sheet", "_law_rules_here", "_law_one"] (defScope s__law_places_right) := ⟨rfl, rfl, rfl, by decide +kernel, rfl, by decide +kernel, by decide +kernel⟩
abbrev s__law_sums_right : Stmt := topS 72
theorem sc__law_sums_right : FnScope ["_law_sheets", "_law_rows", "_law_i", "_law_j", "_law_due_here", "_law_total", "_law_few", "_law_five", "_law_row_here"] ["_law_sheets", "_law_rows"] (defScope s__law_sums_right) := ⟨rfl, rfl, rfl, by decide +kernel, rfl, by decide +kernel, by decide +kernel⟩
abbrev s_law : Stmt := topS 73
theorem sc_law : FnScope ["_law_script", "_law_pool_here", "_law_names_here", "_law_kinds", "_law_marks_here", "_law_drawn", "_law_rows", "_law_one", "_law_sheets", "_law_k"] ["_law_script"] (defScope s_law) := ⟨rfl, rfl, rfl, by decide +kernel, rfl, by decide +kernel, by decide +kernel⟩
set_option genInjectivity false
set_option genSizeOf false
set_option genSizeOfSpec false
structure Txt (K : PySem.W.Frag) (mg : Str → Option Value) where
  m_ValueError : mg "ValueError" = none
  m_abs : mg "abs" = none
  m_all : mg "all" = none
  m_bool : mg "bool" = none
  m_dict : mg "dict" = none
  m_enumerate : mg "enumerate" = none
  m_int : mg "int" = none
  m_isinstance : mg "isinstance" = none
  m_iter : mg "iter" = none
  m_len : mg "len" = none
  m_list : mg "list" = none
  m_range : mg "range" = none
  m_sorted : mg "sorted" = none
  m_str : mg "str" = none
  m_tuple : mg "tuple" = none
  c_BadRule : Addr
  g_BadRule : mg "BadRule" = some (.ref c_BadRule)
  bs_BadRule : PySem.W.subIn K (.ref c_BadRule) (.type "BaseException") = some true
  tx_BadRule : PySem.W.typeIn K (.ref c_BadRule) = some (.type "type")
  hd_BadRule : PySem.W.hasDictIn K c_BadRule = true
  c_TooLarge : Addr
  g_TooLarge : mg "TooLarge" = some (.ref c_TooLarge)
  bs_TooLarge : PySem.W.subIn K (.ref c_TooLarge) (.type "BaseException") = some true
  tx_TooLarge : PySem.W.typeIn K (.ref c_TooLarge) = some (.type "type")
  hd_TooLarge : PySem.W.hasDictIn K c_TooLarge = true
  c_BadPath : Addr
  g_BadPath : mg "BadPath" = some (.ref c_BadPath)
  bs_BadPath : PySem.W.subIn K (.ref c_BadPath) (.type "BaseException") = some true
  tx_BadPath : PySem.W.typeIn K (.ref c_BadPath) = some (.type "type")
  hd_BadPath : PySem.W.hasDictIn K c_BadPath = true
  c_StyleError : Addr
  g_StyleError : mg "StyleError" = some (.ref c_StyleError)
  bs_StyleError : PySem.W.subIn K (.ref c_StyleError) (.type "BaseException") = some true
  tx_StyleError : PySem.W.typeIn K (.ref c_StyleError) = some (.type "type")
  hd_StyleError : PySem.W.hasDictIn K c_StyleError = true
  x_TooLarge : PySem.W.excIn K c_TooLarge [.type "ValueError", .type "Exception", .type "BaseException", .type "object"] "ValueError.__new__" = true
  kx_TooLarge : PySem.W.keepIn K (.ref c_TooLarge) = true
  xc_TooLarge : ExcC K c_TooLarge
  sv_TooLarge : PySem.W.subIn K (.ref c_TooLarge) (.type "ValueError") = some true
  sb_TooLarge_BadRule : PySem.W.subIn K (.ref c_TooLarge) (.ref c_BadRule) = some false
  sb_TooLarge_TooLarge : PySem.W.subIn K (.ref c_TooLarge) (.ref c_TooLarge) = some true
  sb_TooLarge_BadPath : PySem.W.subIn K (.ref c_TooLarge) (.ref c_BadPath) = some false
  sb_TooLarge_StyleError : PySem.W.subIn K (.ref c_TooLarge) (.ref c_StyleError) = some true
  x_BadPath : PySem.W.excIn K c_BadPath [.type "ValueError", .type "Exception", .type "BaseException", .type "object"] "ValueError.__new__" = true
  kx_BadPath : PySem.W.keepIn K (.ref c_BadPath) = true
  xc_BadPath : ExcC K c_BadPath
  sv_BadPath : PySem.W.subIn K (.ref c_BadPath) (.type "ValueError") = some true
  sb_BadPath_BadRule : PySem.W.subIn K (.ref c_BadPath) (.ref c_BadRule) = some false
  sb_BadPath_TooLarge : PySem.W.subIn K (.ref c_BadPath) (.ref c_TooLarge) = some false
  sb_BadPath_BadPath : PySem.W.subIn K (.ref c_BadPath) (.ref c_BadPath) = some true
  sb_BadPath_StyleError : PySem.W.subIn K (.ref c_BadPath) (.ref c_StyleError) = some true
  c_Weight : Addr
  g_Weight : mg "Weight" = some (.ref c_Weight)
  co_Weight : ClsOk K c_Weight
  c_Sheet : Addr
  g_Sheet : mg "Sheet" = some (.ref c_Sheet)
  co_Sheet : ClsOk K c_Sheet
  na_Weight_marks : NoAttr K c_Weight "marks"
  na_Weight_kinds : NoAttr K c_Weight "kinds"
  sf_Sheet : PySem.W.selfFirst K c_Sheet = true
  cr_Sheet : ClX.CRead K c_Sheet (.type "type")
  cw_Sheet_LIMIT : ∃ u, ClX.CVal K c_Sheet (.type "type") "LIMIT" (.int 12) u
  na_Sheet_rule_row : NoAttr K c_Sheet "rule_row"
  f_Sheet___init__ : Addr
  fd_Sheet___init__ : FuncData
  F_Sheet___init__ : Fun K "__init__" "Sheet.__init__" s_Sheet___init__ f_Sheet___init__ fd_Sheet___init__
  b_Sheet___init__ : Binds K fd_Sheet___init__ ["self", "rules"] []
  mk_Sheet : Mk K c_Sheet f_Sheet___init__
  f_Sheet___len__ : Addr
  fd_Sheet___len__ : FuncData
  F_Sheet___len__ : Fun K "__len__" "Sheet.__len__" s_Sheet___len__ f_Sheet___len__ fd_Sheet___len__
  b_Sheet___len__ : Binds K fd_Sheet___len__ ["self"] []
  mt_Sheet___len__ : Meth K c_Sheet "__len__" f_Sheet___len__
  f_Sheet___iter__ : Addr
  fd_Sheet___iter__ : FuncData
  F_Sheet___iter__ : Fun K "__iter__" "Sheet.__iter__" s_Sheet___iter__ f_Sheet___iter__ fd_Sheet___iter__
  b_Sheet___iter__ : Binds K fd_Sheet___iter__ ["self"] []
  mt_Sheet___iter__ : Meth K c_Sheet "__iter__" f_Sheet___iter__
  f_Sheet___getitem__ : Addr
  fd_Sheet___getitem__ : FuncData
  F_Sheet___getitem__ : Fun K "__getitem__" "Sheet.__getitem__" s_Sheet___getitem__ f_Sheet___getitem__ fd_Sheet___getitem__
  b_Sheet___getitem__ : Binds K fd_Sheet___getitem__ ["self", "at"] []
  mt_Sheet___getitem__ : Meth K c_Sheet "__getitem__" f_Sheet___getitem__
  f_Sheet___contains__ : Addr
  fd_Sheet___contains__ : FuncData
  F_Sheet___contains__ : Fun K "__contains__" "Sheet.__contains__" s_Sheet___contains__ f_Sheet___contains__ fd_Sheet___contains__
  b_Sheet___contains__ : Binds K fd_Sheet___contains__ ["self", "name"] []
  mt_Sheet___contains__ : Meth K c_Sheet "__contains__" f_Sheet___contains__
  f_Sheet___add__ : Addr
  fd_Sheet___add__ : FuncData
  F_Sheet___add__ : Fun K "__add__" "Sheet.__add__" s_Sheet___add__ f_Sheet___add__ fd_Sheet___add__
  b_Sheet___add__ : Binds K fd_Sheet___add__ ["self", "other"] []
  mt_Sheet___add__ : Meth K c_Sheet "__add__" f_Sheet___add__
  op_Sheet___add__ : PySem.W.findIn K (.ref c_Sheet) (PySem.dunder (PySem.Operator.Add).info.2) = some (some (.ref f_Sheet___add__))
  f_Sheet_with_rule : Addr
  fd_Sheet_with_rule : FuncData
  F_Sheet_with_rule : Fun K "with_rule" "Sheet.with_rule" s_Sheet_with_rule f_Sheet_with_rule fd_Sheet_with_rule
  b_Sheet_with_rule : Binds K fd_Sheet_with_rule ["self", "at", "rule"] []
  mt_Sheet_with_rule : Meth K c_Sheet "with_rule" f_Sheet_with_rule
  f_Sheet_without_rule : Addr
  fd_Sheet_without_rule : FuncData
  F_Sheet_without_rule : Fun K "without_rule" "Sheet.without_rule" s_Sheet_without_rule f_Sheet_without_rule fd_Sheet_without_rule
  b_Sheet_without_rule : Binds K fd_Sheet_without_rule ["self", "at"] []
  mt_Sheet_without_rule : Meth K c_Sheet "without_rule" f_Sheet_without_rule
  f_joined : Addr
  fd_joined : FuncData
  F_joined : Fun K "joined" "joined" s_joined f_joined fd_joined
  g_joined : mg "joined" = some (.ref f_joined)
  sb_joined : StarB fd_joined "sheets"
  f__law_pool : Addr
  fd__law_pool : FuncData
  F__law_pool : Fun K "_law_pool" "_law_pool" s__law_pool f__law_pool fd__law_pool
  g__law_pool : mg "_law_pool" = some (.ref f__law_pool)
  b__law_pool : Binds K fd__law_pool ["_law_script", "_law_at"] []
  f__law_take : Addr
  fd__law_take : FuncData
  F__law_take : Fun K "_law_take" "_law_take" s__law_take f__law_take fd__law_take
  g__law_take : mg "_law_take" = some (.ref f__law_take)
  b__law_take : Binds K fd__law_take ["_law_pool_here", "_law_many"] []
  f__law_same : Addr
  fd__law_same : FuncData
  F__law_same : Fun K "_law_same" "_law_same" s__law_same f__law_same fd__law_same
  g__law_same : mg "_law_same" = some (.ref f__law_same)
  b__law_same : Binds K fd__law_same ["_law_one", "_law_two"] []
  f__law_letters : Addr
  fd__law_letters : FuncData
  F__law_letters : Fun K "_law_letters" "_law_letters" s__law_letters f__law_letters fd__law_letters
  g__law_letters : mg "_law_letters" = some (.ref f__law_letters)
  b__law_letters : Binds K fd__law_letters ["_law_pool_here", "_law_many"] []
  f__law_names : Addr
  fd__law_names : FuncData
  F__law_names : Fun K "_law_names" "_law_names" s__law_names f__law_names fd__law_names
  g__law_names : mg "_law_names" = some (.ref f__law_names)
  b__law_names : Binds K fd__law_names ["_law_pool_here", "_law_many"] []
  f__law_any_names : Addr
  fd__law_any_names : FuncData
  F__law_any_names : Fun K "_law_any_names" "_law_any_names" s__law_any_names f__law_any_names fd__law_any_names
  g__law_any_names : mg "_law_any_names" = some (.ref f__law_any_names)
  b__law_any_names : Binds K fd__law_any_names ["_law_pool_here", "_law_many"] []
  f__law_marks : Addr
  fd__law_marks : FuncData
  F__law_marks : Fun K "_law_marks" "_law_marks" s__law_marks f__law_marks fd__law_marks
  g__law_marks : mg "_law_marks" = some (.ref f__law_marks)
  b__law_marks : Binds K fd__law_marks ["_law_pool_here", "_law_names_here"] []
  f__law_properties : Addr
  fd__law_properties : FuncData
  F__law_properties : Fun K "_law_properties" "_law_properties" s__law_properties f__law_properties fd__law_properties
  g__law_properties : mg "_law_properties" = some (.ref f__law_properties)
  b__law_properties : Binds K fd__law_properties [] []
  f__law_selector : Addr
  fd__law_selector : FuncData
  F__law_selector : Fun K "_law_selector" "_law_selector" s__law_selector f__law_selector fd__law_selector
  g__law_selector : mg "_law_selector" = some (.ref f__law_selector)
  b__law_selector : Binds K fd__law_selector ["_law_pool_here", "_law_kinds", "_law_marks_here", "_law_longest"] []
  f__law_value : Addr
  fd__law_value : FuncData
  F__law_value : Fun K "_law_value" "_law_value" s__law_value f__law_value fd__law_value
  g__law_value : mg "_law_value" = some (.ref f__law_value)
  b__law_value : Binds K fd__law_value ["_law_pool_here", "_law_name"] []
  f__law_declarations : Addr
  fd__law_declarations : FuncData
  F__law_declarations : Fun K "_law_declarations" "_law_declarations" s__law_declarations f__law_declarations fd__law_declarations
  g__law_declarations : mg "_law_declarations" = some (.ref f__law_declarations)
  b__law_declarations : Binds K fd__law_declarations ["_law_pool_here", "_law_longest"] []
  f__law_rules : Addr
  fd__law_rules : FuncData
  F__law_rules : Fun K "_law_rules" "_law_rules" s__law_rules f__law_rules fd__law_rules
  g__law_rules : mg "_law_rules" = some (.ref f__law_rules)
  b__law_rules : Binds K fd__law_rules ["_law_pool_here", "_law_kinds", "_law_marks_here", "_law_many", "_law_steps", "_law_longest"] []
  f__law_row : Addr
  fd__law_row : FuncData
  F__law_row : Fun K "_law_row" "_law_row" s__law_row f__law_row fd__law_row
  g__law_row : mg "_law_row" = some (.ref f__law_row)
  b__law_row : Binds K fd__law_row ["_law_pool_here", "_law_kinds", "_law_marks_here"] []
  f__law_deed : Addr
  fd__law_deed : FuncData
  F__law_deed : Fun K "_law_deed" "_law_deed" s__law_deed f__law_deed fd__law_deed
  g__law_deed : mg "_law_deed" = some (.ref f__law_deed)
  b__law_deed : Binds K fd__law_deed ["_law_sort", "_law_sheet", "_law_place", "_law_other"] []
  f__law_joint : Addr
  fd__law_joint : FuncData
  F__law_joint : Fun K "_law_joint" "_law_joint" s__law_joint f__law_joint fd__law_joint
  g__law_joint : mg "_law_joint" = some (.ref f__law_joint)
  b__law_joint : Binds K fd__law_joint ["_law_sheets"] []
  f__law_rows_of : Addr
  fd__law_rows_of : FuncData
  F__law_rows_of : Fun K "_law_rows_of" "_law_rows_of" s__law_rows_of f__law_rows_of fd__law_rows_of
  g__law_rows_of : mg "_law_rows_of" = some (.ref f__law_rows_of)
  b__law_rows_of : Binds K fd__law_rows_of ["_law_sheet"] []
  f__law_due : Addr
  fd__law_due : FuncData
  F__law_due : Fun K "_law_due" "_law_due" s__law_due f__law_due fd__law_due
  g__law_due : mg "_law_due" = some (.ref f__law_due)
  b__law_due : Binds K fd__law_due ["_law_sort", "_law_rules_here", "_law_place", "_law_other"] []
  f__law_sum_due : Addr
  fd__law_sum_due : FuncData
  F__law_sum_due : Fun K "_law_sum_due" "_law_sum_due" s__law_sum_due f__law_sum_due fd__law_sum_due
  g__law_sum_due : mg "_law_sum_due" = some (.ref f__law_sum_due)
  b__law_sum_due : Binds K fd__law_sum_due ["_law_rules_here"] []
  f__law_places_right : Addr
  fd__law_places_right : FuncData
  F__law_places_right : Fun K "_law_places_right" "_law_places_right" s__law_places_right f__law_places_right fd__law_places_right
  g__law_places_right : mg "_law_places_right" = some (.ref f__law_places_right)
  b__law_places_right : Binds K fd__law_places_right ["_law_sheet", "_law_rules_here", "_law_one"] []
  f__law_sums_right : Addr
  fd__law_sums_right : FuncData
  F__law_sums_right : Fun K "_law_sums_right" "_law_sums_right" s__law_sums_right f__law_sums_right fd__law_sums_right
  g__law_sums_right : mg "_law_sums_right" = some (.ref f__law_sums_right)
  b__law_sums_right : Binds K fd__law_sums_right ["_law_sheets", "_law_rows"] []
  f_law : Addr
  fd_law : FuncData
  F_law : Fun K "law" "law" s_law f_law fd_law
  g_law : mg "law" = some (.ref f_law)
  b_law : Binds K fd_law ["_law_script"] []
set_option genInjectivity true
set_option genSizeOf true
set_option genSizeOfSpec true
def t_Sheet___init__ (K : PySem.W.Frag) (c_TooLarge : Addr) (W : WX) : TS :=
    (tSeq (tIfS (tTest (tOp rGtI (tCB (rLenV K) (tCons (tVar 1) tNil)) (tC (.int 12)))) (tRaise W (.ref c_TooLarge)) tNext)
    (sFld K (tVar 0) (tCB (rTupleOf K) (tCons (tVar 1) tNil)) "rule_row"))
def t_Sheet___getitem__ (K : PySem.W.Frag) (c_BadPath : Addr) (W : WX) : TS :=
    (tSeq (tIfS (tNot (tTest (tChain rLeI rLtI (tC (.int 0)) (tVar 1) (tCB (rLenV K) (tCons (tFld K (tVar 0) "rule_row") tNil))))) (tRaise W (.ref c_BadPath)) tNext)
    (tRet (tOp (rIx K) (tFld K (tVar 0) "rule_row") (tVar 1))))
def t_Sheet___contains__ (K : PySem.W.Frag) : TS :=
    (tSeq (tFor (iTup K (tFld K (tVar 0) "rule_row")) (gName 2) (tFor (iTup K (tOp (rIx K) (tVar 2) (tC (.int 1)))) (gName 3) (tIfS (tTest (tOp (rEqG K) (tOp (rIx K) (tVar 3) (tC (.int 0))) (tVar 1))) (tRet (tC (.bl true))) tNext)))
    (tRet (tC (.bl false))))
def t_Sheet___add__ (K : PySem.W.Frag) (c_Sheet : Addr) (ai_Sheet : AIX) (W : WX) : TS :=
    (tSeq (tIfS (tNot (tB (tCB (rIsi K) (tCons (tVar 1) (tCons (tC (.ref c_Sheet)) tNil))))) tNever tNext)
    (tRet (tMakeX K c_Sheet ai_Sheet W (tCons (tOp (rAddG K) (tFld K (tVar 0) "rule_row") (tFld K (tVar 1) "rule_row")) tNil))))
def t_Sheet_with_rule (K : PySem.W.Frag) (c_Sheet : Addr) (c_BadPath : Addr) (ai_Sheet : AIX) (W : WX) : TS :=
    (tSeq (tIfS (tNot (tTest (tChain rLeI rLeI (tC (.int 0)) (tVar 1) (tCB (rLenV K) (tCons (tFld K (tVar 0) "rule_row") tNil))))) (tRaise W (.ref c_BadPath)) tNext)
    (tRet (tMakeX K c_Sheet ai_Sheet W (tCons (tOp (rAddG K) (tOp (rAddG K) (tSl (rSlG K) (tFld K (tVar 0) "rule_row") tNoPart (tPart (tVar 1))) (tTup (tCons (tVar 2) tNil))) (tSl (rSlG K) (tFld K (tVar 0) "rule_row") (tPart (tVar 1)) tNoPart)) tNil))))
def t_Sheet_without_rule (K : PySem.W.Frag) (c_Sheet : Addr) (c_BadPath : Addr) (ai_Sheet : AIX) (W : WX) : TS :=
    (tSeq (tIfS (tNot (tTest (tChain rLeI rLtI (tC (.int 0)) (tVar 1) (tCB (rLenV K) (tCons (tFld K (tVar 0) "rule_row") tNil))))) (tRaise W (.ref c_BadPath)) tNext)
    (tRet (tMakeX K c_Sheet ai_Sheet W (tCons (tOp (rAddG K) (tSl (rSlG K) (tFld K (tVar 0) "rule_row") tNoPart (tPart (tVar 1))) (tSl (rSlG K) (tFld K (tVar 0) "rule_row") (tPart (tOp (rAddG K) (tVar 1) (tC (.int 1)))) tNoPart)) tNil))))
def t_joined (K : PySem.W.Frag) (c_Sheet : Addr) (ai_Sheet : AIX) (ap_Sheet___add__ : APX) (W : WX) : TS :=
    (tSeq (tAsg (tMakeX K c_Sheet ai_Sheet W (tCons (tTup tNil) tNil)) (gName 1))
    (tSeq (tFor (iTup K (tVar 0)) (gName 2) (tAsg (tOwnX K c_Sheet ap_Sheet___add__ W (tVar 1) (tVar 2)) (gName 1)))
    (tRet (tVar 1))))
def t__law_pool (K : PySem.W.Frag) : TS :=
    (tSeq (tAsg (tC (.int 0)) (gName 2))
    (tSeq (tIfS (tTest (tOp (rLtG K) (tVar 1) (tCB (rLenV K) (tCons (tVar 0) tNil)))) (tAsg (tCB rAbs (tCons (tCB rInt1 (tCons (tOp (rIx K) (tVar 0) (tVar 1)) tNil)) tNil)) (gName 2)) tNext)
    (tRet (tLst (tCons (tVar 2) (tCons (tC (.int 0)) (tCons (tCB rInt1 (tCons (tOp rGeI (tVar 2) (tOp rPowI (tC (.int 10)) (tC (.int 18)))) tNil)) (tCons (tOp rModI (tCB rInt1 (tCons (tOp (rAddG K) (tVar 2) (tOp (rMulG K) (tVar 1) (tC (.int 7919)))) tNil)) (tC (.int 2147483647))) (tCons (tC (.int 3)) tNil)))))))))
def t__law_take (K : PySem.W.Frag) : TS :=
    (tSeq (tAsg (tOp (rAddG K) (tOp (rIx K) (tVar 0) (tC (.int 1))) (tC (.int 1))) (gSub (tVar 0) (tC (.int 1)) rSetL))
    (tSeq (tIfS (tAnd (tTest (tOp (rEqG K) (tOp (rIx K) (tVar 0) (tC (.int 2))) (tC (.int 1)))) (tTest (tOp rGtI (tOp (rIx K) (tVar 0) (tC (.int 0))) (tC (.int 0))))) (tSeq (tAsg (tOp rModI (tCB rInt1 (tCons (tOp (rIx K) (tVar 0) (tC (.int 0))) tNil)) (tVar 1)) (gName 2))
    (tSeq (tAsg (tOp rDivI (tOp (rIx K) (tVar 0) (tC (.int 0))) (tVar 1)) (gSub (tVar 0) (tC (.int 0)) rSetL))
    (tRet (tVar 2)))) tNext)
    (tSeq (tAsg (tOp rModI (tCB rInt1 (tCons (tOp (rAddG K) (tOp (rAddG K) (tOp (rMulG K) (tOp (rIx K) (tVar 0) (tC (.int 3))) (tC (.int 48271))) (tOp (rMulG K) (tOp (rIx K) (tVar 0) (tC (.int 1))) (tC (.int 69621)))) (tC (.int 11))) tNil)) (tC (.int 2147483647))) (gName 3))
    (tSeq (tAsg (tOp rModI (tCB rInt1 (tCons (tOp (rAddG K) (tOp (rAddG K) (tOp (rMulG K) (tVar 3) (tC (.int 16807))) (tOp rDivI (tVar 3) (tC (.int 65536)))) (tOp (rMulG K) (tOp (rMulG K) (tOp (rIx K) (tVar 0) (tC (.int 1))) (tOp (rIx K) (tVar 0) (tC (.int 1)))) (tC (.int 40692)))) tNil)) (tC (.int 2147483399))) (gName 4))
    (tRet (tOp rModI (tCB rInt1 (tCons (tOp rDivI (tVar 4) (tOp (rAddG K) (tOp (rIx K) (tVar 0) (tC (.int 1))) (tC (.int 6)))) tNil)) (tVar 1)))))))
def t__law_same (K : PySem.W.Frag) (ap__law_same : AP) : TS :=
    (tSeq (tIfS (tOr (tB (tCB (rIsi K) (tCons (tVar 0) (tCons (tC (.ty "bool")) tNil)))) (tB (tCB (rIsi K) (tCons (tVar 1) (tCons (tC (.ty "bool")) tNil))))) (tRet (tAndV (tCB (rIsi K) (tCons (tVar 0) (tCons (tC (.ty "bool")) tNil))) (tAndV (tCB (rIsi K) (tCons (tVar 1) (tCons (tC (.ty "bool")) tNil))) (tOp (rEqG K) (tVar 0) (tVar 1))))) tNext)
    (tSeq (tIfS (tAnd (tB (tCB (rIsi K) (tCons (tVar 0) (tCons (tC (.ty "int")) tNil)))) (tB (tCB (rIsi K) (tCons (tVar 1) (tCons (tC (.ty "int")) tNil))))) (tRet (tOp (rEqG K) (tVar 0) (tVar 1))) tNext)
    (tSeq (tIfS (tAnd (tB (tCB (rIsi K) (tCons (tVar 0) (tCons (tC (.ty "str")) tNil)))) (tB (tCB (rIsi K) (tCons (tVar 1) (tCons (tC (.ty "str")) tNil))))) (tRet (tOp (rEqG K) (tVar 0) (tVar 1))) tNext)
    (tSeq (tAsg (tAndV (tCB (rIsi K) (tCons (tVar 0) (tCons (tC (.ty "tuple")) tNil))) (tCB (rIsi K) (tCons (tVar 1) (tCons (tC (.ty "tuple")) tNil)))) (gName 2))
    (tSeq (tIfS (tOr (tB (tVar 2)) (tAnd (tB (tCB (rIsi K) (tCons (tVar 0) (tCons (tC (.ty "list")) tNil)))) (tB (tCB (rIsi K) (tCons (tVar 1) (tCons (tC (.ty "list")) tNil)))))) (tSeq (tIfS (tTest (tOp (rNeG K) (tCB (rLenV K) (tCons (tVar 0) tNil)) (tCB (rLenV K) (tCons (tVar 1) tNil)))) (tRet (tC (.bl false))) tNext)
    (tSeq (tFor (iRng1 (tCons (tCB (rLenV K) (tCons (tVar 0) tNil)) tNil)) (gName 3) (tIfS (tNot (tB (tCall (toSp K ap__law_same) [] E0 (tCons (tOp (rIx K) (tVar 0) (tVar 3)) (tCons (tOp (rIx K) (tVar 1) (tVar 3)) tNil))))) (tRet (tC (.bl false))) tNext))
    (tRet (tC (.bl true))))) tNext)
    (tSeq (tIfS (tAnd (tB (tCB (rIsi K) (tCons (tVar 0) (tCons (tC (.ty "dict")) tNil)))) (tB (tCB (rIsi K) (tCons (tVar 1) (tCons (tC (.ty "dict")) tNil))))) (tSeq (tIfS (tNot (tB (tCall (toSp K ap__law_same) [] E0 (tCons (tCB rListD (tCons (tVar 0) tNil)) (tCons (tCB rListD (tCons (tVar 1) tNil)) tNil))))) (tRet (tC (.bl false))) tNext)
    (tSeq (tFor (iList K (tCB rListD (tCons (tVar 0) tNil))) (gName 3) (tIfS (tNot (tB (tCall (toSp K ap__law_same) [] E0 (tCons (tDGet (tVar 0) (tVar 3)) (tCons (tDGet (tVar 1) (tVar 3)) tNil))))) (tRet (tC (.bl false))) tNext))
    (tRet (tC (.bl true))))) tNext)
    (tRet (tAndV (tIsN (tVar 0)) (tIsN (tVar 1))))))))))
def t__law_letters (K : PySem.W.Frag) (ap__law_take : AP) : TS :=
    (tSeq (tAsg (tC (.str "abcdefghijklmnopqrstuvwxyz")) (gName 2))
    (tRet (tM1 (rJoin K) (tC (.str "")) (tLc (iRng1 (tCons (tVar 1) tNil)) (gName 3) tYes (tOp (rIx K) (tVar 2) (tCall (toSp K ap__law_take) [] E0 (tCons (tVar 0) (tCons (tC (.int 26)) tNil)))) [3]))))
def t__law_names (K : PySem.W.Frag) (ap__law_letters : AP) (ap__law_take : AP) : TS :=
    (tSeq (tAsg (tCall (toSp K ap__law_letters) [] E0 (tCons (tVar 0) (tCons (tCall (toSp K ap__law_take) [] E0 (tCons (tVar 0) (tCons (tC (.int 6)) tNil))) tNil))) (gName 2))
    (tSeq (tAsg (tCall (toSp K ap__law_take) [] E0 (tCons (tVar 0) (tCons (tOp (rAddG K) (tCB (rLenV K) (tCons (tVar 2) tNil)) (tC (.int 1))) tNil))) (gName 3))
    (tSeq (tAsg (tCall (toSp K ap__law_take) [] E0 (tCons (tVar 0) (tCons (tC (.int 26)) tNil))) (gName 4))
    (tSeq (tAsg (tCall (toSp K ap__law_take) [] E0 (tCons (tVar 0) (tCons (tC (.int 2)) tNil))) (gName 5))
    (tSeq (tAsg (tC (.str "abcdefghijklmnopqrstuvwxyz")) (gName 6))
    (tSeq (tAsg (tLst tNil) (gName 7))
    (tSeq (tFor (iRng1 (tCons (tVar 1) tNil)) (gName 8) (tSeq (tAsg (tOp (rIx K) (tVar 6) (tOp rModI (tCB rInt1 (tCons (tOp (rAddG K) (tVar 4) (tVar 8)) tNil)) (tC (.int 26)))) (gName 9))
    (tSeq (tAsg (tOp rRepS (tC (.str "z")) (tOp (rMulG K) (tVar 5) (tOp rModI (tCB rInt1 (tCons (tVar 8) tNil)) (tC (.int 3))))) (gName 10))
    (tDrop (tBM K "list" rAppend (tVar 7) (tCons (tOp (rAddG K) (tOp (rAddG K) (tOp (rAddG K) (tSl (rSlG K) (tVar 2) tNoPart (tPart (tVar 3))) (tVar 9)) (tSl (rSlG K) (tVar 2) (tPart (tVar 3)) tNoPart)) (tVar 10)) tNil))))))
    (tRet (tVar 7)))))))))
def t__law_any_names (K : PySem.W.Frag) (ap__law_take : AP) (ap__law_names : AP) (ap__law_letters : AP) : TS :=
    (tSeq (tIfS (tTest (tOp (rEqG K) (tCall (toSp K ap__law_take) [] E0 (tCons (tVar 0) (tCons (tC (.int 2)) tNil))) (tC (.int 1)))) (tRet (tCall (toSp K ap__law_names) [] E0 (tCons (tVar 0) (tCons (tVar 1) tNil)))) tNext)
    (tSeq (tAsg (tLst tNil) (gName 2))
    (tSeq (tFor (iRng1 (tCons (tVar 1) tNil)) (gName 3) (tSeq (tAsg (tCall (toSp K ap__law_letters) [] E0 (tCons (tVar 0) (tCons (tOp (rAddG K) (tC (.int 1)) (tCall (toSp K ap__law_take) [] E0 (tCons (tVar 0) (tCons (tC (.int 8)) tNil)))) tNil))) (gName 4))
    (tSeq (tIfS (tTest (tOp (rInG K) (tVar 4) (tVar 2))) (tAsg (tOp (rIx K) (tLc (iStr (tC (.str "abcdefghijklmnopqrstuvwxyz"))) (gName 5) (tTest (tOp (rIn K true) (tVar 5) (tVar 2))) (tVar 5) [5]) (tC (.int 0))) (gName 4)) tNext)
    (tDrop (tBM K "list" rAppend (tVar 2) (tCons (tVar 4) tNil))))))
    (tRet (tVar 2)))))
def t__law_marks (K : PySem.W.Frag) (ap__law_take : AP) : TS :=
    (tSeq (tAsg (tLst tNil) (gName 2))
    (tSeq (tFor (iList K (tCB (rSortedS K) (tCons (tLc (iList K (tVar 1)) (gName 4) tYes (tCB rStrG (tCons (tVar 4) tNil)) [4]) tNil))) (gName 3) (tIfS (tAnd (tTest (tOp (rLtG K) (tCB (rLenV K) (tCons (tVar 2) tNil)) (tC (.int 3)))) (tTest (tOp (rEqG K) (tCall (toSp K ap__law_take) [] E0 (tCons (tVar 0) (tCons (tC (.int 3)) tNil))) (tC (.int 0))))) (tDrop (tBM K "list" rAppend (tVar 2) (tCons (tVar 3) tNil))) tNext))
    (tRet (tCB (rTupleOf K) (tCons (tVar 2) tNil)))))
def t__law_properties (K : PySem.W.Frag) : TS :=
    (tRet (tLst (tCons (tC (.str "size")) (tCons (tC (.str "lead")) (tCons (tC (.str "face")) (tCons (tC (.str "align")) (tCons (tC (.str "least")) (tCons (tC (.str "place")) (tCons (tC (.str "keep")) (tCons (tC (.str "indent")) (tCons (tC (.str "above")) (tCons (tC (.str "below")) tNil))))))))))))
def t__law_selector (K : PySem.W.Frag) (ap__law_take : AP) (ap__law_marks : AP) : TS :=
    (tSeq (tAsg (tLst tNil) (gName 4))
    (tSeq (tFor (iRng1 (tCons (tOp (rAddG K) (tC (.int 1)) (tCall (toSp K ap__law_take) [] E0 (tCons (tVar 0) (tCons (tVar 3) tNil)))) tNil)) (gName 5) (tSeq (tAsg (tOp (rIx K) (tLst (tCons (tC (.str "")) (tCons (tC (.str " ")) (tCons (tC (.str ">")) tNil)))) (tOp (rMulG K) (tCB rInt1 (tCons (tOp rGtI (tVar 5) (tC (.int 0))) tNil)) (tOp (rAddG K) (tC (.int 1)) (tCall (toSp K ap__law_take) [] E0 (tCons (tVar 0) (tCons (tC (.int 2)) tNil)))))) (gName 6))
    (tSeq (tAsg (tOp (rIx K) (tOp (rAddG K) (tLst (tCons (tC (.str "*")) tNil)) (tVar 1)) (tCall (toSp K ap__law_take) [] E0 (tCons (tVar 0) (tCons (tOp (rAddG K) (tCB (rLenV K) (tCons (tVar 1) tNil)) (tC (.int 1))) tNil)))) (gName 7))
    (tDrop (tBM K "list" rAppend (tVar 4) (tCons (tTup (tCons (tVar 6) (tCons (tVar 7) (tCons (tCall (toSp K ap__law_marks) [] E0 (tCons (tVar 0) (tCons (tVar 2) tNil))) tNil)))) tNil))))))
    (tRet (tCB (rTupleOf K) (tCons (tVar 4) tNil)))))
def t__law_value (K : PySem.W.Frag) (ap__law_take : AP) : TS :=
    (tSeq (tAsg (tDisp [((tC (.str "face")), (tLst (tCons (tC (.str "plain")) (tCons (tC (.str "bold")) tNil)))), ((tC (.str "align")), (tLst (tCons (tC (.str "both")) (tCons (tC (.str "left")) tNil)))), ((tC (.str "keep")), (tLst (tCons (tC (.str "yes")) (tCons (tC (.str "no")) tNil)))), ((tC (.str "place")), (tLst (tCons (tC (.str "block")) (tCons (tC (.str "line")) (tCons (tC (.str "none")) (tCons (tC (.str "note")) (tCons (tC (.str "float")) tNil)))))))]) (gName 2))
    (tSeq (tAsg (tCall (toSp K ap__law_take) [] E0 (tCons (tVar 0) (tCons (tC (.int 9)) tNil))) (gName 3))
    (tSeq (tIfS (tTest (tOp (rEqG K) (tVar 3) (tC (.int 0)))) (tRet (tC (.str "same"))) tNext)
    (tSeq (tIfS (tTest (tOp (rEqG K) (tVar 3) (tC (.int 1)))) (tRet (tC (.str "first"))) tNext)
    (tSeq (tIfS (tB (tDIn (tVar 1) (tVar 2))) (tSeq (tAsg (tDGet (tVar 2) (tVar 1)) (gName 4))
    (tRet (tOp (rIx K) (tVar 4) (tCall (toSp K ap__law_take) [] E0 (tCons (tVar 0) (tCons (tCB (rLenV K) (tCons (tVar 4) tNil)) tNil)))))) tNext)
    (tSeq (tIfS (tTest (tOp (rEqG K) (tVar 1) (tC (.str "least")))) (tRet (tOp (rAddG K) (tC (.int 1)) (tCall (toSp K ap__law_take) [] E0 (tCons (tVar 0) (tCons (tC (.int 4)) tNil))))) tNext)
    (tSeq (tIfS (tTest (tOp (rLtG K) (tVar 3) (tC (.int 5)))) (tSeq (tAsg (tOp (rAddG K) (tC (.int 1)) (tCall (toSp K ap__law_take) [] E0 (tCons (tVar 0) (tCons (tC (.int 99)) tNil)))) (gName 5))
    (tRet (tTup (tCons (tVar 5) (tCons (tOp (rAddG K) (tC (.int 1)) (tCall (toSp K ap__law_take) [] E0 (tCons (tVar 0) (tCons (tC (.int 99)) tNil)))) tNil))))) tNext)
    (tSeq (tIfS (tTest (tOp (rEqG K) (tVar 1) (tC (.str "size")))) (tRet (tOp (rAddG K) (tC (.int 1)) (tCall (toSp K ap__law_take) [] E0 (tCons (tVar 0) (tCons (tC (.int 12)) tNil))))) tNext)
    (tSeq (tIfS (tTest (tOp (rEqG K) (tVar 1) (tC (.str "lead")))) (tRet (tOp (rAddG K) (tC (.int 1)) (tCall (toSp K ap__law_take) [] E0 (tCons (tVar 0) (tCons (tC (.int 99)) tNil))))) tNext)
    (tRet (tCall (toSp K ap__law_take) [] E0 (tCons (tVar 0) (tCons (tC (.int 100)) tNil)))))))))))))
def t__law_declarations (K : PySem.W.Frag) (ap__law_properties : AP) (ap__law_take : AP) (ap__law_value : AP) : TS :=
    (tSeq (tAsg (tCall (toSp K ap__law_properties) [] E0 tNil) (gName 2))
    (tSeq (tAsg (tLst tNil) (gName 3))
    (tSeq (tFor (iRng1 (tCons (tOp (rAddG K) (tC (.int 1)) (tCall (toSp K ap__law_take) [] E0 (tCons (tVar 0) (tCons (tVar 1) tNil)))) tNil)) (gName 4) (tSeq (tAsg (tOp (rIx K) (tVar 2) (tCall (toSp K ap__law_take) [] E0 (tCons (tVar 0) (tCons (tC (.int 10)) tNil)))) (gName 5))
    (tSeq (tAsg (tCall (toSp K ap__law_value) [] E0 (tCons (tVar 0) (tCons (tVar 5) tNil))) (gName 6))
    (tDrop (tBM K "list" rAppend (tVar 3) (tCons (tTup (tCons (tVar 5) (tCons (tVar 6) (tCons (tOp (rEqG K) (tCall (toSp K ap__law_take) [] E0 (tCons (tVar 0) (tCons (tC (.int 5)) tNil))) (tC (.int 0))) tNil)))) tNil))))))
    (tRet (tCB (rTupleOf K) (tCons (tVar 3) tNil))))))
def t__law_rules (K : PySem.W.Frag) (ap__law_selector : AP) (ap__law_declarations : AP) : TS :=
    (tSeq (tAsg (tLst tNil) (gName 6))
    (tSeq (tFor (iRng1 (tCons (tVar 3) tNil)) (gName 7) (tSeq (tAsg (tCall (toSp K ap__law_selector) [] E0 (tCons (tVar 0) (tCons (tVar 1) (tCons (tVar 2) (tCons (tVar 4) tNil))))) (gName 8))
    (tDrop (tBM K "list" rAppend (tVar 6) (tCons (tTup (tCons (tVar 8) (tCons (tCall (toSp K ap__law_declarations) [] E0 (tCons (tVar 0) (tCons (tVar 5) tNil))) tNil))) tNil)))))
    (tRet (tVar 6))))
def t__law_row (K : PySem.W.Frag) (ap__law_take : AP) (ap__law_rules : AP) : TS :=
    (tSeq (tAsg (tOp (rIx K) (tLst (tCons (tC (.int 0)) (tCons (tC (.int 3)) (tCons (tC (.int 4)) (tCons (tC (.int 5)) (tCons (tC (.int 2)) (tCons (tC (.int 6)) (tCons (tC (.int 1)) (tCons (tC (.int 7)) tNil))))))))) (tCall (toSp K ap__law_take) [] E0 (tCons (tVar 0) (tCons (tC (.int 8)) tNil)))) (gName 3))
    (tSeq (tIfS (tTest (tOp (rEqG K) (tCall (toSp K ap__law_take) [] E0 (tCons (tVar 0) (tCons (tC (.int 4)) tNil))) (tC (.int 3)))) (tAsg (tOp (rIx K) (tLst (tCons (tC (.int 8)) (tCons (tC (.int 9)) (tCons (tC (.int 10)) (tCons (tC (.int 11)) (tCons (tC (.int 12)) (tCons (tC (.int 12)) (tCons (tC (.int 12)) (tCons (tC (.int 12)) tNil))))))))) (tCall (toSp K ap__law_take) [] E0 (tCons (tVar 0) (tCons (tC (.int 8)) tNil)))) (gName 3)) tNext)
    (tRet (tCall (toSp K ap__law_rules) [] E0 (tCons (tVar 0) (tCons (tVar 1) (tCons (tVar 2) (tCons (tVar 3) (tCons (tC (.int 2)) (tCons (tC (.int 2)) tNil))))))))))
def t__law_deed (K : PySem.W.Frag) (c_Sheet : Addr) (c_BadPath : Addr) (c_TooLarge : Addr) (c_StyleError : Addr) (ap_Sheet___getitem__ : APX) (ap_Sheet_with_rule : APX) (ap_Sheet_without_rule : APX) (ap_Sheet___add__ : APX) (ai_Sheet : AIX) (ap__law_rows_of : AP) : TS :=
    (tSeq (tAsg (tC .non) (gName 4))
    (tSeq (tAsg (tLst tNil) (gName 5))
    (tSeq (tTryMas K [((.ref c_BadPath), 6, [], fun a C d => (tSeq (tAsg (tLst (tCons (tCB (rIsEd K C a d) (tCons (tVar 6) (tCons (tC (.ref c_StyleError)) tNil))) (tCons (tCB (rIsEd K C a d) (tCons (tVar 6) (tCons (tC (.ty "ValueError")) tNil))) tNil))) (gName 7))
    (tAsg (tOp (rAddG K) (tOp (rAddG K) (tLst (tCons (tC (.str "path")) tNil)) (tVar 7)) (tLst (tCons (tCB (rIsEd K C a d) (tCons (tVar 6) (tCons (tC (.ref c_TooLarge)) tNil))) tNil))) (gName 5)))), ((.ref c_TooLarge), 6, [], fun a C d => (tSeq (tAsg (tLst (tCons (tCB (rIsEd K C a d) (tCons (tVar 6) (tCons (tC (.ref c_StyleError)) tNil))) (tCons (tCB (rIsEd K C a d) (tCons (tVar 6) (tCons (tC (.ty "ValueError")) tNil))) tNil))) (gName 7))
    (tAsg (tOp (rAddG K) (tOp (rAddG K) (tLst (tCons (tC (.str "large")) tNil)) (tVar 7)) (tLst (tCons (tCB (rIsEd K C a d) (tCons (tVar 6) (tCons (tC (.ref c_BadPath)) tNil))) tNil))) (gName 5))))] (fun W1 => (tIfS (tTest (tOp (rEqG K) (tVar 0) (tC (.str "item")))) (tAsg (tItX K c_Sheet ap_Sheet___getitem__ W1 (tVar 1) (tVar 2)) (gName 4)) (tIfS (tTest (tOp (rEqG K) (tVar 0) (tC (.str "with")))) (tAsg (tMethX K c_Sheet "with_rule" ap_Sheet_with_rule W1 (tVar 1) (tCons (tVar 2) (tCons (tVar 3) tNil))) (gName 4)) (tIfS (tTest (tOp (rEqG K) (tVar 0) (tC (.str "without")))) (tAsg (tMethX K c_Sheet "without_rule" ap_Sheet_without_rule W1 (tVar 1) (tCons (tVar 2) tNil)) (gName 4)) (tIfS (tTest (tOp (rEqG K) (tVar 0) (tC (.str "sum")))) (tAsg (tOwnX K c_Sheet ap_Sheet___add__ W1 (tVar 1) (tVar 3)) (gName 4)) (tAsg (tMakeX K c_Sheet ai_Sheet W1 (tCons (tVar 3) tNil)) (gName 4))))))) (fun _ _ _ _ => False))
    (tSeq (tIfS (tTest (tOp rGtI (tCB (rLenV K) (tCons (tVar 5) tNil)) (tC (.int 0)))) (tRet (tVar 5)) tNext)
    (tSeq (tIfS (tTest (tOp (rEqG K) (tVar 0) (tC (.str "item")))) (tRet (tLst (tCons (tC (.str "item")) (tCons (tVar 4) tNil)))) tNext)
    (tRet (tLst (tCons (tC (.str "sheet")) (tCons (tCall (toSp K ap__law_rows_of) [] E0 (tCons (tVar 4) tNil)) tNil)))))))))
def t__law_joint (K : PySem.W.Frag) (c_TooLarge : Addr) (c_StyleError : Addr) (c_BadPath : Addr) (ap_joined : APX) (ap__law_rows_of : AP) : TS :=
    (tSeq (tAsg (tC .non) (gName 1))
    (tSeq (tAsg (tLst tNil) (gName 2))
    (tSeq (tTryAs K (.ref c_TooLarge) 3 (fun W1 => (tIfS (tTest (tOp (rEqG K) (tCB (rLenV K) (tCons (tVar 0) tNil)) (tC (.int 0)))) (tAsg (tCallSt K ap_joined W1 tNil) (gName 1)) (tIfS (tTest (tOp (rEqG K) (tCB (rLenV K) (tCons (tVar 0) tNil)) (tC (.int 1)))) (tAsg (tCallSt K ap_joined W1 (tCons (tOp (rIx K) (tVar 0) (tC (.int 0))) tNil)) (gName 1)) (tIfS (tTest (tOp (rEqG K) (tCB (rLenV K) (tCons (tVar 0) tNil)) (tC (.int 2)))) (tAsg (tCallSt K ap_joined W1 (tCons (tOp (rIx K) (tVar 0) (tC (.int 0))) (tCons (tOp (rIx K) (tVar 0) (tC (.int 1))) tNil))) (gName 1)) (tAsg (tCallSt K ap_joined W1 (tCons (tOp (rIx K) (tVar 0) (tC (.int 0))) (tCons (tOp (rIx K) (tVar 0) (tC (.int 1))) (tCons (tOp (rIx K) (tVar 0) (tC (.int 2))) tNil)))) (gName 1)))))) (fun a C => (tSeq (tAsg (tLst (tCons (tCB (rIsE K C a) (tCons (tVar 3) (tCons (tC (.ref c_StyleError)) tNil))) (tCons (tCB (rIsE K C a) (tCons (tVar 3) (tCons (tC (.ty "ValueError")) tNil))) tNil))) (gName 4))
    (tAsg (tOp (rAddG K) (tOp (rAddG K) (tLst (tCons (tC (.str "large")) tNil)) (tVar 4)) (tLst (tCons (tCB (rIsE K C a) (tCons (tVar 3) (tCons (tC (.ref c_BadPath)) tNil))) tNil))) (gName 2)))) (fun _ _ _ _ => False))
    (tSeq (tIfS (tTest (tOp rGtI (tCB (rLenV K) (tCons (tVar 2) tNil)) (tC (.int 0)))) (tRet (tVar 2)) tNext)
    (tRet (tLst (tCons (tC (.str "sheet")) (tCons (tCall (toSp K ap__law_rows_of) [] E0 (tCons (tVar 1) tNil)) tNil))))))))
def t__law_rows_of (K : PySem.W.Frag) (c_Sheet : Addr) (ap__law_same : AP) : TS :=
    (tSeq (tIfS (tNot (tB (tCB (rIsi K) (tCons (tVar 0) (tCons (tC (.ref c_Sheet)) tNil))))) (tRet (tC .non)) tNext)
    (tSeq (tAsg (tCB (rBoxListT K c_Sheet "rule_row") (tCons (tVar 0) tNil)) (gName 1))
    (tSeq (tIfS (tNot (tB (tCall (toSp K ap__law_same) [] E0 (tCons (tCB (rBoxLenT K c_Sheet "rule_row") (tCons (tVar 0) tNil)) (tCons (tCB (rLenV K) (tCons (tVar 1) tNil)) tNil))))) (tRet (tC .non)) tNext)
    (tRet (tVar 1)))))
def t__law_due (K : PySem.W.Frag) : TS :=
    (tSeq (tIfS (tTest (tOp (rEqG K) (tVar 0) (tC (.str "with")))) (tSeq (tIfS (tNot (tTest (tChain rLeI rLeI (tC (.int 0)) (tVar 2) (tCB (rLenV K) (tCons (tVar 1) tNil))))) (tRet (tLst (tCons (tC (.str "path")) (tCons (tC (.bl true)) (tCons (tC (.bl true)) (tCons (tC (.bl false)) tNil)))))) tNext)
    (tSeq (tIfS (tTest (tOp (rEqG K) (tCB (rLenV K) (tCons (tVar 1) tNil)) (tC (.int 12)))) (tRet (tLst (tCons (tC (.str "large")) (tCons (tC (.bl true)) (tCons (tC (.bl true)) (tCons (tC (.bl false)) tNil)))))) tNext)
    (tRet (tLst (tCons (tC (.str "sheet")) (tCons (tOp (rAddG K) (tOp (rAddG K) (tSl (rSlG K) (tVar 1) tNoPart (tPart (tVar 2))) (tLst (tCons (tVar 3) tNil))) (tSl (rSlG K) (tVar 1) (tPart (tVar 2)) tNoPart)) tNil)))))) tNext)
    (tSeq (tIfS (tNot (tTest (tChain rLeI rLtI (tC (.int 0)) (tVar 2) (tCB (rLenV K) (tCons (tVar 1) tNil))))) (tRet (tLst (tCons (tC (.str "path")) (tCons (tC (.bl true)) (tCons (tC (.bl true)) (tCons (tC (.bl false)) tNil)))))) tNext)
    (tSeq (tIfS (tTest (tOp (rEqG K) (tVar 0) (tC (.str "item")))) (tRet (tLst (tCons (tC (.str "item")) (tCons (tOp (rIx K) (tVar 1) (tVar 2)) tNil)))) tNext)
    (tRet (tLst (tCons (tC (.str "sheet")) (tCons (tOp (rAddG K) (tSl (rSlG K) (tVar 1) tNoPart (tPart (tVar 2))) (tSl (rSlG K) (tVar 1) (tPart (tOp (rAddG K) (tVar 2) (tC (.int 1)))) tNoPart)) tNil)))))))
def t__law_sum_due (K : PySem.W.Frag) : TS :=
    (tSeq (tIfS (tTest (tOp rGtI (tCB (rLenV K) (tCons (tVar 0) tNil)) (tC (.int 12)))) (tRet (tLst (tCons (tC (.str "large")) (tCons (tC (.bl true)) (tCons (tC (.bl true)) (tCons (tC (.bl false)) tNil)))))) tNext)
    (tRet (tLst (tCons (tC (.str "sheet")) (tCons (tVar 0) tNil)))))
def t__law_places_right (K : PySem.W.Frag) (c_Sheet : Addr) (ap__law_deed : AP) (ap__law_same : AP) (ap__law_due : AP) (ap__law_properties : AP) (ap_Sheet___contains__ : AP) : TS :=
    (tSeq (tFor (iRng2 (tCons (tOp rSubI (tC (.int 0)) (tC (.int 3))) (tCons (tOp (rAddG K) (tCB (rLenV K) (tCons (tVar 1) tNil)) (tC (.int 4))) tNil))) (gName 3) (tFor (iList K (tLst (tCons (tC (.str "item")) (tCons (tC (.str "with")) (tCons (tC (.str "without")) (tCons (tC (.str "item")) tNil)))))) (gName 4) (tSeq (tAsg (tCall (toSp K ap__law_deed) [] E0 (tCons (tVar 4) (tCons (tVar 0) (tCons (tVar 3) (tCons (tVar 2) tNil))))) (gName 5))
    (tIfS (tNot (tB (tCall (toSp K ap__law_same) [] E0 (tCons (tVar 5) (tCons (tCall (toSp K ap__law_due) [] E0 (tCons (tVar 4) (tCons (tVar 1) (tCons (tVar 3) (tCons (tVar 2) tNil))))) tNil))))) (tRet (tC (.bl false))) tNext))))
    (tSeq (tFor (iList K (tOp (rAddG K) (tCall (toSp K ap__law_properties) [] E0 tNil) (tLst (tCons (tC (.str "colour")) (tCons (tC (.str "Size")) (tCons (tC (.str "")) tNil)))))) (gName 6) (tSeq (tAsg (tC (.bl false)) (gName 7))
    (tSeq (tFor (iList K (tVar 1)) (gName 8) (tAsg (tOrV (tVar 7) (tOp (rInG K) (tVar 6) (tLc (iTup K (tOp (rIx K) (tVar 8) (tC (.int 1)))) (gName 9) tYes (tOp (rIx K) (tVar 9) (tC (.int 0))) [9]))) (gName 7)))
    (tIfS (tNot (tB (tCall (toSp K ap__law_same) [] E0 (tCons (tOp (rInO c_Sheet (toSp K ap_Sheet___contains__) E0 false) (tVar 6) (tVar 0)) (tCons (tVar 7) tNil))))) (tRet (tC (.bl false))) tNext))))
    (tRet (tC (.bl true)))))
def t__law_sums_right (K : PySem.W.Frag) (c_Sheet : Addr) (ap__law_sum_due : AP) (ap__law_same : AP) (ap__law_deed : AP) (ap__law_joint : AP) (ai_Sheet : AIX) (ap_joined : APX) (ap__law_rows_of : AP) : TS :=
    (tSeq (tFor (iRng1 (tCons (tC (.int 3)) tNil)) (gName 2) (tFor (iRng1 (tCons (tC (.int 3)) tNil)) (gName 3) (tSeq (tAsg (tCall (toSp K ap__law_sum_due) [] E0 (tCons (tOp (rAddG K) (tOp (rIx K) (tVar 1) (tVar 2)) (tOp (rIx K) (tVar 1) (tVar 3))) tNil)) (gName 4))
    (tSeq (tIfS (tNot (tB (tCall (toSp K ap__law_same) [] E0 (tCons (tCall (toSp K ap__law_deed) [] E0 (tCons (tC (.str "sum")) (tCons (tOp (rIx K) (tVar 0) (tVar 2)) (tCons (tC (.int 0)) (tCons (tOp (rIx K) (tVar 0) (tVar 3)) tNil))))) (tCons (tVar 4) tNil))))) (tRet (tC (.bl false))) tNext)
    (tIfS (tNot (tB (tCall (toSp K ap__law_same) [] E0 (tCons (tCall (toSp K ap__law_joint) [] E0 (tCons (tLst (tCons (tOp (rIx K) (tVar 0) (tVar 2)) (tCons (tOp (rIx K) (tVar 0) (tVar 3)) tNil))) tNil)) (tCons (tVar 4) tNil))))) (tRet (tC (.bl false))) tNext)))))
    (tSeq (tAsg (tOp (rAddG K) (tOp (rAddG K) (tOp (rIx K) (tVar 1) (tC (.int 0))) (tOp (rIx K) (tVar 1) (tC (.int 1)))) (tOp (rIx K) (tVar 1) (tC (.int 2)))) (gName 5))
    (tSeq (tIfS (tNot (tB (tCall (toSp K ap__law_same) [] E0 (tCons (tCall (toSp K ap__law_deed) [] E0 (tCons (tC (.str "made")) (tCons (tOp (rIx K) (tVar 0) (tC (.int 0))) (tCons (tC (.int 0)) (tCons (tCB (rListOf K) (tCons (tVar 5) tNil)) tNil))))) (tCons (tCall (toSp K ap__law_sum_due) [] E0 (tCons (tVar 5) tNil)) tNil))))) (tRet (tC (.bl false))) tNext)
    (tSeq (tIfS (tNot (tB (tCall (toSp K ap__law_same) [] E0 (tCons (tCall (toSp K ap__law_joint) [] E0 (tCons (tVar 0) tNil)) (tCons (tCall (toSp K ap__law_sum_due) [] E0 (tCons (tVar 5) tNil)) tNil))))) (tRet (tC (.bl false))) tNext)
    (tSeq (tIfS (tNot (tB (tCall (toSp K ap__law_same) [] E0 (tCons (tCall (toSp K ap__law_joint) [] E0 (tCons (tLst tNil) tNil)) (tCons (tLst (tCons (tC (.str "sheet")) (tCons (tLst tNil) tNil))) tNil))))) (tRet (tC (.bl false))) tNext)
    (tSeq (tAsg (tLc (iList K (tVar 1)) (gName 8) tYes (tMake c_Sheet (toSpIX K c_Sheet ai_Sheet) [] E0 (tCons (tSl (rSlG K) (tVar 8) tNoPart (tPart (tC (.int 2)))) tNil)) [8]) (gName 6))
    (tSeq (tAsg (tCallS (toSpSt K ap_joined) (fun _ => E0) (tCons (tOp (rIx K) (tVar 6) (tC (.int 0))) (tCons (tOp (rIx K) (tVar 6) (tC (.int 1))) (tCons (tOp (rIx K) (tVar 6) (tC (.int 2))) (tCons (tOp (rIx K) (tVar 6) (tC (.int 1))) (tCons (tOp (rIx K) (tVar 6) (tC (.int 0))) tNil)))))) (gName 7))
    (tSeq (tAsg (tOp (rAddG K) (tOp (rAddG K) (tOp (rAddG K) (tOp (rAddG K) (tSl (rSlG K) (tOp (rIx K) (tVar 1) (tC (.int 0))) tNoPart (tPart (tC (.int 2)))) (tSl (rSlG K) (tOp (rIx K) (tVar 1) (tC (.int 1))) tNoPart (tPart (tC (.int 2))))) (tSl (rSlG K) (tOp (rIx K) (tVar 1) (tC (.int 2))) tNoPart (tPart (tC (.int 2))))) (tSl (rSlG K) (tOp (rIx K) (tVar 1) (tC (.int 1))) tNoPart (tPart (tC (.int 2))))) (tSl (rSlG K) (tOp (rIx K) (tVar 1) (tC (.int 0))) tNoPart (tPart (tC (.int 2))))) (gName 4))
    (tSeq (tIfS (tNot (tB (tCall (toSp K ap__law_same) [] E0 (tCons (tCall (toSp K ap__law_rows_of) [] E0 (tCons (tVar 7) tNil)) (tCons (tVar 4) tNil))))) (tRet (tC (.bl false))) tNext)
    (tRet (tCall (toSp K ap__law_same) [] E0 (tCons (tCall (toSp K ap__law_joint) [] E0 (tCons (tSl (rSlG K) (tVar 0) tNoPart (tPart (tC (.int 1)))) tNil)) (tCons (tLst (tCons (tC (.str "sheet")) (tCons (tOp (rIx K) (tVar 1) (tC (.int 0))) tNil))) tNil)))))))))))))
def t_law (K : PySem.W.Frag) (c_Sheet : Addr) (ap__law_pool : AP) (ap__law_any_names : AP) (ap__law_take : AP) (ap__law_row : AP) (ap__law_rules : AP) (ai_Sheet : AIX) (ap__law_same : AP) (ap__law_places_right : AP) (ap__law_sums_right : AP) (ap__law_rows_of : AP) : TS :=
    (tSeq (tAsg (tCall (toSp K ap__law_pool) [] E0 (tCons (tVar 0) (tCons (tC (.int 0)) tNil))) (gName 1))
    (tSeq (tAsg (tCall (toSp K ap__law_any_names) [] E0 (tCons (tVar 1) (tCons (tC (.int 8)) tNil))) (gName 2))
    (tSeq (tAsg (tSl (rSlG K) (tVar 2) tNoPart (tPart (tOp (rAddG K) (tC (.int 1)) (tCall (toSp K ap__law_take) [] E0 (tCons (tVar 1) (tCons (tC (.int 4)) tNil)))))) (gName 3))
    (tSeq (tAsg (tSl (rSlG K) (tVar 2) (tPart (tC (.int 4))) (tPart (tOp (rAddG K) (tC (.int 4)) (tCall (toSp K ap__law_take) [] E0 (tCons (tVar 1) (tCons (tC (.int 5)) tNil)))))) (gName 4))
    (tSeq (tAsg (tCall (toSp K ap__law_pool) [] E0 (tCons (tVar 0) (tCons (tC (.int 2)) tNil))) (gName 5))
    (tSeq (tAsg (tLst (tCons (tCall (toSp K ap__law_row) [] E0 (tCons (tCall (toSp K ap__law_pool) [] E0 (tCons (tVar 0) (tCons (tC (.int 1)) tNil))) (tCons (tVar 3) (tCons (tVar 4) tNil)))) (tCons (tCall (toSp K ap__law_row) [] E0 (tCons (tVar 5) (tCons (tVar 3) (tCons (tVar 4) tNil)))) tNil))) (gName 6))
    (tSeq (tDrop (tBM K "list" rAppend (tVar 6) (tCons (tCall (toSp K ap__law_row) [] E0 (tCons (tVar 5) (tCons (tVar 3) (tCons (tVar 4) tNil)))) tNil)))
    (tSeq (tAsg (tOp (rIx K) (tCall (toSp K ap__law_rules) [] E0 (tCons (tVar 5) (tCons (tVar 3) (tCons (tVar 4) (tCons (tC (.int 1)) (tCons (tC (.int 2)) (tCons (tC (.int 2)) tNil))))))) (tC (.int 0))) (gName 7))
    (tSeq (tAsg (tLst (tCons (tMake c_Sheet (toSpIX K c_Sheet ai_Sheet) [] E0 (tCons (tCB (rListOf K) (tCons (tOp (rIx K) (tVar 6) (tC (.int 0))) tNil)) tNil)) (tCons (tMake c_Sheet (toSpIX K c_Sheet ai_Sheet) [] E0 (tCons (tCB (rTupleOf K) (tCons (tOp (rIx K) (tVar 6) (tC (.int 1))) tNil)) tNil)) (tCons (tMake c_Sheet (toSpIX K c_Sheet ai_Sheet) [] E0 (tCons (tCB (rListOf K) (tCons (tOp (rIx K) (tVar 6) (tC (.int 2))) tNil)) tNil)) tNil)))) (gName 8))
    (tSeq (tIfS (tNot (tB (tCall (toSp K ap__law_same) [] E0 (tCons (tC (.int 12)) (tCons (tC (.int 12)) tNil))))) (tRet (tC (.bl false))) tNext)
    (tSeq (tFor (iRng1 (tCons (tC (.int 3)) tNil)) (gName 9) (tIfS (tNot (tB (tCall (toSp K ap__law_places_right) [] E0 (tCons (tOp (rIx K) (tVar 8) (tVar 9)) (tCons (tOp (rIx K) (tVar 6) (tVar 9)) (tCons (tVar 7) tNil)))))) (tRet (tC (.bl false))) tNext))
    (tSeq (tIfS (tNot (tB (tCall (toSp K ap__law_sums_right) [] E0 (tCons (tVar 8) (tCons (tVar 6) tNil))))) (tRet (tC (.bl false))) tNext)
    (tSeq (tFor (iRng1 (tCons (tC (.int 3)) tNil)) (gName 9) (tIfS (tNot (tB (tCall (toSp K ap__law_same) [] E0 (tCons (tCall (toSp K ap__law_rows_of) [] E0 (tCons (tOp (rIx K) (tVar 8) (tVar 9)) tNil)) (tCons (tOp (rIx K) (tVar 6) (tVar 9)) tNil))))) (tRet (tC (.bl false))) tNext))
    (tRet (tC (.bl true))))))))))))))))
section
variable {P : Program} {w : World} {K : PySem.W.Frag} {mg : Str → Option Value} {base : Heap}
theorem ok_len_Sheet (T : Txt K mg) : FnOk P w K mg base CX0 1 T.f_Sheet___len__ T.fd_Sheet___len__ ["self"] (spLenT K T.c_Sheet "rule_row") := fn_lenT T.F_Sheet___len__ sc_Sheet___len__ T.co_Sheet.cl T.na_Sheet_rule_row (fun cdv A outer s H E hr => pss_one (ps_ret (pe_callB call_len (by rfl) T.m_len bi_len (pa_cons (pe_fld (pv 0) rfl) pa_nil))))
theorem ok_it_Sheet (T : Txt K mg) : FnItT P w K mg base 1 T.f_Sheet___iter__ T.c_Sheet "rule_row" := fn_itT T.F_Sheet___iter__ sc_Sheet___iter__ T.b_Sheet___iter__ T.co_Sheet.cl T.na_Sheet_rule_row (fun cdv A outer s H E hr => pss_one (ps_ret (pe_callB call_iterT (by rfl) T.m_iter (by decide +kernel) (pa_cons (pe_fld (pv 0) rfl) pa_nil))))
theorem tm_Sheet___init__ (T : Txt K mg) (cdv : Value) (A : Around) (outer : List PySem.Env) (s : Shared) (H : Hp) (E : XK) (hr : Room 0 (A.deeper (PyProof.Rows.envOfC "Sheet.__init__" (defScope s_Sheet___init__) s.heap.objs.size T.f_Sheet___init__ cdv))) :
    PSs (cxOf (L2.CX P w) P w K mg base ["self", "rules"] "Sheet.__init__" (defScope s_Sheet___init__) T.f_Sheet___init__ cdv A outer s H E) (defBody s_Sheet___init__) (t_Sheet___init__ K T.c_TooLarge (fun cls d _ H' => E cls d H')) := 
      (pss_cons (ps_if (pt_cmpR op_gt (pe_callB call_len (by rfl) T.m_len bi_len (pa_cons (pv 1) pa_nil)) (pe_cvalN rfl (by rfl) T.g_Sheet T.cr_Sheet T.cw_Sheet_LIMIT rfl) (nomark _)) (pss_one (ps_raise rfl (takes_of rfl rfl rfl rfl) (pmk_own PySem.F.excBase_ValueError T.x_TooLarge T.g_TooLarge T.kx_TooLarge (raises_own T.bs_TooLarge T.tx_TooLarge) (by rfl)))) pss_nil)
      (pss_one (ps_fld (pv 0) (pe_callTy call_tuple_of (by rfl) T.m_tuple bi_tuple (pa_cons (pv 1) pa_nil)) rfl)))
theorem tm_Sheet___getitem__ (T : Txt K mg) (cdv : Value) (A : Around) (outer : List PySem.Env) (s : Shared) (H : Hp) (E : XK) (hr : Room 0 (A.deeper (PyProof.Rows.envOfC "Sheet.__getitem__" (defScope s_Sheet___getitem__) s.heap.objs.size T.f_Sheet___getitem__ cdv))) :
    PSs (cxOf (L2.CX P w) P w K mg base ["self", "at"] "Sheet.__getitem__" (defScope s_Sheet___getitem__) T.f_Sheet___getitem__ cdv A outer s H E) (defBody s_Sheet___getitem__) (t_Sheet___getitem__ K T.c_BadPath (fun cls d _ H' => E cls d H')) := 
      (pss_cons (ps_if (pt_not (pt_chain op_le op_lt pe_int (pv 1) (pe_callB call_len (by rfl) T.m_len bi_len (pa_cons (pe_fld (pv 0) rfl) pa_nil)))) (pss_one (ps_raise rfl (takes_of rfl rfl rfl rfl) (pmk_own PySem.F.excBase_ValueError T.x_BadPath T.g_BadPath T.kx_BadPath (raises_own T.bs_BadPath T.tx_BadPath) (by rfl)))) pss_nil)
      (pss_one (ps_ret (pe_ix ix_seq (pe_fld (pv 0) rfl) (pv 1) (fun _ _ => rfl)))))
theorem tm_Sheet___contains__ (T : Txt K mg) (cdv : Value) (A : Around) (outer : List PySem.Env) (s : Shared) (H : Hp) (E : XK) (hr : Room 0 (A.deeper (PyProof.Rows.envOfC "Sheet.__contains__" (defScope s_Sheet___contains__) s.heap.objs.size T.f_Sheet___contains__ cdv))) :
    PSs (cxOf CX0 P w K mg base ["self", "name", "rule", "declaration"] "Sheet.__contains__" (defScope s_Sheet___contains__) T.f_Sheet___contains__ cdv A outer s H E).nox (defBody s_Sheet___contains__) (t_Sheet___contains__ K) := 
      (pss_cons (ps_for PassesOwn.never rfl (pi_tup (pe_fld (pv 0) rfl)) (pg_name (i := 2) sc_Sheet___contains__.nd rfl (Or.inl rfl)) (pss_one (ps_for PassesOwn.never rfl (pi_tup (pe_ix ix_seq (pv 2) pe_int (fun _ _ => rfl))) (pg_name (i := 3) sc_Sheet___contains__.nd rfl (Or.inl rfl)) (pss_one (ps_if (pt_cmpR (op_eqG hr.units) (pe_ix ix_seq (pv 3) pe_int (fun _ _ => rfl)) (pv 1) (nomark _)) (pss_one (ps_ret pe_bl)) pss_nil)))))
      (pss_one (ps_ret pe_bl)))
theorem tm_Sheet___add__ {ai_Sheet : AIX} (T : Txt K mg) (G_Sheet___init__ : FnOk P w K mg base (L2.CX P w) 1 T.f_Sheet___init__ T.fd_Sheet___init__ ["self", "rules"] (toSpIX K T.c_Sheet ai_Sheet)) (cdv : Value) (A : Around) (outer : List PySem.Env) (s : Shared) (H : Hp) (E : XK) (hr : Room 2 (A.deeper (PyProof.Rows.envOfC "Sheet.__add__" (defScope s_Sheet___add__) s.heap.objs.size T.f_Sheet___add__ cdv))) :
    PSs (cxOf (L2.CX P w) P w K mg base ["self", "other"] "Sheet.__add__" (defScope s_Sheet___add__) T.f_Sheet___add__ cdv A outer s H E) (defBody s_Sheet___add__) (t_Sheet___add__ K T.c_Sheet ai_Sheet (fun cls d _ H' => E cls d H')) := 
      (pss_cons (ps_if (pt_not (pt_val (pe_callB call_isi (by rfl) T.m_isinstance bi_isinstance (pa_cons (pv 1) (pa_cons (pe_glob (v := .ref T.c_Sheet) (by rfl) T.g_Sheet rfl) pa_nil))))) (pss_one ps_never) pss_nil)
      (pss_one (ps_ret (pe_makeS T.mk_Sheet G_Sheet___init__ (hr.mono (by decide)) (by rfl) T.g_Sheet T.b_Sheet___init__ (fun σ => passAt (takes_of rfl rfl rfl rfl) σ) (pa_cons (pe_op op_addG (pe_fld (pv 0) rfl) (pe_fld (pv 1) rfl)) pa_nil)))))
theorem tm_Sheet_with_rule {ai_Sheet : AIX} (T : Txt K mg) (G_Sheet___init__ : FnOk P w K mg base (L2.CX P w) 1 T.f_Sheet___init__ T.fd_Sheet___init__ ["self", "rules"] (toSpIX K T.c_Sheet ai_Sheet)) (cdv : Value) (A : Around) (outer : List PySem.Env) (s : Shared) (H : Hp) (E : XK) (hr : Room 2 (A.deeper (PyProof.Rows.envOfC "Sheet.with_rule" (defScope s_Sheet_with_rule) s.heap.objs.size T.f_Sheet_with_rule cdv))) :
    PSs (cxOf (L2.CX P w) P w K mg base ["self", "at", "rule"] "Sheet.with_rule" (defScope s_Sheet_with_rule) T.f_Sheet_with_rule cdv A outer s H E) (defBody s_Sheet_with_rule) (t_Sheet_with_rule K T.c_Sheet T.c_BadPath ai_Sheet (fun cls d _ H' => E cls d H')) := 
      (pss_cons (ps_if (pt_not (pt_chain op_le op_le pe_int (pv 1) (pe_callB call_len (by rfl) T.m_len bi_len (pa_cons (pe_fld (pv 0) rfl) pa_nil)))) (pss_one (ps_raise rfl (takes_of rfl rfl rfl rfl) (pmk_own PySem.F.excBase_ValueError T.x_BadPath T.g_BadPath T.kx_BadPath (raises_own T.bs_BadPath T.tx_BadPath) (by rfl)))) pss_nil)
      (pss_one (ps_ret (pe_makeS T.mk_Sheet G_Sheet___init__ (hr.mono (by decide)) (by rfl) T.g_Sheet T.b_Sheet___init__ (fun σ => passAt (takes_of rfl rfl rfl rfl) σ) (pa_cons (pe_op op_addG (pe_op op_addG (pe_slice sl_G (pe_fld (pv 0) rfl) po_none (po_some (pv 1))) (pe_tup (pa_cons (pv 2) pa_nil))) (pe_slice sl_G (pe_fld (pv 0) rfl) (po_some (pv 1)) po_none)) pa_nil)))))
theorem tm_Sheet_without_rule {ai_Sheet : AIX} (T : Txt K mg) (G_Sheet___init__ : FnOk P w K mg base (L2.CX P w) 1 T.f_Sheet___init__ T.fd_Sheet___init__ ["self", "rules"] (toSpIX K T.c_Sheet ai_Sheet)) (cdv : Value) (A : Around) (outer : List PySem.Env) (s : Shared) (H : Hp) (E : XK) (hr : Room 2 (A.deeper (PyProof.Rows.envOfC "Sheet.without_rule" (defScope s_Sheet_without_rule) s.heap.objs.size T.f_Sheet_without_rule cdv))) :
    PSs (cxOf (L2.CX P w) P w K mg base ["self", "at"] "Sheet.without_rule" (defScope s_Sheet_without_rule) T.f_Sheet_without_rule cdv A outer s H E) (defBody s_Sheet_without_rule) (t_Sheet_without_rule K T.c_Sheet T.c_BadPath ai_Sheet (fun cls d _ H' => E cls d H')) := 
      (pss_cons (ps_if (pt_not (pt_chain op_le op_lt pe_int (pv 1) (pe_callB call_len (by rfl) T.m_len bi_len (pa_cons (pe_fld (pv 0) rfl) pa_nil)))) (pss_one (ps_raise rfl (takes_of rfl rfl rfl rfl) (pmk_own PySem.F.excBase_ValueError T.x_BadPath T.g_BadPath T.kx_BadPath (raises_own T.bs_BadPath T.tx_BadPath) (by rfl)))) pss_nil)
      (pss_one (ps_ret (pe_makeS T.mk_Sheet G_Sheet___init__ (hr.mono (by decide)) (by rfl) T.g_Sheet T.b_Sheet___init__ (fun σ => passAt (takes_of rfl rfl rfl rfl) σ) (pa_cons (pe_op op_addG (pe_slice sl_G (pe_fld (pv 0) rfl) po_none (po_some (pv 1))) (pe_slice sl_G (pe_fld (pv 0) rfl) (po_some (pe_op op_addG (pv 1) pe_int)) po_none)) pa_nil)))))
theorem tm_joined {ai_Sheet : AIX} {ap_Sheet___add__ : APX} (T : Txt K mg) (G_Sheet___init__ : FnOk P w K mg base (L2.CX P w) 1 T.f_Sheet___init__ T.fd_Sheet___init__ ["self", "rules"] (toSpIX K T.c_Sheet ai_Sheet)) (G_Sheet___add__ : FnOk P w K mg base (L2.CX P w) 3 T.f_Sheet___add__ T.fd_Sheet___add__ ["self", "other"] (toSpX K ap_Sheet___add__)) (cdv : Value) (A : Around) (outer : List PySem.Env) (s : Shared) (H : Hp) (E : XK) (hr : Room 3 (A.deeper (PyProof.Rows.envOfC "joined" (defScope s_joined) s.heap.objs.size T.f_joined cdv))) :
    PSs (cxOf (L2.CX P w) P w K mg base ["sheets", "total", "sheet"] "joined" (defScope s_joined) T.f_joined cdv A outer s H E) (defBody s_joined) (t_joined K T.c_Sheet ai_Sheet ap_Sheet___add__ (fun cls d _ H' => E cls d H')) := 
      (pss_cons (ps_set (i := 1) sc_joined.nd rfl (Or.inl rfl) (pe_makeS T.mk_Sheet G_Sheet___init__ (hr.mono (by decide)) (by rfl) T.g_Sheet T.b_Sheet___init__ (fun σ => passAt (takes_of rfl rfl rfl rfl) σ) (pa_cons (pe_tup pa_nil) pa_nil)))
      (pss_cons (ps_for (passes_of rfl) rfl (pi_tup (pv 0)) (pg_name (i := 2) sc_joined.nd rfl (Or.inl rfl)) (pss_one (ps_set (i := 1) sc_joined.nd rfl (Or.inl rfl) (pe_own2 (pv 1) (pv 2) G_Sheet___add__ (hr.mono (by decide)) T.sf_Sheet T.op_Sheet___add__ T.mt_Sheet___add__.fn T.b_Sheet___add__ (fun σ => passAt (takes_of rfl rfl rfl rfl) σ)))))
      (pss_one (ps_ret (pv 1)))))
theorem tm__law_pool (T : Txt K mg) (cdv : Value) (A : Around) (outer : List PySem.Env) (s : Shared) (H : Hp) (E : XK) (hr : Room 0 (A.deeper (PyProof.Rows.envOfC "_law_pool" (defScope s__law_pool) s.heap.objs.size T.f__law_pool cdv))) :
    PSs (cxOf CX0 P w K mg base ["_law_script", "_law_at", "_law_cell"] "_law_pool" (defScope s__law_pool) T.f__law_pool cdv A outer s H E).nox (defBody s__law_pool) (t__law_pool K) := 
      (pss_cons (ps_set (i := 2) sc__law_pool.nd rfl (Or.inl rfl) pe_int)
      (pss_cons (ps_if (pt_cmpR (op_ltG hr.units0) (pv 1) (pe_callB call_len (by rfl) T.m_len bi_len (pa_cons (pv 0) pa_nil)) (nomark _)) (pss_one (ps_set (i := 2) sc__law_pool.nd rfl (Or.inl rfl) (pe_callB call_abs (by rfl) T.m_abs bi_abs (pa_cons (pe_callTy call_int1 (by rfl) T.m_int bi_int (pa_cons (pe_ix ix_seq (pv 0) (pv 1) (fun _ _ => rfl)) pa_nil)) pa_nil)))) pss_nil)
      (pss_one (ps_ret (pe_lst (pa_cons (pv 2) (pa_cons pe_int (pa_cons (pe_callTy call_int1 (by rfl) T.m_int bi_int (pa_cons (pe_cmpR op_ge (pv 2) (pe_op op_pow pe_int pe_int) (nomark _)) pa_nil)) (pa_cons (pe_op op_mod (pe_callTy call_int1 (by rfl) T.m_int bi_int (pa_cons (pe_op op_addG (pv 2) (pe_op op_mulG (pv 1) pe_int)) pa_nil)) pe_int) (pa_cons pe_int pa_nil))))))))))
theorem tm__law_take (T : Txt K mg) (cdv : Value) (A : Around) (outer : List PySem.Env) (s : Shared) (H : Hp) (E : XK) (hr : Room 0 (A.deeper (PyProof.Rows.envOfC "_law_take" (defScope s__law_take) s.heap.objs.size T.f__law_take cdv))) :
    PSs (cxOf CX0 P w K mg base ["_law_pool_here", "_law_many", "_law_got", "_law_one", "_law_two"] "_law_take" (defScope s__law_take) T.f__law_take cdv A outer s H E).nox (defBody s__law_take) (t__law_take K) := 
      (pss_cons (ps_asg (pe_op op_addG (pe_ix ix_seq (pv 0) pe_int (fun _ _ => rfl)) pe_int) (pg_sub (pv 0) pe_int set_list))
      (pss_cons (ps_if (PW.pt (pw_and (pt_cmpR (op_eqG hr.units) (pe_ix ix_seq (pv 0) pe_int (fun _ _ => rfl)) pe_int (nomark _)) (pw_and1 (pt_cmpR op_gt (pe_ix ix_seq (pv 0) pe_int (fun _ _ => rfl)) pe_int (nomark _))))) (pss_cons (ps_set (i := 2) sc__law_take.nd rfl (Or.inl rfl) (pe_op op_mod (pe_callTy call_int1 (by rfl) T.m_int bi_int (pa_cons (pe_ix ix_seq (pv 0) pe_int (fun _ _ => rfl)) pa_nil)) (pv 1)))
      (pss_cons (ps_asg (pe_op op_fdivW (pe_ix ix_seq (pv 0) pe_int (fun _ _ => rfl)) (pv 1)) (pg_sub (pv 0) pe_int set_list))
      (pss_one (ps_ret (pv 2))))) pss_nil)
      (pss_cons (ps_set (i := 3) sc__law_take.nd rfl (Or.inl rfl) (pe_op op_mod (pe_callTy call_int1 (by rfl) T.m_int bi_int (pa_cons (pe_op op_addG (pe_op op_addG (pe_op op_mulG (pe_ix ix_seq (pv 0) pe_int (fun _ _ => rfl)) pe_int) (pe_op op_mulG (pe_ix ix_seq (pv 0) pe_int (fun _ _ => rfl)) pe_int)) pe_int) pa_nil)) pe_int))
      (pss_cons (ps_set (i := 4) sc__law_take.nd rfl (Or.inl rfl) (pe_op op_mod (pe_callTy call_int1 (by rfl) T.m_int bi_int (pa_cons (pe_op op_addG (pe_op op_addG (pe_op op_mulG (pv 3) pe_int) (pe_op op_fdivW (pv 3) pe_int)) (pe_op op_mulG (pe_op op_mulG (pe_ix ix_seq (pv 0) pe_int (fun _ _ => rfl)) (pe_ix ix_seq (pv 0) pe_int (fun _ _ => rfl))) pe_int)) pa_nil)) pe_int))
      (pss_one (ps_ret (pe_op op_mod (pe_callTy call_int1 (by rfl) T.m_int bi_int (pa_cons (pe_op op_fdivW (pv 4) (pe_op op_addG (pe_ix ix_seq (pv 0) pe_int (fun _ _ => rfl)) pe_int)) pa_nil)) (pv 1))))))))
theorem tm__law_same {ap__law_same : AP} (T : Txt K mg) {k : Nat} (G__law_same : FnOk P w K mg base CX0 k T.f__law_same T.fd__law_same ["_law_one", "_law_two"] (toSp K ap__law_same)) (cdv : Value) (A : Around) (outer : List PySem.Env) (s : Shared) (H : Hp) (E : XK) (hr : Room k (A.deeper (PyProof.Rows.envOfC "_law_same" (defScope s__law_same) s.heap.objs.size T.f__law_same cdv))) :
    PSs (cxOf CX0 P w K mg base ["_law_one", "_law_two", "_law_both", "_law_k"] "_law_same" (defScope s__law_same) T.f__law_same cdv A outer s H E).nox (defBody s__law_same) (t__law_same K ap__law_same) := 
      (pss_cons (ps_if (PW.pt (pw_or (pt_val (pe_callB call_isi (by rfl) T.m_isinstance bi_isinstance (pa_cons (pv 0) (pa_cons (pe_bltn (v := .ty "bool") (by rfl) T.m_bool bi_bool rfl) pa_nil)))) (pw_or1 (pt_val (pe_callB call_isi (by rfl) T.m_isinstance bi_isinstance (pa_cons (pv 1) (pa_cons (pe_bltn (v := .ty "bool") (by rfl) T.m_bool bi_bool rfl) pa_nil))))))) (pss_one (ps_ret (pe_and (pe_callB call_isi (by rfl) T.m_isinstance bi_isinstance (pa_cons (pv 0) (pa_cons (pe_bltn (v := .ty "bool") (by rfl) T.m_bool bi_bool rfl) pa_nil))) (pe_and (pe_callB call_isi (by rfl) T.m_isinstance bi_isinstance (pa_cons (pv 1) (pa_cons (pe_bltn (v := .ty "bool") (by rfl) T.m_bool bi_bool rfl) pa_nil))) (pe_one (pe_cmpR (op_eqG hr.units) (pv 0) (pv 1) (nomark _))))))) pss_nil)
      (pss_cons (ps_if (PW.pt (pw_and (pt_val (pe_callB call_isi (by rfl) T.m_isinstance bi_isinstance (pa_cons (pv 0) (pa_cons (pe_bltn (v := .ty "int") (by rfl) T.m_int bi_int rfl) pa_nil)))) (pw_and1 (pt_val (pe_callB call_isi (by rfl) T.m_isinstance bi_isinstance (pa_cons (pv 1) (pa_cons (pe_bltn (v := .ty "int") (by rfl) T.m_int bi_int rfl) pa_nil))))))) (pss_one (ps_ret (pe_cmpR (op_eqG hr.units) (pv 0) (pv 1) (nomark _)))) pss_nil)
      (pss_cons (ps_if (PW.pt (pw_and (pt_val (pe_callB call_isi (by rfl) T.m_isinstance bi_isinstance (pa_cons (pv 0) (pa_cons (pe_bltn (v := .ty "str") (by rfl) T.m_str bi_str rfl) pa_nil)))) (pw_and1 (pt_val (pe_callB call_isi (by rfl) T.m_isinstance bi_isinstance (pa_cons (pv 1) (pa_cons (pe_bltn (v := .ty "str") (by rfl) T.m_str bi_str rfl) pa_nil))))))) (pss_one (ps_ret (pe_cmpR (op_eqG hr.units) (pv 0) (pv 1) (nomark _)))) pss_nil)
      (pss_cons (ps_set (i := 2) sc__law_same.nd rfl (Or.inl rfl) (pe_and (pe_callB call_isi (by rfl) T.m_isinstance bi_isinstance (pa_cons (pv 0) (pa_cons (pe_bltn (v := .ty "tuple") (by rfl) T.m_tuple bi_tuple rfl) pa_nil))) (pe_one (pe_callB call_isi (by rfl) T.m_isinstance bi_isinstance (pa_cons (pv 1) (pa_cons (pe_bltn (v := .ty "tuple") (by rfl) T.m_tuple bi_tuple rfl) pa_nil))))))
      (pss_cons (ps_if (PW.pt (pw_or (pt_val (pv 2)) (pw_or1 (PW.pt (pw_and (pt_val (pe_callB call_isi (by rfl) T.m_isinstance bi_isinstance (pa_cons (pv 0) (pa_cons (pe_bltn (v := .ty "list") (by rfl) T.m_list bi_list rfl) pa_nil)))) (pw_and1 (pt_val (pe_callB call_isi (by rfl) T.m_isinstance bi_isinstance (pa_cons (pv 1) (pa_cons (pe_bltn (v := .ty "list") (by rfl) T.m_list bi_list rfl) pa_nil)))))))))) (pss_cons (ps_if (pt_cmpR (op_neG hr.units) (pe_callB call_len (by rfl) T.m_len bi_len (pa_cons (pv 0) pa_nil)) (pe_callB call_len (by rfl) T.m_len bi_len (pa_cons (pv 1) pa_nil)) (nomark _)) (pss_one (ps_ret pe_bl)) pss_nil)
      (pss_cons (ps_for PassesOwn.never rfl (pi_range1 (by rfl) T.m_range (pa_cons (pe_callB call_len (by rfl) T.m_len bi_len (pa_cons (pv 0) pa_nil)) pa_nil)) (pg_name (i := 3) sc__law_same.nd rfl (Or.inl rfl)) (pss_one (ps_if (pt_not (pt_val (pe_call G__law_same hr (by rfl) T.g__law_same T.F__law_same.kp T.b__law_same .nil pass0 (pa_cons (pe_ix ix_seq (pv 0) (pv 3) (fun _ _ => rfl)) (pa_cons (pe_ix ix_seq (pv 1) (pv 3) (fun _ _ => rfl)) pa_nil))))) (pss_one (ps_ret pe_bl)) pss_nil)))
      (pss_one (ps_ret pe_bl)))) pss_nil)
      (pss_cons (ps_if (PW.pt (pw_and (pt_val (pe_callB call_isi (by rfl) T.m_isinstance bi_isinstance (pa_cons (pv 0) (pa_cons (pe_bltn (v := .ty "dict") (by rfl) T.m_dict bi_dict rfl) pa_nil)))) (pw_and1 (pt_val (pe_callB call_isi (by rfl) T.m_isinstance bi_isinstance (pa_cons (pv 1) (pa_cons (pe_bltn (v := .ty "dict") (by rfl) T.m_dict bi_dict rfl) pa_nil))))))) (pss_cons (ps_if (pt_not (pt_val (pe_call G__law_same hr (by rfl) T.g__law_same T.F__law_same.kp T.b__law_same .nil pass0 (pa_cons (pe_callTy (call_list_dK rfl) (by rfl) T.m_list bi_list (pa_cons (pv 0) pa_nil)) (pa_cons (pe_callTy (call_list_dK rfl) (by rfl) T.m_list bi_list (pa_cons (pv 1) pa_nil)) pa_nil))))) (pss_one (ps_ret pe_bl)) pss_nil)
      (pss_cons (ps_for PassesOwn.never rfl (pi_list (pe_callTy (call_list_dK rfl) (by rfl) T.m_list bi_list (pa_cons (pv 0) pa_nil))) (pg_name (i := 3) sc__law_same.nd rfl (Or.inl rfl)) (pss_one (ps_if (pt_not (pt_val (pe_call G__law_same hr (by rfl) T.g__law_same T.F__law_same.kp T.b__law_same .nil pass0 (pa_cons (pe_dget (Nat.lt_of_le_of_lt (Nat.add_le_add_left (Nat.le_of_ble_eq_true rfl : 1 ≤ 64) _) hr.units) (pv 0) (pv 3) (fun _ _ => rfl)) (pa_cons (pe_dget (Nat.lt_of_le_of_lt (Nat.add_le_add_left (Nat.le_of_ble_eq_true rfl : 1 ≤ 64) _) hr.units) (pv 1) (pv 3) (fun _ _ => rfl)) pa_nil))))) (pss_one (ps_ret pe_bl)) pss_nil)))
      (pss_one (ps_ret pe_bl)))) pss_nil)
      (pss_one (ps_ret (pe_and (pe_cmp (pc_isN (pv 0))) (pe_one (pe_cmp (pc_isN (pv 1)))))))))))))
theorem tm__law_letters {ap__law_take : AP} (T : Txt K mg) (G__law_take : FnOk P w K mg base CX0 1 T.f__law_take T.fd__law_take ["_law_pool_here", "_law_many"] (toSp K ap__law_take)) (cdv : Value) (A : Around) (outer : List PySem.Env) (s : Shared) (H : Hp) (E : XK) (hr : Room 1 (A.deeper (PyProof.Rows.envOfC "_law_letters" (defScope s__law_letters) s.heap.objs.size T.f__law_letters cdv))) :
    PSs (cxOf CX0 P w K mg base ["_law_pool_here", "_law_many", "_law_abc", "_law_k"] "_law_letters" (defScope s__law_letters) T.f__law_letters cdv A outer s H E).nox (defBody s__law_letters) (t__law_letters K ap__law_take) := 
      (pss_cons (ps_set (i := 2) sc__law_letters.nd rfl (Or.inr rfl) pe_str)
      (pss_one (ps_ret (pe_joinR pe_str (pe_lc (own := [("_law_k", 3)]) (g := (gName 3)) (tt := tYes) (by rfl) sc__law_letters.nd (pi_range1 (by rfl) T.m_range (pa_cons (pv 1) pa_nil)) (blkOk_by (own := [("_law_k", 3)]) (N := ["_law_pool_here", "_law_many", "_law_abc", "_law_k"]) (sc := defScope s__law_letters) (by decide +kernel)) (fun _ _ _ _ _ => (pg_name (i := 3) sc__law_letters.nd rfl (Or.inl rfl))) (fun _ _ _ _ _ => pts_nil) (fun _ _ _ _ _ => (pe_ix ix_seq (pv 2) (pe_call G__law_take (hr.mono (by decide)) (by rfl) T.g__law_take T.F__law_take.kp T.b__law_take .nil pass0 (pa_cons (pv 0) (pa_cons pe_int pa_nil))) (fun _ _ => rfl))))))))
theorem tm__law_names {ap__law_letters : AP} {ap__law_take : AP} (T : Txt K mg) (G__law_letters : FnOk P w K mg base CX0 2 T.f__law_letters T.fd__law_letters ["_law_pool_here", "_law_many"] (toSp K ap__law_letters)) (G__law_take : FnOk P w K mg base CX0 1 T.f__law_take T.fd__law_take ["_law_pool_here", "_law_many"] (toSp K ap__law_take)) (cdv : Value) (A : Around) (outer : List PySem.Env) (s : Shared) (H : Hp) (E : XK) (hr : Room 2 (A.deeper (PyProof.Rows.envOfC "_law_names" (defScope s__law_names) s.heap.objs.size T.f__law_names cdv))) :
    PSs (cxOf CX0 P w K mg base ["_law_pool_here", "_law_many", "_law_stem", "_law_at", "_law_begin", "_law_tails", "_law_abc", "_law_names_here", "_law_k", "_law_letter", "_law_tail"] "_law_names" (defScope s__law_names) T.f__law_names cdv A outer s H E).nox (defBody s__law_names) (t__law_names K ap__law_letters ap__law_take) := 
      (pss_cons (ps_set (i := 2) sc__law_names.nd rfl (Or.inl rfl) (pe_call G__law_letters (hr.mono (by decide)) (by rfl) T.g__law_letters T.F__law_letters.kp T.b__law_letters .nil pass0 (pa_cons (pv 0) (pa_cons (pe_call G__law_take (hr.mono (by decide)) (by rfl) T.g__law_take T.F__law_take.kp T.b__law_take .nil pass0 (pa_cons (pv 0) (pa_cons pe_int pa_nil))) pa_nil))))
      (pss_cons (ps_set (i := 3) sc__law_names.nd rfl (Or.inl rfl) (pe_call G__law_take (hr.mono (by decide)) (by rfl) T.g__law_take T.F__law_take.kp T.b__law_take .nil pass0 (pa_cons (pv 0) (pa_cons (pe_op op_addG (pe_callB call_len (by rfl) T.m_len bi_len (pa_cons (pv 2) pa_nil)) pe_int) pa_nil))))
      (pss_cons (ps_set (i := 4) sc__law_names.nd rfl (Or.inl rfl) (pe_call G__law_take (hr.mono (by decide)) (by rfl) T.g__law_take T.F__law_take.kp T.b__law_take .nil pass0 (pa_cons (pv 0) (pa_cons pe_int pa_nil))))
      (pss_cons (ps_set (i := 5) sc__law_names.nd rfl (Or.inl rfl) (pe_call G__law_take (hr.mono (by decide)) (by rfl) T.g__law_take T.F__law_take.kp T.b__law_take .nil pass0 (pa_cons (pv 0) (pa_cons pe_int pa_nil))))
      (pss_cons (ps_set (i := 6) sc__law_names.nd rfl (Or.inl rfl) pe_str)
      (pss_cons (ps_set (i := 7) sc__law_names.nd rfl (Or.inl rfl) (pe_lst pa_nil))
      (pss_cons (ps_for PassesOwn.never rfl (pi_range1 (by rfl) T.m_range (pa_cons (pv 1) pa_nil)) (pg_name (i := 8) sc__law_names.nd rfl (Or.inl rfl)) (pss_cons (ps_set (i := 9) sc__law_names.nd rfl (Or.inl rfl) (pe_ix ix_seq (pv 6) (pe_op op_mod (pe_callTy call_int1 (by rfl) T.m_int bi_int (pa_cons (pe_op op_addG (pv 4) (pv 8)) pa_nil)) pe_int) (fun _ _ => rfl)))
      (pss_cons (ps_set (i := 10) sc__law_names.nd rfl (Or.inl rfl) (pe_op op_repS pe_str (pe_op op_mulG (pv 5) (pe_op op_mod (pe_callTy call_int1 (by rfl) T.m_int bi_int (pa_cons (pv 8) pa_nil)) pe_int))))
      (pss_one (ps_expr (pe_bm PySem.F.plainAttrs_list PySem.F.slot_list_append PySem.F.type_list_append mt_append (pv 7) (pa_cons (pe_op op_addG (pe_op op_addG (pe_op op_addG (pe_slice sl_G (pv 2) po_none (po_some (pv 3))) (pv 9)) (pe_slice sl_G (pv 2) (po_some (pv 3)) po_none)) (pv 10)) pa_nil)))))))
      (pss_one (ps_ret (pv 7))))))))))
theorem tm__law_any_names {ap__law_take : AP} {ap__law_names : AP} {ap__law_letters : AP} (T : Txt K mg) (G__law_take : FnOk P w K mg base CX0 1 T.f__law_take T.fd__law_take ["_law_pool_here", "_law_many"] (toSp K ap__law_take)) (G__law_names : FnOk P w K mg base CX0 3 T.f__law_names T.fd__law_names ["_law_pool_here", "_law_many"] (toSp K ap__law_names)) (G__law_letters : FnOk P w K mg base CX0 2 T.f__law_letters T.fd__law_letters ["_law_pool_here", "_law_many"] (toSp K ap__law_letters)) (cdv : Value) (A : Around) (outer : List PySem.Env) (s : Shared) (H : Hp) (E : XK) (hr : Room 3 (A.deeper (PyProof.Rows.envOfC "_law_any_names" (defScope s__law_any_names) s.heap.objs.size T.f__law_any_names cdv))) :
    PSs (cxOf CX0 P w K mg base ["_law_pool_here", "_law_many", "_law_names_here", "_law_k", "_law_name", "_law_one"] "_law_any_names" (defScope s__law_any_names) T.f__law_any_names cdv A outer s H E).nox (defBody s__law_any_names) (t__law_any_names K ap__law_take ap__law_names ap__law_letters) := 
      (pss_cons (ps_if (pt_cmpR (op_eqG hr.units) (pe_call G__law_take (hr.mono (by decide)) (by rfl) T.g__law_take T.F__law_take.kp T.b__law_take .nil pass0 (pa_cons (pv 0) (pa_cons pe_int pa_nil))) pe_int (nomark _)) (pss_one (ps_ret (pe_call G__law_names (hr.mono (by decide)) (by rfl) T.g__law_names T.F__law_names.kp T.b__law_names .nil pass0 (pa_cons (pv 0) (pa_cons (pv 1) pa_nil))))) pss_nil)
      (pss_cons (ps_set (i := 2) sc__law_any_names.nd rfl (Or.inr rfl) (pe_lst pa_nil))
      (pss_cons (ps_for PassesOwn.never rfl (pi_range1 (by rfl) T.m_range (pa_cons (pv 1) pa_nil)) (pg_name (i := 3) sc__law_any_names.nd rfl (Or.inl rfl)) (pss_cons (ps_set (i := 4) sc__law_any_names.nd rfl (Or.inl rfl) (pe_call G__law_letters (hr.mono (by decide)) (by rfl) T.g__law_letters T.F__law_letters.kp T.b__law_letters .nil pass0 (pa_cons (pv 0) (pa_cons (pe_op op_addG pe_int (pe_call G__law_take (hr.mono (by decide)) (by rfl) T.g__law_take T.F__law_take.kp T.b__law_take .nil pass0 (pa_cons (pv 0) (pa_cons pe_int pa_nil)))) pa_nil))))
      (pss_cons (ps_if (pt_cmpR op_inG (pv 4) (pv 2) (by rfl)) (pss_one (ps_set (i := 4) sc__law_any_names.nd rfl (Or.inl rfl) (pe_ix ix_seq (pe_lc (own := [("_law_one", 5)]) (g := (gName 5)) (tt := (tTest (tOp (rIn K true) (tVar 5) (tVar 2)))) (by rfl) sc__law_any_names.nd (pi_str pe_str) (blkOk_by (own := [("_law_one", 5)]) (N := ["_law_pool_here", "_law_many", "_law_names_here", "_law_k", "_law_name", "_law_one"]) (sc := defScope s__law_any_names) (by decide +kernel)) (fun _ _ _ _ _ => (pg_name (i := 5) sc__law_any_names.nd rfl (Or.inl rfl))) (fun _ _ _ _ _ => (pts_one (pt_cmpR op_notIn_seq (pv 5) (pv 2) (by rfl)))) (fun _ _ _ _ _ => (pv 5))) pe_int (fun _ _ => rfl)))) pss_nil)
      (pss_one (ps_expr (pe_bm PySem.F.plainAttrs_list PySem.F.slot_list_append PySem.F.type_list_append mt_append (pv 2) (pa_cons (pv 4) pa_nil)))))))
      (pss_one (ps_ret (pv 2))))))
theorem tm__law_marks {ap__law_take : AP} (T : Txt K mg) (G__law_take : FnOk P w K mg base CX0 1 T.f__law_take T.fd__law_take ["_law_pool_here", "_law_many"] (toSp K ap__law_take)) (cdv : Value) (A : Around) (outer : List PySem.Env) (s : Shared) (H : Hp) (E : XK) (hr : Room 1 (A.deeper (PyProof.Rows.envOfC "_law_marks" (defScope s__law_marks) s.heap.objs.size T.f__law_marks cdv))) :
    PSs (cxOf CX0 P w K mg base ["_law_pool_here", "_law_names_here", "_law_marks_here", "_law_name", "_law_one"] "_law_marks" (defScope s__law_marks) T.f__law_marks cdv A outer s H E).nox (defBody s__law_marks) (t__law_marks K ap__law_take) := 
      (pss_cons (ps_set (i := 2) sc__law_marks.nd rfl (Or.inl rfl) (pe_lst pa_nil))
      (pss_cons (ps_for PassesOwn.never rfl (pi_list (pe_callB cr_sortedS (by rfl) T.m_sorted bi_sorted (pa_cons (pe_lc (own := [("_law_one", 4)]) (g := (gName 4)) (tt := tYes) (by rfl) sc__law_marks.nd (pi_list (pv 1)) (blkOk_by (own := [("_law_one", 4)]) (N := ["_law_pool_here", "_law_names_here", "_law_marks_here", "_law_name", "_law_one"]) (sc := defScope s__law_marks) (by decide +kernel)) (fun _ _ _ _ _ => (pg_name (i := 4) sc__law_marks.nd rfl (Or.inl rfl))) (fun _ _ _ _ _ => pts_nil) (fun _ _ _ _ _ => (pe_callTy call_strG (by rfl) T.m_str bi_str (pa_cons (pv 4) pa_nil)))) pa_nil))) (pg_name (i := 3) sc__law_marks.nd rfl (Or.inl rfl)) (pss_one (ps_if (PW.pt (pw_and (pt_cmpR (op_ltG hr.units0) (pe_callB call_len (by rfl) T.m_len bi_len (pa_cons (pv 2) pa_nil)) pe_int (nomark _)) (pw_and1 (pt_cmpR (op_eqG hr.units) (pe_call G__law_take (hr.mono (by decide)) (by rfl) T.g__law_take T.F__law_take.kp T.b__law_take .nil pass0 (pa_cons (pv 0) (pa_cons pe_int pa_nil))) pe_int (nomark _))))) (pss_one (ps_expr (pe_bm PySem.F.plainAttrs_list PySem.F.slot_list_append PySem.F.type_list_append mt_append (pv 2) (pa_cons (pv 3) pa_nil)))) pss_nil)))
      (pss_one (ps_ret (pe_callTy call_tuple_of (by rfl) T.m_tuple bi_tuple (pa_cons (pv 2) pa_nil))))))
theorem tm__law_properties (T : Txt K mg) (cdv : Value) (A : Around) (outer : List PySem.Env) (s : Shared) (H : Hp) (E : XK) (hr : Room 0 (A.deeper (PyProof.Rows.envOfC "_law_properties" (defScope s__law_properties) s.heap.objs.size T.f__law_properties cdv))) :
    PSs (cxOf CX0 P w K mg base [] "_law_properties" (defScope s__law_properties) T.f__law_properties cdv A outer s H E).nox (defBody s__law_properties) (t__law_properties K) := 
      (pss_one (ps_ret (pe_lst (pa_cons pe_str (pa_cons pe_str (pa_cons pe_str (pa_cons pe_str (pa_cons pe_str (pa_cons pe_str (pa_cons pe_str (pa_cons pe_str (pa_cons pe_str (pa_cons pe_str pa_nil)))))))))))))
theorem tm__law_selector {ap__law_take : AP} {ap__law_marks : AP} (T : Txt K mg) (G__law_take : FnOk P w K mg base CX0 1 T.f__law_take T.fd__law_take ["_law_pool_here", "_law_many"] (toSp K ap__law_take)) (G__law_marks : FnOk P w K mg base CX0 2 T.f__law_marks T.fd__law_marks ["_law_pool_here", "_law_names_here"] (toSp K ap__law_marks)) (cdv : Value) (A : Around) (outer : List PySem.Env) (s : Shared) (H : Hp) (E : XK) (hr : Room 2 (A.deeper (PyProof.Rows.envOfC "_law_selector" (defScope s__law_selector) s.heap.objs.size T.f__law_selector cdv))) :
    PSs (cxOf CX0 P w K mg base ["_law_pool_here", "_law_kinds", "_law_marks_here", "_law_longest", "_law_steps", "_law_k", "_law_joint_here", "_law_kind"] "_law_selector" (defScope s__law_selector) T.f__law_selector cdv A outer s H E).nox (defBody s__law_selector) (t__law_selector K ap__law_take ap__law_marks) := 
      (pss_cons (ps_set (i := 4) sc__law_selector.nd rfl (Or.inl rfl) (pe_lst pa_nil))
      (pss_cons (ps_for PassesOwn.never rfl (pi_range1 (by rfl) T.m_range (pa_cons (pe_op op_addG pe_int (pe_call G__law_take (hr.mono (by decide)) (by rfl) T.g__law_take T.F__law_take.kp T.b__law_take .nil pass0 (pa_cons (pv 0) (pa_cons (pv 3) pa_nil)))) pa_nil)) (pg_name (i := 5) sc__law_selector.nd rfl (Or.inl rfl)) (pss_cons (ps_set (i := 6) sc__law_selector.nd rfl (Or.inl rfl) (pe_ix ix_seq (pe_lst (pa_cons pe_str (pa_cons pe_str (pa_cons pe_str pa_nil)))) (pe_op op_mulG (pe_callTy call_int1 (by rfl) T.m_int bi_int (pa_cons (pe_cmpR op_gt (pv 5) pe_int (nomark _)) pa_nil)) (pe_op op_addG pe_int (pe_call G__law_take (hr.mono (by decide)) (by rfl) T.g__law_take T.F__law_take.kp T.b__law_take .nil pass0 (pa_cons (pv 0) (pa_cons pe_int pa_nil))))) (fun _ _ => rfl)))
      (pss_cons (ps_set (i := 7) sc__law_selector.nd rfl (Or.inl rfl) (pe_ix ix_seq (pe_op op_addG (pe_lst (pa_cons pe_str pa_nil)) (pv 1)) (pe_call G__law_take (hr.mono (by decide)) (by rfl) T.g__law_take T.F__law_take.kp T.b__law_take .nil pass0 (pa_cons (pv 0) (pa_cons (pe_op op_addG (pe_callB call_len (by rfl) T.m_len bi_len (pa_cons (pv 1) pa_nil)) pe_int) pa_nil))) (fun _ _ => rfl)))
      (pss_one (ps_expr (pe_bm PySem.F.plainAttrs_list PySem.F.slot_list_append PySem.F.type_list_append mt_append (pv 4) (pa_cons (pe_tup (pa_cons (pv 6) (pa_cons (pv 7) (pa_cons (pe_call G__law_marks (hr.mono (by decide)) (by rfl) T.g__law_marks T.F__law_marks.kp T.b__law_marks .nil pass0 (pa_cons (pv 0) (pa_cons (pv 2) pa_nil))) pa_nil)))) pa_nil)))))))
      (pss_one (ps_ret (pe_callTy call_tuple_of (by rfl) T.m_tuple bi_tuple (pa_cons (pv 4) pa_nil))))))
theorem tm__law_value {ap__law_take : AP} (T : Txt K mg) (G__law_take : FnOk P w K mg base CX0 1 T.f__law_take T.fd__law_take ["_law_pool_here", "_law_many"] (toSp K ap__law_take)) (cdv : Value) (A : Around) (outer : List PySem.Env) (s : Shared) (H : Hp) (E : XK) (hr : Room 1 (A.deeper (PyProof.Rows.envOfC "_law_value" (defScope s__law_value) s.heap.objs.size T.f__law_value cdv))) :
    PSs (cxOf CX0 P w K mg base ["_law_pool_here", "_law_name", "_law_words", "_law_sort", "_law_row_here", "_law_one"] "_law_value" (defScope s__law_value) T.f__law_value cdv A outer s H E).nox (defBody s__law_value) (t__law_value K ap__law_take) := 
      (pss_cons (ps_set (i := 2) sc__law_value.nd rfl (Or.inl rfl) (pe_disp (pps_cons pe_str (pe_lst (pa_cons pe_str (pa_cons pe_str pa_nil))) (pps_cons pe_str (pe_lst (pa_cons pe_str (pa_cons pe_str pa_nil))) (pps_cons pe_str (pe_lst (pa_cons pe_str (pa_cons pe_str pa_nil))) (pps_cons pe_str (pe_lst (pa_cons pe_str (pa_cons pe_str (pa_cons pe_str (pa_cons pe_str (pa_cons pe_str pa_nil)))))) pps_nil)))) rfl rfl (by intro h; cases h) (Nat.le_of_ble_eq_true rfl)))
      (pss_cons (ps_set (i := 3) sc__law_value.nd rfl (Or.inl rfl) (pe_call G__law_take (hr.mono (by decide)) (by rfl) T.g__law_take T.F__law_take.kp T.b__law_take .nil pass0 (pa_cons (pv 0) (pa_cons pe_int pa_nil))))
      (pss_cons (ps_if (pt_cmpR (op_eqG hr.units) (pv 3) pe_int (nomark _)) (pss_one (ps_ret pe_str)) pss_nil)
      (pss_cons (ps_if (pt_cmpR (op_eqG hr.units) (pv 3) pe_int (nomark _)) (pss_one (ps_ret pe_str)) pss_nil)
      (pss_cons (ps_if (pt_cmp (pc_din (Nat.lt_of_le_of_lt (Nat.add_le_add_left (Nat.le_of_ble_eq_true rfl : 1 ≤ 64) _) hr.units) (pv 1) (pv 2))) (pss_cons (ps_set (i := 4) sc__law_value.nd rfl (Or.inl rfl) (pe_dget (Nat.lt_of_le_of_lt (Nat.add_le_add_left (Nat.le_of_ble_eq_true rfl : 1 ≤ 64) _) hr.units) (pv 2) (pv 1) (fun _ _ => rfl)))
      (pss_one (ps_ret (pe_ix ix_seq (pv 4) (pe_call G__law_take (hr.mono (by decide)) (by rfl) T.g__law_take T.F__law_take.kp T.b__law_take .nil pass0 (pa_cons (pv 0) (pa_cons (pe_callB call_len (by rfl) T.m_len bi_len (pa_cons (pv 4) pa_nil)) pa_nil))) (fun _ _ => rfl))))) pss_nil)
      (pss_cons (ps_if (pt_cmpR (op_eqG hr.units) (pv 1) pe_str (nomark _)) (pss_one (ps_ret (pe_op op_addG pe_int (pe_call G__law_take (hr.mono (by decide)) (by rfl) T.g__law_take T.F__law_take.kp T.b__law_take .nil pass0 (pa_cons (pv 0) (pa_cons pe_int pa_nil)))))) pss_nil)
      (pss_cons (ps_if (pt_cmpR (op_ltG hr.units0) (pv 3) pe_int (nomark _)) (pss_cons (ps_set (i := 5) sc__law_value.nd rfl (Or.inl rfl) (pe_op op_addG pe_int (pe_call G__law_take (hr.mono (by decide)) (by rfl) T.g__law_take T.F__law_take.kp T.b__law_take .nil pass0 (pa_cons (pv 0) (pa_cons pe_int pa_nil)))))
      (pss_one (ps_ret (pe_tup (pa_cons (pv 5) (pa_cons (pe_op op_addG pe_int (pe_call G__law_take (hr.mono (by decide)) (by rfl) T.g__law_take T.F__law_take.kp T.b__law_take .nil pass0 (pa_cons (pv 0) (pa_cons pe_int pa_nil)))) pa_nil)))))) pss_nil)
      (pss_cons (ps_if (pt_cmpR (op_eqG hr.units) (pv 1) pe_str (nomark _)) (pss_one (ps_ret (pe_op op_addG pe_int (pe_call G__law_take (hr.mono (by decide)) (by rfl) T.g__law_take T.F__law_take.kp T.b__law_take .nil pass0 (pa_cons (pv 0) (pa_cons pe_int pa_nil)))))) pss_nil)
      (pss_cons (ps_if (pt_cmpR (op_eqG hr.units) (pv 1) pe_str (nomark _)) (pss_one (ps_ret (pe_op op_addG pe_int (pe_call G__law_take (hr.mono (by decide)) (by rfl) T.g__law_take T.F__law_take.kp T.b__law_take .nil pass0 (pa_cons (pv 0) (pa_cons pe_int pa_nil)))))) pss_nil)
      (pss_one (ps_ret (pe_call G__law_take (hr.mono (by decide)) (by rfl) T.g__law_take T.F__law_take.kp T.b__law_take .nil pass0 (pa_cons (pv 0) (pa_cons pe_int pa_nil))))))))))))))
theorem tm__law_declarations {ap__law_properties : AP} {ap__law_take : AP} {ap__law_value : AP} (T : Txt K mg) (G__law_properties : FnOk P w K mg base CX0 1 T.f__law_properties T.fd__law_properties [] (toSp K ap__law_properties)) (G__law_take : FnOk P w K mg base CX0 1 T.f__law_take T.fd__law_take ["_law_pool_here", "_law_many"] (toSp K ap__law_take)) (G__law_value : FnOk P w K mg base CX0 2 T.f__law_value T.fd__law_value ["_law_pool_here", "_law_name"] (toSp K ap__law_value)) (cdv : Value) (A : Around) (outer : List PySem.Env) (s : Shared) (H : Hp) (E : XK) (hr : Room 2 (A.deeper (PyProof.Rows.envOfC "_law_declarations" (defScope s__law_declarations) s.heap.objs.size T.f__law_declarations cdv))) :
    PSs (cxOf CX0 P w K mg base ["_law_pool_here", "_law_longest", "_law_names_here", "_law_rows", "_law_k", "_law_name", "_law_value_here"] "_law_declarations" (defScope s__law_declarations) T.f__law_declarations cdv A outer s H E).nox (defBody s__law_declarations) (t__law_declarations K ap__law_properties ap__law_take ap__law_value) := 
      (pss_cons (ps_set (i := 2) sc__law_declarations.nd rfl (Or.inl rfl) (pe_call0 G__law_properties (hr.mono (by decide)) (by rfl) T.g__law_properties T.F__law_properties.kp T.b__law_properties .nil pass0))
      (pss_cons (ps_set (i := 3) sc__law_declarations.nd rfl (Or.inl rfl) (pe_lst pa_nil))
      (pss_cons (ps_for PassesOwn.never rfl (pi_range1 (by rfl) T.m_range (pa_cons (pe_op op_addG pe_int (pe_call G__law_take (hr.mono (by decide)) (by rfl) T.g__law_take T.F__law_take.kp T.b__law_take .nil pass0 (pa_cons (pv 0) (pa_cons (pv 1) pa_nil)))) pa_nil)) (pg_name (i := 4) sc__law_declarations.nd rfl (Or.inl rfl)) (pss_cons (ps_set (i := 5) sc__law_declarations.nd rfl (Or.inl rfl) (pe_ix ix_seq (pv 2) (pe_call G__law_take (hr.mono (by decide)) (by rfl) T.g__law_take T.F__law_take.kp T.b__law_take .nil pass0 (pa_cons (pv 0) (pa_cons pe_int pa_nil))) (fun _ _ => rfl)))
      (pss_cons (ps_set (i := 6) sc__law_declarations.nd rfl (Or.inl rfl) (pe_call G__law_value (hr.mono (by decide)) (by rfl) T.g__law_value T.F__law_value.kp T.b__law_value .nil pass0 (pa_cons (pv 0) (pa_cons (pv 5) pa_nil))))
      (pss_one (ps_expr (pe_bm PySem.F.plainAttrs_list PySem.F.slot_list_append PySem.F.type_list_append mt_append (pv 3) (pa_cons (pe_tup (pa_cons (pv 5) (pa_cons (pv 6) (pa_cons (pe_cmpR (op_eqG hr.units) (pe_call G__law_take (hr.mono (by decide)) (by rfl) T.g__law_take T.F__law_take.kp T.b__law_take .nil pass0 (pa_cons (pv 0) (pa_cons pe_int pa_nil))) pe_int (nomark _)) pa_nil)))) pa_nil)))))))
      (pss_one (ps_ret (pe_callTy call_tuple_of (by rfl) T.m_tuple bi_tuple (pa_cons (pv 3) pa_nil)))))))
theorem tm__law_rules {ap__law_selector : AP} {ap__law_declarations : AP} (T : Txt K mg) (G__law_selector : FnOk P w K mg base CX0 3 T.f__law_selector T.fd__law_selector ["_law_pool_here", "_law_kinds", "_law_marks_here", "_law_longest"] (toSp K ap__law_selector)) (G__law_declarations : FnOk P w K mg base CX0 3 T.f__law_declarations T.fd__law_declarations ["_law_pool_here", "_law_longest"] (toSp K ap__law_declarations)) (cdv : Value) (A : Around) (outer : List PySem.Env) (s : Shared) (H : Hp) (E : XK) (hr : Room 3 (A.deeper (PyProof.Rows.envOfC "_law_rules" (defScope s__law_rules) s.heap.objs.size T.f__law_rules cdv))) :
    PSs (cxOf CX0 P w K mg base ["_law_pool_here", "_law_kinds", "_law_marks_here", "_law_many", "_law_steps", "_law_longest", "_law_rules_here", "_law_k", "_law_selector_here"] "_law_rules" (defScope s__law_rules) T.f__law_rules cdv A outer s H E).nox (defBody s__law_rules) (t__law_rules K ap__law_selector ap__law_declarations) := 
      (pss_cons (ps_set (i := 6) sc__law_rules.nd rfl (Or.inl rfl) (pe_lst pa_nil))
      (pss_cons (ps_for PassesOwn.never rfl (pi_range1 (by rfl) T.m_range (pa_cons (pv 3) pa_nil)) (pg_name (i := 7) sc__law_rules.nd rfl (Or.inl rfl)) (pss_cons (ps_set (i := 8) sc__law_rules.nd rfl (Or.inl rfl) (pe_call G__law_selector (hr.mono (by decide)) (by rfl) T.g__law_selector T.F__law_selector.kp T.b__law_selector .nil pass0 (pa_cons (pv 0) (pa_cons (pv 1) (pa_cons (pv 2) (pa_cons (pv 4) pa_nil))))))
      (pss_one (ps_expr (pe_bm PySem.F.plainAttrs_list PySem.F.slot_list_append PySem.F.type_list_append mt_append (pv 6) (pa_cons (pe_tup (pa_cons (pv 8) (pa_cons (pe_call G__law_declarations (hr.mono (by decide)) (by rfl) T.g__law_declarations T.F__law_declarations.kp T.b__law_declarations .nil pass0 (pa_cons (pv 0) (pa_cons (pv 5) pa_nil))) pa_nil))) pa_nil))))))
      (pss_one (ps_ret (pv 6)))))
theorem tm__law_row {ap__law_take : AP} {ap__law_rules : AP} (T : Txt K mg) (G__law_take : FnOk P w K mg base CX0 1 T.f__law_take T.fd__law_take ["_law_pool_here", "_law_many"] (toSp K ap__law_take)) (G__law_rules : FnOk P w K mg base CX0 4 T.f__law_rules T.fd__law_rules ["_law_pool_here", "_law_kinds", "_law_marks_here", "_law_many", "_law_steps", "_law_longest"] (toSp K ap__law_rules)) (cdv : Value) (A : Around) (outer : List PySem.Env) (s : Shared) (H : Hp) (E : XK) (hr : Room 4 (A.deeper (PyProof.Rows.envOfC "_law_row" (defScope s__law_row) s.heap.objs.size T.f__law_row cdv))) :
    PSs (cxOf CX0 P w K mg base ["_law_pool_here", "_law_kinds", "_law_marks_here", "_law_many"] "_law_row" (defScope s__law_row) T.f__law_row cdv A outer s H E).nox (defBody s__law_row) (t__law_row K ap__law_take ap__law_rules) := 
      (pss_cons (ps_set (i := 3) sc__law_row.nd rfl (Or.inl rfl) (pe_ix ix_seq (pe_lst (pa_cons pe_int (pa_cons pe_int (pa_cons pe_int (pa_cons pe_int (pa_cons pe_int (pa_cons pe_int (pa_cons pe_int (pa_cons pe_int pa_nil))))))))) (pe_call G__law_take (hr.mono (by decide)) (by rfl) T.g__law_take T.F__law_take.kp T.b__law_take .nil pass0 (pa_cons (pv 0) (pa_cons pe_int pa_nil))) (fun _ _ => rfl)))
      (pss_cons (ps_if (pt_cmpR (op_eqG hr.units) (pe_call G__law_take (hr.mono (by decide)) (by rfl) T.g__law_take T.F__law_take.kp T.b__law_take .nil pass0 (pa_cons (pv 0) (pa_cons pe_int pa_nil))) pe_int (nomark _)) (pss_one (ps_set (i := 3) sc__law_row.nd rfl (Or.inl rfl) (pe_ix ix_seq (pe_lst (pa_cons pe_int (pa_cons pe_int (pa_cons pe_int (pa_cons pe_int (pa_cons pe_int (pa_cons pe_int (pa_cons pe_int (pa_cons pe_int pa_nil))))))))) (pe_call G__law_take (hr.mono (by decide)) (by rfl) T.g__law_take T.F__law_take.kp T.b__law_take .nil pass0 (pa_cons (pv 0) (pa_cons pe_int pa_nil))) (fun _ _ => rfl)))) pss_nil)
      (pss_one (ps_ret (pe_call G__law_rules (hr.mono (by decide)) (by rfl) T.g__law_rules T.F__law_rules.kp T.b__law_rules .nil pass0 (pa_cons (pv 0) (pa_cons (pv 1) (pa_cons (pv 2) (pa_cons (pv 3) (pa_cons pe_int (pa_cons pe_int pa_nil)))))))))))
theorem tm__law_deed {ap_Sheet___getitem__ : APX} {ap_Sheet_with_rule : APX} {ap_Sheet_without_rule : APX} {ap_Sheet___add__ : APX} {ai_Sheet : AIX} {ap__law_rows_of : AP} (T : Txt K mg) (G_Sheet___getitem__ : FnOk P w K mg base (L2.CX P w) 1 T.f_Sheet___getitem__ T.fd_Sheet___getitem__ ["self", "at"] (toSpX K ap_Sheet___getitem__)) (G_Sheet_with_rule : FnOk P w K mg base (L2.CX P w) 3 T.f_Sheet_with_rule T.fd_Sheet_with_rule ["self", "at", "rule"] (toSpX K ap_Sheet_with_rule)) (G_Sheet_without_rule : FnOk P w K mg base (L2.CX P w) 3 T.f_Sheet_without_rule T.fd_Sheet_without_rule ["self", "at"] (toSpX K ap_Sheet_without_rule)) (G_Sheet___add__ : FnOk P w K mg base (L2.CX P w) 3 T.f_Sheet___add__ T.fd_Sheet___add__ ["self", "other"] (toSpX K ap_Sheet___add__)) (G_Sheet___init__ : FnOk P w K mg base (L2.CX P w) 1 T.f_Sheet___init__ T.fd_Sheet___init__ ["self", "rules"] (toSpIX K T.c_Sheet ai_Sheet)) (G__law_rows_of : FnOk P w K mg base CX0 10 T.f__law_rows_of T.fd__law_rows_of ["_law_sheet"] (toSp K ap__law_rows_of)) (cdv : Value) (A : Around) (outer : List PySem.Env) (s : Shared) (H : Hp) (E : XK) (hr : Room 10 (A.deeper (PyProof.Rows.envOfC "_law_deed" (defScope s__law_deed) s.heap.objs.size T.f__law_deed cdv))) :
    PSs (cxOf CX0 P w K mg base ["_law_sort", "_law_sheet", "_law_place", "_law_other", "_law_got", "_law_refused", "error", "_law_kept"] "_law_deed" (defScope s__law_deed) T.f__law_deed cdv A outer s H E).nox (defBody s__law_deed) (t__law_deed K T.c_Sheet T.c_BadPath T.c_TooLarge T.c_StyleError ap_Sheet___getitem__ ap_Sheet_with_rule ap_Sheet_without_rule ap_Sheet___add__ ai_Sheet ap__law_rows_of) := 
      (pss_cons (ps_set (i := 4) sc__law_deed.nd rfl (Or.inl rfl) pe_non)
      (pss_cons (ps_set (i := 5) sc__law_deed.nd rfl (Or.inl rfl) (pe_lst pa_nil))
      (pss_cons (ps_tryM rfl rfl sc__law_deed.nd takes00 (fun W1 pn xe tk po => (pss_one (ps_if (pt_cmpR (op_eqG hr.units) (pv 0) pe_str (nomark _)) (pss_one (ps_set (i := 4) sc__law_deed.nd rfl (Or.inl rfl) (pe_itm (pv 1) (pv 2) (itmC T.mt_Sheet___getitem__ T.F_Sheet___getitem__) G_Sheet___getitem__ (hr.mono (by decide)) T.b_Sheet___getitem__ (fun σ => passAt tk σ) (fun _ _ => by with_unfolding_all rfl)))) (pss_one (ps_if (pt_cmpR (op_eqG hr.units) (pv 0) pe_str (nomark _)) (pss_one (ps_set (i := 4) sc__law_deed.nd rfl (Or.inl rfl) (pe_methS (pv 1) T.co_Sheet.cl T.mt_Sheet_with_rule G_Sheet_with_rule (hr.mono (by decide)) T.b_Sheet_with_rule (fun σ => passAt tk σ) (pa_cons (pv 2) (pa_cons (pv 3) pa_nil))))) (pss_one (ps_if (pt_cmpR (op_eqG hr.units) (pv 0) pe_str (nomark _)) (pss_one (ps_set (i := 4) sc__law_deed.nd rfl (Or.inl rfl) (pe_methS (pv 1) T.co_Sheet.cl T.mt_Sheet_without_rule G_Sheet_without_rule (hr.mono (by decide)) T.b_Sheet_without_rule (fun σ => passAt tk σ) (pa_cons (pv 2) pa_nil)))) (pss_one (ps_if (pt_cmpR (op_eqG hr.units) (pv 0) pe_str (nomark _)) (pss_one (ps_set (i := 4) sc__law_deed.nd rfl (Or.inl rfl) (pe_own2 (pv 1) (pv 3) G_Sheet___add__ (hr.mono (by decide)) T.sf_Sheet T.op_Sheet___add__ T.mt_Sheet___add__.fn T.b_Sheet___add__ (fun σ => passAt tk σ)))) (pss_one (ps_set (i := 4) sc__law_deed.nd rfl (Or.inl rfl) (pe_makeS T.mk_Sheet G_Sheet___init__ (hr.mono (by decide)) (by rfl) T.g_Sheet T.b_Sheet___init__ (fun σ => passAt tk σ) (pa_cons (pv 3) pa_nil))))))))))))) (hds_cons (i := 6) rfl rfl ⟨by rfl, by decide, .inl T.g_BadPath⟩ (fun a oe cls d pn hz hf => pss_excD (fs := []) fun C eC hC hX hN => by subst eC; exact (pss_cons (ps_set (i := 7) sc__law_deed.nd rfl (Or.inl rfl) (pe_lst (pa_cons (pe_callB (call_isEd hC hz hf) (by rfl) T.m_isinstance bi_isinstance (pa_cons (pv 6) (pa_cons (pe_glob (v := .ref T.c_StyleError) (by rfl) T.g_StyleError rfl) pa_nil))) (pa_cons (pe_callB (call_isEd hC hz hf) (by rfl) T.m_isinstance bi_isinstance (pa_cons (pv 6) (pa_cons (pe_bltn (v := .ty "ValueError") (by rfl) T.m_ValueError rfl rfl) pa_nil))) pa_nil))))
      (pss_one (ps_set (i := 5) sc__law_deed.nd rfl (Or.inl rfl) (pe_op op_addG (pe_op op_addG (pe_lst (pa_cons pe_str pa_nil)) (pv 7)) (pe_lst (pa_cons (pe_callB (call_isEd hC hz hf) (by rfl) T.m_isinstance bi_isinstance (pa_cons (pv 6) (pa_cons (pe_glob (v := .ref T.c_TooLarge) (by rfl) T.g_TooLarge rfl) pa_nil))) pa_nil))))))) (hds_cons (i := 6) rfl rfl ⟨by rfl, by decide, .inl T.g_TooLarge⟩ (fun a oe cls d pn hz hf => pss_excD (fs := []) fun C eC hC hX hN => by subst eC; exact (pss_cons (ps_set (i := 7) sc__law_deed.nd rfl (Or.inl rfl) (pe_lst (pa_cons (pe_callB (call_isEd hC hz hf) (by rfl) T.m_isinstance bi_isinstance (pa_cons (pv 6) (pa_cons (pe_glob (v := .ref T.c_StyleError) (by rfl) T.g_StyleError rfl) pa_nil))) (pa_cons (pe_callB (call_isEd hC hz hf) (by rfl) T.m_isinstance bi_isinstance (pa_cons (pv 6) (pa_cons (pe_bltn (v := .ty "ValueError") (by rfl) T.m_ValueError rfl rfl) pa_nil))) pa_nil))))
      (pss_one (ps_set (i := 5) sc__law_deed.nd rfl (Or.inl rfl) (pe_op op_addG (pe_op op_addG (pe_lst (pa_cons pe_str pa_nil)) (pv 7)) (pe_lst (pa_cons (pe_callB (call_isEd hC hz hf) (by rfl) T.m_isinstance bi_isinstance (pa_cons (pv 6) (pa_cons (pe_glob (v := .ref T.c_BadPath) (by rfl) T.g_BadPath rfl) pa_nil))) pa_nil))))))) hds_nil)))
      (pss_cons (ps_if (pt_cmpR op_gt (pe_callB call_len (by rfl) T.m_len bi_len (pa_cons (pv 5) pa_nil)) pe_int (nomark _)) (pss_one (ps_ret (pv 5))) pss_nil)
      (pss_cons (ps_if (pt_cmpR (op_eqG hr.units) (pv 0) pe_str (nomark _)) (pss_one (ps_ret (pe_lst (pa_cons pe_str (pa_cons (pv 4) pa_nil))))) pss_nil)
      (pss_one (ps_ret (pe_lst (pa_cons pe_str (pa_cons (pe_call G__law_rows_of (hr.mono (by decide)) (by rfl) T.g__law_rows_of T.F__law_rows_of.kp T.b__law_rows_of .nil pass0 (pa_cons (pv 4) pa_nil)) pa_nil))))))))))
theorem tm__law_joint {ap_joined : APX} {ap__law_rows_of : AP} (T : Txt K mg) (G_joined : FnR P w K mg base (L2.CX P w) 4 T.f_joined (toSpSt K ap_joined)) (G__law_rows_of : FnOk P w K mg base CX0 10 T.f__law_rows_of T.fd__law_rows_of ["_law_sheet"] (toSp K ap__law_rows_of)) (cdv : Value) (A : Around) (outer : List PySem.Env) (s : Shared) (H : Hp) (E : XK) (hr : Room 10 (A.deeper (PyProof.Rows.envOfC "_law_joint" (defScope s__law_joint) s.heap.objs.size T.f__law_joint cdv))) :
    PSs (cxOf CX0 P w K mg base ["_law_sheets", "_law_got", "_law_refused", "error", "_law_kept"] "_law_joint" (defScope s__law_joint) T.f__law_joint cdv A outer s H E).nox (defBody s__law_joint) (t__law_joint K T.c_TooLarge T.c_StyleError T.c_BadPath ap_joined ap__law_rows_of) := 
      (pss_cons (ps_set (i := 1) sc__law_joint.nd rfl (Or.inl rfl) pe_non)
      (pss_cons (ps_set (i := 2) sc__law_joint.nd rfl (Or.inl rfl) (pe_lst pa_nil))
      (pss_cons (ps_try_as (i := 3) rfl rfl sc__law_joint.nd rfl rfl ⟨by rfl, by decide, .inl T.g_TooLarge⟩ takes00 (fun W1 pn xe tk po => (pss_one (ps_if (pt_cmpR (op_eqG hr.units) (pe_callB call_len (by rfl) T.m_len bi_len (pa_cons (pv 0) pa_nil)) pe_int (nomark _)) (pss_one (ps_set (i := 1) sc__law_joint.nd rfl (Or.inl rfl) (pe_callRS0 G_joined (hr.mono (by decide)) (by rfl) T.g_joined T.F_joined.kp (fun σ => passAt tk σ)))) (pss_one (ps_if (pt_cmpR (op_eqG hr.units) (pe_callB call_len (by rfl) T.m_len bi_len (pa_cons (pv 0) pa_nil)) pe_int (nomark _)) (pss_one (ps_set (i := 1) sc__law_joint.nd rfl (Or.inl rfl) (pe_callRS G_joined (hr.mono (by decide)) (by rfl) T.g_joined T.F_joined.kp (fun σ => passAt tk σ) (pa_cons (pe_ix ix_seq (pv 0) pe_int (fun _ _ => rfl)) pa_nil)))) (pss_one (ps_if (pt_cmpR (op_eqG hr.units) (pe_callB call_len (by rfl) T.m_len bi_len (pa_cons (pv 0) pa_nil)) pe_int (nomark _)) (pss_one (ps_set (i := 1) sc__law_joint.nd rfl (Or.inl rfl) (pe_callRS G_joined (hr.mono (by decide)) (by rfl) T.g_joined T.F_joined.kp (fun σ => passAt tk σ) (pa_cons (pe_ix ix_seq (pv 0) pe_int (fun _ _ => rfl)) (pa_cons (pe_ix ix_seq (pv 0) pe_int (fun _ _ => rfl)) pa_nil))))) (pss_one (ps_set (i := 1) sc__law_joint.nd rfl (Or.inl rfl) (pe_callRS G_joined (hr.mono (by decide)) (by rfl) T.g_joined T.F_joined.kp (fun σ => passAt tk σ) (pa_cons (pe_ix ix_seq (pv 0) pe_int (fun _ _ => rfl)) (pa_cons (pe_ix ix_seq (pv 0) pe_int (fun _ _ => rfl)) (pa_cons (pe_ix ix_seq (pv 0) pe_int (fun _ _ => rfl)) pa_nil))))))))))))) (fun a oe cls d pn hz hf => pss_exc fun C eC eD hC => by subst eC eD; exact (pss_cons (ps_set (i := 4) sc__law_joint.nd rfl (Or.inl rfl) (pe_lst (pa_cons (pe_callB (call_isE hC hz hf) (by rfl) T.m_isinstance bi_isinstance (pa_cons (pv 3) (pa_cons (pe_glob (v := .ref T.c_StyleError) (by rfl) T.g_StyleError rfl) pa_nil))) (pa_cons (pe_callB (call_isE hC hz hf) (by rfl) T.m_isinstance bi_isinstance (pa_cons (pv 3) (pa_cons (pe_bltn (v := .ty "ValueError") (by rfl) T.m_ValueError rfl rfl) pa_nil))) pa_nil))))
      (pss_one (ps_set (i := 2) sc__law_joint.nd rfl (Or.inl rfl) (pe_op op_addG (pe_op op_addG (pe_lst (pa_cons pe_str pa_nil)) (pv 4)) (pe_lst (pa_cons (pe_callB (call_isE hC hz hf) (by rfl) T.m_isinstance bi_isinstance (pa_cons (pv 3) (pa_cons (pe_glob (v := .ref T.c_BadPath) (by rfl) T.g_BadPath rfl) pa_nil))) pa_nil))))))))
      (pss_cons (ps_if (pt_cmpR op_gt (pe_callB call_len (by rfl) T.m_len bi_len (pa_cons (pv 2) pa_nil)) pe_int (nomark _)) (pss_one (ps_ret (pv 2))) pss_nil)
      (pss_one (ps_ret (pe_lst (pa_cons pe_str (pa_cons (pe_call G__law_rows_of (hr.mono (by decide)) (by rfl) T.g__law_rows_of T.F__law_rows_of.kp T.b__law_rows_of .nil pass0 (pa_cons (pv 1) pa_nil)) pa_nil)))))))))
theorem tm__law_rows_of {ap__law_same : AP} (T : Txt K mg) (G__law_same : FnOk P w K mg base CX0 9 T.f__law_same T.fd__law_same ["_law_one", "_law_two"] (toSp K ap__law_same)) (cdv : Value) (A : Around) (outer : List PySem.Env) (s : Shared) (H : Hp) (E : XK) (hr : Room 9 (A.deeper (PyProof.Rows.envOfC "_law_rows_of" (defScope s__law_rows_of) s.heap.objs.size T.f__law_rows_of cdv))) :
    PSs (cxOf CX0 P w K mg base ["_law_sheet", "_law_rows"] "_law_rows_of" (defScope s__law_rows_of) T.f__law_rows_of cdv A outer s H E).nox (defBody s__law_rows_of) (t__law_rows_of K T.c_Sheet ap__law_same) := 
      (pss_cons (ps_if (pt_not (pt_val (pe_callB call_isi (by rfl) T.m_isinstance bi_isinstance (pa_cons (pv 0) (pa_cons (pe_glob (v := .ref T.c_Sheet) (by rfl) T.g_Sheet rfl) pa_nil))))) (pss_one (ps_ret pe_non)) pss_nil)
      (pss_cons (ps_set (i := 1) sc__law_rows_of.nd rfl (Or.inl rfl) (pe_callTy (call_listBoxT (BoxC.mk T.mt_Sheet___iter__.at_ T.mt_Sheet___iter__.fn T.mt_Sheet___len__.at_ T.mt_Sheet___len__.fn) (ok_it_Sheet T) (ok_len_Sheet T) T.b_Sheet___len__ (hr.mono (by decide)) (hr.mono (by decide)) rfl) (by rfl) T.m_list bi_list (pa_cons (pv 0) pa_nil)))
      (pss_cons (ps_if (pt_not (pt_val (pe_call G__law_same (hr.mono (by decide)) (by rfl) T.g__law_same T.F__law_same.kp T.b__law_same .nil pass0 (pa_cons (pe_callB (call_lenBoxT (BoxC.mk T.mt_Sheet___iter__.at_ T.mt_Sheet___iter__.fn T.mt_Sheet___len__.at_ T.mt_Sheet___len__.fn) (ok_len_Sheet T) T.b_Sheet___len__ (hr.mono (by decide))) (by rfl) T.m_len bi_len (pa_cons (pv 0) pa_nil)) (pa_cons (pe_callB call_len (by rfl) T.m_len bi_len (pa_cons (pv 1) pa_nil)) pa_nil))))) (pss_one (ps_ret pe_non)) pss_nil)
      (pss_one (ps_ret (pv 1))))))
theorem tm__law_due (T : Txt K mg) (cdv : Value) (A : Around) (outer : List PySem.Env) (s : Shared) (H : Hp) (E : XK) (hr : Room 0 (A.deeper (PyProof.Rows.envOfC "_law_due" (defScope s__law_due) s.heap.objs.size T.f__law_due cdv))) :
    PSs (cxOf CX0 P w K mg base ["_law_sort", "_law_rules_here", "_law_place", "_law_other"] "_law_due" (defScope s__law_due) T.f__law_due cdv A outer s H E).nox (defBody s__law_due) (t__law_due K) := 
      (pss_cons (ps_if (pt_cmpR (op_eqG hr.units) (pv 0) pe_str (nomark _)) (pss_cons (ps_if (pt_not (pt_chain op_le op_le pe_int (pv 2) (pe_callB call_len (by rfl) T.m_len bi_len (pa_cons (pv 1) pa_nil)))) (pss_one (ps_ret (pe_lst (pa_cons pe_str (pa_cons pe_bl (pa_cons pe_bl (pa_cons pe_bl pa_nil))))))) pss_nil)
      (pss_cons (ps_if (pt_cmpR (op_eqG hr.units) (pe_callB call_len (by rfl) T.m_len bi_len (pa_cons (pv 1) pa_nil)) pe_int (nomark _)) (pss_one (ps_ret (pe_lst (pa_cons pe_str (pa_cons pe_bl (pa_cons pe_bl (pa_cons pe_bl pa_nil))))))) pss_nil)
      (pss_one (ps_ret (pe_lst (pa_cons pe_str (pa_cons (pe_op op_addG (pe_op op_addG (pe_slice sl_G (pv 1) po_none (po_some (pv 2))) (pe_lst (pa_cons (pv 3) pa_nil))) (pe_slice sl_G (pv 1) (po_some (pv 2)) po_none)) pa_nil))))))) pss_nil)
      (pss_cons (ps_if (pt_not (pt_chain op_le op_lt pe_int (pv 2) (pe_callB call_len (by rfl) T.m_len bi_len (pa_cons (pv 1) pa_nil)))) (pss_one (ps_ret (pe_lst (pa_cons pe_str (pa_cons pe_bl (pa_cons pe_bl (pa_cons pe_bl pa_nil))))))) pss_nil)
      (pss_cons (ps_if (pt_cmpR (op_eqG hr.units) (pv 0) pe_str (nomark _)) (pss_one (ps_ret (pe_lst (pa_cons pe_str (pa_cons (pe_ix ix_seq (pv 1) (pv 2) (fun _ _ => rfl)) pa_nil))))) pss_nil)
      (pss_one (ps_ret (pe_lst (pa_cons pe_str (pa_cons (pe_op op_addG (pe_slice sl_G (pv 1) po_none (po_some (pv 2))) (pe_slice sl_G (pv 1) (po_some (pe_op op_addG (pv 2) pe_int)) po_none)) pa_nil))))))))
theorem tm__law_sum_due (T : Txt K mg) (cdv : Value) (A : Around) (outer : List PySem.Env) (s : Shared) (H : Hp) (E : XK) (hr : Room 0 (A.deeper (PyProof.Rows.envOfC "_law_sum_due" (defScope s__law_sum_due) s.heap.objs.size T.f__law_sum_due cdv))) :
    PSs (cxOf CX0 P w K mg base ["_law_rules_here"] "_law_sum_due" (defScope s__law_sum_due) T.f__law_sum_due cdv A outer s H E).nox (defBody s__law_sum_due) (t__law_sum_due K) := 
      (pss_cons (ps_if (pt_cmpR op_gt (pe_callB call_len (by rfl) T.m_len bi_len (pa_cons (pv 0) pa_nil)) pe_int (nomark _)) (pss_one (ps_ret (pe_lst (pa_cons pe_str (pa_cons pe_bl (pa_cons pe_bl (pa_cons pe_bl pa_nil))))))) pss_nil)
      (pss_one (ps_ret (pe_lst (pa_cons pe_str (pa_cons (pv 0) pa_nil))))))
theorem tm__law_places_right {ap__law_deed : AP} {ap__law_same : AP} {ap__law_due : AP} {ap__law_properties : AP} {ap_Sheet___contains__ : AP} (T : Txt K mg) (G__law_deed : FnOk P w K mg base CX0 11 T.f__law_deed T.fd__law_deed ["_law_sort", "_law_sheet", "_law_place", "_law_other"] (toSp K ap__law_deed)) (G__law_same : FnOk P w K mg base CX0 9 T.f__law_same T.fd__law_same ["_law_one", "_law_two"] (toSp K ap__law_same)) (G__law_due : FnOk P w K mg base CX0 1 T.f__law_due T.fd__law_due ["_law_sort", "_law_rules_here", "_law_place", "_law_other"] (toSp K ap__law_due)) (G__law_properties : FnOk P w K mg base CX0 1 T.f__law_properties T.fd__law_properties [] (toSp K ap__law_properties)) (G_Sheet___contains__ : FnOk P w K mg base CX0 1 T.f_Sheet___contains__ T.fd_Sheet___contains__ ["self", "name"] (toSp K ap_Sheet___contains__)) (cdv : Value) (A : Around) (outer : List PySem.Env) (s : Shared) (H : Hp) (E : XK) (hr : Room 11 (A.deeper (PyProof.Rows.envOfC "_law_places_right" (defScope s__law_places_right) s.heap.objs.size T.f__law_places_right cdv))) :
    PSs (cxOf CX0 P w K mg base ["_law_sheet", "_law_rules_here", "_law_one", "_law_place", "_law_sort", "_law_got", "_law_name", "_law_due_here", "_law_told", "_law_row_here"] "_law_places_right" (defScope s__law_places_right) T.f__law_places_right cdv A outer s H E).nox (defBody s__law_places_right) (t__law_places_right K T.c_Sheet ap__law_deed ap__law_same ap__law_due ap__law_properties ap_Sheet___contains__) := 
      (pss_cons (ps_for PassesOwn.never rfl (pi_range2 (by rfl) T.m_range (pa_cons (pe_op op_sub pe_int pe_int) (pa_cons (pe_op op_addG (pe_callB call_len (by rfl) T.m_len bi_len (pa_cons (pv 1) pa_nil)) pe_int) pa_nil))) (pg_name (i := 3) sc__law_places_right.nd rfl (Or.inl rfl)) (pss_one (ps_for PassesOwn.never rfl (pi_list (pe_lst (pa_cons pe_str (pa_cons pe_str (pa_cons pe_str (pa_cons pe_str pa_nil)))))) (pg_name (i := 4) sc__law_places_right.nd rfl (Or.inl rfl)) (pss_cons (ps_set (i := 5) sc__law_places_right.nd rfl (Or.inl rfl) (pe_call G__law_deed (hr.mono (by decide)) (by rfl) T.g__law_deed T.F__law_deed.kp T.b__law_deed .nil pass0 (pa_cons (pv 4) (pa_cons (pv 0) (pa_cons (pv 3) (pa_cons (pv 2) pa_nil))))))
      (pss_one (ps_if (pt_not (pt_val (pe_call G__law_same (hr.mono (by decide)) (by rfl) T.g__law_same T.F__law_same.kp T.b__law_same .nil pass0 (pa_cons (pv 5) (pa_cons (pe_call G__law_due (hr.mono (by decide)) (by rfl) T.g__law_due T.F__law_due.kp T.b__law_due .nil pass0 (pa_cons (pv 4) (pa_cons (pv 1) (pa_cons (pv 3) (pa_cons (pv 2) pa_nil))))) pa_nil))))) (pss_one (ps_ret pe_bl)) pss_nil))))))
      (pss_cons (ps_for PassesOwn.never rfl (pi_list (pe_op op_addG (pe_call0 G__law_properties (hr.mono (by decide)) (by rfl) T.g__law_properties T.F__law_properties.kp T.b__law_properties .nil pass0) (pe_lst (pa_cons pe_str (pa_cons pe_str (pa_cons pe_str pa_nil)))))) (pg_name (i := 6) sc__law_places_right.nd rfl (Or.inl rfl)) (pss_cons (ps_set (i := 7) sc__law_places_right.nd rfl (Or.inl rfl) pe_bl)
      (pss_cons (ps_for PassesOwn.never rfl (pi_list (pv 1)) (pg_name (i := 8) sc__law_places_right.nd rfl (Or.inl rfl)) (pss_one (ps_set (i := 7) sc__law_places_right.nd rfl (Or.inl rfl) (pe_or (pv 7) (pe_one (pe_cmpR op_inG (pv 6) (pe_lc (own := [("_law_row_here", 9)]) (g := (gName 9)) (tt := tYes) (by rfl) sc__law_places_right.nd (pi_tup (pe_ix ix_seq (pv 8) pe_int (fun _ _ => rfl))) (blkOk_by (own := [("_law_row_here", 9)]) (N := ["_law_sheet", "_law_rules_here", "_law_one", "_law_place", "_law_sort", "_law_got", "_law_name", "_law_due_here", "_law_told", "_law_row_here"]) (sc := defScope s__law_places_right) (by decide +kernel)) (fun _ _ _ _ _ => (pg_name (i := 9) sc__law_places_right.nd rfl (Or.inl rfl))) (fun _ _ _ _ _ => pts_nil) (fun _ _ _ _ _ => (pe_ix ix_seq (pv 9) pe_int (fun _ _ => rfl)))) (by rfl)))))))
      (pss_one (ps_if (pt_not (pt_val (pe_call G__law_same (hr.mono (by decide)) (by rfl) T.g__law_same T.F__law_same.kp T.b__law_same .nil pass0 (pa_cons (pe_cmpR (op_inO G_Sheet___contains__ (hr.mono (by decide)) T.mt_Sheet___contains__.at_ T.mt_Sheet___contains__.fn T.b_Sheet___contains__ pass0) (pv 6) (pv 0) (by rfl)) (pa_cons (pv 7) pa_nil))))) (pss_one (ps_ret pe_bl)) pss_nil)))))
      (pss_one (ps_ret pe_bl))))
theorem tm__law_sums_right {ap__law_sum_due : AP} {ap__law_same : AP} {ap__law_deed : AP} {ap__law_joint : AP} {ai_Sheet : AIX} {ap_joined : APX} {ap__law_rows_of : AP} (T : Txt K mg) (G__law_sum_due : FnOk P w K mg base CX0 1 T.f__law_sum_due T.fd__law_sum_due ["_law_rules_here"] (toSp K ap__law_sum_due)) (G__law_same : FnOk P w K mg base CX0 9 T.f__law_same T.fd__law_same ["_law_one", "_law_two"] (toSp K ap__law_same)) (G__law_deed : FnOk P w K mg base CX0 11 T.f__law_deed T.fd__law_deed ["_law_sort", "_law_sheet", "_law_place", "_law_other"] (toSp K ap__law_deed)) (G__law_joint : FnOk P w K mg base CX0 11 T.f__law_joint T.fd__law_joint ["_law_sheets"] (toSp K ap__law_joint)) (G_Sheet___init__ : FnOk P w K mg base (L2.CX P w) 1 T.f_Sheet___init__ T.fd_Sheet___init__ ["self", "rules"] (toSpIX K T.c_Sheet ai_Sheet)) (G_joined : FnR P w K mg base (L2.CX P w) 4 T.f_joined (toSpSt K ap_joined)) (G__law_rows_of : FnOk P w K mg base CX0 10 T.f__law_rows_of T.fd__law_rows_of ["_law_sheet"] (toSp K ap__law_rows_of)) (cdv : Value) (A : Around) (outer : List PySem.Env) (s : Shared) (H : Hp) (E : XK) (hr : Room 11 (A.deeper (PyProof.Rows.envOfC "_law_sums_right" (defScope s__law_sums_right) s.heap.objs.size T.f__law_sums_right cdv))) :
    PSs (cxOf CX0 P w K mg base ["_law_sheets", "_law_rows", "_law_i", "_law_j", "_law_due_here", "_law_total", "_law_few", "_law_five", "_law_row_here"] "_law_sums_right" (defScope s__law_sums_right) T.f__law_sums_right cdv A outer s H E).nox (defBody s__law_sums_right) (t__law_sums_right K T.c_Sheet ap__law_sum_due ap__law_same ap__law_deed ap__law_joint ai_Sheet ap_joined ap__law_rows_of) := 
      (pss_cons (ps_for PassesOwn.never rfl (pi_range1 (by rfl) T.m_range (pa_cons pe_int pa_nil)) (pg_name (i := 2) sc__law_sums_right.nd rfl (Or.inl rfl)) (pss_one (ps_for PassesOwn.never rfl (pi_range1 (by rfl) T.m_range (pa_cons pe_int pa_nil)) (pg_name (i := 3) sc__law_sums_right.nd rfl (Or.inl rfl)) (pss_cons (ps_set (i := 4) sc__law_sums_right.nd rfl (Or.inl rfl) (pe_call G__law_sum_due (hr.mono (by decide)) (by rfl) T.g__law_sum_due T.F__law_sum_due.kp T.b__law_sum_due .nil pass0 (pa_cons (pe_op op_addG (pe_ix ix_seq (pv 1) (pv 2) (fun _ _ => rfl)) (pe_ix ix_seq (pv 1) (pv 3) (fun _ _ => rfl))) pa_nil)))
      (pss_cons (ps_if (pt_not (pt_val (pe_call G__law_same (hr.mono (by decide)) (by rfl) T.g__law_same T.F__law_same.kp T.b__law_same .nil pass0 (pa_cons (pe_call G__law_deed (hr.mono (by decide)) (by rfl) T.g__law_deed T.F__law_deed.kp T.b__law_deed .nil pass0 (pa_cons pe_str (pa_cons (pe_ix ix_seq (pv 0) (pv 2) (fun _ _ => rfl)) (pa_cons pe_int (pa_cons (pe_ix ix_seq (pv 0) (pv 3) (fun _ _ => rfl)) pa_nil))))) (pa_cons (pv 4) pa_nil))))) (pss_one (ps_ret pe_bl)) pss_nil)
      (pss_one (ps_if (pt_not (pt_val (pe_call G__law_same (hr.mono (by decide)) (by rfl) T.g__law_same T.F__law_same.kp T.b__law_same .nil pass0 (pa_cons (pe_call G__law_joint (hr.mono (by decide)) (by rfl) T.g__law_joint T.F__law_joint.kp T.b__law_joint .nil pass0 (pa_cons (pe_lst (pa_cons (pe_ix ix_seq (pv 0) (pv 2) (fun _ _ => rfl)) (pa_cons (pe_ix ix_seq (pv 0) (pv 3) (fun _ _ => rfl)) pa_nil))) pa_nil)) (pa_cons (pv 4) pa_nil))))) (pss_one (ps_ret pe_bl)) pss_nil)))))))
      (pss_cons (ps_set (i := 5) sc__law_sums_right.nd rfl (Or.inl rfl) (pe_op op_addG (pe_op op_addG (pe_ix ix_seq (pv 1) pe_int (fun _ _ => rfl)) (pe_ix ix_seq (pv 1) pe_int (fun _ _ => rfl))) (pe_ix ix_seq (pv 1) pe_int (fun _ _ => rfl))))
      (pss_cons (ps_if (pt_not (pt_val (pe_call G__law_same (hr.mono (by decide)) (by rfl) T.g__law_same T.F__law_same.kp T.b__law_same .nil pass0 (pa_cons (pe_call G__law_deed (hr.mono (by decide)) (by rfl) T.g__law_deed T.F__law_deed.kp T.b__law_deed .nil pass0 (pa_cons pe_str (pa_cons (pe_ix ix_seq (pv 0) pe_int (fun _ _ => rfl)) (pa_cons pe_int (pa_cons (pe_callTy call_list_of (by rfl) T.m_list bi_list (pa_cons (pv 5) pa_nil)) pa_nil))))) (pa_cons (pe_call G__law_sum_due (hr.mono (by decide)) (by rfl) T.g__law_sum_due T.F__law_sum_due.kp T.b__law_sum_due .nil pass0 (pa_cons (pv 5) pa_nil)) pa_nil))))) (pss_one (ps_ret pe_bl)) pss_nil)
      (pss_cons (ps_if (pt_not (pt_val (pe_call G__law_same (hr.mono (by decide)) (by rfl) T.g__law_same T.F__law_same.kp T.b__law_same .nil pass0 (pa_cons (pe_call G__law_joint (hr.mono (by decide)) (by rfl) T.g__law_joint T.F__law_joint.kp T.b__law_joint .nil pass0 (pa_cons (pv 0) pa_nil)) (pa_cons (pe_call G__law_sum_due (hr.mono (by decide)) (by rfl) T.g__law_sum_due T.F__law_sum_due.kp T.b__law_sum_due .nil pass0 (pa_cons (pv 5) pa_nil)) pa_nil))))) (pss_one (ps_ret pe_bl)) pss_nil)
      (pss_cons (ps_if (pt_not (pt_val (pe_call G__law_same (hr.mono (by decide)) (by rfl) T.g__law_same T.F__law_same.kp T.b__law_same .nil pass0 (pa_cons (pe_call G__law_joint (hr.mono (by decide)) (by rfl) T.g__law_joint T.F__law_joint.kp T.b__law_joint .nil pass0 (pa_cons (pe_lst pa_nil) pa_nil)) (pa_cons (pe_lst (pa_cons pe_str (pa_cons (pe_lst pa_nil) pa_nil))) pa_nil))))) (pss_one (ps_ret pe_bl)) pss_nil)
      (pss_cons (ps_setLc (i := 6) (own := [("_law_row_here", 8)]) (g := (gName 8)) (tt := tYes) (by rfl) sc__law_sums_right.nd rfl rfl (sw_true rfl rfl rfl (by decide +kernel)) (pi_list (pv 1)) (blkOk_by (own := [("_law_row_here", 8)]) (N := ["_law_sheets", "_law_rows", "_law_i", "_law_j", "_law_due_here", "_law_total", "_law_few", "_law_five", "_law_row_here"]) (sc := defScope s__law_sums_right) (by decide +kernel)) (fun _ _ _ _ _ => (pg_name (i := 8) sc__law_sums_right.nd rfl (Or.inl rfl))) (fun _ _ _ _ _ => pts_nil) (fun _ _ _ _ _ => (pe_make T.mk_Sheet G_Sheet___init__ (hr.mono (by decide)) (by rfl) T.g_Sheet T.b_Sheet___init__ .nil passL0 (pa_cons (pe_slice sl_G (pv 8) po_none (po_some pe_int)) pa_nil))))
      (pss_cons (ps_set (i := 7) sc__law_sums_right.nd rfl (Or.inl rfl) (pe_callRS G_joined (hr.mono (by decide)) (by rfl) T.g_joined T.F_joined.kp (passS passL0) (pa_cons (pe_ix ix_seq (pv 6) pe_int (fun _ _ => rfl)) (pa_cons (pe_ix ix_seq (pv 6) pe_int (fun _ _ => rfl)) (pa_cons (pe_ix ix_seq (pv 6) pe_int (fun _ _ => rfl)) (pa_cons (pe_ix ix_seq (pv 6) pe_int (fun _ _ => rfl)) (pa_cons (pe_ix ix_seq (pv 6) pe_int (fun _ _ => rfl)) pa_nil)))))))
      (pss_cons (ps_set (i := 4) sc__law_sums_right.nd rfl (Or.inl rfl) (pe_op op_addG (pe_op op_addG (pe_op op_addG (pe_op op_addG (pe_slice sl_G (pe_ix ix_seq (pv 1) pe_int (fun _ _ => rfl)) po_none (po_some pe_int)) (pe_slice sl_G (pe_ix ix_seq (pv 1) pe_int (fun _ _ => rfl)) po_none (po_some pe_int))) (pe_slice sl_G (pe_ix ix_seq (pv 1) pe_int (fun _ _ => rfl)) po_none (po_some pe_int))) (pe_slice sl_G (pe_ix ix_seq (pv 1) pe_int (fun _ _ => rfl)) po_none (po_some pe_int))) (pe_slice sl_G (pe_ix ix_seq (pv 1) pe_int (fun _ _ => rfl)) po_none (po_some pe_int))))
      (pss_cons (ps_if (pt_not (pt_val (pe_call G__law_same (hr.mono (by decide)) (by rfl) T.g__law_same T.F__law_same.kp T.b__law_same .nil pass0 (pa_cons (pe_call G__law_rows_of (hr.mono (by decide)) (by rfl) T.g__law_rows_of T.F__law_rows_of.kp T.b__law_rows_of .nil pass0 (pa_cons (pv 7) pa_nil)) (pa_cons (pv 4) pa_nil))))) (pss_one (ps_ret pe_bl)) pss_nil)
      (pss_one (ps_ret (pe_call G__law_same (hr.mono (by decide)) (by rfl) T.g__law_same T.F__law_same.kp T.b__law_same .nil pass0 (pa_cons (pe_call G__law_joint (hr.mono (by decide)) (by rfl) T.g__law_joint T.F__law_joint.kp T.b__law_joint .nil pass0 (pa_cons (pe_slice sl_G (pv 0) po_none (po_some pe_int)) pa_nil)) (pa_cons (pe_lst (pa_cons pe_str (pa_cons (pe_ix ix_seq (pv 1) pe_int (fun _ _ => rfl)) pa_nil))) pa_nil))))))))))))))
theorem tm_law {ap__law_pool : AP} {ap__law_any_names : AP} {ap__law_take : AP} {ap__law_row : AP} {ap__law_rules : AP} {ai_Sheet : AIX} {ap__law_same : AP} {ap__law_places_right : AP} {ap__law_sums_right : AP} {ap__law_rows_of : AP} (T : Txt K mg) (G__law_pool : FnOk P w K mg base CX0 1 T.f__law_pool T.fd__law_pool ["_law_script", "_law_at"] (toSp K ap__law_pool)) (G__law_any_names : FnOk P w K mg base CX0 4 T.f__law_any_names T.fd__law_any_names ["_law_pool_here", "_law_many"] (toSp K ap__law_any_names)) (G__law_take : FnOk P w K mg base CX0 1 T.f__law_take T.fd__law_take ["_law_pool_here", "_law_many"] (toSp K ap__law_take)) (G__law_row : FnOk P w K mg base CX0 5 T.f__law_row T.fd__law_row ["_law_pool_here", "_law_kinds", "_law_marks_here"] (toSp K ap__law_row)) (G__law_rules : FnOk P w K mg base CX0 4 T.f__law_rules T.fd__law_rules ["_law_pool_here", "_law_kinds", "_law_marks_here", "_law_many", "_law_steps", "_law_longest"] (toSp K ap__law_rules)) (G_Sheet___init__ : FnOk P w K mg base (L2.CX P w) 1 T.f_Sheet___init__ T.fd_Sheet___init__ ["self", "rules"] (toSpIX K T.c_Sheet ai_Sheet)) (G__law_same : FnOk P w K mg base CX0 9 T.f__law_same T.fd__law_same ["_law_one", "_law_two"] (toSp K ap__law_same)) (G__law_places_right : FnOk P w K mg base CX0 12 T.f__law_places_right T.fd__law_places_right ["_law_sheet", "_law_rules_here", "_law_one"] (toSp K ap__law_places_right)) (G__law_sums_right : FnOk P w K mg base CX0 12 T.f__law_sums_right T.fd__law_sums_right ["_law_sheets", "_law_rows"] (toSp K ap__law_sums_right)) (G__law_rows_of : FnOk P w K mg base CX0 10 T.f__law_rows_of T.fd__law_rows_of ["_law_sheet"] (toSp K ap__law_rows_of)) (cdv : Value) (A : Around) (outer : List PySem.Env) (s : Shared) (H : Hp) (E : XK) (hr : Room 12 (A.deeper (PyProof.Rows.envOfC "law" (defScope s_law) s.heap.objs.size T.f_law cdv))) :
    PSs (cxOf CX0 P w K mg base ["_law_script", "_law_pool_here", "_law_names_here", "_law_kinds", "_law_marks_here", "_law_drawn", "_law_rows", "_law_one", "_law_sheets", "_law_k"] "law" (defScope s_law) T.f_law cdv A outer s H E).nox (defBody s_law) (t_law K T.c_Sheet ap__law_pool ap__law_any_names ap__law_take ap__law_row ap__law_rules ai_Sheet ap__law_same ap__law_places_right ap__law_sums_right ap__law_rows_of) := 
      (pss_cons (ps_set (i := 1) sc_law.nd rfl (Or.inl rfl) (pe_call G__law_pool (hr.mono (by decide)) (by rfl) T.g__law_pool T.F__law_pool.kp T.b__law_pool .nil pass0 (pa_cons (pv 0) (pa_cons pe_int pa_nil))))
      (pss_cons (ps_set (i := 2) sc_law.nd rfl (Or.inl rfl) (pe_call G__law_any_names (hr.mono (by decide)) (by rfl) T.g__law_any_names T.F__law_any_names.kp T.b__law_any_names .nil pass0 (pa_cons (pv 1) (pa_cons pe_int pa_nil))))
      (pss_cons (ps_set (i := 3) sc_law.nd rfl (Or.inl rfl) (pe_slice sl_G (pv 2) po_none (po_some (pe_op op_addG pe_int (pe_call G__law_take (hr.mono (by decide)) (by rfl) T.g__law_take T.F__law_take.kp T.b__law_take .nil pass0 (pa_cons (pv 1) (pa_cons pe_int pa_nil)))))))
      (pss_cons (ps_set (i := 4) sc_law.nd rfl (Or.inl rfl) (pe_slice sl_G (pv 2) (po_some pe_int) (po_some (pe_op op_addG pe_int (pe_call G__law_take (hr.mono (by decide)) (by rfl) T.g__law_take T.F__law_take.kp T.b__law_take .nil pass0 (pa_cons (pv 1) (pa_cons pe_int pa_nil)))))))
      (pss_cons (ps_set (i := 5) sc_law.nd rfl (Or.inl rfl) (pe_call G__law_pool (hr.mono (by decide)) (by rfl) T.g__law_pool T.F__law_pool.kp T.b__law_pool .nil pass0 (pa_cons (pv 0) (pa_cons pe_int pa_nil))))
      (pss_cons (ps_set (i := 6) sc_law.nd rfl (Or.inl rfl) (pe_lst (pa_cons (pe_call G__law_row (hr.mono (by decide)) (by rfl) T.g__law_row T.F__law_row.kp T.b__law_row .nil pass0 (pa_cons (pe_call G__law_pool (hr.mono (by decide)) (by rfl) T.g__law_pool T.F__law_pool.kp T.b__law_pool .nil pass0 (pa_cons (pv 0) (pa_cons pe_int pa_nil))) (pa_cons (pv 3) (pa_cons (pv 4) pa_nil)))) (pa_cons (pe_call G__law_row (hr.mono (by decide)) (by rfl) T.g__law_row T.F__law_row.kp T.b__law_row .nil pass0 (pa_cons (pv 5) (pa_cons (pv 3) (pa_cons (pv 4) pa_nil)))) pa_nil))))
      (pss_cons (ps_expr (pe_bm PySem.F.plainAttrs_list PySem.F.slot_list_append PySem.F.type_list_append mt_append (pv 6) (pa_cons (pe_call G__law_row (hr.mono (by decide)) (by rfl) T.g__law_row T.F__law_row.kp T.b__law_row .nil pass0 (pa_cons (pv 5) (pa_cons (pv 3) (pa_cons (pv 4) pa_nil)))) pa_nil)))
      (pss_cons (ps_set (i := 7) sc_law.nd rfl (Or.inl rfl) (pe_ix ix_seq (pe_call G__law_rules (hr.mono (by decide)) (by rfl) T.g__law_rules T.F__law_rules.kp T.b__law_rules .nil pass0 (pa_cons (pv 5) (pa_cons (pv 3) (pa_cons (pv 4) (pa_cons pe_int (pa_cons pe_int (pa_cons pe_int pa_nil))))))) pe_int (fun _ _ => rfl)))
      (pss_cons (ps_set (i := 8) sc_law.nd rfl (Or.inl rfl) (pe_lst (pa_cons (pe_make T.mk_Sheet G_Sheet___init__ (hr.mono (by decide)) (by rfl) T.g_Sheet T.b_Sheet___init__ .nil passL0 (pa_cons (pe_callTy call_list_of (by rfl) T.m_list bi_list (pa_cons (pe_ix ix_seq (pv 6) pe_int (fun _ _ => rfl)) pa_nil)) pa_nil)) (pa_cons (pe_make T.mk_Sheet G_Sheet___init__ (hr.mono (by decide)) (by rfl) T.g_Sheet T.b_Sheet___init__ .nil passL0 (pa_cons (pe_callTy call_tuple_of (by rfl) T.m_tuple bi_tuple (pa_cons (pe_ix ix_seq (pv 6) pe_int (fun _ _ => rfl)) pa_nil)) pa_nil)) (pa_cons (pe_make T.mk_Sheet G_Sheet___init__ (hr.mono (by decide)) (by rfl) T.g_Sheet T.b_Sheet___init__ .nil passL0 (pa_cons (pe_callTy call_list_of (by rfl) T.m_list bi_list (pa_cons (pe_ix ix_seq (pv 6) pe_int (fun _ _ => rfl)) pa_nil)) pa_nil)) pa_nil)))))
      (pss_cons (ps_if (pt_not (pt_val (pe_call G__law_same (hr.mono (by decide)) (by rfl) T.g__law_same T.F__law_same.kp T.b__law_same .nil pass0 (pa_cons (pe_cvalN rfl (by rfl) T.g_Sheet T.cr_Sheet T.cw_Sheet_LIMIT rfl) (pa_cons pe_int pa_nil))))) (pss_one (ps_ret pe_bl)) pss_nil)
      (pss_cons (ps_for PassesOwn.never rfl (pi_range1 (by rfl) T.m_range (pa_cons pe_int pa_nil)) (pg_name (i := 9) sc_law.nd rfl (Or.inl rfl)) (pss_one (ps_if (pt_not (pt_val (pe_call G__law_places_right (hr.mono (by decide)) (by rfl) T.g__law_places_right T.F__law_places_right.kp T.b__law_places_right .nil pass0 (pa_cons (pe_ix ix_seq (pv 8) (pv 9) (fun _ _ => rfl)) (pa_cons (pe_ix ix_seq (pv 6) (pv 9) (fun _ _ => rfl)) (pa_cons (pv 7) pa_nil)))))) (pss_one (ps_ret pe_bl)) pss_nil)))
      (pss_cons (ps_if (pt_not (pt_val (pe_call G__law_sums_right (hr.mono (by decide)) (by rfl) T.g__law_sums_right T.F__law_sums_right.kp T.b__law_sums_right .nil pass0 (pa_cons (pv 8) (pa_cons (pv 6) pa_nil))))) (pss_one (ps_ret pe_bl)) pss_nil)
      (pss_cons (ps_for PassesOwn.never rfl (pi_range1 (by rfl) T.m_range (pa_cons pe_int pa_nil)) (pg_name (i := 9) sc_law.nd rfl (Or.inl rfl)) (pss_one (ps_if (pt_not (pt_val (pe_call G__law_same (hr.mono (by decide)) (by rfl) T.g__law_same T.F__law_same.kp T.b__law_same .nil pass0 (pa_cons (pe_call G__law_rows_of (hr.mono (by decide)) (by rfl) T.g__law_rows_of T.F__law_rows_of.kp T.b__law_rows_of .nil pass0 (pa_cons (pe_ix ix_seq (pv 8) (pv 9) (fun _ _ => rfl)) pa_nil)) (pa_cons (pe_ix ix_seq (pv 6) (pv 9) (fun _ _ => rfl)) pa_nil))))) (pss_one (ps_ret pe_bl)) pss_nil)))
      (pss_one (ps_ret pe_bl)))))))))))))))
end
theorem txt_mk {K : PySem.W.Frag} {h : Heap} {mg : Str → Option Value} (X : K.In h) (G : h.Ns mainGlobals mg)
    {c_Weight : Addr} (aWeight : PySem.W.nsIn K mainGlobals "Weight" = some (some (.ref c_Weight)))
    (pgWeight : PySem.W.plainGet K c_Weight Str.empty = true) (hdWeight : PySem.W.hasDictIn K c_Weight = true) (poWeight : PySem.W.plainOver K c_Weight = true) (saWeight : PySem.W.findIn K (.ref c_Weight) "__setattr__" = some (some (.builtin "object.__setattr__"))) (mkWeight : PySem.W.makesIn K c_Weight = true) (kcWeight : PySem.W.keepIn K (.ref c_Weight) = true)
    (haWeight : PySem.W.findIn K (.ref c_Weight) "__class__" = some (some (.builtin "object.__class__"))) (hmWeight : PySem.W.mroIn K c_Weight (.type "object") = some true)
    (naWeight_marks : PySem.W.findIn K (.ref c_Weight) "marks" = some none)
    (naWeight_kinds : PySem.W.findIn K (.ref c_Weight) "kinds" = some none)
    {c_Sheet : Addr} (aSheet : PySem.W.nsIn K mainGlobals "Sheet" = some (some (.ref c_Sheet)))
    (pgSheet : PySem.W.plainGet K c_Sheet Str.empty = true) (hdSheet : PySem.W.hasDictIn K c_Sheet = true) (poSheet : PySem.W.plainOver K c_Sheet = true) (saSheet : PySem.W.findIn K (.ref c_Sheet) "__setattr__" = some (some (.builtin "object.__setattr__"))) (mkSheet : PySem.W.makesIn K c_Sheet = true) (kcSheet : PySem.W.keepIn K (.ref c_Sheet) = true)
    (haSheet : PySem.W.findIn K (.ref c_Sheet) "__class__" = some (some (.builtin "object.__class__"))) (hmSheet : PySem.W.mroIn K c_Sheet (.type "object") = some true)
    (sfSheet : PySem.W.selfFirst K c_Sheet = true)
    (rdSheet : PySem.W.readsIn K c_Sheet (.type "type") = true) (gaSheet : PySem.W.specialIn K (.ref c_Sheet) "__getattribute__" = some (some (.builtin "type.__getattribute__")))
    {tvSheet_LIMIT : Tok} (cvSheet_LIMIT : PySem.W.findCls K (.ref c_Sheet) (.type "type") "LIMIT" = some (.val (.int 12 tvSheet_LIMIT)))
    (naSheet_rule_row : PySem.W.findIn K (.ref c_Sheet) "rule_row" = some none)
    (hnO : PySem.W.specialIn K (.builtin "object.__class__") "__get__" = some (some (.builtin "getset_descriptor.__get__"))) (htO : PySem.W.takesIn K (.builtin "object.__class__") = some true)
    {f0 : Addr} {od0 an0 : Option Addr} {sl0 : Array (Option Value)} {oc0 kV0 dc0 pm0 cd0 ct0 : Value}
    (a0 : PySem.W.findIn K (.ref c_Sheet) "__init__" = some (some (.ref f0))) (l0 : K.lookup f0 = some ⟨oc0, od0, .func (PySem.W.fnOf "__init__" "Sheet.__init__" (defArgs s_Sheet___init__) (defBody s_Sheet___init__) (defScope s_Sheet___init__) .none kV0 dc0 pm0 an0 cd0 ct0), sl0⟩) (c0 : PySem.W.codeIn K cd0 "Sheet.__init__" = true) (k0 : PySem.W.keepIn K (.ref f0) = true)
    (i0 : PySem.W.isFn K (.ref f0) = true)
    {f1 : Addr} {od1 an1 : Option Addr} {sl1 : Array (Option Value)} {oc1 kV1 dc1 pm1 cd1 ct1 : Value}
    (a1 : PySem.W.findIn K (.ref c_Sheet) "__len__" = some (some (.ref f1))) (l1 : K.lookup f1 = some ⟨oc1, od1, .func (PySem.W.fnOf "__len__" "Sheet.__len__" (defArgs s_Sheet___len__) (defBody s_Sheet___len__) (defScope s_Sheet___len__) .none kV1 dc1 pm1 an1 cd1 ct1), sl1⟩) (c1 : PySem.W.codeIn K cd1 "Sheet.__len__" = true) (k1 : PySem.W.keepIn K (.ref f1) = true)
    (i1 : PySem.W.isFn K (.ref f1) = true)
    {f2 : Addr} {od2 an2 : Option Addr} {sl2 : Array (Option Value)} {oc2 kV2 dc2 pm2 cd2 ct2 : Value}
    (a2 : PySem.W.findIn K (.ref c_Sheet) "__iter__" = some (some (.ref f2))) (l2 : K.lookup f2 = some ⟨oc2, od2, .func (PySem.W.fnOf "__iter__" "Sheet.__iter__" (defArgs s_Sheet___iter__) (defBody s_Sheet___iter__) (defScope s_Sheet___iter__) .none kV2 dc2 pm2 an2 cd2 ct2), sl2⟩) (c2 : PySem.W.codeIn K cd2 "Sheet.__iter__" = true) (k2 : PySem.W.keepIn K (.ref f2) = true)
    (i2 : PySem.W.isFn K (.ref f2) = true)
    {f3 : Addr} {od3 an3 : Option Addr} {sl3 : Array (Option Value)} {oc3 kV3 dc3 pm3 cd3 ct3 : Value}
    (a3 : PySem.W.findIn K (.ref c_Sheet) "__getitem__" = some (some (.ref f3))) (l3 : K.lookup f3 = some ⟨oc3, od3, .func (PySem.W.fnOf "__getitem__" "Sheet.__getitem__" (defArgs s_Sheet___getitem__) (defBody s_Sheet___getitem__) (defScope s_Sheet___getitem__) .none kV3 dc3 pm3 an3 cd3 ct3), sl3⟩) (c3 : PySem.W.codeIn K cd3 "Sheet.__getitem__" = true) (k3 : PySem.W.keepIn K (.ref f3) = true)
    (i3 : PySem.W.isFn K (.ref f3) = true)
    {f4 : Addr} {od4 an4 : Option Addr} {sl4 : Array (Option Value)} {oc4 kV4 dc4 pm4 cd4 ct4 : Value}
    (a4 : PySem.W.findIn K (.ref c_Sheet) "__contains__" = some (some (.ref f4))) (l4 : K.lookup f4 = some ⟨oc4, od4, .func (PySem.W.fnOf "__contains__" "Sheet.__contains__" (defArgs s_Sheet___contains__) (defBody s_Sheet___contains__) (defScope s_Sheet___contains__) .none kV4 dc4 pm4 an4 cd4 ct4), sl4⟩) (c4 : PySem.W.codeIn K cd4 "Sheet.__contains__" = true) (k4 : PySem.W.keepIn K (.ref f4) = true)
    (i4 : PySem.W.isFn K (.ref f4) = true)
    {f5 : Addr} {od5 an5 : Option Addr} {sl5 : Array (Option Value)} {oc5 kV5 dc5 pm5 cd5 ct5 : Value}
    (a5 : PySem.W.findIn K (.ref c_Sheet) "__add__" = some (some (.ref f5))) (l5 : K.lookup f5 = some ⟨oc5, od5, .func (PySem.W.fnOf "__add__" "Sheet.__add__" (defArgs s_Sheet___add__) (defBody s_Sheet___add__) (defScope s_Sheet___add__) .none kV5 dc5 pm5 an5 cd5 ct5), sl5⟩) (c5 : PySem.W.codeIn K cd5 "Sheet.__add__" = true) (k5 : PySem.W.keepIn K (.ref f5) = true)
    (i5 : PySem.W.isFn K (.ref f5) = true)
    (o5 : PySem.W.findIn K (.ref c_Sheet) (PySem.dunder (PySem.Operator.Add).info.2) = some (some (.ref f5)))
    {f6 : Addr} {od6 an6 : Option Addr} {sl6 : Array (Option Value)} {oc6 kV6 dc6 pm6 cd6 ct6 : Value}
    (a6 : PySem.W.findIn K (.ref c_Sheet) "with_rule" = some (some (.ref f6))) (l6 : K.lookup f6 = some ⟨oc6, od6, .func (PySem.W.fnOf "with_rule" "Sheet.with_rule" (defArgs s_Sheet_with_rule) (defBody s_Sheet_with_rule) (defScope s_Sheet_with_rule) .none kV6 dc6 pm6 an6 cd6 ct6), sl6⟩) (c6 : PySem.W.codeIn K cd6 "Sheet.with_rule" = true) (k6 : PySem.W.keepIn K (.ref f6) = true)
    (i6 : PySem.W.isFn K (.ref f6) = true)
    {f7 : Addr} {od7 an7 : Option Addr} {sl7 : Array (Option Value)} {oc7 kV7 dc7 pm7 cd7 ct7 : Value}
    (a7 : PySem.W.findIn K (.ref c_Sheet) "without_rule" = some (some (.ref f7))) (l7 : K.lookup f7 = some ⟨oc7, od7, .func (PySem.W.fnOf "without_rule" "Sheet.without_rule" (defArgs s_Sheet_without_rule) (defBody s_Sheet_without_rule) (defScope s_Sheet_without_rule) .none kV7 dc7 pm7 an7 cd7 ct7), sl7⟩) (c7 : PySem.W.codeIn K cd7 "Sheet.without_rule" = true) (k7 : PySem.W.keepIn K (.ref f7) = true)
    (i7 : PySem.W.isFn K (.ref f7) = true)
    {f8 : Addr} {od8 an8 : Option Addr} {sl8 : Array (Option Value)} {oc8 kV8 dc8 pm8 cd8 ct8 : Value}
    (a8 : PySem.W.nsIn K mainGlobals "joined" = some (some (.ref f8))) (l8 : K.lookup f8 = some ⟨oc8, od8, .func (PySem.W.fnOf "joined" "joined" (defArgs s_joined) (defBody s_joined) (defScope s_joined) .none kV8 dc8 pm8 an8 cd8 ct8), sl8⟩) (c8 : PySem.W.codeIn K cd8 "joined" = true) (k8 : PySem.W.keepIn K (.ref f8) = true)
    {f9 : Addr} {od9 an9 : Option Addr} {sl9 : Array (Option Value)} {oc9 kV9 dc9 pm9 cd9 ct9 : Value}
    (a9 : PySem.W.nsIn K mainGlobals "_law_pool" = some (some (.ref f9))) (l9 : K.lookup f9 = some ⟨oc9, od9, .func (PySem.W.fnOf "_law_pool" "_law_pool" (defArgs s__law_pool) (defBody s__law_pool) (defScope s__law_pool) .none kV9 dc9 pm9 an9 cd9 ct9), sl9⟩) (c9 : PySem.W.codeIn K cd9 "_law_pool" = true) (k9 : PySem.W.keepIn K (.ref f9) = true)
    {f10 : Addr} {od10 an10 : Option Addr} {sl10 : Array (Option Value)} {oc10 kV10 dc10 pm10 cd10 ct10 : Value}
    (a10 : PySem.W.nsIn K mainGlobals "_law_take" = some (some (.ref f10))) (l10 : K.lookup f10 = some ⟨oc10, od10, .func (PySem.W.fnOf "_law_take" "_law_take" (defArgs s__law_take) (defBody s__law_take) (defScope s__law_take) .none kV10 dc10 pm10 an10 cd10 ct10), sl10⟩) (c10 : PySem.W.codeIn K cd10 "_law_take" = true) (k10 : PySem.W.keepIn K (.ref f10) = true)
    {f11 : Addr} {od11 an11 : Option Addr} {sl11 : Array (Option Value)} {oc11 kV11 dc11 pm11 cd11 ct11 : Value}
    (a11 : PySem.W.nsIn K mainGlobals "_law_same" = some (some (.ref f11))) (l11 : K.lookup f11 = some ⟨oc11, od11, .func (PySem.W.fnOf "_law_same" "_law_same" (defArgs s__law_same) (defBody s__law_same) (defScope s__law_same) .none kV11 dc11 pm11 an11 cd11 ct11), sl11⟩) (c11 : PySem.W.codeIn K cd11 "_law_same" = true) (k11 : PySem.W.keepIn K (.ref f11) = true)
    {f12 : Addr} {od12 an12 : Option Addr} {sl12 : Array (Option Value)} {oc12 kV12 dc12 pm12 cd12 ct12 : Value}
    (a12 : PySem.W.nsIn K mainGlobals "_law_letters" = some (some (.ref f12))) (l12 : K.lookup f12 = some ⟨oc12, od12, .func (PySem.W.fnOf "_law_letters" "_law_letters" (defArgs s__law_letters) (defBody s__law_letters) (defScope s__law_letters) .none kV12 dc12 pm12 an12 cd12 ct12), sl12⟩) (c12 : PySem.W.codeIn K cd12 "_law_letters" = true) (k12 : PySem.W.keepIn K (.ref f12) = true)
    {f13 : Addr} {od13 an13 : Option Addr} {sl13 : Array (Option Value)} {oc13 kV13 dc13 pm13 cd13 ct13 : Value}
    (a13 : PySem.W.nsIn K mainGlobals "_law_names" = some (some (.ref f13))) (l13 : K.lookup f13 = some ⟨oc13, od13, .func (PySem.W.fnOf "_law_names" "_law_names" (defArgs s__law_names) (defBody s__law_names) (defScope s__law_names) .none kV13 dc13 pm13 an13 cd13 ct13), sl13⟩) (c13 : PySem.W.codeIn K cd13 "_law_names" = true) (k13 : PySem.W.keepIn K (.ref f13) = true)
    {f14 : Addr} {od14 an14 : Option Addr} {sl14 : Array (Option Value)} {oc14 kV14 dc14 pm14 cd14 ct14 : Value}
    (a14 : PySem.W.nsIn K mainGlobals "_law_any_names" = some (some (.ref f14))) (l14 : K.lookup f14 = some ⟨oc14, od14, .func (PySem.W.fnOf "_law_any_names" "_law_any_names" (defArgs s__law_any_names) (defBody s__law_any_names) (defScope s__law_any_names) .none kV14 dc14 pm14 an14 cd14 ct14), sl14⟩) (c14 : PySem.W.codeIn K cd14 "_law_any_names" = true) (k14 : PySem.W.keepIn K (.ref f14) = true)
    {f15 : Addr} {od15 an15 : Option Addr} {sl15 : Array (Option Value)} {oc15 kV15 dc15 pm15 cd15 ct15 : Value}
    (a15 : PySem.W.nsIn K mainGlobals "_law_marks" = some (some (.ref f15))) (l15 : K.lookup f15 = some ⟨oc15, od15, .func (PySem.W.fnOf "_law_marks" "_law_marks" (defArgs s__law_marks) (defBody s__law_marks) (defScope s__law_marks) .none kV15 dc15 pm15 an15 cd15 ct15), sl15⟩) (c15 : PySem.W.codeIn K cd15 "_law_marks" = true) (k15 : PySem.W.keepIn K (.ref f15) = true)
    {f16 : Addr} {od16 an16 : Option Addr} {sl16 : Array (Option Value)} {oc16 kV16 dc16 pm16 cd16 ct16 : Value}
    (a16 : PySem.W.nsIn K mainGlobals "_law_properties" = some (some (.ref f16))) (l16 : K.lookup f16 = some ⟨oc16, od16, .func (PySem.W.fnOf "_law_properties" "_law_properties" (defArgs s__law_properties) (defBody s__law_properties) (defScope s__law_properties) .none kV16 dc16 pm16 an16 cd16 ct16), sl16⟩) (c16 : PySem.W.codeIn K cd16 "_law_properties" = true) (k16 : PySem.W.keepIn K (.ref f16) = true)
    {f17 : Addr} {od17 an17 : Option Addr} {sl17 : Array (Option Value)} {oc17 kV17 dc17 pm17 cd17 ct17 : Value}
    (a17 : PySem.W.nsIn K mainGlobals "_law_selector" = some (some (.ref f17))) (l17 : K.lookup f17 = some ⟨oc17, od17, .func (PySem.W.fnOf "_law_selector" "_law_selector" (defArgs s__law_selector) (defBody s__law_selector) (defScope s__law_selector) .none kV17 dc17 pm17 an17 cd17 ct17), sl17⟩) (c17 : PySem.W.codeIn K cd17 "_law_selector" = true) (k17 : PySem.W.keepIn K (.ref f17) = true)
    {f18 : Addr} {od18 an18 : Option Addr} {sl18 : Array (Option Value)} {oc18 kV18 dc18 pm18 cd18 ct18 : Value}
    (a18 : PySem.W.nsIn K mainGlobals "_law_value" = some (some (.ref f18))) (l18 : K.lookup f18 = some ⟨oc18, od18, .func (PySem.W.fnOf "_law_value" "_law_value" (defArgs s__law_value) (defBody s__law_value) (defScope s__law_value) .none kV18 dc18 pm18 an18 cd18 ct18), sl18⟩) (c18 : PySem.W.codeIn K cd18 "_law_value" = true) (k18 : PySem.W.keepIn K (.ref f18) = true)
    {f19 : Addr} {od19 an19 : Option Addr} {sl19 : Array (Option Value)} {oc19 kV19 dc19 pm19 cd19 ct19 : Value}
    (a19 : PySem.W.nsIn K mainGlobals "_law_declarations" = some (some (.ref f19))) (l19 : K.lookup f19 = some ⟨oc19, od19, .func (PySem.W.fnOf "_law_declarations" "_law_declarations" (defArgs s__law_declarations) (defBody s__law_declarations) (defScope s__law_declarations) .none kV19 dc19 pm19 an19 cd19 ct19), sl19⟩) (c19 : PySem.W.codeIn K cd19 "_law_declarations" = true) (k19 : PySem.W.keepIn K (.ref f19) = true)
    {f20 : Addr} {od20 an20 : Option Addr} {sl20 : Array (Option Value)} {oc20 kV20 dc20 pm20 cd20 ct20 : Value}
    (a20 : PySem.W.nsIn K mainGlobals "_law_rules" = some (some (.ref f20))) (l20 : K.lookup f20 = some ⟨oc20, od20, .func (PySem.W.fnOf "_law_rules" "_law_rules" (defArgs s__law_rules) (defBody s__law_rules) (defScope s__law_rules) .none kV20 dc20 pm20 an20 cd20 ct20), sl20⟩) (c20 : PySem.W.codeIn K cd20 "_law_rules" = true) (k20 : PySem.W.keepIn K (.ref f20) = true)
    {f21 : Addr} {od21 an21 : Option Addr} {sl21 : Array (Option Value)} {oc21 kV21 dc21 pm21 cd21 ct21 : Value}
    (a21 : PySem.W.nsIn K mainGlobals "_law_row" = some (some (.ref f21))) (l21 : K.lookup f21 = some ⟨oc21, od21, .func (PySem.W.fnOf "_law_row" "_law_row" (defArgs s__law_row) (defBody s__law_row) (defScope s__law_row) .none kV21 dc21 pm21 an21 cd21 ct21), sl21⟩) (c21 : PySem.W.codeIn K cd21 "_law_row" = true) (k21 : PySem.W.keepIn K (.ref f21) = true)
    {f22 : Addr} {od22 an22 : Option Addr} {sl22 : Array (Option Value)} {oc22 kV22 dc22 pm22 cd22 ct22 : Value}
    (a22 : PySem.W.nsIn K mainGlobals "_law_deed" = some (some (.ref f22))) (l22 : K.lookup f22 = some ⟨oc22, od22, .func (PySem.W.fnOf "_law_deed" "_law_deed" (defArgs s__law_deed) (defBody s__law_deed) (defScope s__law_deed) .none kV22 dc22 pm22 an22 cd22 ct22), sl22⟩) (c22 : PySem.W.codeIn K cd22 "_law_deed" = true) (k22 : PySem.W.keepIn K (.ref f22) = true)
    {f23 : Addr} {od23 an23 : Option Addr} {sl23 : Array (Option Value)} {oc23 kV23 dc23 pm23 cd23 ct23 : Value}
    (a23 : PySem.W.nsIn K mainGlobals "_law_joint" = some (some (.ref f23))) (l23 : K.lookup f23 = some ⟨oc23, od23, .func (PySem.W.fnOf "_law_joint" "_law_joint" (defArgs s__law_joint) (defBody s__law_joint) (defScope s__law_joint) .none kV23 dc23 pm23 an23 cd23 ct23), sl23⟩) (c23 : PySem.W.codeIn K cd23 "_law_joint" = true) (k23 : PySem.W.keepIn K (.ref f23) = true)
    {f24 : Addr} {od24 an24 : Option Addr} {sl24 : Array (Option Value)} {oc24 kV24 dc24 pm24 cd24 ct24 : Value}
    (a24 : PySem.W.nsIn K mainGlobals "_law_rows_of" = some (some (.ref f24))) (l24 : K.lookup f24 = some ⟨oc24, od24, .func (PySem.W.fnOf "_law_rows_of" "_law_rows_of" (defArgs s__law_rows_of) (defBody s__law_rows_of) (defScope s__law_rows_of) .none kV24 dc24 pm24 an24 cd24 ct24), sl24⟩) (c24 : PySem.W.codeIn K cd24 "_law_rows_of" = true) (k24 : PySem.W.keepIn K (.ref f24) = true)
    {f25 : Addr} {od25 an25 : Option Addr} {sl25 : Array (Option Value)} {oc25 kV25 dc25 pm25 cd25 ct25 : Value}
    (a25 : PySem.W.nsIn K mainGlobals "_law_due" = some (some (.ref f25))) (l25 : K.lookup f25 = some ⟨oc25, od25, .func (PySem.W.fnOf "_law_due" "_law_due" (defArgs s__law_due) (defBody s__law_due) (defScope s__law_due) .none kV25 dc25 pm25 an25 cd25 ct25), sl25⟩) (c25 : PySem.W.codeIn K cd25 "_law_due" = true) (k25 : PySem.W.keepIn K (.ref f25) = true)
    {f26 : Addr} {od26 an26 : Option Addr} {sl26 : Array (Option Value)} {oc26 kV26 dc26 pm26 cd26 ct26 : Value}
    (a26 : PySem.W.nsIn K mainGlobals "_law_sum_due" = some (some (.ref f26))) (l26 : K.lookup f26 = some ⟨oc26, od26, .func (PySem.W.fnOf "_law_sum_due" "_law_sum_due" (defArgs s__law_sum_due) (defBody s__law_sum_due) (defScope s__law_sum_due) .none kV26 dc26 pm26 an26 cd26 ct26), sl26⟩) (c26 : PySem.W.codeIn K cd26 "_law_sum_due" = true) (k26 : PySem.W.keepIn K (.ref f26) = true)
    {f27 : Addr} {od27 an27 : Option Addr} {sl27 : Array (Option Value)} {oc27 kV27 dc27 pm27 cd27 ct27 : Value}
    (a27 : PySem.W.nsIn K mainGlobals "_law_places_right" = some (some (.ref f27))) (l27 : K.lookup f27 = some ⟨oc27, od27, .func (PySem.W.fnOf "_law_places_right" "_law_places_right" (defArgs s__law_places_right) (defBody s__law_places_right) (defScope s__law_places_right) .none kV27 dc27 pm27 an27 cd27 ct27), sl27⟩) (c27 : PySem.W.codeIn K cd27 "_law_places_right" = true) (k27 : PySem.W.keepIn K (.ref f27) = true)
    {f28 : Addr} {od28 an28 : Option Addr} {sl28 : Array (Option Value)} {oc28 kV28 dc28 pm28 cd28 ct28 : Value}
    (a28 : PySem.W.nsIn K mainGlobals "_law_sums_right" = some (some (.ref f28))) (l28 : K.lookup f28 = some ⟨oc28, od28, .func (PySem.W.fnOf "_law_sums_right" "_law_sums_right" (defArgs s__law_sums_right) (defBody s__law_sums_right) (defScope s__law_sums_right) .none kV28 dc28 pm28 an28 cd28 ct28), sl28⟩) (c28 : PySem.W.codeIn K cd28 "_law_sums_right" = true) (k28 : PySem.W.keepIn K (.ref f28) = true)
    {f29 : Addr} {od29 an29 : Option Addr} {sl29 : Array (Option Value)} {oc29 kV29 dc29 pm29 cd29 ct29 : Value}
    (a29 : PySem.W.nsIn K mainGlobals "law" = some (some (.ref f29))) (l29 : K.lookup f29 = some ⟨oc29, od29, .func (PySem.W.fnOf "law" "law" (defArgs s_law) (defBody s_law) (defScope s_law) .none kV29 dc29 pm29 an29 cd29 ct29), sl29⟩) (c29 : PySem.W.codeIn K cd29 "law" = true) (k29 : PySem.W.keepIn K (.ref f29) = true)
    (z_ValueError : PySem.W.nsIn K mainGlobals "ValueError" = some none)
    (z_abs : PySem.W.nsIn K mainGlobals "abs" = some none)
    (z_all : PySem.W.nsIn K mainGlobals "all" = some none)
    (z_bool : PySem.W.nsIn K mainGlobals "bool" = some none)
    (z_dict : PySem.W.nsIn K mainGlobals "dict" = some none)
    (z_enumerate : PySem.W.nsIn K mainGlobals "enumerate" = some none)
    (z_int : PySem.W.nsIn K mainGlobals "int" = some none)
    (z_isinstance : PySem.W.nsIn K mainGlobals "isinstance" = some none)
    (z_iter : PySem.W.nsIn K mainGlobals "iter" = some none)
    (z_len : PySem.W.nsIn K mainGlobals "len" = some none)
    (z_list : PySem.W.nsIn K mainGlobals "list" = some none)
    (z_range : PySem.W.nsIn K mainGlobals "range" = some none)
    (z_sorted : PySem.W.nsIn K mainGlobals "sorted" = some none)
    (z_str : PySem.W.nsIn K mainGlobals "str" = some none)
    (z_tuple : PySem.W.nsIn K mainGlobals "tuple" = some none)
    {c_BadRule : Addr} (a_BadRule : PySem.W.nsIn K mainGlobals "BadRule" = some (some (.ref c_BadRule))) (bs_BadRule : PySem.W.subIn K (.ref c_BadRule) (.type "BaseException") = some true) (tx_BadRule : PySem.W.typeIn K (.ref c_BadRule) = some (.type "type")) (hd_BadRule : PySem.W.hasDictIn K c_BadRule = true)
    {c_TooLarge : Addr} (a_TooLarge : PySem.W.nsIn K mainGlobals "TooLarge" = some (some (.ref c_TooLarge))) (bs_TooLarge : PySem.W.subIn K (.ref c_TooLarge) (.type "BaseException") = some true) (tx_TooLarge : PySem.W.typeIn K (.ref c_TooLarge) = some (.type "type")) (hd_TooLarge : PySem.W.hasDictIn K c_TooLarge = true)
    {c_BadPath : Addr} (a_BadPath : PySem.W.nsIn K mainGlobals "BadPath" = some (some (.ref c_BadPath))) (bs_BadPath : PySem.W.subIn K (.ref c_BadPath) (.type "BaseException") = some true) (tx_BadPath : PySem.W.typeIn K (.ref c_BadPath) = some (.type "type")) (hd_BadPath : PySem.W.hasDictIn K c_BadPath = true)
    {c_StyleError : Addr} (a_StyleError : PySem.W.nsIn K mainGlobals "StyleError" = some (some (.ref c_StyleError))) (bs_StyleError : PySem.W.subIn K (.ref c_StyleError) (.type "BaseException") = some true) (tx_StyleError : PySem.W.typeIn K (.ref c_StyleError) = some (.type "type")) (hd_StyleError : PySem.W.hasDictIn K c_StyleError = true)
    (x_TooLarge : PySem.W.excIn K c_TooLarge [.type "ValueError", .type "Exception", .type "BaseException", .type "object"] "ValueError.__new__" = true) (kx_TooLarge : PySem.W.keepIn K (.ref c_TooLarge) = true)
    (ga_TooLarge : PySem.W.findIn K (.ref c_TooLarge) "__getattribute__" = some (some (.builtin "BaseException.__getattribute__"))) (gg_TooLarge : PySem.W.findIn K (.ref c_TooLarge) "__getattr__" = some none) (cl_TooLarge : PySem.W.findIn K (.ref c_TooLarge) "__class__" = some (some (.builtin "object.__class__"))) (mo_TooLarge : PySem.W.mroIn K c_TooLarge (.type "object") = some true) (sv_TooLarge : PySem.W.subIn K (.ref c_TooLarge) (.type "ValueError") = some true)
    (sb_TooLarge_BadRule : PySem.W.subIn K (.ref c_TooLarge) (.ref c_BadRule) = some false)
    (sb_TooLarge_TooLarge : PySem.W.subIn K (.ref c_TooLarge) (.ref c_TooLarge) = some true)
    (sb_TooLarge_BadPath : PySem.W.subIn K (.ref c_TooLarge) (.ref c_BadPath) = some false)
    (sb_TooLarge_StyleError : PySem.W.subIn K (.ref c_TooLarge) (.ref c_StyleError) = some true)
    (x_BadPath : PySem.W.excIn K c_BadPath [.type "ValueError", .type "Exception", .type "BaseException", .type "object"] "ValueError.__new__" = true) (kx_BadPath : PySem.W.keepIn K (.ref c_BadPath) = true)
    (ga_BadPath : PySem.W.findIn K (.ref c_BadPath) "__getattribute__" = some (some (.builtin "BaseException.__getattribute__"))) (gg_BadPath : PySem.W.findIn K (.ref c_BadPath) "__getattr__" = some none) (cl_BadPath : PySem.W.findIn K (.ref c_BadPath) "__class__" = some (some (.builtin "object.__class__"))) (mo_BadPath : PySem.W.mroIn K c_BadPath (.type "object") = some true) (sv_BadPath : PySem.W.subIn K (.ref c_BadPath) (.type "ValueError") = some true)
    (sb_BadPath_BadRule : PySem.W.subIn K (.ref c_BadPath) (.ref c_BadRule) = some false)
    (sb_BadPath_TooLarge : PySem.W.subIn K (.ref c_BadPath) (.ref c_TooLarge) = some false)
    (sb_BadPath_BadPath : PySem.W.subIn K (.ref c_BadPath) (.ref c_BadPath) = some true)
    (sb_BadPath_StyleError : PySem.W.subIn K (.ref c_BadPath) (.ref c_StyleError) = some true)
    : ∃ T : Txt K mg, T.f_law = f29 ∧ ∀ (s : Shared) (v : Value), BindsTo s T.fd_law ⟨[v], []⟩ [("_law_script", v)] := by
  have F0 := fun_mk (st := s_Sheet___init__) l0 c0 k0
  have b0 := F0.binds (ps := ["self", "rules"]) fun _ _ _ _ _ _ us hl => match us, hl with | [_, _], _ => rfl
  have F1 := fun_mk (st := s_Sheet___len__) l1 c1 k1
  have b1 := F1.binds (ps := ["self"]) fun _ _ _ _ _ _ us hl => match us, hl with | [_], _ => rfl
  have F2 := fun_mk (st := s_Sheet___iter__) l2 c2 k2
  have b2 := F2.binds (ps := ["self"]) fun _ _ _ _ _ _ us hl => match us, hl with | [_], _ => rfl
  have F3 := fun_mk (st := s_Sheet___getitem__) l3 c3 k3
  have b3 := F3.binds (ps := ["self", "at"]) fun _ _ _ _ _ _ us hl => match us, hl with | [_, _], _ => rfl
  have F4 := fun_mk (st := s_Sheet___contains__) l4 c4 k4
  have b4 := F4.binds (ps := ["self", "name"]) fun _ _ _ _ _ _ us hl => match us, hl with | [_, _], _ => rfl
  have F5 := fun_mk (st := s_Sheet___add__) l5 c5 k5
  have b5 := F5.binds (ps := ["self", "other"]) fun _ _ _ _ _ _ us hl => match us, hl with | [_, _], _ => rfl
  have F6 := fun_mk (st := s_Sheet_with_rule) l6 c6 k6
  have b6 := F6.binds (ps := ["self", "at", "rule"]) fun _ _ _ _ _ _ us hl => match us, hl with | [_, _, _], _ => rfl
  have F7 := fun_mk (st := s_Sheet_without_rule) l7 c7 k7
  have b7 := F7.binds (ps := ["self", "at"]) fun _ _ _ _ _ _ us hl => match us, hl with | [_, _], _ => rfl
  have F8 := fun_mk (st := s_joined) l8 c8 k8
  have F9 := fun_mk (st := s__law_pool) l9 c9 k9
  have b9 := F9.binds (ps := ["_law_script", "_law_at"]) fun _ _ _ _ _ _ us hl => match us, hl with | [_, _], _ => rfl
  have F10 := fun_mk (st := s__law_take) l10 c10 k10
  have b10 := F10.binds (ps := ["_law_pool_here", "_law_many"]) fun _ _ _ _ _ _ us hl => match us, hl with | [_, _], _ => rfl
  have F11 := fun_mk (st := s__law_same) l11 c11 k11
  have b11 := F11.binds (ps := ["_law_one", "_law_two"]) fun _ _ _ _ _ _ us hl => match us, hl with | [_, _], _ => rfl
  have F12 := fun_mk (st := s__law_letters) l12 c12 k12
  have b12 := F12.binds (ps := ["_law_pool_here", "_law_many"]) fun _ _ _ _ _ _ us hl => match us, hl with | [_, _], _ => rfl
  have F13 := fun_mk (st := s__law_names) l13 c13 k13
  have b13 := F13.binds (ps := ["_law_pool_here", "_law_many"]) fun _ _ _ _ _ _ us hl => match us, hl with | [_, _], _ => rfl
  have F14 := fun_mk (st := s__law_any_names) l14 c14 k14
  have b14 := F14.binds (ps := ["_law_pool_here", "_law_many"]) fun _ _ _ _ _ _ us hl => match us, hl with | [_, _], _ => rfl
  have F15 := fun_mk (st := s__law_marks) l15 c15 k15
  have b15 := F15.binds (ps := ["_law_pool_here", "_law_names_here"]) fun _ _ _ _ _ _ us hl => match us, hl with | [_, _], _ => rfl
  have F16 := fun_mk (st := s__law_properties) l16 c16 k16
  have b16 := F16.binds (ps := []) fun _ _ _ _ _ _ us hl => match us, hl with | [], _ => rfl
  have F17 := fun_mk (st := s__law_selector) l17 c17 k17
  have b17 := F17.binds (ps := ["_law_pool_here", "_law_kinds", "_law_marks_here", "_law_longest"]) fun _ _ _ _ _ _ us hl => match us, hl with | [_, _, _, _], _ => rfl
  have F18 := fun_mk (st := s__law_value) l18 c18 k18
  have b18 := F18.binds (ps := ["_law_pool_here", "_law_name"]) fun _ _ _ _ _ _ us hl => match us, hl with | [_, _], _ => rfl
  have F19 := fun_mk (st := s__law_declarations) l19 c19 k19
  have b19 := F19.binds (ps := ["_law_pool_here", "_law_longest"]) fun _ _ _ _ _ _ us hl => match us, hl with | [_, _], _ => rfl
  have F20 := fun_mk (st := s__law_rules) l20 c20 k20
  have b20 := F20.binds (ps := ["_law_pool_here", "_law_kinds", "_law_marks_here", "_law_many", "_law_steps", "_law_longest"]) fun _ _ _ _ _ _ us hl => match us, hl with | [_, _, _, _, _, _], _ => rfl
  have F21 := fun_mk (st := s__law_row) l21 c21 k21
  have b21 := F21.binds (ps := ["_law_pool_here", "_law_kinds", "_law_marks_here"]) fun _ _ _ _ _ _ us hl => match us, hl with | [_, _, _], _ => rfl
  have F22 := fun_mk (st := s__law_deed) l22 c22 k22
  have b22 := F22.binds (ps := ["_law_sort", "_law_sheet", "_law_place", "_law_other"]) fun _ _ _ _ _ _ us hl => match us, hl with | [_, _, _, _], _ => rfl
  have F23 := fun_mk (st := s__law_joint) l23 c23 k23
  have b23 := F23.binds (ps := ["_law_sheets"]) fun _ _ _ _ _ _ us hl => match us, hl with | [_], _ => rfl
  have F24 := fun_mk (st := s__law_rows_of) l24 c24 k24
  have b24 := F24.binds (ps := ["_law_sheet"]) fun _ _ _ _ _ _ us hl => match us, hl with | [_], _ => rfl
  have F25 := fun_mk (st := s__law_due) l25 c25 k25
  have b25 := F25.binds (ps := ["_law_sort", "_law_rules_here", "_law_place", "_law_other"]) fun _ _ _ _ _ _ us hl => match us, hl with | [_, _, _, _], _ => rfl
  have F26 := fun_mk (st := s__law_sum_due) l26 c26 k26
  have b26 := F26.binds (ps := ["_law_rules_here"]) fun _ _ _ _ _ _ us hl => match us, hl with | [_], _ => rfl
  have F27 := fun_mk (st := s__law_places_right) l27 c27 k27
  have b27 := F27.binds (ps := ["_law_sheet", "_law_rules_here", "_law_one"]) fun _ _ _ _ _ _ us hl => match us, hl with | [_, _, _], _ => rfl
  have F28 := fun_mk (st := s__law_sums_right) l28 c28 k28
  have b28 := F28.binds (ps := ["_law_sheets", "_law_rows"]) fun _ _ _ _ _ _ us hl => match us, hl with | [_, _], _ => rfl
  have F29 := fun_mk (st := s_law) l29 c29 k29
  have b29 := F29.binds (ps := ["_law_script"]) fun _ _ _ _ _ _ us hl => match us, hl with | [_], _ => rfl
  exact ⟨{ c_BadRule := c_BadRule, g_BadRule := PySem.W.mg_of X G a_BadRule, bs_BadRule := bs_BadRule, tx_BadRule := tx_BadRule, hd_BadRule := hd_BadRule, c_TooLarge := c_TooLarge, g_TooLarge := PySem.W.mg_of X G a_TooLarge, bs_TooLarge := bs_TooLarge, tx_TooLarge := tx_TooLarge, hd_TooLarge := hd_TooLarge, c_BadPath := c_BadPath, g_BadPath := PySem.W.mg_of X G a_BadPath, bs_BadPath := bs_BadPath, tx_BadPath := tx_BadPath, hd_BadPath := hd_BadPath, c_StyleError := c_StyleError, g_StyleError := PySem.W.mg_of X G a_StyleError, bs_StyleError := bs_StyleError, tx_StyleError := tx_StyleError, hd_StyleError := hd_StyleError, x_TooLarge := x_TooLarge, kx_TooLarge := kx_TooLarge, xc_TooLarge := ⟨ga_TooLarge, gg_TooLarge, bs_TooLarge, hd_TooLarge, cl_TooLarge, hnO, htO, mo_TooLarge⟩, sv_TooLarge := sv_TooLarge, sb_TooLarge_BadRule := sb_TooLarge_BadRule, sb_TooLarge_TooLarge := sb_TooLarge_TooLarge, sb_TooLarge_BadPath := sb_TooLarge_BadPath, sb_TooLarge_StyleError := sb_TooLarge_StyleError, x_BadPath := x_BadPath, kx_BadPath := kx_BadPath, xc_BadPath := ⟨ga_BadPath, gg_BadPath, bs_BadPath, hd_BadPath, cl_BadPath, hnO, htO, mo_BadPath⟩, sv_BadPath := sv_BadPath, sb_BadPath_BadRule := sb_BadPath_BadRule, sb_BadPath_TooLarge := sb_BadPath_TooLarge, sb_BadPath_BadPath := sb_BadPath_BadPath, sb_BadPath_StyleError := sb_BadPath_StyleError, m_ValueError := PySem.W.mg_none_of X G z_ValueError, m_abs := PySem.W.mg_none_of X G z_abs, m_all := PySem.W.mg_none_of X G z_all, m_bool := PySem.W.mg_none_of X G z_bool, m_dict := PySem.W.mg_none_of X G z_dict, m_enumerate := PySem.W.mg_none_of X G z_enumerate, m_int := PySem.W.mg_none_of X G z_int, m_isinstance := PySem.W.mg_none_of X G z_isinstance, m_iter := PySem.W.mg_none_of X G z_iter, m_len := PySem.W.mg_none_of X G z_len, m_list := PySem.W.mg_none_of X G z_list, m_range := PySem.W.mg_none_of X G z_range, m_sorted := PySem.W.mg_none_of X G z_sorted, m_str := PySem.W.mg_none_of X G z_str, m_tuple := PySem.W.mg_none_of X G z_tuple, c_Weight := c_Weight, g_Weight := PySem.W.mg_of X G aWeight, co_Weight := ⟨⟨pgWeight, hdWeight, poWeight, saWeight⟩, haWeight, hnO, htO, hmWeight⟩, na_Weight_marks := naWeight_marks, na_Weight_kinds := naWeight_kinds, c_Sheet := c_Sheet, g_Sheet := PySem.W.mg_of X G aSheet, co_Sheet := ⟨⟨pgSheet, hdSheet, poSheet, saSheet⟩, haSheet, hnO, htO, hmSheet⟩, cr_Sheet := ⟨rdSheet, gaSheet⟩, cw_Sheet_LIMIT := ⟨_, cvSheet_LIMIT, ⟨_, rfl⟩⟩, sf_Sheet := sfSheet, na_Sheet_rule_row := naSheet_rule_row, f_Sheet___init__ := f0, fd_Sheet___init__ := _, F_Sheet___init__ := F0, b_Sheet___init__ := b0, mk_Sheet := ⟨mkSheet, a0, i0, kcSheet⟩, f_Sheet___len__ := f1, fd_Sheet___len__ := _, F_Sheet___len__ := F1, b_Sheet___len__ := b1, mt_Sheet___len__ := ⟨a1, i1, k1⟩, f_Sheet___iter__ := f2, fd_Sheet___iter__ := _, F_Sheet___iter__ := F2, b_Sheet___iter__ := b2, mt_Sheet___iter__ := ⟨a2, i2, k2⟩, f_Sheet___getitem__ := f3, fd_Sheet___getitem__ := _, F_Sheet___getitem__ := F3, b_Sheet___getitem__ := b3, mt_Sheet___getitem__ := ⟨a3, i3, k3⟩, f_Sheet___contains__ := f4, fd_Sheet___contains__ := _, F_Sheet___contains__ := F4, b_Sheet___contains__ := b4, mt_Sheet___contains__ := ⟨a4, i4, k4⟩, f_Sheet___add__ := f5, fd_Sheet___add__ := _, F_Sheet___add__ := F5, b_Sheet___add__ := b5, mt_Sheet___add__ := ⟨a5, i5, k5⟩, op_Sheet___add__ := o5, f_Sheet_with_rule := f6, fd_Sheet_with_rule := _, F_Sheet_with_rule := F6, b_Sheet_with_rule := b6, mt_Sheet_with_rule := ⟨a6, i6, k6⟩, f_Sheet_without_rule := f7, fd_Sheet_without_rule := _, F_Sheet_without_rule := F7, b_Sheet_without_rule := b7, mt_Sheet_without_rule := ⟨a7, i7, k7⟩, f_joined := f8, fd_joined := _, F_joined := F8, sb_joined := fun rest => match rest with | [] => rfl | _ :: _ => rfl, g_joined := PySem.W.mg_of X G a8, f__law_pool := f9, fd__law_pool := _, F__law_pool := F9, b__law_pool := b9, g__law_pool := PySem.W.mg_of X G a9, f__law_take := f10, fd__law_take := _, F__law_take := F10, b__law_take := b10, g__law_take := PySem.W.mg_of X G a10, f__law_same := f11, fd__law_same := _, F__law_same := F11, b__law_same := b11, g__law_same := PySem.W.mg_of X G a11, f__law_letters := f12, fd__law_letters := _, F__law_letters := F12, b__law_letters := b12, g__law_letters := PySem.W.mg_of X G a12, f__law_names := f13, fd__law_names := _, F__law_names := F13, b__law_names := b13, g__law_names := PySem.W.mg_of X G a13, f__law_any_names := f14, fd__law_any_names := _, F__law_any_names := F14, b__law_any_names := b14, g__law_any_names := PySem.W.mg_of X G a14, f__law_marks := f15, fd__law_marks := _, F__law_marks := F15, b__law_marks := b15, g__law_marks := PySem.W.mg_of X G a15, f__law_properties := f16, fd__law_properties := _, F__law_properties := F16, b__law_properties := b16, g__law_properties := PySem.W.mg_of X G a16, f__law_selector := f17, fd__law_selector := _, F__law_selector := F17, b__law_selector := b17, g__law_selector := PySem.W.mg_of X G a17, f__law_value := f18, fd__law_value := _, F__law_value := F18, b__law_value := b18, g__law_value := PySem.W.mg_of X G a18, f__law_declarations := f19, fd__law_declarations := _, F__law_declarations := F19, b__law_declarations := b19, g__law_declarations := PySem.W.mg_of X G a19, f__law_rules := f20, fd__law_rules := _, F__law_rules := F20, b__law_rules := b20, g__law_rules := PySem.W.mg_of X G a20, f__law_row := f21, fd__law_row := _, F__law_row := F21, b__law_row := b21, g__law_row := PySem.W.mg_of X G a21, f__law_deed := f22, fd__law_deed := _, F__law_deed := F22, b__law_deed := b22, g__law_deed := PySem.W.mg_of X G a22, f__law_joint := f23, fd__law_joint := _, F__law_joint := F23, b__law_joint := b23, g__law_joint := PySem.W.mg_of X G a23, f__law_rows_of := f24, fd__law_rows_of := _, F__law_rows_of := F24, b__law_rows_of := b24, g__law_rows_of := PySem.W.mg_of X G a24, f__law_due := f25, fd__law_due := _, F__law_due := F25, b__law_due := b25, g__law_due := PySem.W.mg_of X G a25, f__law_sum_due := f26, fd__law_sum_due := _, F__law_sum_due := F26, b__law_sum_due := b26, g__law_sum_due := PySem.W.mg_of X G a26, f__law_places_right := f27, fd__law_places_right := _, F__law_places_right := F27, b__law_places_right := b27, g__law_places_right := PySem.W.mg_of X G a27, f__law_sums_right := f28, fd__law_sums_right := _, F__law_sums_right := F28, b__law_sums_right := b28, g__law_sums_right := PySem.W.mg_of X G a28, f_law := f29, fd_law := _, F_law := F29, b_law := b29, g_law := PySem.W.mg_of X G a29 }, rfl, fun s v => .of_eq rfl⟩
end Lk22

namespace Lk22
section
open PySem PySem.W PyProof.Rows
set_option maxRecDepth 100000 in
set_option maxHeartbeats 0 in
theorem early0 (h : (PySem.Challenge.rw_stylepages_k22_sheets_as_rows_of_rules).row.wellSaid = true → (PySem.Challenge.rw_stylepages_k22_sheets_as_rows_of_rules).row.Holds) : (PySem.Challenge.rw_stylepages_k22_sheets_as_rows_of_rules).Holds := by
  w_on; o_law; exact h (by assumption)
end
end Lk22

namespace Lk22
open PySem L2 Ab Ns PySem.W
local macro_rules | `(tactic| walk_at "lk") => `(tactic| first | exact lk_sh_row | exact lk_sh_no (by decide +kernel) | fail "lk")
local macro_rules | `(tactic| walk_at "x") => `(tactic| first
  | with_reducible refine ws_asgX rfl rfl (wx_itX rfl ?_)
  | with_reducible refine ws_asgX rfl rfl (wx_meth rfl ?_)
  | with_reducible refine ws_asgX rfl rfl (wx_ownX rfl ?_)
  | with_reducible refine ws_asgX rfl rfl (wx_make rfl ?_)
  | with_reducible refine ws_asgX rfl rfl (wx_star rfl ?_)
  | with_reducible refine we_boxLenT ?_
  | with_reducible refine we_boxListT ?_
  | ((with_reducible refine' we_isEc ?hk ?hi ?_); (case hk => assumption); (case hi => rfl))
  | ((with_reducible refine' we_isEt ?hk ?hi ?_); (case hk => assumption); (case hi => rfl))
  | fail "x")
def pathL : List Dt := [.str "path", .bl true, .bl true, .bl false]
def largeL : List Dt := [.str "large", .bl true, .bl true, .bl false]
def sheetL (rs : List Ru) : List Dt := [.str "sheet", .lst (rs.map Ru.dt)]
def itemL (r : Ru) : List Dt := [.str "item", r.dt]
def dueItem (rs : List Ru) (i : Int) : List Dt := if 0 ≤ i then (match rs[i.toNat]? with | some r => itemL r | none => pathL) else pathL
def dueWith (rs : List Ru) (i : Int) (r : Ru) : List Dt := if ¬ (0 ≤ i ∧ i ≤ rs.length) then pathL else if rs.length = 12 then largeL else sheetL (rs.take i.toNat ++ [r] ++ rs.drop i.toNat)
def dueWo (rs : List Ru) (i : Int) : List Dt := if ¬ (0 ≤ i ∧ i < rs.length) then pathL else sheetL (rs.take i.toNat ++ rs.drop (i.toNat + 1))
def dueSum (rs : List Ru) : List Dt := if 12 < rs.length then largeL else sheetL rs
structure ErF (K : PySem.W.Frag) (cB cT cS : Addr) : Prop where
  bb : PySem.W.exmOne K (.ref cB) (.ref cB) = some true
  tb : PySem.W.exmOne K (.ref cT) (.ref cB) = some false
  tt : PySem.W.exmOne K (.ref cT) (.ref cT) = some true
  xB : ExcC K cB
  fB : XfC K cB
  xT : ExcC K cT
  fT : XfC K cT
  kBS : PySem.W.kitOne K (.ref cB) (.ref cS) = some true
  kBV : PySem.W.kitOne K (.ref cB) (.type "ValueError") = some true
  kBT : PySem.W.kitOne K (.ref cB) (.ref cT) = some false
  kTS : PySem.W.kitOne K (.ref cT) (.ref cS) = some true
  kTV : PySem.W.kitOne K (.ref cT) (.type "ValueError") = some true
  kTB : PySem.W.kitOne K (.ref cT) (.ref cB) = some false
section
variable {K : PySem.W.Frag} {c cB cT cS : Addr}
def ap_lrowsof (c : Addr) : AP := fun as Post => ∃ (rs : List Ru), as = [.val (shD c rs)] ∧ rs.length ≤ 12 ∧ Post (.new (rs.map Ru.dt)) as
theorem run_lrowsof (go : ShOk K c) : RunOk K [] (t__law_rows_of K c (ap_sameE 7)) 2 (ap_lrowsof c) := by
  rintro as Post ⟨rs, rfl, hl, k⟩
  have co := go.co; have cl := go.co.cl; have n1 := go.n1
  unfold t__law_rows_of
  show WS K [] _ [.val (shD c rs), .un] _
  walk_at "es"
  refine .a (.inl ⟨_, _, .int (rs.map Ru.dt).length, rfl, rfl, rfl, by rw [okD], by rw [depD]; omega, ?_⟩)
  walk_at "es"
  exact k
def ap_deed (c : Addr) : AP := fun as Post => ∃ (rs : List Ru), rs.length ≤ 12 ∧
  ((∃ (s : Str) (i : Int) (r : Ru), as = [.val (.str s), .val (shD c rs), .val (.int i), .val r.dt] ∧ (-100 ≤ i ∧ i ≤ 100) ∧
      ((s = "item" ∧ Post (.new (dueItem rs i)) as) ∨ (s = "with" ∧ Post (.new (dueWith rs i r)) as) ∨ (s = "without" ∧ Post (.new (dueWo rs i)) as))) ∨
    (∃ qs : List Ru, as = [.val (.str "sum"), .val (shD c rs), .val (.int 0), .val (shD c qs)] ∧ qs.length ≤ 12 ∧ Post (.new (dueSum (rs ++ qs))) as) ∨
    ∃ qs : List Ru, as = [.val (.str "made"), .val (shD c rs), .val (.int 0), .acc (qs.map Ru.dt)] ∧ qs.length ≤ 36 ∧ Post (.new (dueSum qs)) [.val (.str "made"), .val (shD c rs), .val (.int 0), .un])
theorem run_deed (go : ShOk K c) (F : ErF K cB cT cS) : RunOk K [] (t__law_deed K c cB cT cS (ap_shget c cB) (ap_shwith c cB cT) (ap_shwo c cB) (ap_shadd c cT) (ai_shX cT) (ap_lrowsof c)) 8 (ap_deed c) := by
  rintro as Post ⟨rs, hl, h⟩
  have co := go.co; have cl := go.co.cl; have n1 := go.n1
  have f1 := F.kBS; have f2 := F.kBV; have f3 := F.kBT; have f4 := F.kTS; have f5 := F.kTV; have f6 := F.kTB
  unfold t__law_deed
  rcases h with ⟨s, i, r, rfl, hi, h⟩ | ⟨qs, rfl, hq, k⟩ | ⟨qs, rfl, hq, k⟩
  · rcases h with ⟨rfl, k⟩ | ⟨rfl, k⟩ | ⟨rfl, k⟩
    · show WS K [] _ [.val (.str "item"), .val (shD c rs), .val (.int i), .val r.dt, .un, .un, .un, .un] _
      walk_at "es"
      refine ws_tryMas (fun cls gs G => ¬ (0 ≤ i ∧ i < rs.length) ∧ cls = .ref cB ∧ gs = [] ∧ G = [.val (.str "item"), .val (shD c rs), .val (.int i), .val r.dt, .val .non, .acc [], .un, .un]) (fun W => ?_) ?_
      · walk_at "es"
        refine .a ⟨rs, i, rfl, hl, hi, fun r' h0 hr => ?_, fun h => .a ⟨h, rfl, rfl, rfl⟩⟩
        walk_at "es"
        have e : dueItem rs i = itemL r' := by unfold dueItem; rw [if_pos h0, hr]
        rw [e] at k
        exact k
      · rintro cls gs G ⟨h, rfl, rfl, rfl⟩
        refine ⟨true, F.bb, fun _ => ⟨rfl, rfl, cB, rfl, F.xB, F.fB, (fun _ h => nomatch h), fun a d => ?_⟩, fun h => nomatch h⟩
        refine ws_norm (by walk_at "norm") ?_
        walk_at "es"
        refine addp_l rfl rfl rfl rfl (by simp) ?_
        walk_at "es"
        refine addp_l rfl rfl rfl rfl (by simp) ?_
        walk_at "es"
        have e : dueItem rs i = pathL := by
          unfold dueItem
          by_cases h0 : 0 ≤ i
          · rw [if_pos h0, List.getElem?_eq_none (by omega)]
          · rw [if_neg h0]
        rw [e] at k
        exact k
    · show WS K [] _ [.val (.str "with"), .val (shD c rs), .val (.int i), .val r.dt, .un, .un, .un, .un] _
      walk_at "es"
      refine ws_tryMas (fun cls gs G => ((0 ≤ i ∧ i ≤ rs.length ∧ rs.length = 12) ∧ cls = .ref cT ∨ ¬ (0 ≤ i ∧ i ≤ rs.length) ∧ cls = .ref cB) ∧ gs = [] ∧ G = [.val (.str "with"), .val (shD c rs), .val (.int i), .val r.dt, .val .non, .acc [], .un, .un]) (fun W => ?_) ?_
      · walk_at "es"
        refine ⟨lk_sh_no (by decide +kernel), ?_⟩
        walk_at "es"
        refine .a ⟨rs, i, r, rfl, hl, hi, fun h0 h1 h2 => ?_, fun h0 h1 h2 => .a ⟨.inl ⟨⟨h0, h1, h2⟩, rfl⟩, rfl, rfl⟩, fun h => .a ⟨.inr ⟨h, rfl⟩, rfl, rfl⟩⟩
        have hz : (rs.take i.toNat ++ [r] ++ rs.drop i.toNat).length ≤ 12 := by simp only [List.length_append, List.length_take, List.length_drop, List.length_singleton]; omega
        walk_at "es"
        refine .a ⟨_, rfl, hz, ?_⟩
        walk_at "es"
        have e : dueWith rs i r = sheetL (rs.take i.toNat ++ [r] ++ rs.drop i.toNat) := by unfold dueWith; rw [if_neg (fun z => z ⟨h0, h1⟩), if_neg (by omega)]
        rw [e] at k
        exact k
      · rintro cls gs G ⟨⟨h, rfl⟩ | ⟨h, rfl⟩, rfl, rfl⟩
        · refine ⟨false, F.tb, (fun h => absurd h (by decide)), fun _ => ⟨true, F.tt, fun _ => ⟨rfl, rfl, cT, rfl, F.xT, F.fT, (fun _ h => nomatch h), fun a d => ?_⟩, fun h => nomatch h⟩⟩
          refine ws_norm (by walk_at "norm") ?_
          walk_at "es"
          refine addp_l rfl rfl rfl rfl (by simp) ?_
          walk_at "es"
          refine addp_l rfl rfl rfl rfl (by simp) ?_
          walk_at "es"
          have e : dueWith rs i r = largeL := by unfold dueWith; rw [if_neg (fun z => z ⟨h.1, h.2.1⟩), if_pos h.2.2]
          rw [e] at k
          exact k
        · refine ⟨true, F.bb, fun _ => ⟨rfl, rfl, cB, rfl, F.xB, F.fB, (fun _ h => nomatch h), fun a d => ?_⟩, fun h => nomatch h⟩
          refine ws_norm (by walk_at "norm") ?_
          walk_at "es"
          refine addp_l rfl rfl rfl rfl (by simp) ?_
          walk_at "es"
          refine addp_l rfl rfl rfl rfl (by simp) ?_
          walk_at "es"
          have e : dueWith rs i r = pathL := by unfold dueWith; rw [if_pos h]
          rw [e] at k
          exact k
    · show WS K [] _ [.val (.str "without"), .val (shD c rs), .val (.int i), .val r.dt, .un, .un, .un, .un] _
      walk_at "es"
      refine ws_tryMas (fun cls gs G => ¬ (0 ≤ i ∧ i < rs.length) ∧ cls = .ref cB ∧ gs = [] ∧ G = [.val (.str "without"), .val (shD c rs), .val (.int i), .val r.dt, .val .non, .acc [], .un, .un]) (fun W => ?_) ?_
      · walk_at "es"
        refine ⟨lk_sh_no (by decide +kernel), ?_⟩
        walk_at "es"
        refine .a ⟨rs, i, rfl, hl, hi, fun h0 h1 => ?_, fun h => .a ⟨h, rfl, rfl, rfl⟩⟩
        have hz : (rs.take i.toNat ++ rs.drop (i.toNat + 1)).length ≤ 12 := by simp only [List.length_append, List.length_take, List.length_drop]; omega
        walk_at "es"
        refine .a ⟨_, rfl, hz, ?_⟩
        walk_at "es"
        have e : dueWo rs i = sheetL (rs.take i.toNat ++ rs.drop (i.toNat + 1)) := by unfold dueWo; rw [if_neg (fun z => z ⟨h0, h1⟩)]
        rw [e] at k
        exact k
      · rintro cls gs G ⟨h, rfl, rfl, rfl⟩
        refine ⟨true, F.bb, fun _ => ⟨rfl, rfl, cB, rfl, F.xB, F.fB, (fun _ h => nomatch h), fun a d => ?_⟩, fun h => nomatch h⟩
        refine ws_norm (by walk_at "norm") ?_
        walk_at "es"
        refine addp_l rfl rfl rfl rfl (by simp) ?_
        walk_at "es"
        refine addp_l rfl rfl rfl rfl (by simp) ?_
        walk_at "es"
        have e : dueWo rs i = pathL := by unfold dueWo; rw [if_pos h]
        rw [e] at k
        exact k
  · show WS K [] _ [.val (.str "sum"), .val (shD c rs), .val (.int 0), .val (shD c qs), .un, .un, .un, .un] _
    have ha : (rs ++ qs).length = rs.length + qs.length := List.length_append
    walk_at "es"
    refine ws_tryMas (fun cls gs G => 12 < (rs ++ qs).length ∧ cls = .ref cT ∧ gs = [] ∧ G = [.val (.str "sum"), .val (shD c rs), .val (.int 0), .val (shD c qs), .val .non, .acc [], .un, .un]) (fun W => ?_) ?_
    · walk_at "es"
      refine .a ⟨rs, qs, rfl, hl, hq, fun h => ?_, fun h => .a ⟨by omega, rfl, rfl, rfl⟩⟩
      walk_at "es"
      refine .a ⟨_, rfl, by omega, ?_⟩
      walk_at "es"
      have e : dueSum (rs ++ qs) = sheetL (rs ++ qs) := by unfold dueSum; rw [if_neg (by omega)]
      rw [e] at k
      exact k
    · rintro cls gs G ⟨h, rfl, rfl, rfl⟩
      refine ⟨false, F.tb, (fun h => absurd h (by decide)), fun _ => ⟨true, F.tt, fun _ => ⟨rfl, rfl, cT, rfl, F.xT, F.fT, (fun _ h => nomatch h), fun a d => ?_⟩, fun h => nomatch h⟩⟩
      refine ws_norm (by walk_at "norm") ?_
      walk_at "es"
      refine addp_l rfl rfl rfl rfl (by simp) ?_
      walk_at "es"
      refine addp_l rfl rfl rfl rfl (by simp) ?_
      walk_at "es"
      have e : dueSum (rs ++ qs) = largeL := by unfold dueSum; rw [if_pos h]
      rw [e] at k
      exact k
  · show WS K [] _ [.val (.str "made"), .val (shD c rs), .val (.int 0), .acc (qs.map Ru.dt), .un, .un, .un, .un] _
    refine ws_frz 3 rfl ?_
    refine ws_norm (by walk_at "norm") ?_
    walk_at "es"
    refine ws_tryMas (fun cls gs G => 12 < qs.length ∧ cls = .ref cT ∧ gs = [] ∧ G = [.val (.str "made"), .val (shD c rs), .val (.int 0), .val (.lst (qs.map Ru.dt)), .val .non, .acc [], .un, .un]) (fun W => ?_) ?_
    · walk_at "es"
      refine .a ⟨qs, _, rfl, .inr rfl, by omega, fun h => ?_, fun h => .a ⟨h, rfl, rfl, rfl⟩⟩
      walk_at "es"
      refine .a ⟨_, rfl, h, ?_⟩
      walk_at "es"
      have e : dueSum qs = sheetL qs := by unfold dueSum; rw [if_neg (by omega)]
      rw [e] at k
      exact k
    · rintro cls gs G ⟨h, rfl, rfl, rfl⟩
      refine ⟨false, F.tb, (fun h => absurd h (by decide)), fun _ => ⟨true, F.tt, fun _ => ⟨rfl, rfl, cT, rfl, F.xT, F.fT, (fun _ h => nomatch h), fun a d => ?_⟩, fun h => nomatch h⟩⟩
      refine ws_norm (by walk_at "norm") ?_
      walk_at "es"
      refine addp_l rfl rfl rfl rfl (by simp) ?_
      walk_at "es"
      refine addp_l rfl rfl rfl rfl (by simp) ?_
      walk_at "es"
      have e : dueSum qs = largeL := by unfold dueSum; rw [if_pos h]
      rw [e] at k
      exact k
end
end Lk22

namespace Lk22
open PySem L2 Ab Ns PySem.W
local macro_rules | `(tactic| walk_at "no") => `(tactic| first
  | with_reducible exact fun h => Bool.noConfusion (show true = false from h)
  | with_reducible exact fun h => Bool.noConfusion (show false = true from h)
  | exact fun h => absurd h (by decide)
  | exact fun h => absurd (of_decide_eq_true h) (by omega)
  | exact fun h => absurd (by omega) (of_decide_eq_false h)
  | exact fun h => absurd (by omega) (nd_t h)
  | exact fun h => absurd (nd_f h) (by omega)
  | fail "no")
local macro_rules | `(tactic| walk_at "kb") => `(tactic| first | exact kb_tt | exact kb_ll | exact kb_ii | exact kb_ib | exact kb_ss | exact kb_sb | exact kb_si | exact kb_tb | exact kb_ti | exact kb_ts | exact kb_tl | exact kb_lb | exact kb_li | exact kb_ls | exact kb_lt | exact kb_is | exact kb_it | exact kb_il | exact kb_st | exact kb_sl | exact kb_bb | exact kb_bi | exact kb_nb | exact kb_ni | exact kb_ns | exact kb_nt | exact kb_nl | exact kb_bs | exact kb_bt | exact kb_bl | fail "kb")
local macro_rules | `(tactic| walk_at "norm") => `(tactic| first
  | ((refine' norm_cons (rfl : _ = _ :: _) ?ea ?et); (case ea => first | with_reducible exact (rfl : Sl.val _ = _) | with_reducible exact (rfl : Sl.cel _ = _) | with_reducible exact (rfl : Sl.un = _) | with_reducible exact norm_v | with_reducible exact norm_n | with_reducible exact norm_o | exact norm_v | exact norm_n | exact norm_o | exact rfl | fail "norm"); (case et => walk_at "norm"))
  | exact (rfl : _ = ([] : List Sl))
  | fail "norm")
local macro_rules | `(tactic| walk_at "nd") => `(tactic| first
  | exact (rfl : _ = ([] : List Dt))
  | ((refine' normD_cons (rfl : _ = _ :: _) ?et); (case et => walk_at "nd"))
  | fail "nd")
local macro_rules | `(tactic| walk_at "yO") => `(tactic| first
  | with_reducible refine we_ixG ?_
  | with_reducible refine we_opI0 ?_
  | with_reducible refine we_addG ?_
  | with_reducible refine we_eqG ?_
  | with_reducible refine we_neG ?_
  | with_reducible refine we_ltG ?_
  | with_reducible refine we_mulG ?_
  | with_reducible refine we_opI ?_
  | with_reducible refine we_inG ?_
  | with_reducible refine we_notInG ?_
  | with_reducible refine we_gtS ?_
  | fail "yO")
local macro_rules | `(tactic| walk_at "yB") => `(tactic| first
  | with_reducible refine we_lenG ?_
  | with_reducible refine we_isiG ?_
  | with_reducible refine we_intG ?_
  | with_reducible refine we_tuple ?_
  | with_reducible refine we_list ?_
  | with_reducible refine we_sumG ?_
  | with_reducible refine we_sum ?_
  | with_reducible refine we_max2 ?_
  | with_reducible refine we_min2 ?_
  | with_reducible refine we_abs ?_
  | with_reducible refine we_isoG ?_
  | with_reducible refine we_join ?_
  | with_reducible refine we_nlist ?_
  | fail "yB")
local macro_rules | `(tactic| walk_at "yV") => `(tactic| first
  | ((with_reducible refine' we_var ?hh ?_); (case hh => exact rfl))
  | ((with_reducible refine' we_own ?hh ?_); (case hh => exact rfl))
  | fail "yV")
local macro_rules | `(tactic| walk_at "yC") => `(tactic| first
  | ((with_reducible refine' we_kst ?h1 ?_); (case h1 => assumption))
  | with_reducible refine we_c ?_
  | fail "yC")
local macro_rules | `(tactic| walk_at "yE") => `(tactic| first
  | ((with_reducible show Ab.WE _ (L2.tVar _) _ _); walk_at "yV")
  | ((with_reducible show Ab.WE _ (L2.tOp _ _ _) _ _); walk_at "yO")
  | ((with_reducible show Ab.WE _ (L2.tC _) _ _); walk_at "yC")
  | ((with_reducible show Ab.WE _ (L2.tCB _ _) _ _); walk_at "yB")
  | with_reducible refine we_callH ?_
  | with_reducible refine we_fldG ?_
  | with_reducible refine we_tup ?_
  | with_reducible refine we_lst ?_
  | with_reducible refine we_nget ?_
  | with_reducible refine we_nin ?_
  | with_reducible refine we_notN ?_
  | with_reducible refine we_isN ?_
  | with_reducible refine we_if ?_
  | with_reducible refine we_methG ?_
  | ((with_reducible refine' we_appendN ?hh ?_); (case hh => exact rfl))
  | with_reducible refine we_slG ?_
  | with_reducible refine we_nnotin ?_
  | with_reducible refine we_nnew ?_
  | with_reducible refine we_ndisp1 ?_
  | with_reducible refine we_nget1 ?_
  | with_reducible refine we_neg ?_
  | with_reducible refine we_make ?_
  | with_reducible refine we_own2 ?_
  | with_reducible refine we_smeth ?_
  | with_reducible refine we_makeD ?_
  | with_reducible refine we_makeK ?_
  | ((with_reducible refine' we_clearN ?hh ?_); (case hh => exact rfl))
  | with_reducible refine we_chainI ?_
  | with_reducible refine we_andV ?_
  | with_reducible refine we_orV ?_
  | with_reducible refine we_notV ?_
  | ((with_reducible refine' we_reverseN ?hh ?_); (case hh => exact rfl))
  | ((with_reducible refine' we_ktup ?h1 ?_); (case h1 => assumption))
  | fail "yE")
local macro_rules | `(tactic| walk_at "yS") => `(tactic| first
  | with_reducible refine ws_if ?_
  | with_reducible refine ws_expr ?_
  | with_reducible refine ws_asgN rfl rfl ?_
  | with_reducible refine ws_asgG ?_
  | with_reducible refine ws_nil ?_
  | ((with_reducible refine' ws_retDN ?hh ?_); (case hh => exact rfl))
  | ((with_reducible refine' ws_retA ?hh ?_); (case hh => exact rfl))
  | with_reducible refine ws_ret ?_
  | with_reducible refine ws_nput ?_
  | with_reducible refine ws_setN ?_
  | ((with_reducible refine' ws_augN ?h1 ?h2 ?_); (case h1 => exact rfl); (case h2 => exact rfl))
  | with_reducible refine ws_par rfl rfl rfl rfl ?_
  | with_reducible refine ws_par3 rfl rfl rfl rfl rfl rfl ?_
  | fail "yS")
local macro_rules | `(tactic| walk_at "yT") => `(tactic| first
  | with_reducible refine wt_test ?_
  | with_reducible refine wt_B ?_
  | with_reducible refine wt_not ?_
  | with_reducible refine wt_and ?_
  | with_reducible refine wt_or ?_
  | with_reducible refine wt_yes ?_
  | fail "yT")
local macro_rules | `(tactic| walk_at "yG") => `(tactic| first
  | with_reducible refine wg_nameN rfl rfl ?_
  | ((with_reducible refine' wg_tup ?hh ?_); (case hh => exact rfl))
  | fail "yG")
local macro_rules | `(tactic| walk_at "yD") => `(tactic| first
  | with_reducible refine wd_cons ?_
  | with_reducible refine wd_nil ?_
  | fail "yD")
local macro_rules | `(tactic| walk_at "yW") => `(tactic| first
  | with_reducible refine wa_cons ?_
  | with_reducible refine wa_nil ?_
  | fail "yW")
local macro_rules | `(tactic| walk_at "yR") => `(tactic| first
  | with_reducible refine wo_none ?_
  | with_reducible refine wo_some ?_
  | fail "yR")
local macro_rules | `(tactic| walk_at "yP") => `(tactic| first
  | ((with_reducible refine' fldp ?h1 ?h2 ?h3 ?_); (case h1 => assumption); (case h2 => assumption); (case h3 => walk_at "lk"))
  | ((with_reducible refine' ixp ?h1 ?h2 ?_); (case h1 => exact rfl); (case h2 => assumption))
  | ((with_reducible refine' ixp ?h1 ?h2 ?_); (case h1 => exact rfl); (case h2 => exact rfl))
  | with_reducible refine eqp_st ?_
  | with_reducible refine nep_st ?_
  | ((with_reducible refine' eqp_sf ?h1 ?_); (case h1 => first | assumption | decide +kernel))
  | ((with_reducible refine' nep_sf ?h1 ?_); (case h1 => first | assumption | decide +kernel))
  | with_reducible refine eqp_i ?_
  | with_reducible refine nep_i ?_
  | with_reducible refine addp_i ?_
  | with_reducible refine ltp_i ?_
  | ((with_reducible refine' lenp ?hh ?_); (case hh => exact rfl))
  | ((with_reducible refine' metp ?h3 ?_); (case h3 => walk_at "lk"))
  | ((with_reducible refine' addp_tE ?hz ?h ?_); (case h => walk_at "nd"); (case hz => exact Nat.le_of_ble_eq_true rfl))
  | ((with_reducible refine' slp_tE ?h ?_); (case h => walk_at "nd"))
  | ((with_reducible refine' mulp_r ?h1 ?_); (case h1 => first | decide | omega | fail "m"))
  | ((with_reducible refine' mulp_l ?h1 ?_); (case h1 => first | decide | omega | fail "m"))
  | with_reducible refine intp_i ?_
  | with_reducible refine intp_b ?_
  | ((with_reducible refine' isi_own ?h1 ?h2 ?_); (case h1 => exact rfl); (case h2 => walk_at "kb"))
  | ((with_reducible refine' isi_val ?h1 ?h2 ?_); (case h1 => exact rfl); (case h2 => walk_at "kb"))
  | ((with_reducible refine' isi_new ?h2 ?_); (case h2 => walk_at "kb"))
  | ((with_reducible refine' isop ?h1 ?_); (case h1 => assumption))
  | ((with_reducible refine' lenp_s ?h1 ?_); (case h1 => assumption))
  | ((with_reducible refine' slp_s ?h1 ?_); (case h1 => assumption))
  | ((with_reducible refine' ixp_s ?h1 ?h2 ?_); (case h1 => assumption); (case h2 => assumption))
  | with_reducible refine wgs_cons ?_
  | with_reducible refine wgs_nil ?_
  | fail "yP")
local macro_rules | `(tactic| walk_at "yA") => `(tactic| first
  | (refine ⟨_, rfl, ⟨_, rfl⟩, ?_⟩)
  | (refine ⟨_, rfl, ?_⟩)
  | (refine ⟨_, _, _, rfl, rfl, rfl, ?_⟩)
  | (refine ⟨_, _, rfl, rfl, (Nat.le_of_ble_eq_true rfl : _ ≤ _), ?_⟩)
  | (refine ⟨_, _, rfl, rfl, ?_⟩)
  | (refine ⟨(Nat.le_of_ble_eq_true rfl : _ ≤ _), ?_⟩)
  | (refine ⟨(rfl : _ = true), ?_⟩)
  | ((refine' ⟨fun _ => ?_, fun hY => absurd hY ?k2⟩); (case k2 => walk_at "no"))
  | ((refine' ⟨fun hY => absurd hY ?k2, fun _ => ?_⟩); (case k2 => walk_at "no"))
  | (refine ⟨⟨(by omega), (by omega)⟩, ?_⟩)
  | (refine ⟨⟨(by decide), (by decide), (by decide)⟩, ?_⟩)
  | (refine ⟨(show (_ : Prop) from by first | decide | omega | fail "c"), ?_⟩)
  | fail "yA")
local macro_rules | `(tactic| walk_at "x") => `(tactic| first
  | ((with_reducible refine' norm_intro ?hn ?_); (case hn => walk_at "norm"))
  | ((with_reducible show Ab.WE _ _ _ _); walk_at "yE")
  | ((with_reducible show Ab.WS _ _ _ _ _); walk_at "yS")
  | ((with_reducible show Ab.WD _ _ _ _); walk_at "yD")
  | ((with_reducible show Ab.WT _ _ _ _); walk_at "yT")
  | ((with_reducible show Ab.WG _ _ _ _ _ _); walk_at "yG")
  | ((with_reducible show Ab.WA _ _ _ _); walk_at "yW")
  | ((with_reducible show Ab.WO _ _ _ _); walk_at "yR")
  | ((fail_if_success with_reducible show Ab.Hold _); (first | walk_at "yP" | walk_at "yA" | fail "p"))
  | fail "x")
local macro_rules | `(tactic| walk_at "e") => `(tactic| first | with_reducible refine ws_seq ?_ | walk_at "x" | fail "stop")
local macro_rules | `(tactic| walk_at "xs") => `(tactic| repeat' walk_at "x")
local macro_rules | `(tactic| walk_at "es") => `(tactic| repeat' walk_at "e")
local macro_rules | `(tactic| walk_at "len") => `(tactic| ((intro as Post h); (repeat (first | (obtain ⟨e, _⟩ := h; exact (congrArg List.length e).trans rfl) | (obtain ⟨_, h⟩ := h)))))
local macro_rules | `(tactic| walk_at "tk") => `(tactic| refine .a (tk (by assumption) (by omega) (by omega) (by omega) fun _ _ _ _ _ => ?_))
local macro_rules | `(tactic| walk_at "ln") => `(tactic| first
  | omega
  | (simp only [List.length_append, List.length_cons, List.length_nil, List.length_map, List.length_take, List.length_drop, List.length_set, List.length_replicate, List.length_reverse, PySem.Str.length_append]; omega)
  | decide
  | with_reducible exact Nat.le_refl _
  | (simp only [List.length_append, List.length_cons, List.length_nil, List.length_map, List.length_take, List.length_drop, List.length_set, List.length_replicate, List.length_reverse, PySem.Str.length_append] at *; omega)
  | exact (Nat.le_of_ble_eq_true rfl)
  | fail "ln")
local macro_rules | `(tactic| walk_at "az") => `(tactic| first
  | assumption
  | exact Az.nil
  | exact az_abc
  | exact Az.one (az_abc _ (by assumption))
  | ((refine' Az.app ?h1 ?h2); (case h1 => walk_at "az"); (case h2 => walk_at "az"))
  | ((refine' Az.cut ?h1 _ _); (case h1 => walk_at "az"))
  | fail "az")
local macro_rules | `(tactic| walk_at "ty") => `(tactic| first
  | assumption
  | exact EnvT.nil
  | ((refine' EnvT.cons ?ha ?ht); (case ha => walk_at "ty"); (case ht => walk_at "ty"))
  | exact SAny.mk
  | exact SIs.mk
  | exact SPool.mk (by assumption)
  | exact SPool.mk (PoolUp.mono (by assumption) (by omega))
  | ((refine' SVal.mk ?ha); (case ha => walk_at "ty"))
  | ((refine' RVal.mk ?ha); (case ha => walk_at "ty"))
  | ((refine' SAcc.mk ?h0 ?h1 ?h); (case h0 => walk_at "ln"); (case h1 => walk_at "ln"); (case h => walk_at "ty"))
  | ((refine' RNew.mk ?h0 ?h1 ?h); (case h0 => walk_at "ln"); (case h1 => walk_at "ln"); (case h => walk_at "ty"))
  | ((refine' TTs.mk ?h0 ?h1 ?h); (case h0 => walk_at "ln"); (case h1 => walk_at "ln"); (case h => walk_at "ty"))
  | ((refine' TLs.mk ?h0 ?h1 ?h); (case h0 => walk_at "ln"); (case h1 => walk_at "ln"); (case h => walk_at "ty"))
  | exact TIs.mk
  | exact TBl.mk
  | ((refine' TInt.mk ?h0 ?h1); (case h0 => walk_at "ln"); (case h1 => walk_at "ln"))
  | ((refine' TStr.mk ?h0 ?h1); (case h0 => walk_at "ln"); (case h1 => walk_at "ln"))
  | ((refine' TNm.mk ?h0 ?h1 ?h2); (case h0 => walk_at "ln"); (case h1 => walk_at "ln"); (case h2 => walk_at "az"))
  | ((refine' T2.mk ?ha ?hb); (case ha => walk_at "ty"); (case hb => walk_at "ty"))
  | ((refine' T3.mk ?ha ?hb ?hc); (case ha => walk_at "ty"); (case hb => walk_at "ty"); (case hc => walk_at "ty"))
  | ((refine' T4.mk ?ha ?hb ?hc ?hd); (case ha => walk_at "ty"); (case hb => walk_at "ty"); (case hc => walk_at "ty"); (case hd => walk_at "ty"))
  | ((refine' T1.mk ?ha); (case ha => walk_at "ty"))
  | exact all_nil
  | ((refine' all_cons ?ha ?ht); (case ha => walk_at "ty"); (case ht => walk_at "ty"))
  | ((refine' all_app ?ha ?ht); (case ha => walk_at "ty"); (case ht => walk_at "ty"))
  | exact all_take (by assumption)
  | exact all_drop (by assumption)
  | exact all_cut (by assumption)
  | exact all_erase (by assumption)
  | ((refine' all_set (by assumption) ?ha); (case ha => walk_at "ty"))
  | fail "ty")
local macro_rules | `(tactic| walk_at "cs") => `(tactic| repeat (first
  | cases ‹EnvT (_ :: _) _›
  | cases ‹EnvT [] _›
  | cases ‹SAny _›
  | cases ‹SIs _ _›
  | cases ‹SVal _ _›
  | cases ‹SAcc _ _ _ _›
  | cases ‹SPool _ _›
  | cases ‹RVal _ _›
  | cases ‹RNew _ _ _ _›
  | cases ‹TIs _ _›
  | cases ‹TInt _ _ _›
  | cases ‹TBl _›
  | cases ‹TStr _ _ _›
  | cases ‹TNm _ _ _›
  | cases ‹T1 _ _›
  | cases ‹T2 _ _ _›
  | cases ‹T3 _ _ _ _›
  | cases ‹T4 _ _ _ _ _›
  | cases ‹TTs _ _ _ _›
  | cases ‹TLs _ _ _ _›))
local macro_rules | `(tactic| walk_at "if") => `(tactic| ((refine ⟨fun hY => ?_, fun hY => ?_⟩) <;> (try simp only [decide_eq_true_eq, decide_eq_false_iff_not, Bool.not_eq_true', Bool.not_eq_false', Bool.not_eq_true, Bool.not_eq_false] at hY)))
local macro_rules | `(tactic| walk_at "c1") => `(tactic| ((refine' Hold.a ⟨_, ?ce, ?co, fun _ _ _ _ => ?_⟩); (case ce => (show EnvT _ _; walk_at "ty")); (case co => first | omega | fail "co"); walk_at "cs"))
local macro_rules | `(tactic| walk_at "c2") => `(tactic| ((refine' Hold.a ⟨_, _, ?ce, ?co, fun _ _ _ _ => ?_⟩); (case ce => (show EnvT _ _; walk_at "ty")); (case co => first | omega | fail "co"); walk_at "cs"))
local macro_rules | `(tactic| walk_at "c3") => `(tactic| ((refine' Hold.a ⟨_, _, _, ?ce, ?co, fun _ _ _ _ => ?_⟩); (case ce => (show EnvT _ _; walk_at "ty")); (case co => first | omega | fail "co"); walk_at "cs"))
local macro_rules | `(tactic| walk_at "ix") => `(tactic| first
  | ((refine' ixp_c0 ?h1 ?_); (case h1 => exact rfl))
  | ((refine' ixp_kT ?h1 ?h2 ?h3 ?h4 fun _ _ => ?_); (case h1 => exact rfl); (case h2 => walk_at "ln"); (case h3 => walk_at "ln"); (case h4 => assumption); walk_at "cs")
  | ((refine' ixp_sk ?h1 ?h2 ?h3 fun _ _ => ?_); (case h1 => walk_at "ln"); (case h2 => walk_at "ln"); (case h3 => walk_at "ln"))
  | fail "ix")
local macro_rules | `(tactic| walk_at "tx") => `(tactic| first
  | ((with_reducible refine' lenp_s ?h1 ?_); (case h1 => walk_at "ln"))
  | ((with_reducible refine' slp_s ?h1 ?_); (case h1 => walk_at "ln"))
  | ((with_reducible refine' addp_s ?h1 ?_); (case h1 => walk_at "ln"))
  | ((with_reducible refine' addp_l ?h1 ?h2 ?h3 ?h4 ?h5 ?_); (case h1 => exact rfl); (case h2 => exact rfl); (case h3 => exact rfl); (case h4 => exact rfl); (case h5 => walk_at "ln"))
  | with_reducible refine we_repS ?_
  | with_reducible refine we_repA ?_
  | with_reducible refine we_strG ?_
  | with_reducible refine strp_s ?_
  | with_reducible refine we_sortedS ?_
  | with_reducible refine we_sorted ?_
  | with_reducible refine we_all ?_
  | with_reducible refine we_any ?_
  | with_reducible refine eqp_str ?_
  | with_reducible refine nep_str ?_
  | (refine ⟨_, _, rfl, rfl, (by omega), (by omega), (by walk_at "ln"), ?_⟩)
  | (refine ⟨_, _, rfl, rfl, (by walk_at "ln"), ?_⟩)
  | (refine ⟨(show (_ : Prop) from by walk_at "ln"), ?_⟩)
  | fail "tx")
local macro_rules | `(tactic| walk_at "go1") => `(tactic| first
  | walk_at "e"
  | walk_at "tk"
  | walk_at "c1"
  | walk_at "c2"
  | walk_at "ix"
  | walk_at "tx"
  | fail "go")
local macro_rules | `(tactic| walk_at "go") => `(tactic| repeat' walk_at "go1")
local macro_rules | `(tactic| walk_at "gi") => `(tactic| repeat' (first | walk_at "go1" | walk_at "if" | fail "gi"))
local macro_rules | `(tactic| walk_at "gx") => `(tactic| repeat' (first
  | walk_at "x"
  | walk_at "tk"
  | walk_at "c1"
  | walk_at "c2"
  | walk_at "ix"
  | walk_at "tx"
  | fail "gx"))
local macro_rules | `(tactic| walk_at "len") => `(tactic| ((intro as Post h); (repeat (first | (obtain ⟨e, _⟩ := h; exact (congrArg List.length e).trans rfl) | (obtain ⟨e, _⟩ := h; exact (EnvT.len e).trans rfl) | (obtain ⟨_, h⟩ := h)))))
local macro_rules | `(tactic| walk_at "lk") => `(tactic| first | exact lk_sh_row | exact lk_sh_no (by decide +kernel) | fail "lk")
section
variable {K : PySem.W.Frag} {Γ : List Sl} {Post : Re → List Sl → Prop} {D a C : Addr} {i : Nat} {b : Bool} {T : String}
theorem we_isEr (hk : PySem.W.kitOne K (.ref D) (.ref C) = some b) (hi : Γ[i]? = some (slE a)) (p : Post (.val (.bl b)) Γ) : WE K (tCB (rIsE K D a) (tCons (tVar i) (tCons (tC (.ref C)) tNil))) Γ Post :=
  we_isE (wd_cons (we_var hi ⟨_, rfl, wd_cons (we_c ⟨_, rfl, wd_nil ⟨rfl, b, hk, p⟩⟩)⟩))
theorem we_isEy (hk : PySem.W.kitOne K (.ref D) (.type T) = some b) (hi : Γ[i]? = some (slE a)) (p : Post (.val (.bl b)) Γ) : WE K (tCB (rIsE K D a) (tCons (tVar i) (tCons (tC (.ty T)) tNil))) Γ Post :=
  we_isEty (wd_cons (we_var hi ⟨_, rfl, wd_cons (we_c ⟨_, rfl, wd_nil ⟨rfl, b, hk, p⟩⟩)⟩))
end
local macro_rules | `(tactic| walk_at "x") => `(tactic| first
  | with_reducible refine ws_asgX rfl rfl (wx_star rfl ?_)
  | with_reducible refine we_inO ?_
  | with_reducible refine we_makeN0 ?_
  | with_reducible refine we_star0 ?_
  | ((with_reducible refine' we_isEr ?hk ?hi ?_); (case hk => assumption); (case hi => rfl))
  | ((with_reducible refine' we_isEy ?hk ?hi ?_); (case hk => assumption); (case hi => rfl))
  | fail "x")
section
variable {K : PySem.W.Frag} {c cB cT cS : Addr}
def ap_ljoint (c : Addr) : AP := fun as Post => ∃ (rss : List (List Ru)), rss.length ≤ 3 ∧ (∀ rs ∈ rss, rs.length ≤ 12) ∧
  ((as = [.val (.lst (rss.map (shD c)))] ∧ Post (.new (dueSum rss.flatten)) as) ∨ (as = [.acc (rss.map (shD c))] ∧ Post (.new (dueSum rss.flatten)) [.un]))
theorem lj_core (go : ShOk K c) (F : ErF K cB cT cS) {rss : List (List Ru)} (h3 : rss.length ≤ 3) (hr : ∀ rs ∈ rss, rs.length ≤ 12) {P : Ps} (k : ∀ G, P.rt (.new (dueSum rss.flatten)) G) : WS K [] (t__law_joint K cT cS cB (ap_join c cT) (ap_lrowsof c)) [.val (.lst (rss.map (shD c))), .un, .un, .un, .un] P := by
  have f1 := F.kBS; have f2 := F.kBV; have f3 := F.kBT; have f4 := F.kTS; have f5 := F.kTV; have f6 := F.kTB
  unfold t__law_joint
  walk_at "es"
  refine ws_tryAs (fun cls gs G => 12 < rss.flatten.length ∧ cls = .ref cT ∧ gs = [] ∧ G = [.val (.lst (rss.map (shD c))), .val .non, .acc [], .un, .un]) rfl (fun W => ?_) ?_
  · match rss, h3, hr, k with
    | [], _, hr, k =>
      show WS K [] _ [.val (.lst []), .val (.raw .non), .acc [], .un, .un] _
      walk_at "es"
      refine .a ⟨[], rfl, by simp, hr, fun h => ?_, fun h => .a ⟨h, rfl, rfl, rfl⟩⟩
      have e : dueSum ([] : List (List Ru)).flatten = sheetL ([] : List (List Ru)).flatten := by unfold dueSum; rw [if_neg (by omega)]
      rw [e] at k
      walk_at "es"
      refine .a ⟨_, rfl, h, ?_⟩
      walk_at "es"
      exact k _
    | [r1], _, hr, k =>
      show WS K [] _ [.val (.lst [shD c r1]), .val (.raw .non), .acc [], .un, .un] _
      walk_at "es"
      refine ⟨fun h => absurd h (by simp), fun _ => ?_⟩
      walk_at "es"
      refine ⟨fun _ => ?_, fun h => absurd h (by simp)⟩
      walk_at "es"
      refine .a ⟨[r1], rfl, by simp, hr, fun h => ?_, fun h => .a ⟨h, rfl, rfl, rfl⟩⟩
      have e : dueSum ([r1] : List (List Ru)).flatten = sheetL ([r1] : List (List Ru)).flatten := by unfold dueSum; rw [if_neg (by omega)]
      rw [e] at k
      walk_at "es"
      refine .a ⟨_, rfl, h, ?_⟩
      walk_at "es"
      exact k _
    | [r1, r2], _, hr, k =>
      show WS K [] _ [.val (.lst [shD c r1, shD c r2]), .val (.raw .non), .acc [], .un, .un] _
      walk_at "es"
      refine ⟨fun h => absurd h (by simp), fun _ => ?_⟩
      walk_at "es"
      refine ⟨fun h => absurd h (by simp), fun _ => ?_⟩
      walk_at "es"
      refine ⟨fun _ => ?_, fun h => absurd h (by simp)⟩
      walk_at "es"
      refine .a ⟨[r1, r2], rfl, by simp, hr, fun h => ?_, fun h => .a ⟨h, rfl, rfl, rfl⟩⟩
      have e : dueSum ([r1, r2] : List (List Ru)).flatten = sheetL ([r1, r2] : List (List Ru)).flatten := by unfold dueSum; rw [if_neg (by omega)]
      rw [e] at k
      walk_at "es"
      refine .a ⟨_, rfl, h, ?_⟩
      walk_at "es"
      exact k _
    | [r1, r2, r3], _, hr, k =>
      show WS K [] _ [.val (.lst [shD c r1, shD c r2, shD c r3]), .val (.raw .non), .acc [], .un, .un] _
      walk_at "es"
      refine ⟨fun h => absurd h (by simp), fun _ => ?_⟩
      walk_at "es"
      refine ⟨fun h => absurd h (by simp), fun _ => ?_⟩
      walk_at "es"
      refine ⟨fun h => absurd h (by simp), fun _ => ?_⟩
      walk_at "es"
      refine .a ⟨[r1, r2, r3], rfl, by simp, hr, fun h => ?_, fun h => .a ⟨h, rfl, rfl, rfl⟩⟩
      have e : dueSum ([r1, r2, r3] : List (List Ru)).flatten = sheetL ([r1, r2, r3] : List (List Ru)).flatten := by unfold dueSum; rw [if_neg (by omega)]
      rw [e] at k
      walk_at "es"
      refine .a ⟨_, rfl, h, ?_⟩
      walk_at "es"
      exact k _
  · rintro cls gs G ⟨h, rfl, rfl, rfl⟩
    refine ⟨true, F.tt, fun _ => ⟨rfl, rfl, cT, rfl, F.xT, fun a => ?_⟩, fun h => nomatch h⟩
    refine ws_norm (by walk_at "norm") ?_
    walk_at "es"
    refine addp_l rfl rfl rfl rfl (by simp) ?_
    walk_at "es"
    refine addp_l rfl rfl rfl rfl (by simp) ?_
    walk_at "es"
    have e : dueSum rss.flatten = largeL := by unfold dueSum; rw [if_pos h]
    rw [e] at k
    exact k _
theorem run_ljoint (go : ShOk K c) (F : ErF K cB cT cS) : RunOk K [] (t__law_joint K cT cS cB (ap_join c cT) (ap_lrowsof c)) 5 (ap_ljoint c) := by
  rintro as Post ⟨rss, h3, hr, ⟨rfl, k⟩ | ⟨rfl, k⟩⟩
  · exact lj_core go F h3 hr fun G => k
  · refine ws_frz 0 rfl ?_
    refine ws_norm (by walk_at "norm") ?_
    exact lj_core go F h3 hr fun G => k
def ap_sumdue : AP := fun as Post => ∃ qs : List Ru, qs.length ≤ 40 ∧ ((as = [.val (.lst (qs.map Ru.dt))] ∧ Post (.new (dueSum qs)) as) ∨ (as = [.acc (qs.map Ru.dt)] ∧ Post (.new (dueSum qs)) [.un]))
theorem sd_core {qs : List Ru} (hq : qs.length ≤ 40) {P : Ps} (k : ∀ G, P.rt (.new (dueSum qs)) G) : WS K [] (t__law_sum_due K) [.val (.lst (qs.map Ru.dt))] P := by
  have e1 : ((qs.map Ru.dt).length : Int) = qs.length := by rw [List.length_map]
  unfold t__law_sum_due
  walk_at "es"
  rw [e1]
  refine ⟨fun h => ?_, fun h => ?_⟩
  · have h := of_decide_eq_true h
    walk_at "es"
    have e : dueSum qs = largeL := by unfold dueSum; rw [if_pos (by omega)]
    rw [e] at k
    exact k _
  · have h := of_decide_eq_false h
    walk_at "es"
    have e : dueSum qs = sheetL qs := by unfold dueSum; rw [if_neg (by omega)]
    rw [e] at k
    exact k _
theorem run_sumdue : RunOk K [] (t__law_sum_due K) 1 ap_sumdue := by
  rintro as Post ⟨qs, hq, ⟨rfl, k⟩ | ⟨rfl, k⟩⟩
  · exact sd_core hq fun G => k
  · refine ws_frz 0 rfl ?_
    refine ws_norm (by walk_at "norm") ?_
    exact sd_core hq fun G => k
def ap_due : AP := fun as Post => ∃ (rs : List Ru) (s : Str) (i : Int) (r : Ru), as = [.val (.str s), .val (.lst (rs.map Ru.dt)), .val (.int i), .val r.dt] ∧ rs.length ≤ 12 ∧ (-100 ≤ i ∧ i ≤ 100) ∧
  ((s = "item" ∧ Post (.new (dueItem rs i)) as) ∨ (s = "with" ∧ Post (.new (dueWith rs i r)) as) ∨ (s = "without" ∧ Post (.new (dueWo rs i)) as))
theorem run_due : RunOk K [] (t__law_due K) 4 ap_due := by
  rintro as Post ⟨rs, s, i, r, rfl, hl, hi, h⟩
  have e1 : ((rs.map Ru.dt).length : Int) = rs.length := by rw [List.length_map]
  unfold t__law_due
  rcases h with ⟨rfl, k⟩ | ⟨rfl, k⟩ | ⟨rfl, k⟩
  · show WS K [] _ [.val (.str "item"), .val (.lst (rs.map Ru.dt)), .val (.int i), .val r.dt] _
    walk_at "es"
    refine ⟨fun h => ?_, fun h => ?_⟩
    · have h := of_decide_eq_true h
      walk_at "es"
      rw [e1]
      refine ⟨fun h2 => ?_, fun h2 => ?_⟩
      · have h2 : ¬ i < (rs.length : Int) := by simpa using h2
        walk_at "es"
        have e : dueItem rs i = pathL := by unfold dueItem; rw [if_pos h, List.getElem?_eq_none (by omega)]
        rw [e] at k
        exact k
      · have h2 : i < (rs.length : Int) := by simpa using h2
        obtain ⟨m, rfl⟩ := Int.eq_ofNat_of_zero_le h
        have hm : m < rs.length := by omega
        have hat : atI (rs.map Ru.dt) (m : Int) = some (rs[m]).dt := atI_of rfl (by rw [List.getElem?_map, List.getElem?_eq_getElem hm]; rfl)
        walk_at "es"
        have e : dueItem rs (m : Int) = itemL rs[m] := by unfold dueItem; rw [if_pos h]; simp [hm]
        rw [e] at k
        exact k
    · have h := of_decide_eq_false h
      walk_at "es"
      have e : dueItem rs i = pathL := by unfold dueItem; rw [if_neg h]
      rw [e] at k
      exact k
  · show WS K [] _ [.val (.str "with"), .val (.lst (rs.map Ru.dt)), .val (.int i), .val r.dt] _
    walk_at "es"
    refine ⟨fun h => ?_, fun h => ?_⟩
    · have h := of_decide_eq_true h
      walk_at "es"
      rw [e1]
      refine ⟨fun h2 => ?_, fun h2 => ?_⟩
      · have h2 : ¬ i ≤ (rs.length : Int) := by simpa using h2
        walk_at "es"
        have e : dueWith rs i r = pathL := by unfold dueWith; rw [if_pos (fun z => h2 z.2)]
        rw [e] at k
        exact k
      · have h2 : i ≤ (rs.length : Int) := by simpa using h2
        walk_at "es"
        rw [e1]
        refine ⟨fun h3 => ?_, fun h3 => ?_⟩
        · have h3 := of_decide_eq_true h3
          walk_at "es"
          have e : dueWith rs i r = largeL := by unfold dueWith; rw [if_neg (fun z => z ⟨h, h2⟩), if_pos (by omega)]
          rw [e] at k
          exact k
        · have h3 := of_decide_eq_false h3
          obtain ⟨m, rfl⟩ := Int.eq_ofNat_of_zero_le h
          have hm : m ≤ (rs.map Ru.dt).length := by rw [List.length_map]; omega
          have g1 : ((rs.map Ru.dt).take m).length = m := by rw [List.length_take]; omega
          have g2 : ((rs.map Ru.dt).drop m).length = rs.length - m := by rw [List.length_drop, List.length_map]
          walk_at "es"
          refine slp_l rfl ?_
          rw [cut_to rfl hm]
          walk_at "es"
          refine addp_l rfl rfl rfl rfl (by rw [g1]; simp; omega) ?_
          walk_at "es"
          refine slp_l rfl ?_
          rw [cut_fr rfl hm]
          walk_at "es"
          refine addp_l rfl rfl rfl rfl (by rw [List.length_append, g1, g2]; simp; omega) ?_
          walk_at "es"
          have e : dueWith rs (m : Int) r = sheetL (rs.take m ++ [r] ++ rs.drop m) := by unfold dueWith; rw [if_neg (fun z => z ⟨h, h2⟩), if_neg (by omega)]; rfl
          rw [e] at k
          unfold sheetL at k
          rw [List.map_append, List.map_append, List.map_take, List.map_drop] at k
          exact k
    · have h := of_decide_eq_false h
      walk_at "es"
      have e : dueWith rs i r = pathL := by unfold dueWith; rw [if_pos (fun z => h z.1)]
      rw [e] at k
      exact k
  · show WS K [] _ [.val (.str "without"), .val (.lst (rs.map Ru.dt)), .val (.int i), .val r.dt] _
    walk_at "es"
    refine ⟨fun h => ?_, fun h => ?_⟩
    · have h := of_decide_eq_true h
      walk_at "es"
      rw [e1]
      refine ⟨fun h2 => ?_, fun h2 => ?_⟩
      · have h2 : ¬ i < (rs.length : Int) := by simpa using h2
        walk_at "es"
        have e : dueWo rs i = pathL := by unfold dueWo; rw [if_pos (fun z => h2 z.2)]
        rw [e] at k
        exact k
      · have h2 : i < (rs.length : Int) := by simpa using h2
        obtain ⟨m, rfl⟩ := Int.eq_ofNat_of_zero_le h
        have hm : m + 1 ≤ (rs.map Ru.dt).length := by rw [List.length_map]; omega
        have g1 : ((rs.map Ru.dt).take m).length = m := by rw [List.length_take]; omega
        have g2 : ((rs.map Ru.dt).drop (m + 1)).length = rs.length - (m + 1) := by rw [List.length_drop, List.length_map]
        walk_at "es"
        refine slp_l rfl ?_
        rw [cut_to (n := m) rfl (by omega)]
        walk_at "es"
        refine slp_l rfl ?_
        rw [cut_fr (n := m + 1) (by omega) hm]
        walk_at "es"
        refine addp_l rfl rfl rfl rfl (by rw [g1, g2]; omega) ?_
        walk_at "es"
        have e : dueWo rs (m : Int) = sheetL (rs.take m ++ rs.drop (m + 1)) := by unfold dueWo; rw [if_neg (fun z => z ⟨h, h2⟩)]; rfl
        rw [e] at k
        unfold sheetL at k
        rw [List.map_append, List.map_take, List.map_drop] at k
        exact k
    · have h := of_decide_eq_false h
      walk_at "es"
      have e : dueWo rs i = pathL := by unfold dueWo; rw [if_pos (fun z => h z.1)]
      rw [e] at k
      exact k
end
end Lk22

namespace Lk22
open PySem L2 Ab Ns PySem.W
local macro_rules | `(tactic| walk_at "no") => `(tactic| first
  | with_reducible exact fun h => Bool.noConfusion (show true = false from h)
  | with_reducible exact fun h => Bool.noConfusion (show false = true from h)
  | exact fun h => absurd h (by decide)
  | exact fun h => absurd (of_decide_eq_true h) (by omega)
  | exact fun h => absurd (by omega) (of_decide_eq_false h)
  | exact fun h => absurd (by omega) (nd_t h)
  | exact fun h => absurd (nd_f h) (by omega)
  | fail "no")
local macro_rules | `(tactic| walk_at "kb") => `(tactic| first | exact kb_tt | exact kb_ll | exact kb_ii | exact kb_ib | exact kb_ss | exact kb_sb | exact kb_si | exact kb_tb | exact kb_ti | exact kb_ts | exact kb_tl | exact kb_lb | exact kb_li | exact kb_ls | exact kb_lt | exact kb_is | exact kb_it | exact kb_il | exact kb_st | exact kb_sl | exact kb_bb | exact kb_bi | exact kb_nb | exact kb_ni | exact kb_ns | exact kb_nt | exact kb_nl | exact kb_bs | exact kb_bt | exact kb_bl | fail "kb")
local macro_rules | `(tactic| walk_at "norm") => `(tactic| first
  | ((refine' norm_cons (rfl : _ = _ :: _) ?ea ?et); (case ea => first | with_reducible exact (rfl : Sl.val _ = _) | with_reducible exact (rfl : Sl.cel _ = _) | with_reducible exact (rfl : Sl.un = _) | with_reducible exact norm_v | with_reducible exact norm_n | with_reducible exact norm_o | exact norm_v | exact norm_n | exact norm_o | exact rfl | fail "norm"); (case et => walk_at "norm"))
  | exact (rfl : _ = ([] : List Sl))
  | fail "norm")
local macro_rules | `(tactic| walk_at "nd") => `(tactic| first
  | exact (rfl : _ = ([] : List Dt))
  | ((refine' normD_cons (rfl : _ = _ :: _) ?et); (case et => walk_at "nd"))
  | fail "nd")
local macro_rules | `(tactic| walk_at "yO") => `(tactic| first
  | with_reducible refine we_ixG ?_
  | with_reducible refine we_opI0 ?_
  | with_reducible refine we_addG ?_
  | with_reducible refine we_eqG ?_
  | with_reducible refine we_neG ?_
  | with_reducible refine we_ltG ?_
  | with_reducible refine we_mulG ?_
  | with_reducible refine we_opI ?_
  | with_reducible refine we_inG ?_
  | with_reducible refine we_notInG ?_
  | with_reducible refine we_gtS ?_
  | fail "yO")
local macro_rules | `(tactic| walk_at "yB") => `(tactic| first
  | with_reducible refine we_lenG ?_
  | with_reducible refine we_isiG ?_
  | with_reducible refine we_intG ?_
  | with_reducible refine we_tuple ?_
  | with_reducible refine we_list ?_
  | with_reducible refine we_sumG ?_
  | with_reducible refine we_sum ?_
  | with_reducible refine we_max2 ?_
  | with_reducible refine we_min2 ?_
  | with_reducible refine we_abs ?_
  | with_reducible refine we_isoG ?_
  | with_reducible refine we_join ?_
  | with_reducible refine we_nlist ?_
  | fail "yB")
local macro_rules | `(tactic| walk_at "yV") => `(tactic| first
  | ((with_reducible refine' we_var ?hh ?_); (case hh => exact rfl))
  | ((with_reducible refine' we_own ?hh ?_); (case hh => exact rfl))
  | fail "yV")
local macro_rules | `(tactic| walk_at "yC") => `(tactic| first
  | ((with_reducible refine' we_kst ?h1 ?_); (case h1 => assumption))
  | with_reducible refine we_c ?_
  | fail "yC")
local macro_rules | `(tactic| walk_at "yE") => `(tactic| first
  | ((with_reducible show Ab.WE _ (L2.tVar _) _ _); walk_at "yV")
  | ((with_reducible show Ab.WE _ (L2.tOp _ _ _) _ _); walk_at "yO")
  | ((with_reducible show Ab.WE _ (L2.tC _) _ _); walk_at "yC")
  | ((with_reducible show Ab.WE _ (L2.tCB _ _) _ _); walk_at "yB")
  | with_reducible refine we_callH ?_
  | with_reducible refine we_fldG ?_
  | with_reducible refine we_tup ?_
  | with_reducible refine we_lst ?_
  | with_reducible refine we_nget ?_
  | with_reducible refine we_nin ?_
  | with_reducible refine we_notN ?_
  | with_reducible refine we_isN ?_
  | with_reducible refine we_if ?_
  | with_reducible refine we_methG ?_
  | ((with_reducible refine' we_appendN ?hh ?_); (case hh => exact rfl))
  | with_reducible refine we_slG ?_
  | with_reducible refine we_nnotin ?_
  | with_reducible refine we_nnew ?_
  | with_reducible refine we_ndisp1 ?_
  | with_reducible refine we_nget1 ?_
  | with_reducible refine we_neg ?_
  | with_reducible refine we_make ?_
  | with_reducible refine we_own2 ?_
  | with_reducible refine we_smeth ?_
  | with_reducible refine we_makeD ?_
  | with_reducible refine we_makeK ?_
  | ((with_reducible refine' we_clearN ?hh ?_); (case hh => exact rfl))
  | with_reducible refine we_chainI ?_
  | with_reducible refine we_andV ?_
  | with_reducible refine we_orV ?_
  | with_reducible refine we_notV ?_
  | ((with_reducible refine' we_reverseN ?hh ?_); (case hh => exact rfl))
  | ((with_reducible refine' we_ktup ?h1 ?_); (case h1 => assumption))
  | fail "yE")
local macro_rules | `(tactic| walk_at "yS") => `(tactic| first
  | with_reducible refine ws_if ?_
  | with_reducible refine ws_expr ?_
  | with_reducible refine ws_asgN rfl rfl ?_
  | with_reducible refine ws_asgG ?_
  | with_reducible refine ws_nil ?_
  | ((with_reducible refine' ws_retDN ?hh ?_); (case hh => exact rfl))
  | ((with_reducible refine' ws_retA ?hh ?_); (case hh => exact rfl))
  | with_reducible refine ws_ret ?_
  | with_reducible refine ws_nput ?_
  | with_reducible refine ws_setN ?_
  | ((with_reducible refine' ws_augN ?h1 ?h2 ?_); (case h1 => exact rfl); (case h2 => exact rfl))
  | with_reducible refine ws_par rfl rfl rfl rfl ?_
  | with_reducible refine ws_par3 rfl rfl rfl rfl rfl rfl ?_
  | fail "yS")
local macro_rules | `(tactic| walk_at "yT") => `(tactic| first
  | with_reducible refine wt_test ?_
  | with_reducible refine wt_B ?_
  | with_reducible refine wt_not ?_
  | with_reducible refine wt_and ?_
  | with_reducible refine wt_or ?_
  | with_reducible refine wt_yes ?_
  | fail "yT")
local macro_rules | `(tactic| walk_at "yG") => `(tactic| first
  | with_reducible refine wg_nameN rfl rfl ?_
  | ((with_reducible refine' wg_tup ?hh ?_); (case hh => exact rfl))
  | fail "yG")
local macro_rules | `(tactic| walk_at "yD") => `(tactic| first
  | with_reducible refine wd_cons ?_
  | with_reducible refine wd_nil ?_
  | fail "yD")
local macro_rules | `(tactic| walk_at "yW") => `(tactic| first
  | with_reducible refine wa_cons ?_
  | with_reducible refine wa_nil ?_
  | fail "yW")
local macro_rules | `(tactic| walk_at "yR") => `(tactic| first
  | with_reducible refine wo_none ?_
  | with_reducible refine wo_some ?_
  | fail "yR")
local macro_rules | `(tactic| walk_at "yP") => `(tactic| first
  | ((with_reducible refine' fldp ?h1 ?h2 ?h3 ?_); (case h1 => assumption); (case h2 => assumption); (case h3 => walk_at "lk"))
  | ((with_reducible refine' ixp ?h1 ?h2 ?_); (case h1 => exact rfl); (case h2 => assumption))
  | ((with_reducible refine' ixp ?h1 ?h2 ?_); (case h1 => exact rfl); (case h2 => exact rfl))
  | with_reducible refine eqp_st ?_
  | with_reducible refine nep_st ?_
  | ((with_reducible refine' eqp_sf ?h1 ?_); (case h1 => first | assumption | decide +kernel))
  | ((with_reducible refine' nep_sf ?h1 ?_); (case h1 => first | assumption | decide +kernel))
  | with_reducible refine eqp_i ?_
  | with_reducible refine nep_i ?_
  | with_reducible refine addp_i ?_
  | with_reducible refine ltp_i ?_
  | ((with_reducible refine' lenp ?hh ?_); (case hh => exact rfl))
  | ((with_reducible refine' metp ?h3 ?_); (case h3 => walk_at "lk"))
  | ((with_reducible refine' addp_tE ?hz ?h ?_); (case h => walk_at "nd"); (case hz => exact Nat.le_of_ble_eq_true rfl))
  | ((with_reducible refine' slp_tE ?h ?_); (case h => walk_at "nd"))
  | ((with_reducible refine' mulp_r ?h1 ?_); (case h1 => first | decide | omega | fail "m"))
  | ((with_reducible refine' mulp_l ?h1 ?_); (case h1 => first | decide | omega | fail "m"))
  | with_reducible refine intp_i ?_
  | with_reducible refine intp_b ?_
  | ((with_reducible refine' isi_own ?h1 ?h2 ?_); (case h1 => exact rfl); (case h2 => walk_at "kb"))
  | ((with_reducible refine' isi_val ?h1 ?h2 ?_); (case h1 => exact rfl); (case h2 => walk_at "kb"))
  | ((with_reducible refine' isi_new ?h2 ?_); (case h2 => walk_at "kb"))
  | ((with_reducible refine' isop ?h1 ?_); (case h1 => assumption))
  | ((with_reducible refine' lenp_s ?h1 ?_); (case h1 => assumption))
  | ((with_reducible refine' slp_s ?h1 ?_); (case h1 => assumption))
  | ((with_reducible refine' ixp_s ?h1 ?h2 ?_); (case h1 => assumption); (case h2 => assumption))
  | with_reducible refine wgs_cons ?_
  | with_reducible refine wgs_nil ?_
  | fail "yP")
local macro_rules | `(tactic| walk_at "yA") => `(tactic| first
  | (refine ⟨_, rfl, ⟨_, rfl⟩, ?_⟩)
  | (refine ⟨_, rfl, ?_⟩)
  | (refine ⟨_, _, _, rfl, rfl, rfl, ?_⟩)
  | (refine ⟨_, _, rfl, rfl, (Nat.le_of_ble_eq_true rfl : _ ≤ _), ?_⟩)
  | (refine ⟨_, _, rfl, rfl, ?_⟩)
  | (refine ⟨(Nat.le_of_ble_eq_true rfl : _ ≤ _), ?_⟩)
  | (refine ⟨(rfl : _ = true), ?_⟩)
  | ((refine' ⟨fun _ => ?_, fun hY => absurd hY ?k2⟩); (case k2 => walk_at "no"))
  | ((refine' ⟨fun hY => absurd hY ?k2, fun _ => ?_⟩); (case k2 => walk_at "no"))
  | (refine ⟨⟨(by omega), (by omega)⟩, ?_⟩)
  | (refine ⟨⟨(by decide), (by decide), (by decide)⟩, ?_⟩)
  | (refine ⟨(show (_ : Prop) from by first | decide | omega | fail "c"), ?_⟩)
  | fail "yA")
local macro_rules | `(tactic| walk_at "x") => `(tactic| first
  | ((with_reducible refine' norm_intro ?hn ?_); (case hn => walk_at "norm"))
  | ((with_reducible show Ab.WE _ _ _ _); walk_at "yE")
  | ((with_reducible show Ab.WS _ _ _ _ _); walk_at "yS")
  | ((with_reducible show Ab.WD _ _ _ _); walk_at "yD")
  | ((with_reducible show Ab.WT _ _ _ _); walk_at "yT")
  | ((with_reducible show Ab.WG _ _ _ _ _ _); walk_at "yG")
  | ((with_reducible show Ab.WA _ _ _ _); walk_at "yW")
  | ((with_reducible show Ab.WO _ _ _ _); walk_at "yR")
  | ((fail_if_success with_reducible show Ab.Hold _); (first | walk_at "yP" | walk_at "yA" | fail "p"))
  | fail "x")
local macro_rules | `(tactic| walk_at "e") => `(tactic| first | with_reducible refine ws_seq ?_ | walk_at "x" | fail "stop")
local macro_rules | `(tactic| walk_at "xs") => `(tactic| repeat' walk_at "x")
local macro_rules | `(tactic| walk_at "es") => `(tactic| repeat' walk_at "e")
local macro_rules | `(tactic| walk_at "len") => `(tactic| ((intro as Post h); (repeat (first | (obtain ⟨e, _⟩ := h; exact (congrArg List.length e).trans rfl) | (obtain ⟨_, h⟩ := h)))))
local macro_rules | `(tactic| walk_at "tk") => `(tactic| refine .a (tk (by assumption) (by omega) (by omega) (by omega) fun _ _ _ _ _ => ?_))
local macro_rules | `(tactic| walk_at "ln") => `(tactic| first
  | omega
  | (simp only [List.length_append, List.length_cons, List.length_nil, List.length_map, List.length_take, List.length_drop, List.length_set, List.length_replicate, List.length_reverse, PySem.Str.length_append]; omega)
  | decide
  | with_reducible exact Nat.le_refl _
  | (simp only [List.length_append, List.length_cons, List.length_nil, List.length_map, List.length_take, List.length_drop, List.length_set, List.length_replicate, List.length_reverse, PySem.Str.length_append] at *; omega)
  | exact (Nat.le_of_ble_eq_true rfl)
  | fail "ln")
local macro_rules | `(tactic| walk_at "az") => `(tactic| first
  | assumption
  | exact Az.nil
  | exact az_abc
  | exact Az.one (az_abc _ (by assumption))
  | ((refine' Az.app ?h1 ?h2); (case h1 => walk_at "az"); (case h2 => walk_at "az"))
  | ((refine' Az.cut ?h1 _ _); (case h1 => walk_at "az"))
  | fail "az")
local macro_rules | `(tactic| walk_at "ty") => `(tactic| first
  | assumption
  | exact EnvT.nil
  | ((refine' EnvT.cons ?ha ?ht); (case ha => walk_at "ty"); (case ht => walk_at "ty"))
  | exact SAny.mk
  | exact SIs.mk
  | exact SPool.mk (by assumption)
  | exact SPool.mk (PoolUp.mono (by assumption) (by omega))
  | ((refine' SVal.mk ?ha); (case ha => walk_at "ty"))
  | ((refine' RVal.mk ?ha); (case ha => walk_at "ty"))
  | ((refine' SAcc.mk ?h0 ?h1 ?h); (case h0 => walk_at "ln"); (case h1 => walk_at "ln"); (case h => walk_at "ty"))
  | ((refine' RNew.mk ?h0 ?h1 ?h); (case h0 => walk_at "ln"); (case h1 => walk_at "ln"); (case h => walk_at "ty"))
  | ((refine' TTs.mk ?h0 ?h1 ?h); (case h0 => walk_at "ln"); (case h1 => walk_at "ln"); (case h => walk_at "ty"))
  | ((refine' TLs.mk ?h0 ?h1 ?h); (case h0 => walk_at "ln"); (case h1 => walk_at "ln"); (case h => walk_at "ty"))
  | exact TIs.mk
  | exact TBl.mk
  | ((refine' TInt.mk ?h0 ?h1); (case h0 => walk_at "ln"); (case h1 => walk_at "ln"))
  | ((refine' TStr.mk ?h0 ?h1); (case h0 => walk_at "ln"); (case h1 => walk_at "ln"))
  | ((refine' TNm.mk ?h0 ?h1 ?h2); (case h0 => walk_at "ln"); (case h1 => walk_at "ln"); (case h2 => walk_at "az"))
  | ((refine' T2.mk ?ha ?hb); (case ha => walk_at "ty"); (case hb => walk_at "ty"))
  | ((refine' T3.mk ?ha ?hb ?hc); (case ha => walk_at "ty"); (case hb => walk_at "ty"); (case hc => walk_at "ty"))
  | ((refine' T4.mk ?ha ?hb ?hc ?hd); (case ha => walk_at "ty"); (case hb => walk_at "ty"); (case hc => walk_at "ty"); (case hd => walk_at "ty"))
  | ((refine' T1.mk ?ha); (case ha => walk_at "ty"))
  | exact all_nil
  | ((refine' all_cons ?ha ?ht); (case ha => walk_at "ty"); (case ht => walk_at "ty"))
  | ((refine' all_app ?ha ?ht); (case ha => walk_at "ty"); (case ht => walk_at "ty"))
  | exact all_take (by assumption)
  | exact all_drop (by assumption)
  | exact all_cut (by assumption)
  | exact all_erase (by assumption)
  | ((refine' all_set (by assumption) ?ha); (case ha => walk_at "ty"))
  | fail "ty")
local macro_rules | `(tactic| walk_at "cs") => `(tactic| repeat (first
  | cases ‹EnvT (_ :: _) _›
  | cases ‹EnvT [] _›
  | cases ‹SAny _›
  | cases ‹SIs _ _›
  | cases ‹SVal _ _›
  | cases ‹SAcc _ _ _ _›
  | cases ‹SPool _ _›
  | cases ‹RVal _ _›
  | cases ‹RNew _ _ _ _›
  | cases ‹TIs _ _›
  | cases ‹TInt _ _ _›
  | cases ‹TBl _›
  | cases ‹TStr _ _ _›
  | cases ‹TNm _ _ _›
  | cases ‹T1 _ _›
  | cases ‹T2 _ _ _›
  | cases ‹T3 _ _ _ _›
  | cases ‹T4 _ _ _ _ _›
  | cases ‹TTs _ _ _ _›
  | cases ‹TLs _ _ _ _›))
local macro_rules | `(tactic| walk_at "if") => `(tactic| ((refine ⟨fun hY => ?_, fun hY => ?_⟩) <;> (try simp only [decide_eq_true_eq, decide_eq_false_iff_not, Bool.not_eq_true', Bool.not_eq_false', Bool.not_eq_true, Bool.not_eq_false] at hY)))
local macro_rules | `(tactic| walk_at "c1") => `(tactic| ((refine' Hold.a ⟨_, ?ce, ?co, fun _ _ _ _ => ?_⟩); (case ce => (show EnvT _ _; walk_at "ty")); (case co => first | omega | fail "co"); walk_at "cs"))
local macro_rules | `(tactic| walk_at "c2") => `(tactic| ((refine' Hold.a ⟨_, _, ?ce, ?co, fun _ _ _ _ => ?_⟩); (case ce => (show EnvT _ _; walk_at "ty")); (case co => first | omega | fail "co"); walk_at "cs"))
local macro_rules | `(tactic| walk_at "c3") => `(tactic| ((refine' Hold.a ⟨_, _, _, ?ce, ?co, fun _ _ _ _ => ?_⟩); (case ce => (show EnvT _ _; walk_at "ty")); (case co => first | omega | fail "co"); walk_at "cs"))
local macro_rules | `(tactic| walk_at "ix") => `(tactic| first
  | ((refine' ixp_c0 ?h1 ?_); (case h1 => exact rfl))
  | ((refine' ixp_kT ?h1 ?h2 ?h3 ?h4 fun _ _ => ?_); (case h1 => exact rfl); (case h2 => walk_at "ln"); (case h3 => walk_at "ln"); (case h4 => assumption); walk_at "cs")
  | ((refine' ixp_sk ?h1 ?h2 ?h3 fun _ _ => ?_); (case h1 => walk_at "ln"); (case h2 => walk_at "ln"); (case h3 => walk_at "ln"))
  | fail "ix")
local macro_rules | `(tactic| walk_at "tx") => `(tactic| first
  | ((with_reducible refine' lenp_s ?h1 ?_); (case h1 => walk_at "ln"))
  | ((with_reducible refine' slp_s ?h1 ?_); (case h1 => walk_at "ln"))
  | ((with_reducible refine' addp_s ?h1 ?_); (case h1 => walk_at "ln"))
  | ((with_reducible refine' addp_l ?h1 ?h2 ?h3 ?h4 ?h5 ?_); (case h1 => exact rfl); (case h2 => exact rfl); (case h3 => exact rfl); (case h4 => exact rfl); (case h5 => walk_at "ln"))
  | with_reducible refine we_repS ?_
  | with_reducible refine we_repA ?_
  | with_reducible refine we_strG ?_
  | with_reducible refine strp_s ?_
  | with_reducible refine we_sortedS ?_
  | with_reducible refine we_sorted ?_
  | with_reducible refine we_all ?_
  | with_reducible refine we_any ?_
  | with_reducible refine eqp_str ?_
  | with_reducible refine nep_str ?_
  | (refine ⟨_, _, rfl, rfl, (by omega), (by omega), (by walk_at "ln"), ?_⟩)
  | (refine ⟨_, _, rfl, rfl, (by walk_at "ln"), ?_⟩)
  | (refine ⟨(show (_ : Prop) from by walk_at "ln"), ?_⟩)
  | fail "tx")
local macro_rules | `(tactic| walk_at "go1") => `(tactic| first
  | walk_at "e"
  | walk_at "tk"
  | walk_at "c1"
  | walk_at "c2"
  | walk_at "ix"
  | walk_at "tx"
  | fail "go")
local macro_rules | `(tactic| walk_at "go") => `(tactic| repeat' walk_at "go1")
local macro_rules | `(tactic| walk_at "gi") => `(tactic| repeat' (first | walk_at "go1" | walk_at "if" | fail "gi"))
local macro_rules | `(tactic| walk_at "gx") => `(tactic| repeat' (first
  | walk_at "x"
  | walk_at "tk"
  | walk_at "c1"
  | walk_at "c2"
  | walk_at "ix"
  | walk_at "tx"
  | fail "gx"))
local macro_rules | `(tactic| walk_at "len") => `(tactic| ((intro as Post h); (repeat (first | (obtain ⟨e, _⟩ := h; exact (congrArg List.length e).trans rfl) | (obtain ⟨e, _⟩ := h; exact (EnvT.len e).trans rfl) | (obtain ⟨_, h⟩ := h)))))
local macro_rules | `(tactic| walk_at "lk") => `(tactic| first | exact lk_sh_row | exact lk_sh_no (by decide +kernel) | fail "lk")
local macro_rules | `(tactic| walk_at "x") => `(tactic| first
  | with_reducible refine we_inO ?_
  | with_reducible refine we_makeN0 ?_
  | with_reducible refine we_star0 ?_
  | fail "x")
theorem any_nm (nm : Str) : ∀ l : List Dl, (l.any fun d => decide (d.nm = nm)) = decide (nm ∈ l.map Dl.nm)
  | [] => rfl
  | d :: l => by
    rw [List.any_cons, any_nm nm l, List.map_cons]
    by_cases h : d.nm = nm
    · simp [h]
    · have h2 : ¬ nm = d.nm := fun e => h e.symm
      simp [h, h2]
theorem ok_path : Ab.okD (.lst pathL) = true ∧ depD (.lst pathL) ≤ 7 := ⟨by simp [pathL, okD, okAll], by simp [pathL, depD, depAll]⟩
theorem ok_large : Ab.okD (.lst largeL) = true ∧ depD (.lst largeL) ≤ 7 := ⟨by simp [largeL, okD, okAll], by simp [largeL, depD, depAll]⟩
theorem ok_rules {rs : List Ru} (hl : rs.length ≤ 1000) (h : ∀ r ∈ rs, RuG r) : Ab.okD (.lst (rs.map Ru.dt)) = true ∧ depD (.lst (rs.map Ru.dt)) ≤ 6 := by
  have a1 := okAll_m (f := Ru.dt) (xs := rs) fun r hr => (ru_flat (h r hr)).1
  have a2 := depAll_m (f := Ru.dt) (n := 5) (xs := rs) fun r hr => (ru_flat (h r hr)).2
  exact ⟨by simp [okD, a1]; omega, by simp [depD]; omega⟩
theorem ok_sheet {rs : List Ru} (hl : rs.length ≤ 1000) (h : ∀ r ∈ rs, RuG r) : Ab.okD (.lst (sheetL rs)) = true ∧ depD (.lst (sheetL rs)) ≤ 7 := by
  obtain ⟨a1, a2⟩ := ok_rules hl h
  unfold sheetL
  constructor
  · simp [okD, okAll] at a1 ⊢; exact a1
  · have : depD (.lst (rs.map Ru.dt)) ≤ 6 := a2
    simp only [depD, depAll] at this ⊢; omega
theorem ok_item {r : Ru} (h : RuG r) : Ab.okD (.lst (itemL r)) = true ∧ depD (.lst (itemL r)) ≤ 7 := by
  obtain ⟨a1, a2⟩ := ru_flat h
  unfold itemL
  exact ⟨by simp [okD, okAll, a1], by simp only [depD, depAll]; omega⟩
theorem ok_dueItem {rs : List Ru} {i : Int} (h : ∀ r ∈ rs, RuG r) : Ab.okD (.lst (dueItem rs i)) = true ∧ depD (.lst (dueItem rs i)) ≤ 7 := by
  unfold dueItem
  by_cases h0 : 0 ≤ i
  · rw [if_pos h0]
    cases e : rs[i.toNat]? with
    | none => exact ok_path
    | some r => exact ok_item (h r (List.mem_of_getElem? e))
  · rw [if_neg h0]; exact ok_path
theorem ok_dueWith {rs : List Ru} {i : Int} {r : Ru} (hl : rs.length ≤ 12) (h : ∀ r ∈ rs, RuG r) (hr : RuG r) : Ab.okD (.lst (dueWith rs i r)) = true ∧ depD (.lst (dueWith rs i r)) ≤ 7 := by
  unfold dueWith
  by_cases h0 : ¬ (0 ≤ i ∧ i ≤ rs.length)
  · rw [if_pos h0]; exact ok_path
  · rw [if_neg h0]
    by_cases h1 : rs.length = 12
    · rw [if_pos h1]; exact ok_large
    · rw [if_neg h1]
      refine ok_sheet (by simp only [List.length_append, List.length_take, List.length_drop, List.length_singleton]; omega) fun x hx => ?_
      rcases List.mem_append.mp hx with hx | hx
      · rcases List.mem_append.mp hx with hx | hx
        · exact h x (List.mem_of_mem_take hx)
        · rw [List.mem_singleton.mp hx]; exact hr
      · exact h x (List.mem_of_mem_drop hx)
theorem ok_dueWo {rs : List Ru} {i : Int} (hl : rs.length ≤ 12) (h : ∀ r ∈ rs, RuG r) : Ab.okD (.lst (dueWo rs i)) = true ∧ depD (.lst (dueWo rs i)) ≤ 7 := by
  unfold dueWo
  by_cases h0 : ¬ (0 ≤ i ∧ i < rs.length)
  · rw [if_pos h0]; exact ok_path
  · rw [if_neg h0]
    refine ok_sheet (by simp only [List.length_append, List.length_take, List.length_drop]; omega) fun x hx => ?_
    rcases List.mem_append.mp hx with hx | hx
    · exact h x (List.mem_of_mem_take hx)
    · exact h x (List.mem_of_mem_drop hx)
theorem ok_dueSum {rs : List Ru} (hl : rs.length ≤ 100) (h : ∀ r ∈ rs, RuG r) : Ab.okD (.lst (dueSum rs)) = true ∧ depD (.lst (dueSum rs)) ≤ 7 := by
  unfold dueSum
  by_cases h0 : 12 < rs.length
  · rw [if_pos h0]; exact ok_large
  · rw [if_neg h0]; exact ok_sheet (by omega) h
section
variable {K : PySem.W.Frag} {c cB cT cS : Addr}
def ap_places (c : Addr) : AP := fun as Post => ∃ (rs : List Ru) (r : Ru), as = [.val (shD c rs), .val (.lst (rs.map Ru.dt)), .val r.dt] ∧ rs.length ≤ 12 ∧ (∀ r ∈ rs, RuG r) ∧ RuG r ∧ Post (.val (.bl true)) as
theorem run_places : RunOk K [] (t__law_places_right K c (ap_deed c) (ap_sameE 7) ap_due ap_props (ap_shhas c)) 10 (ap_places c) := by
  rintro as Post ⟨rs, r, rfl, hl, hg, hr, k⟩
  have e1 : ((rs.map Ru.dt).length : Int) = rs.length := by rw [List.length_map]
  unfold t__law_places_right
  show WS K [] _ [.val (shD c rs), .val (.lst (rs.map Ru.dt)), .val r.dt, .un, .un, .un, .un, .un, .un, .un] _
  refine ws_cut (fun G => ∃ s3 s4 s5, G = [.val (shD c rs), .val (.lst (rs.map Ru.dt)), .val r.dt, s3, s4, s5, .un, .un, .un, .un]) ?_ ?_
  · refine for_range2 (-3) (rs.length + 4) (fun _ G => ∃ s3 s4 s5, G = [.val (shD c rs), .val (.lst (rs.map Ru.dt)), .val r.dt, s3, s4, s5, .un, .un, .un, .un]) ?_ ?_ ?_
    · walk_at "es"
      rw [e1]
      exact .a ⟨rfl, by omega, _, _, _, rfl⟩
    · rintro i G hi ⟨s3, s4, s5, rfl⟩
      walk_at "es"
      refine for_lstT (["item", "with", "without", "item"] : List Str) Dt.str (fun _ G => ∃ s4 s5, G = [.val (shD c rs), .val (.lst (rs.map Ru.dt)), .val r.dt, .val (.int (-3 + i)), s4, s5, .un, .un, .un, .un]) ?_ ?_ ?_
      · walk_at "es"
        exact .a ⟨rfl, _, _, rfl⟩
      · rintro j s G hj ⟨s4, s5, rfl⟩
        have hs := List.mem_of_getElem? hj
        have hs : s = "item" ∨ s = "with" ∨ s = "without" := by
          simp only [List.mem_cons, List.not_mem_nil, or_false] at hs
          rcases hs with h | h | h | h
          · exact .inl h
          · exact .inr (.inl h)
          · exact .inr (.inr h)
          · exact .inl h
        rcases hs with rfl | rfl | rfl
        · have ok := ok_dueItem (i := -3 + i) hg
          walk_at "es"
          refine .a ⟨rs, hl, .inl ⟨_, _, r, rfl, by omega, .inl ⟨rfl, ?_⟩⟩⟩
          walk_at "es"
          refine .a ⟨rs, _, _, r, rfl, hl, by omega, .inl ⟨rfl, ?_⟩⟩
          walk_at "es"
          refine .a (.inl ⟨_, _, .lst (dueItem rs (-3 + i)), rfl, rfl, rfl, ok.1, ok.2, ?_⟩)
          walk_at "es"
          exact .a ⟨_, _, rfl⟩
        · have ok := ok_dueWith (i := -3 + i) hl hg hr
          walk_at "es"
          refine .a ⟨rs, hl, .inl ⟨_, _, r, rfl, by omega, .inr (.inl ⟨rfl, ?_⟩)⟩⟩
          walk_at "es"
          refine .a ⟨rs, _, _, r, rfl, hl, by omega, .inr (.inl ⟨rfl, ?_⟩)⟩
          walk_at "es"
          refine .a (.inl ⟨_, _, .lst (dueWith rs (-3 + i) r), rfl, rfl, rfl, ok.1, ok.2, ?_⟩)
          walk_at "es"
          exact .a ⟨_, _, rfl⟩
        · have ok := ok_dueWo (i := -3 + i) hl hg
          walk_at "es"
          refine .a ⟨rs, hl, .inl ⟨_, _, r, rfl, by omega, .inr (.inr ⟨rfl, ?_⟩)⟩⟩
          walk_at "es"
          refine .a ⟨rs, _, _, r, rfl, hl, by omega, .inr (.inr ⟨rfl, ?_⟩)⟩
          walk_at "es"
          refine .a (.inl ⟨_, _, .lst (dueWo rs (-3 + i)), rfl, rfl, rfl, ok.1, ok.2, ?_⟩)
          walk_at "es"
          exact .a ⟨_, _, rfl⟩
      · rintro G ⟨s4, s5, rfl⟩
        exact .a ⟨_, _, _, rfl⟩
    · rintro G ⟨s3, s4, s5, rfl⟩
      exact .a ⟨_, _, _, rfl⟩
  rintro G ⟨s3, s4, s5, rfl⟩
  refine ws_cut (fun G => ∃ s6 s7 s8, G = [.val (shD c rs), .val (.lst (rs.map Ru.dt)), .val r.dt, s3, s4, s5, s6, s7, s8, .un]) ?_ ?_
  · refine for_lstT (nmL ++ (["colour", "Size", ""] : List Str)) Dt.str (fun _ G => ∃ s6 s7 s8, G = [.val (shD c rs), .val (.lst (rs.map Ru.dt)), .val r.dt, s3, s4, s5, s6, s7, s8, .un]) ?_ ?_ ?_
    · walk_at "es"
      refine .a ⟨rfl, ?_⟩
      walk_at "es"
      refine addp_l rfl rfl rfl rfl (by decide) ?_
      exact .a ⟨by rw [List.map_append]; rfl, _, _, _, rfl⟩
    · rintro i nm G hi ⟨s6, s7, s8, rfl⟩
      walk_at "es"
      refine for_lstT rs Ru.dt (fun j G => ∃ s8, G = [.val (shD c rs), .val (.lst (rs.map Ru.dt)), .val r.dt, s3, s4, s5, .val (.str nm), .val (.bl (hasN (rs.take j) nm)), s8, .un]) ?_ ?_ ?_
      · walk_at "es"
        exact .a ⟨rfl, _, rfl⟩
      · rintro j q G hj ⟨s8, rfl⟩
        have hq : q.dt = .tup [selD q.sel, .tup (q.ds.map Dl.dt)] := rfl
        have hqg := hg q (List.mem_of_getElem? hj)
        have hn : hasN (rs.take (j + 1)) nm = (hasN (rs.take j) nm || q.ds.any fun d => decide (d.nm = nm)) := by
          unfold hasN
          rw [List.take_add_one, hj, List.any_append]
          simp
        have hd := any_nm nm q.ds
        rw [hq]
        walk_at "es"
        refine ⟨fun h => ?_, fun h => ?_⟩
        · walk_at "es"
          refine lc_tupV q.ds Dl.dt (fun d => .str d.nm) (fun _ => true) ?_ ?_ ?_
          · walk_at "es"
            have := hqg.2.1.2
            exact .a ⟨rfl, by omega, rfl, rfl, rfl⟩
          · intro d hdm
            have hdd : d.dt = .tup [.str d.nm, d.v.dt, .bl d.st] := rfl
            rw [hdd]
            walk_at "es"
            exact .a ⟨rfl, rfl, rfl⟩
          · rw [Ab.filter_tt]
            walk_at "es"
            refine inS (xs := q.ds.map Dl.nm) (by rw [List.map_map]; rfl) ?_
            walk_at "es"
            rw [hn, h, hd, Bool.false_or]
            exact .a ⟨_, rfl⟩
        · walk_at "es"
          rw [hn, h, Bool.true_or]
          exact .a ⟨_, rfl⟩
      · rintro G ⟨s8, rfl⟩
        rw [List.take_length]
        walk_at "es"
        refine .a ⟨rs, nm, rfl, hl, fun x hx => (hg x hx).2.1.2, _, rfl, ?_⟩
        walk_at "es"
        refine .a (.inl ⟨_, _, .bl (hasN rs nm), rfl, by rw [Bool.bne_false]; rfl, rfl, by rw [okD], by rw [depD]; omega, ?_⟩)
        walk_at "es"
        exact .a ⟨_, _, _, rfl⟩
    · rintro G ⟨s6, s7, s8, rfl⟩
      exact .a ⟨_, _, _, rfl⟩
  rintro G ⟨s6, s7, s8, rfl⟩
  walk_at "es"
  exact k
end
end Lk22

namespace Lk22
open PySem L2 Ab Ns PySem.W
local macro_rules | `(tactic| walk_at "no") => `(tactic| first
  | with_reducible exact fun h => Bool.noConfusion (show true = false from h)
  | with_reducible exact fun h => Bool.noConfusion (show false = true from h)
  | exact fun h => absurd h (by decide)
  | exact fun h => absurd (of_decide_eq_true h) (by omega)
  | exact fun h => absurd (by omega) (of_decide_eq_false h)
  | exact fun h => absurd (by omega) (nd_t h)
  | exact fun h => absurd (nd_f h) (by omega)
  | fail "no")
local macro_rules | `(tactic| walk_at "kb") => `(tactic| first | exact kb_tt | exact kb_ll | exact kb_ii | exact kb_ib | exact kb_ss | exact kb_sb | exact kb_si | exact kb_tb | exact kb_ti | exact kb_ts | exact kb_tl | exact kb_lb | exact kb_li | exact kb_ls | exact kb_lt | exact kb_is | exact kb_it | exact kb_il | exact kb_st | exact kb_sl | exact kb_bb | exact kb_bi | exact kb_nb | exact kb_ni | exact kb_ns | exact kb_nt | exact kb_nl | exact kb_bs | exact kb_bt | exact kb_bl | fail "kb")
local macro_rules | `(tactic| walk_at "norm") => `(tactic| first
  | ((refine' norm_cons (rfl : _ = _ :: _) ?ea ?et); (case ea => first | with_reducible exact (rfl : Sl.val _ = _) | with_reducible exact (rfl : Sl.cel _ = _) | with_reducible exact (rfl : Sl.un = _) | with_reducible exact norm_v | with_reducible exact norm_n | with_reducible exact norm_o | exact norm_v | exact norm_n | exact norm_o | exact rfl | fail "norm"); (case et => walk_at "norm"))
  | exact (rfl : _ = ([] : List Sl))
  | fail "norm")
local macro_rules | `(tactic| walk_at "nd") => `(tactic| first
  | exact (rfl : _ = ([] : List Dt))
  | ((refine' normD_cons (rfl : _ = _ :: _) ?et); (case et => walk_at "nd"))
  | fail "nd")
local macro_rules | `(tactic| walk_at "yO") => `(tactic| first
  | with_reducible refine we_ixG ?_
  | with_reducible refine we_opI0 ?_
  | with_reducible refine we_addG ?_
  | with_reducible refine we_eqG ?_
  | with_reducible refine we_neG ?_
  | with_reducible refine we_ltG ?_
  | with_reducible refine we_mulG ?_
  | with_reducible refine we_opI ?_
  | with_reducible refine we_inG ?_
  | with_reducible refine we_notInG ?_
  | with_reducible refine we_gtS ?_
  | fail "yO")
local macro_rules | `(tactic| walk_at "yB") => `(tactic| first
  | with_reducible refine we_lenG ?_
  | with_reducible refine we_isiG ?_
  | with_reducible refine we_intG ?_
  | with_reducible refine we_tuple ?_
  | with_reducible refine we_list ?_
  | with_reducible refine we_sumG ?_
  | with_reducible refine we_sum ?_
  | with_reducible refine we_max2 ?_
  | with_reducible refine we_min2 ?_
  | with_reducible refine we_abs ?_
  | with_reducible refine we_isoG ?_
  | with_reducible refine we_join ?_
  | with_reducible refine we_nlist ?_
  | fail "yB")
local macro_rules | `(tactic| walk_at "yV") => `(tactic| first
  | ((with_reducible refine' we_var ?hh ?_); (case hh => exact rfl))
  | ((with_reducible refine' we_own ?hh ?_); (case hh => exact rfl))
  | fail "yV")
local macro_rules | `(tactic| walk_at "yC") => `(tactic| first
  | ((with_reducible refine' we_kst ?h1 ?_); (case h1 => assumption))
  | with_reducible refine we_c ?_
  | fail "yC")
local macro_rules | `(tactic| walk_at "yE") => `(tactic| first
  | ((with_reducible show Ab.WE _ (L2.tVar _) _ _); walk_at "yV")
  | ((with_reducible show Ab.WE _ (L2.tOp _ _ _) _ _); walk_at "yO")
  | ((with_reducible show Ab.WE _ (L2.tC _) _ _); walk_at "yC")
  | ((with_reducible show Ab.WE _ (L2.tCB _ _) _ _); walk_at "yB")
  | with_reducible refine we_callH ?_
  | with_reducible refine we_fldG ?_
  | with_reducible refine we_tup ?_
  | with_reducible refine we_lst ?_
  | with_reducible refine we_nget ?_
  | with_reducible refine we_nin ?_
  | with_reducible refine we_notN ?_
  | with_reducible refine we_isN ?_
  | with_reducible refine we_if ?_
  | with_reducible refine we_methG ?_
  | ((with_reducible refine' we_appendN ?hh ?_); (case hh => exact rfl))
  | with_reducible refine we_slG ?_
  | with_reducible refine we_nnotin ?_
  | with_reducible refine we_nnew ?_
  | with_reducible refine we_ndisp1 ?_
  | with_reducible refine we_nget1 ?_
  | with_reducible refine we_neg ?_
  | with_reducible refine we_make ?_
  | with_reducible refine we_own2 ?_
  | with_reducible refine we_smeth ?_
  | with_reducible refine we_makeD ?_
  | with_reducible refine we_makeK ?_
  | ((with_reducible refine' we_clearN ?hh ?_); (case hh => exact rfl))
  | with_reducible refine we_chainI ?_
  | with_reducible refine we_andV ?_
  | with_reducible refine we_orV ?_
  | with_reducible refine we_notV ?_
  | ((with_reducible refine' we_reverseN ?hh ?_); (case hh => exact rfl))
  | ((with_reducible refine' we_ktup ?h1 ?_); (case h1 => assumption))
  | fail "yE")
local macro_rules | `(tactic| walk_at "yS") => `(tactic| first
  | with_reducible refine ws_if ?_
  | with_reducible refine ws_expr ?_
  | with_reducible refine ws_asgN rfl rfl ?_
  | with_reducible refine ws_asgG ?_
  | with_reducible refine ws_nil ?_
  | ((with_reducible refine' ws_retDN ?hh ?_); (case hh => exact rfl))
  | ((with_reducible refine' ws_retA ?hh ?_); (case hh => exact rfl))
  | with_reducible refine ws_ret ?_
  | with_reducible refine ws_nput ?_
  | with_reducible refine ws_setN ?_
  | ((with_reducible refine' ws_augN ?h1 ?h2 ?_); (case h1 => exact rfl); (case h2 => exact rfl))
  | with_reducible refine ws_par rfl rfl rfl rfl ?_
  | with_reducible refine ws_par3 rfl rfl rfl rfl rfl rfl ?_
  | fail "yS")
local macro_rules | `(tactic| walk_at "yT") => `(tactic| first
  | with_reducible refine wt_test ?_
  | with_reducible refine wt_B ?_
  | with_reducible refine wt_not ?_
  | with_reducible refine wt_and ?_
  | with_reducible refine wt_or ?_
  | with_reducible refine wt_yes ?_
  | fail "yT")
local macro_rules | `(tactic| walk_at "yG") => `(tactic| first
  | with_reducible refine wg_nameN rfl rfl ?_
  | ((with_reducible refine' wg_tup ?hh ?_); (case hh => exact rfl))
  | fail "yG")
local macro_rules | `(tactic| walk_at "yD") => `(tactic| first
  | with_reducible refine wd_cons ?_
  | with_reducible refine wd_nil ?_
  | fail "yD")
local macro_rules | `(tactic| walk_at "yW") => `(tactic| first
  | with_reducible refine wa_cons ?_
  | with_reducible refine wa_nil ?_
  | fail "yW")
local macro_rules | `(tactic| walk_at "yR") => `(tactic| first
  | with_reducible refine wo_none ?_
  | with_reducible refine wo_some ?_
  | fail "yR")
local macro_rules | `(tactic| walk_at "yP") => `(tactic| first
  | ((with_reducible refine' fldp ?h1 ?h2 ?h3 ?_); (case h1 => assumption); (case h2 => assumption); (case h3 => walk_at "lk"))
  | ((with_reducible refine' ixp ?h1 ?h2 ?_); (case h1 => exact rfl); (case h2 => assumption))
  | ((with_reducible refine' ixp ?h1 ?h2 ?_); (case h1 => exact rfl); (case h2 => exact rfl))
  | with_reducible refine eqp_st ?_
  | with_reducible refine nep_st ?_
  | ((with_reducible refine' eqp_sf ?h1 ?_); (case h1 => first | assumption | decide +kernel))
  | ((with_reducible refine' nep_sf ?h1 ?_); (case h1 => first | assumption | decide +kernel))
  | with_reducible refine eqp_i ?_
  | with_reducible refine nep_i ?_
  | with_reducible refine addp_i ?_
  | with_reducible refine ltp_i ?_
  | ((with_reducible refine' lenp ?hh ?_); (case hh => exact rfl))
  | ((with_reducible refine' metp ?h3 ?_); (case h3 => walk_at "lk"))
  | ((with_reducible refine' addp_tE ?hz ?h ?_); (case h => walk_at "nd"); (case hz => exact Nat.le_of_ble_eq_true rfl))
  | ((with_reducible refine' slp_tE ?h ?_); (case h => walk_at "nd"))
  | ((with_reducible refine' mulp_r ?h1 ?_); (case h1 => first | decide | omega | fail "m"))
  | ((with_reducible refine' mulp_l ?h1 ?_); (case h1 => first | decide | omega | fail "m"))
  | with_reducible refine intp_i ?_
  | with_reducible refine intp_b ?_
  | ((with_reducible refine' isi_own ?h1 ?h2 ?_); (case h1 => exact rfl); (case h2 => walk_at "kb"))
  | ((with_reducible refine' isi_val ?h1 ?h2 ?_); (case h1 => exact rfl); (case h2 => walk_at "kb"))
  | ((with_reducible refine' isi_new ?h2 ?_); (case h2 => walk_at "kb"))
  | ((with_reducible refine' isop ?h1 ?_); (case h1 => assumption))
  | ((with_reducible refine' lenp_s ?h1 ?_); (case h1 => assumption))
  | ((with_reducible refine' slp_s ?h1 ?_); (case h1 => assumption))
  | ((with_reducible refine' ixp_s ?h1 ?h2 ?_); (case h1 => assumption); (case h2 => assumption))
  | with_reducible refine wgs_cons ?_
  | with_reducible refine wgs_nil ?_
  | fail "yP")
local macro_rules | `(tactic| walk_at "yA") => `(tactic| first
  | (refine ⟨_, rfl, ⟨_, rfl⟩, ?_⟩)
  | (refine ⟨_, rfl, ?_⟩)
  | (refine ⟨_, _, _, rfl, rfl, rfl, ?_⟩)
  | (refine ⟨_, _, rfl, rfl, (Nat.le_of_ble_eq_true rfl : _ ≤ _), ?_⟩)
  | (refine ⟨_, _, rfl, rfl, ?_⟩)
  | (refine ⟨(Nat.le_of_ble_eq_true rfl : _ ≤ _), ?_⟩)
  | (refine ⟨(rfl : _ = true), ?_⟩)
  | ((refine' ⟨fun _ => ?_, fun hY => absurd hY ?k2⟩); (case k2 => walk_at "no"))
  | ((refine' ⟨fun hY => absurd hY ?k2, fun _ => ?_⟩); (case k2 => walk_at "no"))
  | (refine ⟨⟨(by omega), (by omega)⟩, ?_⟩)
  | (refine ⟨⟨(by decide), (by decide), (by decide)⟩, ?_⟩)
  | (refine ⟨(show (_ : Prop) from by first | decide | omega | fail "c"), ?_⟩)
  | fail "yA")
local macro_rules | `(tactic| walk_at "x") => `(tactic| first
  | ((with_reducible refine' norm_intro ?hn ?_); (case hn => walk_at "norm"))
  | ((with_reducible show Ab.WE _ _ _ _); walk_at "yE")
  | ((with_reducible show Ab.WS _ _ _ _ _); walk_at "yS")
  | ((with_reducible show Ab.WD _ _ _ _); walk_at "yD")
  | ((with_reducible show Ab.WT _ _ _ _); walk_at "yT")
  | ((with_reducible show Ab.WG _ _ _ _ _ _); walk_at "yG")
  | ((with_reducible show Ab.WA _ _ _ _); walk_at "yW")
  | ((with_reducible show Ab.WO _ _ _ _); walk_at "yR")
  | ((fail_if_success with_reducible show Ab.Hold _); (first | walk_at "yP" | walk_at "yA" | fail "p"))
  | fail "x")
local macro_rules | `(tactic| walk_at "e") => `(tactic| first | with_reducible refine ws_seq ?_ | walk_at "x" | fail "stop")
local macro_rules | `(tactic| walk_at "xs") => `(tactic| repeat' walk_at "x")
local macro_rules | `(tactic| walk_at "es") => `(tactic| repeat' walk_at "e")
local macro_rules | `(tactic| walk_at "len") => `(tactic| ((intro as Post h); (repeat (first | (obtain ⟨e, _⟩ := h; exact (congrArg List.length e).trans rfl) | (obtain ⟨_, h⟩ := h)))))
local macro_rules | `(tactic| walk_at "tk") => `(tactic| refine .a (tk (by assumption) (by omega) (by omega) (by omega) fun _ _ _ _ _ => ?_))
local macro_rules | `(tactic| walk_at "ln") => `(tactic| first
  | omega
  | (simp only [List.length_append, List.length_cons, List.length_nil, List.length_map, List.length_take, List.length_drop, List.length_set, List.length_replicate, List.length_reverse, PySem.Str.length_append]; omega)
  | decide
  | with_reducible exact Nat.le_refl _
  | (simp only [List.length_append, List.length_cons, List.length_nil, List.length_map, List.length_take, List.length_drop, List.length_set, List.length_replicate, List.length_reverse, PySem.Str.length_append] at *; omega)
  | exact (Nat.le_of_ble_eq_true rfl)
  | fail "ln")
local macro_rules | `(tactic| walk_at "az") => `(tactic| first
  | assumption
  | exact Az.nil
  | exact az_abc
  | exact Az.one (az_abc _ (by assumption))
  | ((refine' Az.app ?h1 ?h2); (case h1 => walk_at "az"); (case h2 => walk_at "az"))
  | ((refine' Az.cut ?h1 _ _); (case h1 => walk_at "az"))
  | fail "az")
local macro_rules | `(tactic| walk_at "ty") => `(tactic| first
  | assumption
  | exact EnvT.nil
  | ((refine' EnvT.cons ?ha ?ht); (case ha => walk_at "ty"); (case ht => walk_at "ty"))
  | exact SAny.mk
  | exact SIs.mk
  | exact SPool.mk (by assumption)
  | exact SPool.mk (PoolUp.mono (by assumption) (by omega))
  | ((refine' SVal.mk ?ha); (case ha => walk_at "ty"))
  | ((refine' RVal.mk ?ha); (case ha => walk_at "ty"))
  | ((refine' SAcc.mk ?h0 ?h1 ?h); (case h0 => walk_at "ln"); (case h1 => walk_at "ln"); (case h => walk_at "ty"))
  | ((refine' RNew.mk ?h0 ?h1 ?h); (case h0 => walk_at "ln"); (case h1 => walk_at "ln"); (case h => walk_at "ty"))
  | ((refine' TTs.mk ?h0 ?h1 ?h); (case h0 => walk_at "ln"); (case h1 => walk_at "ln"); (case h => walk_at "ty"))
  | ((refine' TLs.mk ?h0 ?h1 ?h); (case h0 => walk_at "ln"); (case h1 => walk_at "ln"); (case h => walk_at "ty"))
  | exact TIs.mk
  | exact TBl.mk
  | ((refine' TInt.mk ?h0 ?h1); (case h0 => walk_at "ln"); (case h1 => walk_at "ln"))
  | ((refine' TStr.mk ?h0 ?h1); (case h0 => walk_at "ln"); (case h1 => walk_at "ln"))
  | ((refine' TNm.mk ?h0 ?h1 ?h2); (case h0 => walk_at "ln"); (case h1 => walk_at "ln"); (case h2 => walk_at "az"))
  | ((refine' T2.mk ?ha ?hb); (case ha => walk_at "ty"); (case hb => walk_at "ty"))
  | ((refine' T3.mk ?ha ?hb ?hc); (case ha => walk_at "ty"); (case hb => walk_at "ty"); (case hc => walk_at "ty"))
  | ((refine' T4.mk ?ha ?hb ?hc ?hd); (case ha => walk_at "ty"); (case hb => walk_at "ty"); (case hc => walk_at "ty"); (case hd => walk_at "ty"))
  | ((refine' T1.mk ?ha); (case ha => walk_at "ty"))
  | exact all_nil
  | ((refine' all_cons ?ha ?ht); (case ha => walk_at "ty"); (case ht => walk_at "ty"))
  | ((refine' all_app ?ha ?ht); (case ha => walk_at "ty"); (case ht => walk_at "ty"))
  | exact all_take (by assumption)
  | exact all_drop (by assumption)
  | exact all_cut (by assumption)
  | exact all_erase (by assumption)
  | ((refine' all_set (by assumption) ?ha); (case ha => walk_at "ty"))
  | fail "ty")
local macro_rules | `(tactic| walk_at "cs") => `(tactic| repeat (first
  | cases ‹EnvT (_ :: _) _›
  | cases ‹EnvT [] _›
  | cases ‹SAny _›
  | cases ‹SIs _ _›
  | cases ‹SVal _ _›
  | cases ‹SAcc _ _ _ _›
  | cases ‹SPool _ _›
  | cases ‹RVal _ _›
  | cases ‹RNew _ _ _ _›
  | cases ‹TIs _ _›
  | cases ‹TInt _ _ _›
  | cases ‹TBl _›
  | cases ‹TStr _ _ _›
  | cases ‹TNm _ _ _›
  | cases ‹T1 _ _›
  | cases ‹T2 _ _ _›
  | cases ‹T3 _ _ _ _›
  | cases ‹T4 _ _ _ _ _›
  | cases ‹TTs _ _ _ _›
  | cases ‹TLs _ _ _ _›))
local macro_rules | `(tactic| walk_at "if") => `(tactic| ((refine ⟨fun hY => ?_, fun hY => ?_⟩) <;> (try simp only [decide_eq_true_eq, decide_eq_false_iff_not, Bool.not_eq_true', Bool.not_eq_false', Bool.not_eq_true, Bool.not_eq_false] at hY)))
local macro_rules | `(tactic| walk_at "c1") => `(tactic| ((refine' Hold.a ⟨_, ?ce, ?co, fun _ _ _ _ => ?_⟩); (case ce => (show EnvT _ _; walk_at "ty")); (case co => first | omega | fail "co"); walk_at "cs"))
local macro_rules | `(tactic| walk_at "c2") => `(tactic| ((refine' Hold.a ⟨_, _, ?ce, ?co, fun _ _ _ _ => ?_⟩); (case ce => (show EnvT _ _; walk_at "ty")); (case co => first | omega | fail "co"); walk_at "cs"))
local macro_rules | `(tactic| walk_at "c3") => `(tactic| ((refine' Hold.a ⟨_, _, _, ?ce, ?co, fun _ _ _ _ => ?_⟩); (case ce => (show EnvT _ _; walk_at "ty")); (case co => first | omega | fail "co"); walk_at "cs"))
local macro_rules | `(tactic| walk_at "ix") => `(tactic| first
  | ((refine' ixp_c0 ?h1 ?_); (case h1 => exact rfl))
  | ((refine' ixp_kT ?h1 ?h2 ?h3 ?h4 fun _ _ => ?_); (case h1 => exact rfl); (case h2 => walk_at "ln"); (case h3 => walk_at "ln"); (case h4 => assumption); walk_at "cs")
  | ((refine' ixp_sk ?h1 ?h2 ?h3 fun _ _ => ?_); (case h1 => walk_at "ln"); (case h2 => walk_at "ln"); (case h3 => walk_at "ln"))
  | fail "ix")
local macro_rules | `(tactic| walk_at "tx") => `(tactic| first
  | ((with_reducible refine' lenp_s ?h1 ?_); (case h1 => walk_at "ln"))
  | ((with_reducible refine' slp_s ?h1 ?_); (case h1 => walk_at "ln"))
  | ((with_reducible refine' addp_s ?h1 ?_); (case h1 => walk_at "ln"))
  | ((with_reducible refine' addp_l ?h1 ?h2 ?h3 ?h4 ?h5 ?_); (case h1 => exact rfl); (case h2 => exact rfl); (case h3 => exact rfl); (case h4 => exact rfl); (case h5 => walk_at "ln"))
  | with_reducible refine we_repS ?_
  | with_reducible refine we_repA ?_
  | with_reducible refine we_strG ?_
  | with_reducible refine strp_s ?_
  | with_reducible refine we_sortedS ?_
  | with_reducible refine we_sorted ?_
  | with_reducible refine we_all ?_
  | with_reducible refine we_any ?_
  | with_reducible refine eqp_str ?_
  | with_reducible refine nep_str ?_
  | (refine ⟨_, _, rfl, rfl, (by omega), (by omega), (by walk_at "ln"), ?_⟩)
  | (refine ⟨_, _, rfl, rfl, (by walk_at "ln"), ?_⟩)
  | (refine ⟨(show (_ : Prop) from by walk_at "ln"), ?_⟩)
  | fail "tx")
local macro_rules | `(tactic| walk_at "go1") => `(tactic| first
  | walk_at "e"
  | walk_at "tk"
  | walk_at "c1"
  | walk_at "c2"
  | walk_at "ix"
  | walk_at "tx"
  | fail "go")
local macro_rules | `(tactic| walk_at "go") => `(tactic| repeat' walk_at "go1")
local macro_rules | `(tactic| walk_at "gi") => `(tactic| repeat' (first | walk_at "go1" | walk_at "if" | fail "gi"))
local macro_rules | `(tactic| walk_at "gx") => `(tactic| repeat' (first
  | walk_at "x"
  | walk_at "tk"
  | walk_at "c1"
  | walk_at "c2"
  | walk_at "ix"
  | walk_at "tx"
  | fail "gx"))
local macro_rules | `(tactic| walk_at "len") => `(tactic| ((intro as Post h); (repeat (first | (obtain ⟨e, _⟩ := h; exact (congrArg List.length e).trans rfl) | (obtain ⟨e, _⟩ := h; exact (EnvT.len e).trans rfl) | (obtain ⟨_, h⟩ := h)))))
local macro_rules | `(tactic| walk_at "lk") => `(tactic| first | exact lk_sh_row | exact lk_sh_no (by decide +kernel) | fail "lk")
local macro_rules | `(tactic| walk_at "x") => `(tactic| first
  | with_reducible refine we_inO ?_
  | with_reducible refine we_makeN0 ?_
  | with_reducible refine we_star0 ?_
  | fail "x")
theorem cut2 {ds : List Dt} : cutD ds none (some 2) = ds.take 2 := by
  have h1 : HT.sIx ds.length 0 none = 0 := rfl
  have h2 : HT.sIx ds.length ds.length (some 2) = min 2 ds.length := by
    show (if (2 : Int) < 0 then ((2 : Int) + ds.length).toNat else min (2 : Int).toNat ds.length) = _
    rw [if_neg (by omega)]
    rfl
  unfold cutD
  rw [h1, h2]
  simp [List.take_eq_take_iff]
section
variable {K : PySem.W.Frag} {c cB cT cS : Addr}
def ap_sums (c : Addr) : AP := fun as Post => ∃ (a b d : List Ru), as = [.val (.lst [shD c a, shD c b, shD c d]), .val (.lst [.lst (a.map Ru.dt), .lst (b.map Ru.dt), .lst (d.map Ru.dt)])] ∧ (a.length ≤ 12 ∧ b.length ≤ 12 ∧ d.length ≤ 12) ∧ (∀ r ∈ a, RuG r) ∧ (∀ r ∈ b, RuG r) ∧ (∀ r ∈ d, RuG r) ∧ Post (.val (.bl true)) as
theorem run_sums : RunOk K [] (t__law_sums_right K c ap_sumdue (ap_sameE 7) (ap_deed c) (ap_ljoint c) (ai_shX cT) (ap_join c cT) (ap_lrowsof c)) 9 (ap_sums c) := by
  rintro as Post ⟨a, b, d, rfl, ⟨la, lb, ld⟩, ga, gb, gd, k⟩
  unfold t__law_sums_right
  show WS K [] _ [.val (.lst [shD c a, shD c b, shD c d]), .val (.lst [.lst (a.map Ru.dt), .lst (b.map Ru.dt), .lst (d.map Ru.dt)]), .un, .un, .un, .un, .un, .un, .un] _
  refine ws_cut (fun G => ∃ s2 s3 s4, G = [.val (.lst [shD c a, shD c b, shD c d]), .val (.lst [.lst (a.map Ru.dt), .lst (b.map Ru.dt), .lst (d.map Ru.dt)]), s2, s3, s4, .un, .un, .un, .un]) ?_ ?_
  · refine for_range1H ?_
    walk_at "es"
    refine .a ⟨3, rfl, by omega, by omega, fun _ G => ∃ s2 s3 s4, G = [.val (.lst [shD c a, shD c b, shD c d]), .val (.lst [.lst (a.map Ru.dt), .lst (b.map Ru.dt), .lst (d.map Ru.dt)]), s2, s3, s4, .un, .un, .un, .un], ⟨_, _, _, rfl⟩, ?_, fun G h => .a h⟩
    rintro i G hi ⟨s2, s3, s4, rfl⟩
    walk_at "es"
    refine for_range1H ?_
    walk_at "es"
    refine .a ⟨3, rfl, by omega, by omega, fun _ G => ∃ s3 s4, G = [.val (.lst [shD c a, shD c b, shD c d]), .val (.lst [.lst (a.map Ru.dt), .lst (b.map Ru.dt), .lst (d.map Ru.dt)]), .val (.int i), s3, s4, .un, .un, .un, .un], ⟨_, _, rfl⟩, ?_, fun G ⟨s3, s4, h⟩ => .a ⟨_, s3, s4, h⟩⟩
    rintro j G hj ⟨s3, s4, rfl⟩
    have pick : ∀ n : Nat, (n : Int) < 3 → ∃ x : List Ru, x.length ≤ 12 ∧ (∀ r ∈ x, RuG r) ∧ atI [shD c a, shD c b, shD c d] (n : Int) = some (shD c x) ∧ atI ([.lst (a.map Ru.dt), .lst (b.map Ru.dt), .lst (d.map Ru.dt)] : List Dt) (n : Int) = some (.lst (x.map Ru.dt)) := fun n hn => by
      rcases n with _ | _ | _ | n
      · exact ⟨a, la, ga, atI_of (j := 0) rfl rfl, atI_of (j := 0) rfl rfl⟩
      · exact ⟨b, lb, gb, atI_of (j := 1) rfl rfl, atI_of (j := 1) rfl rfl⟩
      · exact ⟨d, ld, gd, atI_of (j := 2) rfl rfl, atI_of (j := 2) rfl rfl⟩
      · omega
    obtain ⟨x, lx, gx, x1, x2⟩ := pick i hi
    obtain ⟨y, ly, gy, y1, y2⟩ := pick j hj
    have hxy : (x ++ y).length = x.length + y.length := List.length_append
    have gxy : ∀ r ∈ x ++ y, RuG r := fun r hr => (List.mem_append.mp hr).elim (gx r) (gy r)
    have ok := ok_dueSum (rs := x ++ y) (by omega) gxy
    have f2 : ([x, y] : List (List Ru)).flatten = x ++ y := by simp
    walk_at "es"
    refine addp_l rfl rfl rfl rfl (by rw [List.length_map, List.length_map]; omega) ?_
    walk_at "es"
    refine .a ⟨x ++ y, by omega, .inr ⟨by rw [List.map_append]; rfl, ?_⟩⟩
    walk_at "es"
    refine .a ⟨x, lx, .inr (.inl ⟨y, rfl, ly, ?_⟩)⟩
    walk_at "es"
    refine .a (.inl ⟨_, _, .lst (dueSum (x ++ y)), rfl, rfl, rfl, ok.1, ok.2, ?_⟩)
    walk_at "es"
    refine .a ⟨[x, y], by simp, (fun z hz => by simp at hz; rcases hz with rfl | rfl <;> assumption), .inr ⟨rfl, ?_⟩⟩
    rw [f2]
    walk_at "es"
    refine .a (.inl ⟨_, _, .lst (dueSum (x ++ y)), rfl, rfl, rfl, ok.1, ok.2, ?_⟩)
    walk_at "es"
    exact .a ⟨_, _, rfl⟩
  rintro G ⟨s2, s3, s4, rfl⟩
  have hT : (a ++ b ++ d).length = a.length + b.length + d.length := by rw [List.length_append, List.length_append]
  have gT : ∀ r ∈ a ++ b ++ d, RuG r := fun r hr => (List.mem_append.mp hr).elim (fun h => (List.mem_append.mp h).elim (ga r) (gb r)) (gd r)
  have okT := ok_dueSum (rs := a ++ b ++ d) (by omega) gT
  refine ws_cut (fun G => G = [.val (.lst [shD c a, shD c b, shD c d]), .val (.lst [.lst (a.map Ru.dt), .lst (b.map Ru.dt), .lst (d.map Ru.dt)]), s2, s3, s4, .acc ((a ++ b ++ d).map Ru.dt), .un, .un, .un]) ?_ ?_
  · walk_at "es"
    refine addp_l rfl rfl rfl rfl (by rw [List.length_map, List.length_map]; omega) ?_
    walk_at "es"
    refine addp_l rfl rfl rfl rfl (by rw [List.length_append, List.length_map, List.length_map, List.length_map]; omega) ?_
    walk_at "es"
    exact .a (by rw [List.map_append, List.map_append])
  rintro G rfl
  refine ws_frz 5 rfl ?_
  refine ws_norm (by walk_at "norm") ?_
  have f3 : ([a, b, d] : List (List Ru)).flatten = a ++ b ++ d := by simp
  have l3 : ∀ z ∈ ([a, b, d] : List (List Ru)), z.length ≤ 12 := fun z hz => by simp at hz; rcases hz with rfl | rfl | rfl <;> assumption
  walk_at "es"
  refine .a ⟨a, la, .inr (.inr ⟨a ++ b ++ d, rfl, by omega, ?_⟩)⟩
  walk_at "es"
  refine .a ⟨a ++ b ++ d, by omega, .inl ⟨rfl, ?_⟩⟩
  walk_at "es"
  refine .a (.inl ⟨_, _, .lst (dueSum (a ++ b ++ d)), rfl, rfl, rfl, okT.1, okT.2, ?_⟩)
  walk_at "es"
  refine .a ⟨[a, b, d], by simp, l3, .inl ⟨rfl, ?_⟩⟩
  rw [f3]
  walk_at "es"
  refine .a ⟨a ++ b ++ d, by omega, .inl ⟨rfl, ?_⟩⟩
  walk_at "es"
  refine .a (.inl ⟨_, _, .lst (dueSum (a ++ b ++ d)), rfl, rfl, rfl, okT.1, okT.2, ?_⟩)
  walk_at "es"
  refine .a ⟨[], by simp, (fun _ h => nomatch h), .inr ⟨rfl, ?_⟩⟩
  walk_at "es"
  have okN := ok_sheet (rs := []) (by simp) (fun _ h => (nomatch h))
  refine .a (.inl ⟨_, _, .lst (sheetL []), rfl, rfl, rfl, okN.1, okN.2, ?_⟩)
  walk_at "xs"
  refine ws_cut (fun G => G = [.val (.lst [shD c a, shD c b, shD c d]), .val (.lst [.lst (a.map Ru.dt), .lst (b.map Ru.dt), .lst (d.map Ru.dt)]), s2, s3, s4, .val (.lst ((a ++ b ++ d).map Ru.dt)), .acc [shD c (a.take 2), shD c (b.take 2), shD c (d.take 2)], .un, .un]) ?_ ?_
  · walk_at "es"
    refine lc_lstV ([a, b, d] : List (List Ru)) (fun x => .lst (x.map Ru.dt)) (fun x => shD c (x.take 2)) (fun _ => true) ?_ ?_ ?_
    · walk_at "es"
      exact .a ⟨rfl, by simp, rfl, rfl, rfl⟩
    · intro x hx
      have hx2 : (x.take 2).length ≤ 2 := by rw [List.length_take]; omega
      walk_at "es"
      refine slp_l rfl ?_
      rw [cut2]
      walk_at "es"
      refine .a ⟨x.take 2, _, rfl, .inr (by rw [List.map_take]; rfl), by omega, fun _ => ?_, fun h => by omega⟩
      walk_at "es"
      exact .a ⟨rfl, rfl, rfl⟩
    · rw [Ab.filter_tt]
      walk_at "es"
      exact .a rfl
  rintro G rfl
  have t1 : (a.take 2).length ≤ 2 := by rw [List.length_take]; omega
  have t2 : (b.take 2).length ≤ 2 := by rw [List.length_take]; omega
  have t3 : (d.take 2).length ≤ 2 := by rw [List.length_take]; omega
  have g1 : ∀ r ∈ a.take 2, RuG r := fun r h => ga r (List.mem_of_mem_take h)
  have g2 : ∀ r ∈ b.take 2, RuG r := fun r h => gb r (List.mem_of_mem_take h)
  have g3 : ∀ r ∈ d.take 2, RuG r := fun r h => gd r (List.mem_of_mem_take h)
  have m1 : cutD (a.map Ru.dt) none (some 2) = (a.take 2).map Ru.dt := by rw [cut2, List.map_take]
  have m2 : cutD (b.map Ru.dt) none (some 2) = (b.take 2).map Ru.dt := by rw [cut2, List.map_take]
  have m3 : cutD (d.map Ru.dt) none (some 2) = (d.take 2).map Ru.dt := by rw [cut2, List.map_take]
  generalize a.take 2 = a2 at *
  generalize b.take 2 = b2 at *
  generalize d.take 2 = d2 at *
  have hf : ([a2, b2, d2, b2, a2] : List (List Ru)).flatten = a2 ++ b2 ++ d2 ++ b2 ++ a2 := by simp
  have hz : (a2 ++ b2 ++ d2 ++ b2 ++ a2).length ≤ 10 := by simp only [List.length_append]; omega
  have gz : ∀ r ∈ a2 ++ b2 ++ d2 ++ b2 ++ a2, RuG r := fun r hr => by
    simp only [List.mem_append] at hr
    rcases hr with (((h | h) | h) | h) | h
    · exact g1 r h
    · exact g2 r h
    · exact g3 r h
    · exact g2 r h
    · exact g1 r h
  have okz := ok_rules (by omega) gz
  walk_at "es"
  refine .a ⟨[a2, b2, d2, b2, a2], rfl, by simp, (fun z hz => by simp only [List.mem_cons, List.not_mem_nil, or_false] at hz; rcases hz with rfl | rfl | rfl | rfl | rfl <;> omega), fun h => ?_, fun h => by rw [hf] at h; omega⟩
  rw [hf]
  walk_at "es"
  refine slp_l rfl ?_
  rw [m1]
  walk_at "es"
  refine slp_l rfl ?_
  rw [m2]
  walk_at "es"
  refine addp_l rfl rfl rfl rfl (by simp only [List.length_map]; omega) ?_
  walk_at "es"
  refine slp_l rfl ?_
  rw [m3]
  walk_at "es"
  refine addp_l rfl rfl rfl rfl (by simp only [List.length_append, List.length_map]; omega) ?_
  walk_at "es"
  refine slp_l rfl ?_
  rw [m2]
  walk_at "es"
  refine addp_l rfl rfl rfl rfl (by simp only [List.length_append, List.length_map]; omega) ?_
  walk_at "es"
  refine slp_l rfl ?_
  rw [m1]
  walk_at "es"
  refine addp_l rfl rfl rfl rfl (by simp only [List.length_append, List.length_map]; omega) ?_
  rw [← List.map_append, ← List.map_append, ← List.map_append, ← List.map_append]
  walk_at "es"
  refine .a ⟨_, rfl, by omega, ?_⟩
  walk_at "es"
  refine .a (.inl ⟨_, _, .lst ((a2 ++ b2 ++ d2 ++ b2 ++ a2).map Ru.dt), rfl, rfl, rfl, okz.1, Nat.le_succ_of_le okz.2, ?_⟩)
  walk_at "es"
  have f1 : ([a] : List (List Ru)).flatten = a := by simp
  have ea : dueSum a = sheetL a := by unfold dueSum; rw [if_neg (by omega)]
  have oka := ok_sheet (rs := a) (by omega) ga
  refine slp_l rfl ?_
  rw [show cutD [shD c a, shD c b, shD c d] none (some 1) = [shD c a] from rfl]
  walk_at "es"
  refine .a ⟨[a], by simp, (fun z hz => by rw [List.mem_singleton.mp hz]; exact la), .inr ⟨rfl, ?_⟩⟩
  rw [f1, ea]
  walk_at "es"
  refine .a (.inl ⟨_, _, .lst (sheetL a), rfl, rfl, rfl, oka.1, oka.2, ?_⟩)
  walk_at "es"
  exact k
end
end Lk22

namespace Lk22
open PySem L2 Ab Ns PySem.W
local macro_rules | `(tactic| walk_at "no") => `(tactic| first
  | with_reducible exact fun h => Bool.noConfusion (show true = false from h)
  | with_reducible exact fun h => Bool.noConfusion (show false = true from h)
  | exact fun h => absurd h (by decide)
  | exact fun h => absurd (of_decide_eq_true h) (by omega)
  | exact fun h => absurd (by omega) (of_decide_eq_false h)
  | exact fun h => absurd (by omega) (nd_t h)
  | exact fun h => absurd (nd_f h) (by omega)
  | fail "no")
local macro_rules | `(tactic| walk_at "kb") => `(tactic| first | exact kb_tt | exact kb_ll | exact kb_ii | exact kb_ib | exact kb_ss | exact kb_sb | exact kb_si | exact kb_tb | exact kb_ti | exact kb_ts | exact kb_tl | exact kb_lb | exact kb_li | exact kb_ls | exact kb_lt | exact kb_is | exact kb_it | exact kb_il | exact kb_st | exact kb_sl | exact kb_bb | exact kb_bi | exact kb_nb | exact kb_ni | exact kb_ns | exact kb_nt | exact kb_nl | exact kb_bs | exact kb_bt | exact kb_bl | fail "kb")
local macro_rules | `(tactic| walk_at "norm") => `(tactic| first
  | ((refine' norm_cons (rfl : _ = _ :: _) ?ea ?et); (case ea => first | with_reducible exact (rfl : Sl.val _ = _) | with_reducible exact (rfl : Sl.cel _ = _) | with_reducible exact (rfl : Sl.un = _) | with_reducible exact norm_v | with_reducible exact norm_n | with_reducible exact norm_o | exact norm_v | exact norm_n | exact norm_o | exact rfl | fail "norm"); (case et => walk_at "norm"))
  | exact (rfl : _ = ([] : List Sl))
  | fail "norm")
local macro_rules | `(tactic| walk_at "nd") => `(tactic| first
  | exact (rfl : _ = ([] : List Dt))
  | ((refine' normD_cons (rfl : _ = _ :: _) ?et); (case et => walk_at "nd"))
  | fail "nd")
local macro_rules | `(tactic| walk_at "yO") => `(tactic| first
  | with_reducible refine we_ixG ?_
  | with_reducible refine we_opI0 ?_
  | with_reducible refine we_addG ?_
  | with_reducible refine we_eqG ?_
  | with_reducible refine we_neG ?_
  | with_reducible refine we_ltG ?_
  | with_reducible refine we_mulG ?_
  | with_reducible refine we_opI ?_
  | with_reducible refine we_inG ?_
  | with_reducible refine we_notInG ?_
  | with_reducible refine we_gtS ?_
  | fail "yO")
local macro_rules | `(tactic| walk_at "yB") => `(tactic| first
  | with_reducible refine we_lenG ?_
  | with_reducible refine we_isiG ?_
  | with_reducible refine we_intG ?_
  | with_reducible refine we_tuple ?_
  | with_reducible refine we_list ?_
  | with_reducible refine we_sumG ?_
  | with_reducible refine we_sum ?_
  | with_reducible refine we_max2 ?_
  | with_reducible refine we_min2 ?_
  | with_reducible refine we_abs ?_
  | with_reducible refine we_isoG ?_
  | with_reducible refine we_join ?_
  | with_reducible refine we_nlist ?_
  | fail "yB")
local macro_rules | `(tactic| walk_at "yV") => `(tactic| first
  | ((with_reducible refine' we_var ?hh ?_); (case hh => exact rfl))
  | ((with_reducible refine' we_own ?hh ?_); (case hh => exact rfl))
  | fail "yV")
local macro_rules | `(tactic| walk_at "yC") => `(tactic| first
  | ((with_reducible refine' we_kst ?h1 ?_); (case h1 => assumption))
  | with_reducible refine we_c ?_
  | fail "yC")
local macro_rules | `(tactic| walk_at "yE") => `(tactic| first
  | ((with_reducible show Ab.WE _ (L2.tVar _) _ _); walk_at "yV")
  | ((with_reducible show Ab.WE _ (L2.tOp _ _ _) _ _); walk_at "yO")
  | ((with_reducible show Ab.WE _ (L2.tC _) _ _); walk_at "yC")
  | ((with_reducible show Ab.WE _ (L2.tCB _ _) _ _); walk_at "yB")
  | with_reducible refine we_callH ?_
  | with_reducible refine we_fldG ?_
  | with_reducible refine we_tup ?_
  | with_reducible refine we_lst ?_
  | with_reducible refine we_nget ?_
  | with_reducible refine we_nin ?_
  | with_reducible refine we_notN ?_
  | with_reducible refine we_isN ?_
  | with_reducible refine we_if ?_
  | with_reducible refine we_methG ?_
  | ((with_reducible refine' we_appendN ?hh ?_); (case hh => exact rfl))
  | with_reducible refine we_slG ?_
  | with_reducible refine we_nnotin ?_
  | with_reducible refine we_nnew ?_
  | with_reducible refine we_ndisp1 ?_
  | with_reducible refine we_nget1 ?_
  | with_reducible refine we_neg ?_
  | with_reducible refine we_make ?_
  | with_reducible refine we_own2 ?_
  | with_reducible refine we_smeth ?_
  | with_reducible refine we_makeD ?_
  | with_reducible refine we_makeK ?_
  | ((with_reducible refine' we_clearN ?hh ?_); (case hh => exact rfl))
  | with_reducible refine we_chainI ?_
  | with_reducible refine we_andV ?_
  | with_reducible refine we_orV ?_
  | with_reducible refine we_notV ?_
  | ((with_reducible refine' we_reverseN ?hh ?_); (case hh => exact rfl))
  | ((with_reducible refine' we_ktup ?h1 ?_); (case h1 => assumption))
  | fail "yE")
local macro_rules | `(tactic| walk_at "yS") => `(tactic| first
  | with_reducible refine ws_if ?_
  | with_reducible refine ws_expr ?_
  | with_reducible refine ws_asgN rfl rfl ?_
  | with_reducible refine ws_asgG ?_
  | with_reducible refine ws_nil ?_
  | ((with_reducible refine' ws_retDN ?hh ?_); (case hh => exact rfl))
  | ((with_reducible refine' ws_retA ?hh ?_); (case hh => exact rfl))
  | with_reducible refine ws_ret ?_
  | with_reducible refine ws_nput ?_
  | with_reducible refine ws_setN ?_
  | ((with_reducible refine' ws_augN ?h1 ?h2 ?_); (case h1 => exact rfl); (case h2 => exact rfl))
  | with_reducible refine ws_par rfl rfl rfl rfl ?_
  | with_reducible refine ws_par3 rfl rfl rfl rfl rfl rfl ?_
  | fail "yS")
local macro_rules | `(tactic| walk_at "yT") => `(tactic| first
  | with_reducible refine wt_test ?_
  | with_reducible refine wt_B ?_
  | with_reducible refine wt_not ?_
  | with_reducible refine wt_and ?_
  | with_reducible refine wt_or ?_
  | with_reducible refine wt_yes ?_
  | fail "yT")
local macro_rules | `(tactic| walk_at "yG") => `(tactic| first
  | with_reducible refine wg_nameN rfl rfl ?_
  | ((with_reducible refine' wg_tup ?hh ?_); (case hh => exact rfl))
  | fail "yG")
local macro_rules | `(tactic| walk_at "yD") => `(tactic| first
  | with_reducible refine wd_cons ?_
  | with_reducible refine wd_nil ?_
  | fail "yD")
local macro_rules | `(tactic| walk_at "yW") => `(tactic| first
  | with_reducible refine wa_cons ?_
  | with_reducible refine wa_nil ?_
  | fail "yW")
local macro_rules | `(tactic| walk_at "yR") => `(tactic| first
  | with_reducible refine wo_none ?_
  | with_reducible refine wo_some ?_
  | fail "yR")
local macro_rules | `(tactic| walk_at "yP") => `(tactic| first
  | ((with_reducible refine' fldp ?h1 ?h2 ?h3 ?_); (case h1 => assumption); (case h2 => assumption); (case h3 => walk_at "lk"))
  | ((with_reducible refine' ixp ?h1 ?h2 ?_); (case h1 => exact rfl); (case h2 => assumption))
  | ((with_reducible refine' ixp ?h1 ?h2 ?_); (case h1 => exact rfl); (case h2 => exact rfl))
  | with_reducible refine eqp_st ?_
  | with_reducible refine nep_st ?_
  | ((with_reducible refine' eqp_sf ?h1 ?_); (case h1 => first | assumption | decide +kernel))
  | ((with_reducible refine' nep_sf ?h1 ?_); (case h1 => first | assumption | decide +kernel))
  | with_reducible refine eqp_i ?_
  | with_reducible refine nep_i ?_
  | with_reducible refine addp_i ?_
  | with_reducible refine ltp_i ?_
  | ((with_reducible refine' lenp ?hh ?_); (case hh => exact rfl))
  | ((with_reducible refine' metp ?h3 ?_); (case h3 => walk_at "lk"))
  | ((with_reducible refine' addp_tE ?hz ?h ?_); (case h => walk_at "nd"); (case hz => exact Nat.le_of_ble_eq_true rfl))
  | ((with_reducible refine' slp_tE ?h ?_); (case h => walk_at "nd"))
  | ((with_reducible refine' mulp_r ?h1 ?_); (case h1 => first | decide | omega | fail "m"))
  | ((with_reducible refine' mulp_l ?h1 ?_); (case h1 => first | decide | omega | fail "m"))
  | with_reducible refine intp_i ?_
  | with_reducible refine intp_b ?_
  | ((with_reducible refine' isi_own ?h1 ?h2 ?_); (case h1 => exact rfl); (case h2 => walk_at "kb"))
  | ((with_reducible refine' isi_val ?h1 ?h2 ?_); (case h1 => exact rfl); (case h2 => walk_at "kb"))
  | ((with_reducible refine' isi_new ?h2 ?_); (case h2 => walk_at "kb"))
  | ((with_reducible refine' isop ?h1 ?_); (case h1 => assumption))
  | ((with_reducible refine' lenp_s ?h1 ?_); (case h1 => assumption))
  | ((with_reducible refine' slp_s ?h1 ?_); (case h1 => assumption))
  | ((with_reducible refine' ixp_s ?h1 ?h2 ?_); (case h1 => assumption); (case h2 => assumption))
  | with_reducible refine wgs_cons ?_
  | with_reducible refine wgs_nil ?_
  | fail "yP")
local macro_rules | `(tactic| walk_at "yA") => `(tactic| first
  | (refine ⟨_, rfl, ⟨_, rfl⟩, ?_⟩)
  | (refine ⟨_, rfl, ?_⟩)
  | (refine ⟨_, _, _, rfl, rfl, rfl, ?_⟩)
  | (refine ⟨_, _, rfl, rfl, (Nat.le_of_ble_eq_true rfl : _ ≤ _), ?_⟩)
  | (refine ⟨_, _, rfl, rfl, ?_⟩)
  | (refine ⟨(Nat.le_of_ble_eq_true rfl : _ ≤ _), ?_⟩)
  | (refine ⟨(rfl : _ = true), ?_⟩)
  | ((refine' ⟨fun _ => ?_, fun hY => absurd hY ?k2⟩); (case k2 => walk_at "no"))
  | ((refine' ⟨fun hY => absurd hY ?k2, fun _ => ?_⟩); (case k2 => walk_at "no"))
  | (refine ⟨⟨(by omega), (by omega)⟩, ?_⟩)
  | (refine ⟨⟨(by decide), (by decide), (by decide)⟩, ?_⟩)
  | (refine ⟨(show (_ : Prop) from by first | decide | omega | fail "c"), ?_⟩)
  | fail "yA")
local macro_rules | `(tactic| walk_at "x") => `(tactic| first
  | ((with_reducible refine' norm_intro ?hn ?_); (case hn => walk_at "norm"))
  | ((with_reducible show Ab.WE _ _ _ _); walk_at "yE")
  | ((with_reducible show Ab.WS _ _ _ _ _); walk_at "yS")
  | ((with_reducible show Ab.WD _ _ _ _); walk_at "yD")
  | ((with_reducible show Ab.WT _ _ _ _); walk_at "yT")
  | ((with_reducible show Ab.WG _ _ _ _ _ _); walk_at "yG")
  | ((with_reducible show Ab.WA _ _ _ _); walk_at "yW")
  | ((with_reducible show Ab.WO _ _ _ _); walk_at "yR")
  | ((fail_if_success with_reducible show Ab.Hold _); (first | walk_at "yP" | walk_at "yA" | fail "p"))
  | fail "x")
local macro_rules | `(tactic| walk_at "e") => `(tactic| first | with_reducible refine ws_seq ?_ | walk_at "x" | fail "stop")
local macro_rules | `(tactic| walk_at "xs") => `(tactic| repeat' walk_at "x")
local macro_rules | `(tactic| walk_at "es") => `(tactic| repeat' walk_at "e")
local macro_rules | `(tactic| walk_at "len") => `(tactic| ((intro as Post h); (repeat (first | (obtain ⟨e, _⟩ := h; exact (congrArg List.length e).trans rfl) | (obtain ⟨_, h⟩ := h)))))
local macro_rules | `(tactic| walk_at "tk") => `(tactic| refine .a (tk (by assumption) (by omega) (by omega) (by omega) fun _ _ _ _ _ => ?_))
local macro_rules | `(tactic| walk_at "ln") => `(tactic| first
  | omega
  | (simp only [List.length_append, List.length_cons, List.length_nil, List.length_map, List.length_take, List.length_drop, List.length_set, List.length_replicate, List.length_reverse, PySem.Str.length_append]; omega)
  | decide
  | with_reducible exact Nat.le_refl _
  | (simp only [List.length_append, List.length_cons, List.length_nil, List.length_map, List.length_take, List.length_drop, List.length_set, List.length_replicate, List.length_reverse, PySem.Str.length_append] at *; omega)
  | exact (Nat.le_of_ble_eq_true rfl)
  | fail "ln")
local macro_rules | `(tactic| walk_at "az") => `(tactic| first
  | assumption
  | exact Az.nil
  | exact az_abc
  | exact Az.one (az_abc _ (by assumption))
  | ((refine' Az.app ?h1 ?h2); (case h1 => walk_at "az"); (case h2 => walk_at "az"))
  | ((refine' Az.cut ?h1 _ _); (case h1 => walk_at "az"))
  | fail "az")
local macro_rules | `(tactic| walk_at "ty") => `(tactic| first
  | assumption
  | exact EnvT.nil
  | ((refine' EnvT.cons ?ha ?ht); (case ha => walk_at "ty"); (case ht => walk_at "ty"))
  | exact SAny.mk
  | exact SIs.mk
  | exact SPool.mk (by assumption)
  | exact SPool.mk (PoolUp.mono (by assumption) (by omega))
  | ((refine' SVal.mk ?ha); (case ha => walk_at "ty"))
  | ((refine' RVal.mk ?ha); (case ha => walk_at "ty"))
  | ((refine' SAcc.mk ?h0 ?h1 ?h); (case h0 => walk_at "ln"); (case h1 => walk_at "ln"); (case h => walk_at "ty"))
  | ((refine' RNew.mk ?h0 ?h1 ?h); (case h0 => walk_at "ln"); (case h1 => walk_at "ln"); (case h => walk_at "ty"))
  | ((refine' TTs.mk ?h0 ?h1 ?h); (case h0 => walk_at "ln"); (case h1 => walk_at "ln"); (case h => walk_at "ty"))
  | ((refine' TLs.mk ?h0 ?h1 ?h); (case h0 => walk_at "ln"); (case h1 => walk_at "ln"); (case h => walk_at "ty"))
  | exact TIs.mk
  | exact TBl.mk
  | ((refine' TInt.mk ?h0 ?h1); (case h0 => walk_at "ln"); (case h1 => walk_at "ln"))
  | ((refine' TStr.mk ?h0 ?h1); (case h0 => walk_at "ln"); (case h1 => walk_at "ln"))
  | ((refine' TNm.mk ?h0 ?h1 ?h2); (case h0 => walk_at "ln"); (case h1 => walk_at "ln"); (case h2 => walk_at "az"))
  | ((refine' T2.mk ?ha ?hb); (case ha => walk_at "ty"); (case hb => walk_at "ty"))
  | ((refine' T3.mk ?ha ?hb ?hc); (case ha => walk_at "ty"); (case hb => walk_at "ty"); (case hc => walk_at "ty"))
  | ((refine' T4.mk ?ha ?hb ?hc ?hd); (case ha => walk_at "ty"); (case hb => walk_at "ty"); (case hc => walk_at "ty"); (case hd => walk_at "ty"))
  | ((refine' T1.mk ?ha); (case ha => walk_at "ty"))
  | exact all_nil
  | ((refine' all_cons ?ha ?ht); (case ha => walk_at "ty"); (case ht => walk_at "ty"))
  | ((refine' all_app ?ha ?ht); (case ha => walk_at "ty"); (case ht => walk_at "ty"))
  | exact all_take (by assumption)
  | exact all_drop (by assumption)
  | exact all_cut (by assumption)
  | exact all_erase (by assumption)
  | ((refine' all_set (by assumption) ?ha); (case ha => walk_at "ty"))
  | fail "ty")
local macro_rules | `(tactic| walk_at "cs") => `(tactic| repeat (first
  | cases ‹EnvT (_ :: _) _›
  | cases ‹EnvT [] _›
  | cases ‹SAny _›
  | cases ‹SIs _ _›
  | cases ‹SVal _ _›
  | cases ‹SAcc _ _ _ _›
  | cases ‹SPool _ _›
  | cases ‹RVal _ _›
  | cases ‹RNew _ _ _ _›
  | cases ‹TIs _ _›
  | cases ‹TInt _ _ _›
  | cases ‹TBl _›
  | cases ‹TStr _ _ _›
  | cases ‹TNm _ _ _›
  | cases ‹T1 _ _›
  | cases ‹T2 _ _ _›
  | cases ‹T3 _ _ _ _›
  | cases ‹T4 _ _ _ _ _›
  | cases ‹TTs _ _ _ _›
  | cases ‹TLs _ _ _ _›))
local macro_rules | `(tactic| walk_at "if") => `(tactic| ((refine ⟨fun hY => ?_, fun hY => ?_⟩) <;> (try simp only [decide_eq_true_eq, decide_eq_false_iff_not, Bool.not_eq_true', Bool.not_eq_false', Bool.not_eq_true, Bool.not_eq_false] at hY)))
local macro_rules | `(tactic| walk_at "c1") => `(tactic| ((refine' Hold.a ⟨_, ?ce, ?co, fun _ _ _ _ => ?_⟩); (case ce => (show EnvT _ _; walk_at "ty")); (case co => first | omega | fail "co"); walk_at "cs"))
local macro_rules | `(tactic| walk_at "c2") => `(tactic| ((refine' Hold.a ⟨_, _, ?ce, ?co, fun _ _ _ _ => ?_⟩); (case ce => (show EnvT _ _; walk_at "ty")); (case co => first | omega | fail "co"); walk_at "cs"))
local macro_rules | `(tactic| walk_at "c3") => `(tactic| ((refine' Hold.a ⟨_, _, _, ?ce, ?co, fun _ _ _ _ => ?_⟩); (case ce => (show EnvT _ _; walk_at "ty")); (case co => first | omega | fail "co"); walk_at "cs"))
local macro_rules | `(tactic| walk_at "ix") => `(tactic| first
  | ((refine' ixp_c0 ?h1 ?_); (case h1 => exact rfl))
  | ((refine' ixp_kT ?h1 ?h2 ?h3 ?h4 fun _ _ => ?_); (case h1 => exact rfl); (case h2 => walk_at "ln"); (case h3 => walk_at "ln"); (case h4 => assumption); walk_at "cs")
  | ((refine' ixp_sk ?h1 ?h2 ?h3 fun _ _ => ?_); (case h1 => walk_at "ln"); (case h2 => walk_at "ln"); (case h3 => walk_at "ln"))
  | fail "ix")
local macro_rules | `(tactic| walk_at "tx") => `(tactic| first
  | ((with_reducible refine' lenp_s ?h1 ?_); (case h1 => walk_at "ln"))
  | ((with_reducible refine' slp_s ?h1 ?_); (case h1 => walk_at "ln"))
  | ((with_reducible refine' addp_s ?h1 ?_); (case h1 => walk_at "ln"))
  | ((with_reducible refine' addp_l ?h1 ?h2 ?h3 ?h4 ?h5 ?_); (case h1 => exact rfl); (case h2 => exact rfl); (case h3 => exact rfl); (case h4 => exact rfl); (case h5 => walk_at "ln"))
  | with_reducible refine we_repS ?_
  | with_reducible refine we_repA ?_
  | with_reducible refine we_strG ?_
  | with_reducible refine strp_s ?_
  | with_reducible refine we_sortedS ?_
  | with_reducible refine we_sorted ?_
  | with_reducible refine we_all ?_
  | with_reducible refine we_any ?_
  | with_reducible refine eqp_str ?_
  | with_reducible refine nep_str ?_
  | (refine ⟨_, _, rfl, rfl, (by omega), (by omega), (by walk_at "ln"), ?_⟩)
  | (refine ⟨_, _, rfl, rfl, (by walk_at "ln"), ?_⟩)
  | (refine ⟨(show (_ : Prop) from by walk_at "ln"), ?_⟩)
  | fail "tx")
local macro_rules | `(tactic| walk_at "go1") => `(tactic| first
  | walk_at "e"
  | walk_at "tk"
  | walk_at "c1"
  | walk_at "c2"
  | walk_at "ix"
  | walk_at "tx"
  | fail "go")
local macro_rules | `(tactic| walk_at "go") => `(tactic| repeat' walk_at "go1")
local macro_rules | `(tactic| walk_at "gi") => `(tactic| repeat' (first | walk_at "go1" | walk_at "if" | fail "gi"))
local macro_rules | `(tactic| walk_at "gx") => `(tactic| repeat' (first
  | walk_at "x"
  | walk_at "tk"
  | walk_at "c1"
  | walk_at "c2"
  | walk_at "ix"
  | walk_at "tx"
  | fail "gx"))
local macro_rules | `(tactic| walk_at "len") => `(tactic| ((intro as Post h); (repeat (first | (obtain ⟨e, _⟩ := h; exact (congrArg List.length e).trans rfl) | (obtain ⟨e, _⟩ := h; exact (EnvT.len e).trans rfl) | (obtain ⟨_, h⟩ := h)))))
local macro_rules | `(tactic| walk_at "lk") => `(tactic| first | exact lk_sh_row | exact lk_sh_no (by decide +kernel) | fail "lk")
local macro_rules | `(tactic| walk_at "x") => `(tactic| first
  | with_reducible refine we_makeN0 ?_
  | fail "x")
def ap_law : AP := fun as Post => ∃ ns, as = [.val (.scr ns)] ∧ Post (.val (.bl true)) [.val (.scr ns)]
theorem cut_map (xs : List Str) (lo hi : Option Int) : ∃ ys : List Str, cutD (xs.map Dt.str) lo hi = ys.map Dt.str ∧ ys.Sublist xs := by
  refine ⟨(xs.drop (HT.sIx (xs.map Dt.str).length 0 lo)).take (HT.sIx (xs.map Dt.str).length (xs.map Dt.str).length hi - HT.sIx (xs.map Dt.str).length 0 lo), ?_, (List.take_sublist _ _).trans (List.drop_sublist _ _)⟩
  unfold cutD
  rw [List.map_take, List.map_drop]
theorem cutD_to {ds : List Dt} {k : Int} (h0 : 0 ≤ k) (h1 : k ≤ ds.length) : (cutD ds none (some k)).length = k.toNat := by
  obtain ⟨m, rfl⟩ : ∃ m : Nat, k = (m : Int) := ⟨k.toNat, by omega⟩
  unfold cutD
  rw [HT.sIx_none, HT.sIx_nat, List.length_take, List.length_drop]
  omega
section
variable {K : PySem.W.Frag} {c cT : Addr}
theorem run_law : RunOk K [] (t_law K c ap_pool ap_anyD ap_take ap_lrow22 ap_lrules (ai_shX cT) (ap_sameE 7) (ap_places c) (ap_sums c) (ap_lrowsof c)) 10 ap_law := by
  rintro as Post ⟨ns, rfl, k⟩
  unfold t_law
  show WS K [] _ [.val (.scr ns), .un, .un, .un, .un, .un, .un, .un, .un, .un] _
  refine ws_seq ?_
  walk_at "gx"
  refine .a ⟨ns, 0, rfl, by omega, by omega, fun d0 h0 => ?_⟩
  have hp0 := h0.up (b := 0) (by omega) (by omega)
  walk_at "gx"
  refine ws_seq ?_
  walk_at "gx"
  rename_i nms as1 nl nnd
  intro nna he1
  walk_at "cs"
  walk_at "gx"
  have nl : nms.length = 8 := nl
  have nml : (nms.map Dt.str).length = 8 := by rw [List.length_map]; exact nl
  refine ws_seq ?_
  walk_at "gx"
  rename_i d2 many hp2 mn0 mn1
  refine slp_l rfl ?_
  walk_at "gx"
  refine ws_seq ?_
  walk_at "gx"
  rename_i d3 cnt hp3 ct0 ct1
  refine slp_l rfl ?_
  walk_at "gx"
  refine ws_frz 3 rfl ?_
  refine ws_frz 4 rfl ?_
  have kd1 := cutD_to (ds := nms.map Dt.str) (k := 1 + many) (by omega) (by omega)
  have kda : ∀ d ∈ cutD (nms.map Dt.str) none (some (1 + many)), TNm 1 8 d := all_cut (nms_all nna)
  obtain ⟨mks, em, msub⟩ := cut_map nms (some 4) (some (4 + cnt))
  rw [em]
  generalize cutD (nms.map Dt.str) none (some (1 + many)) = kds at kd1 kda ⊢
  have kd2 : 1 ≤ kds.length := by omega
  have kd3 : kds.length ≤ 60 := by omega
  have mk3 : mks.length ≤ 60 := by have := msub.length_le; omega
  have mkn : mks.Nodup := nnd.sublist msub
  have mka : ∀ z ∈ mks, NmL 1 8 z := fun z hz => nna z (msub.subset hz)
  clear kd1
  refine ws_norm (by walk_at "norm") ?_
  refine ws_seq ?_
  walk_at "gx"
  refine .a ⟨ns, 2, rfl, by omega, by omega, fun d5 h5 => ?_⟩
  have hp5 := h5.up (b := 0) (by omega) (by omega)
  walk_at "gx"
  refine ws_seq ?_
  walk_at "gx"
  refine .a ⟨ns, 1, rfl, by omega, by omega, fun dq hq => ?_⟩
  have hpq := hq.up (b := 0) (by omega) (by omega)
  walk_at "gx"
  refine .a ⟨0, mks, by walk_at "ty", by omega, mk3, mkn, mka, fun ra as' la ga he => ?_⟩
  walk_at "cs"
  walk_at "gx"
  refine .a ⟨0, mks, by walk_at "ty", by omega, mk3, mkn, mka, fun rb as' lb gb he => ?_⟩
  walk_at "cs"
  walk_at "gx"
  refine ws_seq ?_
  walk_at "gx"
  refine .a ⟨0 + 8000, mks, by walk_at "ty", by omega, mk3, mkn, mka, fun rd as' ld gd he => ?_⟩
  walk_at "cs"
  walk_at "gx"
  refine ws_frz 6 rfl ?_
  refine ws_norm (by walk_at "norm") ?_
  refine ws_seq ?_
  walk_at "gx"
  refine .a ⟨0 + 8000 + 8000, 1, 2, 2, mks, by walk_at "ty", by omega, by omega, by omega, by omega, mk3, mkn, mka, fun ro as' lo go he => ?_⟩
  walk_at "cs"
  obtain ⟨r, rfl⟩ : ∃ r, ro = [r] := by
    match ro, lo with
    | [r], _ => exact ⟨r, rfl⟩
  have gr := (go r List.mem_cons_self).1
  walk_at "gx"
  refine ws_cut (fun G => ∃ s1 s2 s3 s4 s5, G = [.val (.scr ns), s1, s2, s3, s4, s5, .val (.lst [.lst (ra.map Ru.dt), .lst (rb.map Ru.dt), .lst (rd.map Ru.dt)]), .val r.dt, .acc [shD c ra, shD c rb, shD c rd], .un]) ?_ ?_
  · walk_at "gx"
    refine .a ⟨ra, _, rfl, .inr rfl, by omega, fun _ => ?_, fun h => by omega⟩
    walk_at "gx"
    refine .a ⟨rb, _, rfl, .inl rfl, by omega, fun _ => ?_, fun h => by omega⟩
    walk_at "gx"
    refine .a ⟨rd, _, rfl, .inr rfl, by omega, fun _ => ?_, fun h => by omega⟩
    walk_at "gx"
    exact .a ⟨_, _, _, _, _, rfl⟩
  rintro G ⟨s1, s2, s3, s4, s5, rfl⟩
  refine ws_frz 8 rfl ?_
  have pick : ∀ n : Nat, (n : Int) < 3 → ∃ x : List Ru, x.length ≤ 12 ∧ (∀ r ∈ x, RuG r) ∧ atI [shD c ra, shD c rb, shD c rd] (n : Int) = some (shD c x) ∧ atI ([.lst (ra.map Ru.dt), .lst (rb.map Ru.dt), .lst (rd.map Ru.dt)] : List Dt) (n : Int) = some (.lst (x.map Ru.dt)) := fun n hn => by
    rcases n with _ | _ | _ | n
    · exact ⟨ra, la, ga, atI_of (j := 0) rfl rfl, atI_of (j := 0) rfl rfl⟩
    · exact ⟨rb, lb, gb, atI_of (j := 1) rfl rfl, atI_of (j := 1) rfl rfl⟩
    · exact ⟨rd, ld, gd, atI_of (j := 2) rfl rfl, atI_of (j := 2) rfl rfl⟩
    · omega
  refine ws_norm (by walk_at "norm") ?_
  refine ws_cut (fun G => G = [.val (.scr ns), s1, s2, s3, s4, s5, .val (.lst [.lst (ra.map Ru.dt), .lst (rb.map Ru.dt), .lst (rd.map Ru.dt)]), .val r.dt, .val (.lst [shD c ra, shD c rb, shD c rd]), .un]) ?_ ?_
  · walk_at "es"
    refine .a (.inl ⟨_, _, .int 12, rfl, rfl, rfl, by rw [okD], by rw [depD]; omega, ?_⟩)
    walk_at "es"
    exact .a rfl
  rintro G rfl
  refine ws_cut (fun G => ∃ s9, G = [.val (.scr ns), s1, s2, s3, s4, s5, .val (.lst [.lst (ra.map Ru.dt), .lst (rb.map Ru.dt), .lst (rd.map Ru.dt)]), .val r.dt, .val (.lst [shD c ra, shD c rb, shD c rd]), s9]) ?_ ?_
  · refine for_range1H ?_
    walk_at "es"
    refine .a ⟨3, rfl, by omega, by omega, fun _ G => ∃ s9, G = [.val (.scr ns), s1, s2, s3, s4, s5, .val (.lst [.lst (ra.map Ru.dt), .lst (rb.map Ru.dt), .lst (rd.map Ru.dt)]), .val r.dt, .val (.lst [shD c ra, shD c rb, shD c rd]), s9], ⟨_, rfl⟩, ?_, fun G h => .a h⟩
    rintro i G hi ⟨s9, rfl⟩
    obtain ⟨x, lx, gx, x1, x2⟩ := pick i hi
    walk_at "es"
    refine .a ⟨x, r, rfl, lx, gx, gr, ?_⟩
    walk_at "es"
    exact .a ⟨_, rfl⟩
  rintro G ⟨s9, rfl⟩
  refine ws_cut (fun G => G = [.val (.scr ns), s1, s2, s3, s4, s5, .val (.lst [.lst (ra.map Ru.dt), .lst (rb.map Ru.dt), .lst (rd.map Ru.dt)]), .val r.dt, .val (.lst [shD c ra, shD c rb, shD c rd]), s9]) ?_ ?_
  · walk_at "es"
    refine .a ⟨ra, rb, rd, rfl, ⟨la, lb, ld⟩, ga, gb, gd, ?_⟩
    walk_at "es"
    exact .a rfl
  rintro G rfl
  refine ws_cut (fun G => ∃ s9, G = [.val (.scr ns), s1, s2, s3, s4, s5, .val (.lst [.lst (ra.map Ru.dt), .lst (rb.map Ru.dt), .lst (rd.map Ru.dt)]), .val r.dt, .val (.lst [shD c ra, shD c rb, shD c rd]), s9]) ?_ ?_
  · refine for_range1H ?_
    walk_at "es"
    refine .a ⟨3, rfl, by omega, by omega, fun _ G => ∃ s9, G = [.val (.scr ns), s1, s2, s3, s4, s5, .val (.lst [.lst (ra.map Ru.dt), .lst (rb.map Ru.dt), .lst (rd.map Ru.dt)]), .val r.dt, .val (.lst [shD c ra, shD c rb, shD c rd]), s9], ⟨_, rfl⟩, ?_, fun G h => .a h⟩
    rintro i G hi ⟨s9, rfl⟩
    obtain ⟨x, lx, gx, x1, x2⟩ := pick i hi
    have ok := ok_rules (rs := x) (by omega) gx
    walk_at "es"
    refine .a ⟨x, rfl, lx, ?_⟩
    walk_at "es"
    refine .a (.inl ⟨_, _, .lst (x.map Ru.dt), rfl, rfl, rfl, ok.1, Nat.le_succ_of_le ok.2, ?_⟩)
    walk_at "es"
    exact .a ⟨_, rfl⟩
  rintro G ⟨s9, rfl⟩
  walk_at "es"
  exact k
end
section
variable {P : Program} {w : World} {K : PySem.W.Frag} {mg : Str → Option Value} {base : Heap}
theorem xf_of {C : Addr} (h : ExcC K C) : XfC K C := ⟨h.hg, h.hk, h.hs, h.hd⟩
theorem shok (T : Txt K mg) : ShOk K T.c_Sheet := ⟨T.co_Sheet, T.na_Sheet_rule_row⟩
theorem erF (T : Txt K mg) : ErF K T.c_BadPath T.c_TooLarge T.c_StyleError where
  bb := PySem.W.exm_ref T.bs_BadPath T.hd_BadPath T.tx_BadPath T.sb_BadPath_BadPath
  tb := PySem.W.exm_ref T.bs_BadPath T.hd_BadPath T.tx_BadPath T.sb_TooLarge_BadPath
  tt := PySem.W.exm_ref T.bs_TooLarge T.hd_TooLarge T.tx_TooLarge T.sb_TooLarge_TooLarge
  xB := T.xc_BadPath
  fB := xf_of T.xc_BadPath
  xT := T.xc_TooLarge
  fT := xf_of T.xc_TooLarge
  kBS := kit_ref T.hd_StyleError T.tx_StyleError T.sb_BadPath_BadPath T.sb_BadPath_StyleError
  kBV := kit_ty2 rfl T.sv_BadPath
  kBT := kit_ref T.hd_TooLarge T.tx_TooLarge T.sb_BadPath_BadPath T.sb_BadPath_TooLarge
  kTS := kit_ref T.hd_StyleError T.tx_StyleError T.sb_TooLarge_TooLarge T.sb_TooLarge_StyleError
  kTV := kit_ty2 rfl T.sv_TooLarge
  kTB := kit_ref T.hd_BadPath T.tx_BadPath T.sb_TooLarge_TooLarge T.sb_TooLarge_BadPath
theorem len_deed {c : Addr} : ∀ as Post, ap_deed c as Post → as.length = 4 := by
  rintro as Post ⟨_, _, ⟨_, _, _, rfl, _⟩ | ⟨_, rfl, _⟩ | ⟨_, rfl, _⟩⟩ <;> rfl
theorem len_ljoint {c : Addr} : ∀ as Post, ap_ljoint c as Post → as.length = 1 := by
  rintro as Post ⟨_, _, _, ⟨rfl, _⟩ | ⟨rfl, _⟩⟩ <;> rfl
theorem len_sumdue : ∀ as Post, ap_sumdue as Post → as.length = 1 := by
  rintro as Post ⟨_, _, ⟨rfl, _⟩ | ⟨rfl, _⟩⟩ <;> rfl
local macro_rules | `(tactic| walk_at "len") => `(tactic| first | exact len_deed | exact len_ljoint | exact len_sumdue | fail "len")
theorem ok_Sheet___init__ (T : Txt K mg) : FnOk P w K mg base (L2.CX P w) 1 T.f_Sheet___init__ T.fd_Sheet___init__ ["self", "rules"] (toSpIX K T.c_Sheet (ai_shX T.c_TooLarge)) := by
  exact fn_initX T.F_Sheet___init__ sc_Sheet___init__ len_shX rfl _ (fun cdv A outer s H E hr => tm_Sheet___init__ T cdv A outer s H E hr) (run_shX (shok T))
theorem ok_Sheet___getitem__ (T : Txt K mg) : FnOk P w K mg base (L2.CX P w) 1 T.f_Sheet___getitem__ T.fd_Sheet___getitem__ ["self", "at"] (toSpX K (ap_shget T.c_Sheet T.c_BadPath)) := by
  exact fn_abX [] T.F_Sheet___getitem__ sc_Sheet___getitem__ (by first | (rintro as Post XP ⟨g, r, rfl, _⟩; rfl) | (rintro as Post XP ⟨g, rfl, _⟩; rfl) | (rintro as Post XP ⟨g, r, z, rfl, _⟩; rfl)) rfl _ (fun cdv A outer s H E hr => tm_Sheet___getitem__ T cdv A outer s H E hr) (run_shget (shok T))
theorem ok_Sheet___contains__ (T : Txt K mg) : FnOk P w K mg base CX0 1 T.f_Sheet___contains__ T.fd_Sheet___contains__ ["self", "name"] (toSp K (ap_shhas T.c_Sheet)) := by
  exact fn_ab [] T.F_Sheet___contains__ sc_Sheet___contains__ (by walk_at "len") rfl (fun cdv A outer s H E hr => ⟨_, tm_Sheet___contains__ T cdv A outer s H E hr, run_shhas (shok T)⟩)
theorem ok_Sheet___add__ (T : Txt K mg) : FnOk P w K mg base (L2.CX P w) 3 T.f_Sheet___add__ T.fd_Sheet___add__ ["self", "other"] (toSpX K (ap_shadd T.c_Sheet T.c_TooLarge)) := by
  have G_Sheet___init__ := ok_Sheet___init__ (P := P) (w := w) (base := base) T
  exact fn_abX [] T.F_Sheet___add__ sc_Sheet___add__ (by first | (rintro as Post XP ⟨g, r, rfl, _⟩; rfl) | (rintro as Post XP ⟨g, rfl, _⟩; rfl) | (rintro as Post XP ⟨g, r, z, rfl, _⟩; rfl)) rfl _ (fun cdv A outer s H E hr => tm_Sheet___add__ T G_Sheet___init__ cdv A outer s H E hr) (run_shadd (shok T))
theorem ok_Sheet_with_rule (T : Txt K mg) : FnOk P w K mg base (L2.CX P w) 3 T.f_Sheet_with_rule T.fd_Sheet_with_rule ["self", "at", "rule"] (toSpX K (ap_shwith T.c_Sheet T.c_BadPath T.c_TooLarge)) := by
  have G_Sheet___init__ := ok_Sheet___init__ (P := P) (w := w) (base := base) T
  exact fn_abX [] T.F_Sheet_with_rule sc_Sheet_with_rule (by first | (rintro as Post XP ⟨g, r, rfl, _⟩; rfl) | (rintro as Post XP ⟨g, rfl, _⟩; rfl) | (rintro as Post XP ⟨g, r, z, rfl, _⟩; rfl)) rfl _ (fun cdv A outer s H E hr => tm_Sheet_with_rule T G_Sheet___init__ cdv A outer s H E hr) (run_shwith (shok T))
theorem ok_Sheet_without_rule (T : Txt K mg) : FnOk P w K mg base (L2.CX P w) 3 T.f_Sheet_without_rule T.fd_Sheet_without_rule ["self", "at"] (toSpX K (ap_shwo T.c_Sheet T.c_BadPath)) := by
  have G_Sheet___init__ := ok_Sheet___init__ (P := P) (w := w) (base := base) T
  exact fn_abX [] T.F_Sheet_without_rule sc_Sheet_without_rule (by first | (rintro as Post XP ⟨g, r, rfl, _⟩; rfl) | (rintro as Post XP ⟨g, rfl, _⟩; rfl) | (rintro as Post XP ⟨g, r, z, rfl, _⟩; rfl)) rfl _ (fun cdv A outer s H E hr => tm_Sheet_without_rule T G_Sheet___init__ cdv A outer s H E hr) (run_shwo (shok T))
theorem ok_joined (T : Txt K mg) : FnR P w K mg base (L2.CX P w) 4 T.f_joined (toSpSt K (ap_join T.c_Sheet T.c_TooLarge)) := by
  have G_Sheet___init__ := ok_Sheet___init__ (P := P) (w := w) (base := base) T
  have G_Sheet___add__ := ok_Sheet___add__ (P := P) (w := w) (base := base) T
  exact fn_abSt T.F_joined sc_joined T.sb_joined (by rintro as Post XP ⟨g, rfl, _⟩; rfl) rfl _ (fun cdv A outer s H E hr => tm_joined T G_Sheet___init__ G_Sheet___add__ cdv A outer s H E hr) (run_join (shok T))
theorem ok__law_pool (T : Txt K mg) : FnOk P w K mg base CX0 1 T.f__law_pool T.fd__law_pool ["_law_script", "_law_at"] (toSp K (ap_pool)) := by
  exact fn_ab [] T.F__law_pool sc__law_pool (by walk_at "len") rfl (fun cdv A outer s H E hr => ⟨_, tm__law_pool T cdv A outer s H E hr, run_tPool⟩)
theorem ok__law_take (T : Txt K mg) : FnOk P w K mg base CX0 1 T.f__law_take T.fd__law_take ["_law_pool_here", "_law_many"] (toSp K (ap_take)) := by
  exact fn_ab [0] T.F__law_take sc__law_take (by walk_at "len") rfl (fun cdv A outer s H E hr => ⟨_, tm__law_take T cdv A outer s H E hr, run_tTakeB⟩)
theorem okn_same (T : Txt K mg) : ∀ n, FnOk P w K mg base CX0 (n + 2) T.f__law_same T.fd__law_same ["_law_one", "_law_two"] (toSp K (ap_sameE n))
  | 0 => fn_ab [0, 1] T.F__law_same sc__law_same len_sameE rfl (fun cdv A outer s H E hr => ⟨_, tm__law_same T (fn_never (k := 0) T.F__law_same sc__law_same) cdv A outer s H E hr, run_tSameEx same_zero⟩)
  | n + 1 => fn_ab [0, 1] T.F__law_same sc__law_same len_sameE rfl (fun cdv A outer s H E hr => ⟨_, tm__law_same T (okn_same T n) cdv A outer s H E hr, run_tSameEx same_up⟩)
theorem ok__law_same (T : Txt K mg) : FnOk P w K mg base CX0 9 T.f__law_same T.fd__law_same ["_law_one", "_law_two"] (toSp K (ap_sameE 7)) := okn_same T 7
theorem ok__law_letters (T : Txt K mg) : FnOk P w K mg base CX0 2 T.f__law_letters T.fd__law_letters ["_law_pool_here", "_law_many"] (toSp K (ap_let)) := by
  have G__law_take := ok__law_take (P := P) (w := w) (base := base) T
  exact fn_ab [0] T.F__law_letters sc__law_letters (by walk_at "len") rfl (fun cdv A outer s H E hr => ⟨_, tm__law_letters T G__law_take cdv A outer s H E hr, run_let⟩)
theorem ok__law_names (T : Txt K mg) : FnOk P w K mg base CX0 3 T.f__law_names T.fd__law_names ["_law_pool_here", "_law_many"] (toSp K (ap_namesD)) := by
  have G__law_letters := ok__law_letters (P := P) (w := w) (base := base) T
  have G__law_take := ok__law_take (P := P) (w := w) (base := base) T
  exact fn_ab [0] T.F__law_names sc__law_names (by walk_at "len") rfl (fun cdv A outer s H E hr => ⟨_, tm__law_names T G__law_letters G__law_take cdv A outer s H E hr, run_namesD⟩)
theorem ok__law_any_names (T : Txt K mg) : FnOk P w K mg base CX0 4 T.f__law_any_names T.fd__law_any_names ["_law_pool_here", "_law_many"] (toSp K (ap_anyD)) := by
  have G__law_take := ok__law_take (P := P) (w := w) (base := base) T
  have G__law_names := ok__law_names (P := P) (w := w) (base := base) T
  have G__law_letters := ok__law_letters (P := P) (w := w) (base := base) T
  exact fn_ab [0] T.F__law_any_names sc__law_any_names (by walk_at "len") rfl (fun cdv A outer s H E hr => ⟨_, tm__law_any_names T G__law_take G__law_names G__law_letters cdv A outer s H E hr, run_anyD⟩)
theorem ok__law_marks (T : Txt K mg) : FnOk P w K mg base CX0 2 T.f__law_marks T.fd__law_marks ["_law_pool_here", "_law_names_here"] (toSp K (ap_mksD)) := by
  have G__law_take := ok__law_take (P := P) (w := w) (base := base) T
  exact fn_ab [0] T.F__law_marks sc__law_marks (by walk_at "len") rfl (fun cdv A outer s H E hr => ⟨_, tm__law_marks T G__law_take cdv A outer s H E hr, run_mksD⟩)
theorem ok__law_properties (T : Txt K mg) : FnOk P w K mg base CX0 1 T.f__law_properties T.fd__law_properties [] (toSp K (ap_props)) := by
  exact fn_ab [] T.F__law_properties sc__law_properties (by walk_at "len") rfl (fun cdv A outer s H E hr => ⟨_, tm__law_properties T cdv A outer s H E hr, run_props⟩)
theorem ok__law_selector (T : Txt K mg) : FnOk P w K mg base CX0 3 T.f__law_selector T.fd__law_selector ["_law_pool_here", "_law_kinds", "_law_marks_here", "_law_longest"] (toSp K (ap_selD)) := by
  have G__law_take := ok__law_take (P := P) (w := w) (base := base) T
  have G__law_marks := ok__law_marks (P := P) (w := w) (base := base) T
  exact fn_ab [0] T.F__law_selector sc__law_selector (by walk_at "len") rfl (fun cdv A outer s H E hr => ⟨_, tm__law_selector T G__law_take G__law_marks cdv A outer s H E hr, run_selD⟩)
theorem ok__law_value (T : Txt K mg) : FnOk P w K mg base CX0 2 T.f__law_value T.fd__law_value ["_law_pool_here", "_law_name"] (toSp K (ap_valD)) := by
  have G__law_take := ok__law_take (P := P) (w := w) (base := base) T
  exact fn_ab [0] T.F__law_value sc__law_value (by walk_at "len") rfl (fun cdv A outer s H E hr => ⟨_, tm__law_value T G__law_take cdv A outer s H E hr, run_valD⟩)
theorem ok__law_declarations (T : Txt K mg) : FnOk P w K mg base CX0 3 T.f__law_declarations T.fd__law_declarations ["_law_pool_here", "_law_longest"] (toSp K (ap_decl22)) := by
  have G__law_properties := ok__law_properties (P := P) (w := w) (base := base) T
  have G__law_take := ok__law_take (P := P) (w := w) (base := base) T
  have G__law_value := ok__law_value (P := P) (w := w) (base := base) T
  exact fn_ab [0] T.F__law_declarations sc__law_declarations (by walk_at "len") rfl (fun cdv A outer s H E hr => ⟨_, tm__law_declarations T G__law_properties G__law_take G__law_value cdv A outer s H E hr, run_decl22⟩)
theorem ok__law_rules (T : Txt K mg) : FnOk P w K mg base CX0 4 T.f__law_rules T.fd__law_rules ["_law_pool_here", "_law_kinds", "_law_marks_here", "_law_many", "_law_steps", "_law_longest"] (toSp K (ap_lrules)) := by
  have G__law_selector := ok__law_selector (P := P) (w := w) (base := base) T
  have G__law_declarations := ok__law_declarations (P := P) (w := w) (base := base) T
  exact fn_ab [0] T.F__law_rules sc__law_rules (by walk_at "len") rfl (fun cdv A outer s H E hr => ⟨_, tm__law_rules T G__law_selector G__law_declarations cdv A outer s H E hr, run_lrules⟩)
theorem ok__law_row (T : Txt K mg) : FnOk P w K mg base CX0 5 T.f__law_row T.fd__law_row ["_law_pool_here", "_law_kinds", "_law_marks_here"] (toSp K (ap_lrow22)) := by
  have G__law_take := ok__law_take (P := P) (w := w) (base := base) T
  have G__law_rules := ok__law_rules (P := P) (w := w) (base := base) T
  exact fn_ab [0] T.F__law_row sc__law_row (by walk_at "len") rfl (fun cdv A outer s H E hr => ⟨_, tm__law_row T G__law_take G__law_rules cdv A outer s H E hr, run_lrow22⟩)
theorem ok__law_rows_of (T : Txt K mg) : FnOk P w K mg base CX0 10 T.f__law_rows_of T.fd__law_rows_of ["_law_sheet"] (toSp K (ap_lrowsof T.c_Sheet)) := by
  have G__law_same := ok__law_same (P := P) (w := w) (base := base) T
  exact fn_ab [] T.F__law_rows_of sc__law_rows_of (by walk_at "len") rfl (fun cdv A outer s H E hr => ⟨_, tm__law_rows_of T G__law_same cdv A outer s H E hr, run_lrowsof (shok T)⟩)
theorem ok__law_deed (T : Txt K mg) : FnOk P w K mg base CX0 11 T.f__law_deed T.fd__law_deed ["_law_sort", "_law_sheet", "_law_place", "_law_other"] (toSp K (ap_deed T.c_Sheet)) := by
  have G_Sheet___getitem__ := ok_Sheet___getitem__ (P := P) (w := w) (base := base) T
  have G_Sheet_with_rule := ok_Sheet_with_rule (P := P) (w := w) (base := base) T
  have G_Sheet_without_rule := ok_Sheet_without_rule (P := P) (w := w) (base := base) T
  have G_Sheet___add__ := ok_Sheet___add__ (P := P) (w := w) (base := base) T
  have G_Sheet___init__ := ok_Sheet___init__ (P := P) (w := w) (base := base) T
  have G__law_rows_of := ok__law_rows_of (P := P) (w := w) (base := base) T
  exact fn_ab [] T.F__law_deed sc__law_deed (by walk_at "len") rfl (fun cdv A outer s H E hr => ⟨_, tm__law_deed T G_Sheet___getitem__ G_Sheet_with_rule G_Sheet_without_rule G_Sheet___add__ G_Sheet___init__ G__law_rows_of cdv A outer s H E hr, run_deed (shok T) (erF T)⟩)
theorem ok__law_joint (T : Txt K mg) : FnOk P w K mg base CX0 11 T.f__law_joint T.fd__law_joint ["_law_sheets"] (toSp K (ap_ljoint T.c_Sheet)) := by
  have G_joined := ok_joined (P := P) (w := w) (base := base) T
  have G__law_rows_of := ok__law_rows_of (P := P) (w := w) (base := base) T
  exact fn_ab [] T.F__law_joint sc__law_joint (by walk_at "len") rfl (fun cdv A outer s H E hr => ⟨_, tm__law_joint T G_joined G__law_rows_of cdv A outer s H E hr, run_ljoint (shok T) (erF T)⟩)
theorem ok__law_due (T : Txt K mg) : FnOk P w K mg base CX0 1 T.f__law_due T.fd__law_due ["_law_sort", "_law_rules_here", "_law_place", "_law_other"] (toSp K (ap_due)) := by
  exact fn_ab [] T.F__law_due sc__law_due (by walk_at "len") rfl (fun cdv A outer s H E hr => ⟨_, tm__law_due T cdv A outer s H E hr, run_due⟩)
theorem ok__law_sum_due (T : Txt K mg) : FnOk P w K mg base CX0 1 T.f__law_sum_due T.fd__law_sum_due ["_law_rules_here"] (toSp K (ap_sumdue)) := by
  exact fn_ab [] T.F__law_sum_due sc__law_sum_due (by walk_at "len") rfl (fun cdv A outer s H E hr => ⟨_, tm__law_sum_due T cdv A outer s H E hr, run_sumdue⟩)
theorem ok__law_places_right (T : Txt K mg) : FnOk P w K mg base CX0 12 T.f__law_places_right T.fd__law_places_right ["_law_sheet", "_law_rules_here", "_law_one"] (toSp K (ap_places T.c_Sheet)) := by
  have G__law_deed := ok__law_deed (P := P) (w := w) (base := base) T
  have G__law_same := ok__law_same (P := P) (w := w) (base := base) T
  have G__law_due := ok__law_due (P := P) (w := w) (base := base) T
  have G__law_properties := ok__law_properties (P := P) (w := w) (base := base) T
  have G_Sheet___contains__ := ok_Sheet___contains__ (P := P) (w := w) (base := base) T
  exact fn_ab [] T.F__law_places_right sc__law_places_right (by walk_at "len") rfl (fun cdv A outer s H E hr => ⟨_, tm__law_places_right T G__law_deed G__law_same G__law_due G__law_properties G_Sheet___contains__ cdv A outer s H E hr, run_places⟩)
theorem ok__law_sums_right (T : Txt K mg) : FnOk P w K mg base CX0 12 T.f__law_sums_right T.fd__law_sums_right ["_law_sheets", "_law_rows"] (toSp K (ap_sums T.c_Sheet)) := by
  have G__law_sum_due := ok__law_sum_due (P := P) (w := w) (base := base) T
  have G__law_same := ok__law_same (P := P) (w := w) (base := base) T
  have G__law_deed := ok__law_deed (P := P) (w := w) (base := base) T
  have G__law_joint := ok__law_joint (P := P) (w := w) (base := base) T
  have G_Sheet___init__ := ok_Sheet___init__ (P := P) (w := w) (base := base) T
  have G_joined := ok_joined (P := P) (w := w) (base := base) T
  have G__law_rows_of := ok__law_rows_of (P := P) (w := w) (base := base) T
  exact fn_ab [] T.F__law_sums_right sc__law_sums_right (by walk_at "len") rfl (fun cdv A outer s H E hr => ⟨_, tm__law_sums_right T G__law_sum_due G__law_same G__law_deed G__law_joint G_Sheet___init__ G_joined G__law_rows_of cdv A outer s H E hr, run_sums⟩)
theorem ok_law (T : Txt K mg) : FnOk P w K mg base CX0 13 T.f_law T.fd_law ["_law_script"] (toSp K (ap_law)) := by
  have G__law_pool := ok__law_pool (P := P) (w := w) (base := base) T
  have G__law_any_names := ok__law_any_names (P := P) (w := w) (base := base) T
  have G__law_take := ok__law_take (P := P) (w := w) (base := base) T
  have G__law_row := ok__law_row (P := P) (w := w) (base := base) T
  have G__law_rules := ok__law_rules (P := P) (w := w) (base := base) T
  have G_Sheet___init__ := ok_Sheet___init__ (P := P) (w := w) (base := base) T
  have G__law_same := ok__law_same (P := P) (w := w) (base := base) T
  have G__law_places_right := ok__law_places_right (P := P) (w := w) (base := base) T
  have G__law_sums_right := ok__law_sums_right (P := P) (w := w) (base := base) T
  have G__law_rows_of := ok__law_rows_of (P := P) (w := w) (base := base) T
  exact fn_ab [] T.F_law sc_law (by walk_at "len") rfl (fun cdv A outer s H E hr => ⟨_, tm_law T G__law_pool G__law_any_names G__law_take G__law_row G__law_rules G_Sheet___init__ G__law_same G__law_places_right G__law_sums_right G__law_rows_of cdv A outer s H E hr, run_law⟩)
end
theorem law_pre {ns : List Int} (hl : ns.length ≤ 63) {Post : Re → List Sl → Prop} (hp : ∀ as, Post (.val (.bl true)) as) : ap_law [.val (.scr ns)] Post := ⟨ns, rfl, hp _⟩
end Lk22

namespace Lk22
open PySem L2 Ab
theorem fin_mk {l : PySem.W.OpenLaw} {w : World} {K : PySem.W.Frag} {h : Heap} {mg : Str → Option Value} {fa : Addr} (X : K.In h) (G : h.Ns mainGlobals mg) (hfa : mg "law" = some (.ref fa))
    {c_Weight : Addr} (aWeight : PySem.W.nsIn K mainGlobals "Weight" = some (some (.ref c_Weight)))
    (pgWeight : PySem.W.plainGet K c_Weight Str.empty = true) (hdWeight : PySem.W.hasDictIn K c_Weight = true) (poWeight : PySem.W.plainOver K c_Weight = true) (saWeight : PySem.W.findIn K (.ref c_Weight) "__setattr__" = some (some (.builtin "object.__setattr__"))) (mkWeight : PySem.W.makesIn K c_Weight = true) (kcWeight : PySem.W.keepIn K (.ref c_Weight) = true)
    (haWeight : PySem.W.findIn K (.ref c_Weight) "__class__" = some (some (.builtin "object.__class__"))) (hmWeight : PySem.W.mroIn K c_Weight (.type "object") = some true)
    (naWeight_marks : PySem.W.findIn K (.ref c_Weight) "marks" = some none)
    (naWeight_kinds : PySem.W.findIn K (.ref c_Weight) "kinds" = some none)
    {c_Sheet : Addr} (aSheet : PySem.W.nsIn K mainGlobals "Sheet" = some (some (.ref c_Sheet)))
    (pgSheet : PySem.W.plainGet K c_Sheet Str.empty = true) (hdSheet : PySem.W.hasDictIn K c_Sheet = true) (poSheet : PySem.W.plainOver K c_Sheet = true) (saSheet : PySem.W.findIn K (.ref c_Sheet) "__setattr__" = some (some (.builtin "object.__setattr__"))) (mkSheet : PySem.W.makesIn K c_Sheet = true) (kcSheet : PySem.W.keepIn K (.ref c_Sheet) = true)
    (haSheet : PySem.W.findIn K (.ref c_Sheet) "__class__" = some (some (.builtin "object.__class__"))) (hmSheet : PySem.W.mroIn K c_Sheet (.type "object") = some true)
    (sfSheet : PySem.W.selfFirst K c_Sheet = true)
    (rdSheet : PySem.W.readsIn K c_Sheet (.type "type") = true) (gaSheet : PySem.W.specialIn K (.ref c_Sheet) "__getattribute__" = some (some (.builtin "type.__getattribute__")))
    {tvSheet_LIMIT : Tok} (cvSheet_LIMIT : PySem.W.findCls K (.ref c_Sheet) (.type "type") "LIMIT" = some (.val (.int 12 tvSheet_LIMIT)))
    (naSheet_rule_row : PySem.W.findIn K (.ref c_Sheet) "rule_row" = some none)
    (hnO : PySem.W.specialIn K (.builtin "object.__class__") "__get__" = some (some (.builtin "getset_descriptor.__get__"))) (htO : PySem.W.takesIn K (.builtin "object.__class__") = some true)
    {f0 : Addr} {od0 an0 : Option Addr} {sl0 : Array (Option Value)} {oc0 kV0 dc0 pm0 cd0 ct0 : Value}
    (a0 : PySem.W.findIn K (.ref c_Sheet) "__init__" = some (some (.ref f0))) (l0 : K.lookup f0 = some ⟨oc0, od0, .func (PySem.W.fnOf "__init__" "Sheet.__init__" (defArgs s_Sheet___init__) (defBody s_Sheet___init__) (defScope s_Sheet___init__) .none kV0 dc0 pm0 an0 cd0 ct0), sl0⟩) (c0 : PySem.W.codeIn K cd0 "Sheet.__init__" = true) (k0 : PySem.W.keepIn K (.ref f0) = true)
    (i0 : PySem.W.isFn K (.ref f0) = true)
    {f1 : Addr} {od1 an1 : Option Addr} {sl1 : Array (Option Value)} {oc1 kV1 dc1 pm1 cd1 ct1 : Value}
    (a1 : PySem.W.findIn K (.ref c_Sheet) "__len__" = some (some (.ref f1))) (l1 : K.lookup f1 = some ⟨oc1, od1, .func (PySem.W.fnOf "__len__" "Sheet.__len__" (defArgs s_Sheet___len__) (defBody s_Sheet___len__) (defScope s_Sheet___len__) .none kV1 dc1 pm1 an1 cd1 ct1), sl1⟩) (c1 : PySem.W.codeIn K cd1 "Sheet.__len__" = true) (k1 : PySem.W.keepIn K (.ref f1) = true)
    (i1 : PySem.W.isFn K (.ref f1) = true)
    {f2 : Addr} {od2 an2 : Option Addr} {sl2 : Array (Option Value)} {oc2 kV2 dc2 pm2 cd2 ct2 : Value}
    (a2 : PySem.W.findIn K (.ref c_Sheet) "__iter__" = some (some (.ref f2))) (l2 : K.lookup f2 = some ⟨oc2, od2, .func (PySem.W.fnOf "__iter__" "Sheet.__iter__" (defArgs s_Sheet___iter__) (defBody s_Sheet___iter__) (defScope s_Sheet___iter__) .none kV2 dc2 pm2 an2 cd2 ct2), sl2⟩) (c2 : PySem.W.codeIn K cd2 "Sheet.__iter__" = true) (k2 : PySem.W.keepIn K (.ref f2) = true)
    (i2 : PySem.W.isFn K (.ref f2) = true)
    {f3 : Addr} {od3 an3 : Option Addr} {sl3 : Array (Option Value)} {oc3 kV3 dc3 pm3 cd3 ct3 : Value}
    (a3 : PySem.W.findIn K (.ref c_Sheet) "__getitem__" = some (some (.ref f3))) (l3 : K.lookup f3 = some ⟨oc3, od3, .func (PySem.W.fnOf "__getitem__" "Sheet.__getitem__" (defArgs s_Sheet___getitem__) (defBody s_Sheet___getitem__) (defScope s_Sheet___getitem__) .none kV3 dc3 pm3 an3 cd3 ct3), sl3⟩) (c3 : PySem.W.codeIn K cd3 "Sheet.__getitem__" = true) (k3 : PySem.W.keepIn K (.ref f3) = true)
    (i3 : PySem.W.isFn K (.ref f3) = true)
    {f4 : Addr} {od4 an4 : Option Addr} {sl4 : Array (Option Value)} {oc4 kV4 dc4 pm4 cd4 ct4 : Value}
    (a4 : PySem.W.findIn K (.ref c_Sheet) "__contains__" = some (some (.ref f4))) (l4 : K.lookup f4 = some ⟨oc4, od4, .func (PySem.W.fnOf "__contains__" "Sheet.__contains__" (defArgs s_Sheet___contains__) (defBody s_Sheet___contains__) (defScope s_Sheet___contains__) .none kV4 dc4 pm4 an4 cd4 ct4), sl4⟩) (c4 : PySem.W.codeIn K cd4 "Sheet.__contains__" = true) (k4 : PySem.W.keepIn K (.ref f4) = true)
    (i4 : PySem.W.isFn K (.ref f4) = true)
    {f5 : Addr} {od5 an5 : Option Addr} {sl5 : Array (Option Value)} {oc5 kV5 dc5 pm5 cd5 ct5 : Value}
    (a5 : PySem.W.findIn K (.ref c_Sheet) "__add__" = some (some (.ref f5))) (l5 : K.lookup f5 = some ⟨oc5, od5, .func (PySem.W.fnOf "__add__" "Sheet.__add__" (defArgs s_Sheet___add__) (defBody s_Sheet___add__) (defScope s_Sheet___add__) .none kV5 dc5 pm5 an5 cd5 ct5), sl5⟩) (c5 : PySem.W.codeIn K cd5 "Sheet.__add__" = true) (k5 : PySem.W.keepIn K (.ref f5) = true)
    (i5 : PySem.W.isFn K (.ref f5) = true)
    (o5 : PySem.W.findIn K (.ref c_Sheet) (PySem.dunder (PySem.Operator.Add).info.2) = some (some (.ref f5)))
    {f6 : Addr} {od6 an6 : Option Addr} {sl6 : Array (Option Value)} {oc6 kV6 dc6 pm6 cd6 ct6 : Value}
    (a6 : PySem.W.findIn K (.ref c_Sheet) "with_rule" = some (some (.ref f6))) (l6 : K.lookup f6 = some ⟨oc6, od6, .func (PySem.W.fnOf "with_rule" "Sheet.with_rule" (defArgs s_Sheet_with_rule) (defBody s_Sheet_with_rule) (defScope s_Sheet_with_rule) .none kV6 dc6 pm6 an6 cd6 ct6), sl6⟩) (c6 : PySem.W.codeIn K cd6 "Sheet.with_rule" = true) (k6 : PySem.W.keepIn K (.ref f6) = true)
    (i6 : PySem.W.isFn K (.ref f6) = true)
    {f7 : Addr} {od7 an7 : Option Addr} {sl7 : Array (Option Value)} {oc7 kV7 dc7 pm7 cd7 ct7 : Value}
    (a7 : PySem.W.findIn K (.ref c_Sheet) "without_rule" = some (some (.ref f7))) (l7 : K.lookup f7 = some ⟨oc7, od7, .func (PySem.W.fnOf "without_rule" "Sheet.without_rule" (defArgs s_Sheet_without_rule) (defBody s_Sheet_without_rule) (defScope s_Sheet_without_rule) .none kV7 dc7 pm7 an7 cd7 ct7), sl7⟩) (c7 : PySem.W.codeIn K cd7 "Sheet.without_rule" = true) (k7 : PySem.W.keepIn K (.ref f7) = true)
    (i7 : PySem.W.isFn K (.ref f7) = true)
    {f8 : Addr} {od8 an8 : Option Addr} {sl8 : Array (Option Value)} {oc8 kV8 dc8 pm8 cd8 ct8 : Value}
    (a8 : PySem.W.nsIn K mainGlobals "joined" = some (some (.ref f8))) (l8 : K.lookup f8 = some ⟨oc8, od8, .func (PySem.W.fnOf "joined" "joined" (defArgs s_joined) (defBody s_joined) (defScope s_joined) .none kV8 dc8 pm8 an8 cd8 ct8), sl8⟩) (c8 : PySem.W.codeIn K cd8 "joined" = true) (k8 : PySem.W.keepIn K (.ref f8) = true)
    {f9 : Addr} {od9 an9 : Option Addr} {sl9 : Array (Option Value)} {oc9 kV9 dc9 pm9 cd9 ct9 : Value}
    (a9 : PySem.W.nsIn K mainGlobals "_law_pool" = some (some (.ref f9))) (l9 : K.lookup f9 = some ⟨oc9, od9, .func (PySem.W.fnOf "_law_pool" "_law_pool" (defArgs s__law_pool) (defBody s__law_pool) (defScope s__law_pool) .none kV9 dc9 pm9 an9 cd9 ct9), sl9⟩) (c9 : PySem.W.codeIn K cd9 "_law_pool" = true) (k9 : PySem.W.keepIn K (.ref f9) = true)
    {f10 : Addr} {od10 an10 : Option Addr} {sl10 : Array (Option Value)} {oc10 kV10 dc10 pm10 cd10 ct10 : Value}
    (a10 : PySem.W.nsIn K mainGlobals "_law_take" = some (some (.ref f10))) (l10 : K.lookup f10 = some ⟨oc10, od10, .func (PySem.W.fnOf "_law_take" "_law_take" (defArgs s__law_take) (defBody s__law_take) (defScope s__law_take) .none kV10 dc10 pm10 an10 cd10 ct10), sl10⟩) (c10 : PySem.W.codeIn K cd10 "_law_take" = true) (k10 : PySem.W.keepIn K (.ref f10) = true)
    {f11 : Addr} {od11 an11 : Option Addr} {sl11 : Array (Option Value)} {oc11 kV11 dc11 pm11 cd11 ct11 : Value}
    (a11 : PySem.W.nsIn K mainGlobals "_law_same" = some (some (.ref f11))) (l11 : K.lookup f11 = some ⟨oc11, od11, .func (PySem.W.fnOf "_law_same" "_law_same" (defArgs s__law_same) (defBody s__law_same) (defScope s__law_same) .none kV11 dc11 pm11 an11 cd11 ct11), sl11⟩) (c11 : PySem.W.codeIn K cd11 "_law_same" = true) (k11 : PySem.W.keepIn K (.ref f11) = true)
    {f12 : Addr} {od12 an12 : Option Addr} {sl12 : Array (Option Value)} {oc12 kV12 dc12 pm12 cd12 ct12 : Value}
    (a12 : PySem.W.nsIn K mainGlobals "_law_letters" = some (some (.ref f12))) (l12 : K.lookup f12 = some ⟨oc12, od12, .func (PySem.W.fnOf "_law_letters" "_law_letters" (defArgs s__law_letters) (defBody s__law_letters) (defScope s__law_letters) .none kV12 dc12 pm12 an12 cd12 ct12), sl12⟩) (c12 : PySem.W.codeIn K cd12 "_law_letters" = true) (k12 : PySem.W.keepIn K (.ref f12) = true)
    {f13 : Addr} {od13 an13 : Option Addr} {sl13 : Array (Option Value)} {oc13 kV13 dc13 pm13 cd13 ct13 : Value}
    (a13 : PySem.W.nsIn K mainGlobals "_law_names" = some (some (.ref f13))) (l13 : K.lookup f13 = some ⟨oc13, od13, .func (PySem.W.fnOf "_law_names" "_law_names" (defArgs s__law_names) (defBody s__law_names) (defScope s__law_names) .none kV13 dc13 pm13 an13 cd13 ct13), sl13⟩) (c13 : PySem.W.codeIn K cd13 "_law_names" = true) (k13 : PySem.W.keepIn K (.ref f13) = true)
    {f14 : Addr} {od14 an14 : Option Addr} {sl14 : Array (Option Value)} {oc14 kV14 dc14 pm14 cd14 ct14 : Value}
    (a14 : PySem.W.nsIn K mainGlobals "_law_any_names" = some (some (.ref f14))) (l14 : K.lookup f14 = some ⟨oc14, od14, .func (PySem.W.fnOf "_law_any_names" "_law_any_names" (defArgs s__law_any_names) (defBody s__law_any_names) (defScope s__law_any_names) .none kV14 dc14 pm14 an14 cd14 ct14), sl14⟩) (c14 : PySem.W.codeIn K cd14 "_law_any_names" = true) (k14 : PySem.W.keepIn K (.ref f14) = true)
    {f15 : Addr} {od15 an15 : Option Addr} {sl15 : Array (Option Value)} {oc15 kV15 dc15 pm15 cd15 ct15 : Value}
    (a15 : PySem.W.nsIn K mainGlobals "_law_marks" = some (some (.ref f15))) (l15 : K.lookup f15 = some ⟨oc15, od15, .func (PySem.W.fnOf "_law_marks" "_law_marks" (defArgs s__law_marks) (defBody s__law_marks) (defScope s__law_marks) .none kV15 dc15 pm15 an15 cd15 ct15), sl15⟩) (c15 : PySem.W.codeIn K cd15 "_law_marks" = true) (k15 : PySem.W.keepIn K (.ref f15) = true)
    {f16 : Addr} {od16 an16 : Option Addr} {sl16 : Array (Option Value)} {oc16 kV16 dc16 pm16 cd16 ct16 : Value}
    (a16 : PySem.W.nsIn K mainGlobals "_law_properties" = some (some (.ref f16))) (l16 : K.lookup f16 = some ⟨oc16, od16, .func (PySem.W.fnOf "_law_properties" "_law_properties" (defArgs s__law_properties) (defBody s__law_properties) (defScope s__law_properties) .none kV16 dc16 pm16 an16 cd16 ct16), sl16⟩) (c16 : PySem.W.codeIn K cd16 "_law_properties" = true) (k16 : PySem.W.keepIn K (.ref f16) = true)
    {f17 : Addr} {od17 an17 : Option Addr} {sl17 : Array (Option Value)} {oc17 kV17 dc17 pm17 cd17 ct17 : Value}
    (a17 : PySem.W.nsIn K mainGlobals "_law_selector" = some (some (.ref f17))) (l17 : K.lookup f17 = some ⟨oc17, od17, .func (PySem.W.fnOf "_law_selector" "_law_selector" (defArgs s__law_selector) (defBody s__law_selector) (defScope s__law_selector) .none kV17 dc17 pm17 an17 cd17 ct17), sl17⟩) (c17 : PySem.W.codeIn K cd17 "_law_selector" = true) (k17 : PySem.W.keepIn K (.ref f17) = true)
    {f18 : Addr} {od18 an18 : Option Addr} {sl18 : Array (Option Value)} {oc18 kV18 dc18 pm18 cd18 ct18 : Value}
    (a18 : PySem.W.nsIn K mainGlobals "_law_value" = some (some (.ref f18))) (l18 : K.lookup f18 = some ⟨oc18, od18, .func (PySem.W.fnOf "_law_value" "_law_value" (defArgs s__law_value) (defBody s__law_value) (defScope s__law_value) .none kV18 dc18 pm18 an18 cd18 ct18), sl18⟩) (c18 : PySem.W.codeIn K cd18 "_law_value" = true) (k18 : PySem.W.keepIn K (.ref f18) = true)
    {f19 : Addr} {od19 an19 : Option Addr} {sl19 : Array (Option Value)} {oc19 kV19 dc19 pm19 cd19 ct19 : Value}
    (a19 : PySem.W.nsIn K mainGlobals "_law_declarations" = some (some (.ref f19))) (l19 : K.lookup f19 = some ⟨oc19, od19, .func (PySem.W.fnOf "_law_declarations" "_law_declarations" (defArgs s__law_declarations) (defBody s__law_declarations) (defScope s__law_declarations) .none kV19 dc19 pm19 an19 cd19 ct19), sl19⟩) (c19 : PySem.W.codeIn K cd19 "_law_declarations" = true) (k19 : PySem.W.keepIn K (.ref f19) = true)
    {f20 : Addr} {od20 an20 : Option Addr} {sl20 : Array (Option Value)} {oc20 kV20 dc20 pm20 cd20 ct20 : Value}
    (a20 : PySem.W.nsIn K mainGlobals "_law_rules" = some (some (.ref f20))) (l20 : K.lookup f20 = some ⟨oc20, od20, .func (PySem.W.fnOf "_law_rules" "_law_rules" (defArgs s__law_rules) (defBody s__law_rules) (defScope s__law_rules) .none kV20 dc20 pm20 an20 cd20 ct20), sl20⟩) (c20 : PySem.W.codeIn K cd20 "_law_rules" = true) (k20 : PySem.W.keepIn K (.ref f20) = true)
    {f21 : Addr} {od21 an21 : Option Addr} {sl21 : Array (Option Value)} {oc21 kV21 dc21 pm21 cd21 ct21 : Value}
    (a21 : PySem.W.nsIn K mainGlobals "_law_row" = some (some (.ref f21))) (l21 : K.lookup f21 = some ⟨oc21, od21, .func (PySem.W.fnOf "_law_row" "_law_row" (defArgs s__law_row) (defBody s__law_row) (defScope s__law_row) .none kV21 dc21 pm21 an21 cd21 ct21), sl21⟩) (c21 : PySem.W.codeIn K cd21 "_law_row" = true) (k21 : PySem.W.keepIn K (.ref f21) = true)
    {f22 : Addr} {od22 an22 : Option Addr} {sl22 : Array (Option Value)} {oc22 kV22 dc22 pm22 cd22 ct22 : Value}
    (a22 : PySem.W.nsIn K mainGlobals "_law_deed" = some (some (.ref f22))) (l22 : K.lookup f22 = some ⟨oc22, od22, .func (PySem.W.fnOf "_law_deed" "_law_deed" (defArgs s__law_deed) (defBody s__law_deed) (defScope s__law_deed) .none kV22 dc22 pm22 an22 cd22 ct22), sl22⟩) (c22 : PySem.W.codeIn K cd22 "_law_deed" = true) (k22 : PySem.W.keepIn K (.ref f22) = true)
    {f23 : Addr} {od23 an23 : Option Addr} {sl23 : Array (Option Value)} {oc23 kV23 dc23 pm23 cd23 ct23 : Value}
    (a23 : PySem.W.nsIn K mainGlobals "_law_joint" = some (some (.ref f23))) (l23 : K.lookup f23 = some ⟨oc23, od23, .func (PySem.W.fnOf "_law_joint" "_law_joint" (defArgs s__law_joint) (defBody s__law_joint) (defScope s__law_joint) .none kV23 dc23 pm23 an23 cd23 ct23), sl23⟩) (c23 : PySem.W.codeIn K cd23 "_law_joint" = true) (k23 : PySem.W.keepIn K (.ref f23) = true)
    {f24 : Addr} {od24 an24 : Option Addr} {sl24 : Array (Option Value)} {oc24 kV24 dc24 pm24 cd24 ct24 : Value}
    (a24 : PySem.W.nsIn K mainGlobals "_law_rows_of" = some (some (.ref f24))) (l24 : K.lookup f24 = some ⟨oc24, od24, .func (PySem.W.fnOf "_law_rows_of" "_law_rows_of" (defArgs s__law_rows_of) (defBody s__law_rows_of) (defScope s__law_rows_of) .none kV24 dc24 pm24 an24 cd24 ct24), sl24⟩) (c24 : PySem.W.codeIn K cd24 "_law_rows_of" = true) (k24 : PySem.W.keepIn K (.ref f24) = true)
    {f25 : Addr} {od25 an25 : Option Addr} {sl25 : Array (Option Value)} {oc25 kV25 dc25 pm25 cd25 ct25 : Value}
    (a25 : PySem.W.nsIn K mainGlobals "_law_due" = some (some (.ref f25))) (l25 : K.lookup f25 = some ⟨oc25, od25, .func (PySem.W.fnOf "_law_due" "_law_due" (defArgs s__law_due) (defBody s__law_due) (defScope s__law_due) .none kV25 dc25 pm25 an25 cd25 ct25), sl25⟩) (c25 : PySem.W.codeIn K cd25 "_law_due" = true) (k25 : PySem.W.keepIn K (.ref f25) = true)
    {f26 : Addr} {od26 an26 : Option Addr} {sl26 : Array (Option Value)} {oc26 kV26 dc26 pm26 cd26 ct26 : Value}
    (a26 : PySem.W.nsIn K mainGlobals "_law_sum_due" = some (some (.ref f26))) (l26 : K.lookup f26 = some ⟨oc26, od26, .func (PySem.W.fnOf "_law_sum_due" "_law_sum_due" (defArgs s__law_sum_due) (defBody s__law_sum_due) (defScope s__law_sum_due) .none kV26 dc26 pm26 an26 cd26 ct26), sl26⟩) (c26 : PySem.W.codeIn K cd26 "_law_sum_due" = true) (k26 : PySem.W.keepIn K (.ref f26) = true)
    {f27 : Addr} {od27 an27 : Option Addr} {sl27 : Array (Option Value)} {oc27 kV27 dc27 pm27 cd27 ct27 : Value}
    (a27 : PySem.W.nsIn K mainGlobals "_law_places_right" = some (some (.ref f27))) (l27 : K.lookup f27 = some ⟨oc27, od27, .func (PySem.W.fnOf "_law_places_right" "_law_places_right" (defArgs s__law_places_right) (defBody s__law_places_right) (defScope s__law_places_right) .none kV27 dc27 pm27 an27 cd27 ct27), sl27⟩) (c27 : PySem.W.codeIn K cd27 "_law_places_right" = true) (k27 : PySem.W.keepIn K (.ref f27) = true)
    {f28 : Addr} {od28 an28 : Option Addr} {sl28 : Array (Option Value)} {oc28 kV28 dc28 pm28 cd28 ct28 : Value}
    (a28 : PySem.W.nsIn K mainGlobals "_law_sums_right" = some (some (.ref f28))) (l28 : K.lookup f28 = some ⟨oc28, od28, .func (PySem.W.fnOf "_law_sums_right" "_law_sums_right" (defArgs s__law_sums_right) (defBody s__law_sums_right) (defScope s__law_sums_right) .none kV28 dc28 pm28 an28 cd28 ct28), sl28⟩) (c28 : PySem.W.codeIn K cd28 "_law_sums_right" = true) (k28 : PySem.W.keepIn K (.ref f28) = true)
    {f29 : Addr} {od29 an29 : Option Addr} {sl29 : Array (Option Value)} {oc29 kV29 dc29 pm29 cd29 ct29 : Value}
    (a29 : PySem.W.nsIn K mainGlobals "law" = some (some (.ref f29))) (l29 : K.lookup f29 = some ⟨oc29, od29, .func (PySem.W.fnOf "law" "law" (defArgs s_law) (defBody s_law) (defScope s_law) .none kV29 dc29 pm29 an29 cd29 ct29), sl29⟩) (c29 : PySem.W.codeIn K cd29 "law" = true) (k29 : PySem.W.keepIn K (.ref f29) = true)
    (z_ValueError : PySem.W.nsIn K mainGlobals "ValueError" = some none)
    (z_abs : PySem.W.nsIn K mainGlobals "abs" = some none)
    (z_all : PySem.W.nsIn K mainGlobals "all" = some none)
    (z_bool : PySem.W.nsIn K mainGlobals "bool" = some none)
    (z_dict : PySem.W.nsIn K mainGlobals "dict" = some none)
    (z_enumerate : PySem.W.nsIn K mainGlobals "enumerate" = some none)
    (z_int : PySem.W.nsIn K mainGlobals "int" = some none)
    (z_isinstance : PySem.W.nsIn K mainGlobals "isinstance" = some none)
    (z_iter : PySem.W.nsIn K mainGlobals "iter" = some none)
    (z_len : PySem.W.nsIn K mainGlobals "len" = some none)
    (z_list : PySem.W.nsIn K mainGlobals "list" = some none)
    (z_range : PySem.W.nsIn K mainGlobals "range" = some none)
    (z_sorted : PySem.W.nsIn K mainGlobals "sorted" = some none)
    (z_str : PySem.W.nsIn K mainGlobals "str" = some none)
    (z_tuple : PySem.W.nsIn K mainGlobals "tuple" = some none)
    {c_BadRule : Addr} (a_BadRule : PySem.W.nsIn K mainGlobals "BadRule" = some (some (.ref c_BadRule))) (bs_BadRule : PySem.W.subIn K (.ref c_BadRule) (.type "BaseException") = some true) (tx_BadRule : PySem.W.typeIn K (.ref c_BadRule) = some (.type "type")) (hd_BadRule : PySem.W.hasDictIn K c_BadRule = true)
    {c_TooLarge : Addr} (a_TooLarge : PySem.W.nsIn K mainGlobals "TooLarge" = some (some (.ref c_TooLarge))) (bs_TooLarge : PySem.W.subIn K (.ref c_TooLarge) (.type "BaseException") = some true) (tx_TooLarge : PySem.W.typeIn K (.ref c_TooLarge) = some (.type "type")) (hd_TooLarge : PySem.W.hasDictIn K c_TooLarge = true)
    {c_BadPath : Addr} (a_BadPath : PySem.W.nsIn K mainGlobals "BadPath" = some (some (.ref c_BadPath))) (bs_BadPath : PySem.W.subIn K (.ref c_BadPath) (.type "BaseException") = some true) (tx_BadPath : PySem.W.typeIn K (.ref c_BadPath) = some (.type "type")) (hd_BadPath : PySem.W.hasDictIn K c_BadPath = true)
    {c_StyleError : Addr} (a_StyleError : PySem.W.nsIn K mainGlobals "StyleError" = some (some (.ref c_StyleError))) (bs_StyleError : PySem.W.subIn K (.ref c_StyleError) (.type "BaseException") = some true) (tx_StyleError : PySem.W.typeIn K (.ref c_StyleError) = some (.type "type")) (hd_StyleError : PySem.W.hasDictIn K c_StyleError = true)
    (x_TooLarge : PySem.W.excIn K c_TooLarge [.type "ValueError", .type "Exception", .type "BaseException", .type "object"] "ValueError.__new__" = true) (kx_TooLarge : PySem.W.keepIn K (.ref c_TooLarge) = true)
    (ga_TooLarge : PySem.W.findIn K (.ref c_TooLarge) "__getattribute__" = some (some (.builtin "BaseException.__getattribute__"))) (gg_TooLarge : PySem.W.findIn K (.ref c_TooLarge) "__getattr__" = some none) (cl_TooLarge : PySem.W.findIn K (.ref c_TooLarge) "__class__" = some (some (.builtin "object.__class__"))) (mo_TooLarge : PySem.W.mroIn K c_TooLarge (.type "object") = some true) (sv_TooLarge : PySem.W.subIn K (.ref c_TooLarge) (.type "ValueError") = some true)
    (sb_TooLarge_BadRule : PySem.W.subIn K (.ref c_TooLarge) (.ref c_BadRule) = some false)
    (sb_TooLarge_TooLarge : PySem.W.subIn K (.ref c_TooLarge) (.ref c_TooLarge) = some true)
    (sb_TooLarge_BadPath : PySem.W.subIn K (.ref c_TooLarge) (.ref c_BadPath) = some false)
    (sb_TooLarge_StyleError : PySem.W.subIn K (.ref c_TooLarge) (.ref c_StyleError) = some true)
    (x_BadPath : PySem.W.excIn K c_BadPath [.type "ValueError", .type "Exception", .type "BaseException", .type "object"] "ValueError.__new__" = true) (kx_BadPath : PySem.W.keepIn K (.ref c_BadPath) = true)
    (ga_BadPath : PySem.W.findIn K (.ref c_BadPath) "__getattribute__" = some (some (.builtin "BaseException.__getattribute__"))) (gg_BadPath : PySem.W.findIn K (.ref c_BadPath) "__getattr__" = some none) (cl_BadPath : PySem.W.findIn K (.ref c_BadPath) "__class__" = some (some (.builtin "object.__class__"))) (mo_BadPath : PySem.W.mroIn K c_BadPath (.type "object") = some true) (sv_BadPath : PySem.W.subIn K (.ref c_BadPath) (.type "ValueError") = some true)
    (sb_BadPath_BadRule : PySem.W.subIn K (.ref c_BadPath) (.ref c_BadRule) = some false)
    (sb_BadPath_TooLarge : PySem.W.subIn K (.ref c_BadPath) (.ref c_TooLarge) = some false)
    (sb_BadPath_BadPath : PySem.W.subIn K (.ref c_BadPath) (.ref c_BadPath) = some true)
    (sb_BadPath_StyleError : PySem.W.subIn K (.ref c_BadPath) (.ref c_StyleError) = some true)
    : ∃ fd : FuncData, (∀ (s : Shared) (v : Value), BindsTo s fd ⟨[v], []⟩ [("_law_script", v)]) ∧ ∀ base : Heap, K.In base → base.Ns mainGlobals mg → FnOk l.prog w K mg base CX0 13 fa fd ["_law_script"] (toSp K ap_law) := by
  obtain ⟨T, e, hb⟩ := txt_mk X G aWeight pgWeight hdWeight poWeight saWeight mkWeight kcWeight haWeight hmWeight naWeight_marks naWeight_kinds aSheet pgSheet hdSheet poSheet saSheet mkSheet kcSheet haSheet hmSheet sfSheet rdSheet gaSheet cvSheet_LIMIT naSheet_rule_row hnO htO a0 l0 c0 k0 i0 a1 l1 c1 k1 i1 a2 l2 c2 k2 i2 a3 l3 c3 k3 i3 a4 l4 c4 k4 i4 a5 l5 c5 k5 i5 o5 a6 l6 c6 k6 i6 a7 l7 c7 k7 i7 a8 l8 c8 k8 a9 l9 c9 k9 a10 l10 c10 k10 a11 l11 c11 k11 a12 l12 c12 k12 a13 l13 c13 k13 a14 l14 c14 k14 a15 l15 c15 k15 a16 l16 c16 k16 a17 l17 c17 k17 a18 l18 c18 k18 a19 l19 c19 k19 a20 l20 c20 k20 a21 l21 c21 k21 a22 l22 c22 k22 a23 l23 c23 k23 a24 l24 c24 k24 a25 l25 c25 k25 a26 l26 c26 k26 a27 l27 c27 k27 a28 l28 c28 k28 a29 l29 c29 k29 z_ValueError z_abs z_all z_bool z_dict z_enumerate z_int z_isinstance z_iter z_len z_list z_range z_sorted z_str z_tuple a_BadRule bs_BadRule tx_BadRule hd_BadRule a_TooLarge bs_TooLarge tx_TooLarge hd_TooLarge a_BadPath bs_BadPath tx_BadPath hd_BadPath a_StyleError bs_StyleError tx_StyleError hd_StyleError x_TooLarge kx_TooLarge ga_TooLarge gg_TooLarge cl_TooLarge mo_TooLarge sv_TooLarge sb_TooLarge_BadRule sb_TooLarge_TooLarge sb_TooLarge_BadPath sb_TooLarge_StyleError x_BadPath kx_BadPath ga_BadPath gg_BadPath cl_BadPath mo_BadPath sv_BadPath sb_BadPath_BadRule sb_BadPath_TooLarge sb_BadPath_BadPath sb_BadPath_StyleError
  have e2 : T.f_law = fa := by
    have := T.g_law
    rw [hfa] at this
    cases this
    rfl
  exact ⟨T.fd_law, hb, fun base _ _ => by rw [← e2]; exact ok_law T⟩
end Lk22

end Zz
end
open PySem PySem.W PyProof.Rows
set_option maxRecDepth 100000 in
set_option maxHeartbeats 0 in
theorem PySem.Challenge.cw_stylepages_k22_sheets_as_rows_of_rules_holds : PySem.Challenge.rw_stylepages_k22_sheets_as_rows_of_rules.Holds := by
  w_on; refine Zz.Lk22.early0 (fun said => ?_); k_head; (case hw => w_witness2)
  k_fill
  refine L2.walk_of (l := PySem.Challenge.rw_stylepages_k22_sheets_as_rows_of_rules) (n := 63) (k := 13) (x := "_law_script") (CX := fun _ => L2.CX0) (sp := fun w => Ab.toSp _ Zz.Lk22.ap_law) rfl (by decide) rfl ⟨rfl, by decide, by decide⟩ (fun w h Y => PySem.W.kIn_of Y) ?F (fun _ _ a ns hl _ hS => Ab.law_sp hS (fun Post hp => Zz.Lk22.law_pre hl hp)) (fun _ _ _ _ _ h => h)
  case F =>
    intro w mg fa h KX G hmg
    refine' Zz.Lk22.fin_mk KX G hmg ?aWeight ?pgWeight ?hdWeight ?poWeight ?saWeight ?mkWeight ?kcWeight ?haWeight ?hmWeight ?naWeight_marks ?naWeight_kinds ?aSheet ?pgSheet ?hdSheet ?poSheet ?saSheet ?mkSheet ?kcSheet ?haSheet ?hmSheet ?sfSheet ?rdSheet ?gaSheet ?cvSheet_LIMIT ?naSheet_rule_row ?hnO ?htO ?a0 ?l0 ?c0 ?k0 ?i0 ?a1 ?l1 ?c1 ?k1 ?i1 ?a2 ?l2 ?c2 ?k2 ?i2 ?a3 ?l3 ?c3 ?k3 ?i3 ?a4 ?l4 ?c4 ?k4 ?i4 ?a5 ?l5 ?c5 ?k5 ?i5 ?o5 ?a6 ?l6 ?c6 ?k6 ?i6 ?a7 ?l7 ?c7 ?k7 ?i7 ?a8 ?l8 ?c8 ?k8 ?a9 ?l9 ?c9 ?k9 ?a10 ?l10 ?c10 ?k10 ?a11 ?l11 ?c11 ?k11 ?a12 ?l12 ?c12 ?k12 ?a13 ?l13 ?c13 ?k13 ?a14 ?l14 ?c14 ?k14 ?a15 ?l15 ?c15 ?k15 ?a16 ?l16 ?c16 ?k16 ?a17 ?l17 ?c17 ?k17 ?a18 ?l18 ?c18 ?k18 ?a19 ?l19 ?c19 ?k19 ?a20 ?l20 ?c20 ?k20 ?a21 ?l21 ?c21 ?k21 ?a22 ?l22 ?c22 ?k22 ?a23 ?l23 ?c23 ?k23 ?a24 ?l24 ?c24 ?k24 ?a25 ?l25 ?c25 ?k25 ?a26 ?l26 ?c26 ?k26 ?a27 ?l27 ?c27 ?k27 ?a28 ?l28 ?c28 ?k28 ?a29 ?l29 ?c29 ?k29 ?z_ValueError ?z_abs ?z_all ?z_bool ?z_dict ?z_enumerate ?z_int ?z_isinstance ?z_iter ?z_len ?z_list ?z_range ?z_sorted ?z_str ?z_tuple ?a_BadRule ?bs_BadRule ?tx_BadRule ?hd_BadRule ?a_TooLarge ?bs_TooLarge ?tx_TooLarge ?hd_TooLarge ?a_BadPath ?bs_BadPath ?tx_BadPath ?hd_BadPath ?a_StyleError ?bs_StyleError ?tx_StyleError ?hd_StyleError ?x_TooLarge ?kx_TooLarge ?ga_TooLarge ?gg_TooLarge ?cl_TooLarge ?mo_TooLarge ?sv_TooLarge ?sb_TooLarge_BadRule ?sb_TooLarge_TooLarge ?sb_TooLarge_BadPath ?sb_TooLarge_StyleError ?x_BadPath ?kx_BadPath ?ga_BadPath ?gg_BadPath ?cl_BadPath ?mo_BadPath ?sv_BadPath ?sb_BadPath_BadRule ?sb_BadPath_TooLarge ?sb_BadPath_BadPath ?sb_BadPath_StyleError
    (case aWeight => k_is); (case pgWeight => k_is); (case hdWeight => k_is); (case poWeight => k_is); (case saWeight => k_is); (case mkWeight => k_is); (case kcWeight => k_is); (case haWeight => k_is); (case hmWeight => k_is); (case naWeight_marks => k_is); (case naWeight_kinds => k_is); (case aSheet => k_is); (case pgSheet => k_is); (case hdSheet => k_is); (case poSheet => k_is); (case saSheet => k_is); (case mkSheet => k_is); (case kcSheet => k_is); (case haSheet => k_is); (case hmSheet => k_is); (case sfSheet => k_is); (case rdSheet => k_is); (case gaSheet => k_is); (case cvSheet_LIMIT => k_is); (case naSheet_rule_row => k_is); (case hnO => k_is); (case htO => k_is); (case a0 => k_is); (case l0 => k_is); (case c0 => k_is); (case k0 => k_is); (case i0 => k_is); (case a1 => k_is); (case l1 => k_is); (case c1 => k_is); (case k1 => k_is); (case i1 => k_is); (case a2 => k_is); (case l2 => k_is); (case c2 => k_is); (case k2 => k_is); (case i2 => k_is); (case a3 => k_is); (case l3 => k_is); (case c3 => k_is); (case k3 => k_is); (case i3 => k_is); (case a4 => k_is); (case l4 => k_is); (case c4 => k_is); (case k4 => k_is); (case i4 => k_is); (case a5 => k_is); (case l5 => k_is); (case c5 => k_is); (case k5 => k_is); (case i5 => k_is); (case o5 => k_is); (case a6 => k_is); (case l6 => k_is); (case c6 => k_is); (case k6 => k_is); (case i6 => k_is); (case a7 => k_is); (case l7 => k_is); (case c7 => k_is); (case k7 => k_is); (case i7 => k_is); (case a8 => k_is); (case l8 => k_is); (case c8 => k_is); (case k8 => k_is); (case a9 => k_is); (case l9 => k_is); (case c9 => k_is); (case k9 => k_is); (case a10 => k_is); (case l10 => k_is); (case c10 => k_is); (case k10 => k_is); (case a11 => k_is); (case l11 => k_is); (case c11 => k_is); (case k11 => k_is); (case a12 => k_is); (case l12 => k_is); (case c12 => k_is); (case k12 => k_is); (case a13 => k_is); (case l13 => k_is); (case c13 => k_is); (case k13 => k_is); (case a14 => k_is); (case l14 => k_is); (case c14 => k_is); (case k14 => k_is); (case a15 => k_is); (case l15 => k_is); (case c15 => k_is); (case k15 => k_is); (case a16 => k_is); (case l16 => k_is); (case c16 => k_is); (case k16 => k_is); (case a17 => k_is); (case l17 => k_is); (case c17 => k_is); (case k17 => k_is); (case a18 => k_is); (case l18 => k_is); (case c18 => k_is); (case k18 => k_is); (case a19 => k_is); (case l19 => k_is); (case c19 => k_is); (case k19 => k_is); (case a20 => k_is); (case l20 => k_is); (case c20 => k_is); (case k20 => k_is); (case a21 => k_is); (case l21 => k_is); (case c21 => k_is); (case k21 => k_is); (case a22 => k_is); (case l22 => k_is); (case c22 => k_is); (case k22 => k_is); (case a23 => k_is); (case l23 => k_is); (case c23 => k_is); (case k23 => k_is); (case a24 => k_is); (case l24 => k_is); (case c24 => k_is); (case k24 => k_is); (case a25 => k_is); (case l25 => k_is); (case c25 => k_is); (case k25 => k_is); (case a26 => k_is); (case l26 => k_is); (case c26 => k_is); (case k26 => k_is); (case a27 => k_is); (case l27 => k_is); (case c27 => k_is); (case k27 => k_is); (case a28 => k_is); (case l28 => k_is); (case c28 => k_is); (case k28 => k_is); (case a29 => k_is); (case l29 => k_is); (case c29 => k_is); (case k29 => k_is); (case z_ValueError => k_is); (case z_abs => k_is); (case z_all => k_is); (case z_bool => k_is); (case z_dict => k_is); (case z_enumerate => k_is); (case z_int => k_is); (case z_isinstance => k_is); (case z_iter => k_is); (case z_len => k_is); (case z_list => k_is); (case z_range => k_is); (case z_sorted => k_is); (case z_str => k_is); (case z_tuple => k_is); (case a_BadRule => k_is); (case bs_BadRule => k_is); (case tx_BadRule => k_is); (case hd_BadRule => k_is); (case a_TooLarge => k_is); (case bs_TooLarge => k_is); (case tx_TooLarge => k_is); (case hd_TooLarge => k_is); (case a_BadPath => k_is); (case bs_BadPath => k_is); (case tx_BadPath => k_is); (case hd_BadPath => k_is); (case a_StyleError => k_is); (case bs_StyleError => k_is); (case tx_StyleError => k_is); (case hd_StyleError => k_is); (case x_TooLarge => k_exc); (case kx_TooLarge => k_is); (case ga_TooLarge => k_is); (case gg_TooLarge => k_is); (case cl_TooLarge => k_is); (case mo_TooLarge => k_is); (case sv_TooLarge => k_is); (case sb_TooLarge_BadRule => k_is); (case sb_TooLarge_TooLarge => k_is); (case sb_TooLarge_BadPath => k_is); (case sb_TooLarge_StyleError => k_is); (case x_BadPath => k_exc); (case kx_BadPath => k_is); (case ga_BadPath => k_is); (case gg_BadPath => k_is); (case cl_BadPath => k_is); (case mo_BadPath => k_is); (case sv_BadPath => k_is); (case sb_BadPath_BadRule => k_is); (case sb_BadPath_TooLarge => k_is); (case sb_BadPath_BadPath => k_is); (case sb_BadPath_StyleError => k_is)
