import PyProof.Rows.All
import Wide.All
import OpenK.AllK
import Wide.FinOn
import HandS.Base
import HandS.Call
import HandS.List
import HandS.Comp
import HandS.Ends
import HandS.Exc
import HandS.Words
import HandS.WordsList
import HandS.WordsExc
import HandS.Defaults
import HandS.Gcd
import HandS.Wide
import HandS.IsInst
import HandS.HeadHook1
import HandS.Style
import HandS.Deep
import HandS.TupAny
import HandS.Flow
import HandS.Head0
import HandS.Head1
import HandS.Head2
import HandS.HeadEnd
import HandS.HeadHook2
import PySem.Challenge.RW_untaughthelm_k00_numbers_of_every_field
import HandS.Head3
set_option Elab.async false
set_option linter.all false

set_option maxRecDepth 100000
set_option maxHeartbeats 4000000
/-! A layer of my own over HandS: every construct has an executable meaning over plain data (trees for what never changes, numbered cells for what does), and one rule that ties it to the reading. -/
namespace Mi
open PySem PySem.Spec L2

/-! ### plain data -/
inductive AV where
  | non | bl (b : Bool) | int (i : Int) | str (x : Str) | ty (n : String)
  | tup (l : List AV) | lst (l : List AV) | lstR (l : List AV) | obj (c : Str) (ks : List Str) (l : List AV) | ref (i : Nat)
  deriving Inhabited
/-- what a cell holds: a list that changes, an instance that is being made -/
inductive MO where
  | lst (l : List AV) | ins (c : Str) (ks : List Str) (l : List AV)
abbrev AHeap := List (Option MO)
abbrev Env2 := List (Option AV)
structure Exc where
  cls : Str
  ks : List Str
  vs : List AV
inductive Ret (α : Type) where
  | bad | ok (a : α) (h : AHeap) | exc (e : Exc) (h : AHeap)
inductive Fl where
  | nx | rt (v : AV) | bk | ct
inductive RetS where
  | bad | ok (f : Fl) (ρ : Env2) (h : AHeap) | exc (e : Exc) (ρ : Env2) (h : AHeap)
abbrev ME := Env2 → AHeap → Ret AV
abbrev MT := Env2 → AHeap → Ret Bool
abbrev MA := Env2 → AHeap → Ret (List AV)
abbrev MG := AV → Env2 → AHeap → RetS
abbrev MS := Env2 → AHeap → RetS
/-- what a def is worth -/
abbrev Fn := List AV → AHeap → Ret AV

/-! ### how data lies in the heap -/
section
variable (K : PySem.W.Frag) (μ : List Addr) (G : Hp)
mutual
def R : AV → V → Prop
  | .non, v => v = .non
  | .bl b, v => v = .bl b
  | .int i, v => v = .int i
  | .str x, v => v = .str x
  | .ty n, v => v = .ty n
  | .tup l, v => ∃ a vs, v = .ref a ∧ SqT K G a vs ∧ RL l vs
  | .lst l, v => ∃ a vs, v = .ref a ∧ G a = some (.lst vs) ∧ RL l vs
  | .lstR l, v => ∃ a vs, v = .ref a ∧ SqL K G a vs ∧ RL l vs
  | .obj c ks l, v => ∃ a dx vs, v = .ref a ∧ G a = some (.ins (He.ga K c) dx (ks.zip vs)) ∧ ks.length = l.length ∧ RL l vs
  | .ref i, v => ∃ a, μ[i]? = some a ∧ v = .ref a
def RL : List AV → List V → Prop
  | [], vs => vs = []
  | x :: l, vs => ∃ v r, vs = v :: r ∧ R x v ∧ RL l r
end
def RM : MO → Option HO → Prop
  | .lst l, o => ∃ vs, o = some (.lst vs) ∧ RL K μ G l vs
  | .ins c ks l, o => ∃ dx vs, o = some (.ins (He.ga K c) dx (ks.zip vs)) ∧ ks.length = l.length ∧ RL K μ G l vs
end
theorem RL.length {K : PySem.W.Frag} {μ : List Addr} {G : Hp} : ∀ {l : List AV} {vs : List V}, RL K μ G l vs → vs.length = l.length
  | [], vs, h => by
    have h' : vs = [] := h
    rw [h']
    rfl
  | x :: l, vs, h => by
    obtain ⟨v, r, e, _, h2⟩ := (show ∃ v r, vs = v :: r ∧ R K μ G x v ∧ RL K μ G l r from h)
    rw [e, List.length_cons, List.length_cons, RL.length h2]
theorem RL.nil {K : PySem.W.Frag} {μ : List Addr} {G : Hp} : RL K μ G [] [] := rfl
theorem RL.cons {K : PySem.W.Frag} {μ : List Addr} {G : Hp} {x : AV} {l : List AV} {v : V} {vs : List V} (h : R K μ G x v) (h2 : RL K μ G l vs) : RL K μ G (x :: l) (v :: vs) := ⟨v, vs, rfl, h, h2⟩
theorem RL.inv {K : PySem.W.Frag} {μ : List Addr} {G : Hp} {x : AV} {l : List AV} {vs : List V} (h : RL K μ G (x :: l) vs) : ∃ v r, vs = v :: r ∧ R K μ G x v ∧ RL K μ G l r := h
theorem RL.app {K : PySem.W.Frag} {μ : List Addr} {G : Hp} : ∀ {l m : List AV} {vs ws : List V}, RL K μ G l vs → RL K μ G m ws → RL K μ G (l ++ m) (vs ++ ws)
  | [], m, vs, ws, h, h2 => by
    have h' : vs = [] := h
    rw [h']
    exact h2
  | x :: l, m, vs, ws, h, h2 => by
    obtain ⟨v, r, e, h1, h3⟩ := h.inv
    rw [e]
    exact RL.cons h1 (RL.app h3 h2)
theorem RL.get {K : PySem.W.Frag} {μ : List Addr} {G : Hp} : ∀ {l : List AV} {vs : List V} {i : Nat} {x : AV}, RL K μ G l vs → l[i]? = some x → ∃ v, vs[i]? = some v ∧ R K μ G x v
  | [], _, _, _, _, e => by simp at e
  | y :: l, vs, 0, x, h, e => by
    obtain ⟨v, r, e1, h1, h3⟩ := h.inv
    simp at e
    subst e
    rw [e1]
    exact ⟨v, rfl, h1⟩
  | y :: l, vs, i + 1, x, h, e => by
    obtain ⟨v, r, e1, h1, h3⟩ := h.inv
    rw [e1]
    obtain ⟨u, h4, h5⟩ := RL.get (i := i) (x := x) h3 (by simpa using e)
    exact ⟨u, by simpa using h4, h5⟩
theorem RL.getV {K : PySem.W.Frag} {μ : List Addr} {G : Hp} {l : List AV} {vs : List V} {i : Nat} {v : V} (h : RL K μ G l vs) (e : vs[i]? = some v) : ∃ x, l[i]? = some x ∧ R K μ G x v := by
  have hl := RL.length h
  have hi : i < l.length := by
    have := (List.getElem?_eq_some_iff.mp e).1
    omega
  obtain ⟨u, e2, r⟩ := RL.get h (List.getElem?_eq_getElem hi)
  rw [e] at e2
  cases e2
  exact ⟨_, List.getElem?_eq_getElem hi, r⟩
theorem RL.take {K : PySem.W.Frag} {μ : List Addr} {G : Hp} : ∀ {l : List AV} {vs : List V} (n : Nat), RL K μ G l vs → RL K μ G (l.take n) (vs.take n)
  | l, vs, 0, _ => by simp [RL.nil]
  | [], vs, n + 1, h => by
    have h' : vs = [] := h
    rw [h']
    exact RL.nil
  | x :: l, vs, n + 1, h => by
    obtain ⟨v, r, e1, h1, h3⟩ := h.inv
    rw [e1]
    exact RL.cons h1 (RL.take n h3)
theorem RL.drop {K : PySem.W.Frag} {μ : List Addr} {G : Hp} : ∀ {l : List AV} {vs : List V} (n : Nat), RL K μ G l vs → RL K μ G (l.drop n) (vs.drop n)
  | l, vs, 0, h => by simpa using h
  | [], vs, n + 1, h => by
    have h' : vs = [] := h
    rw [h']
    exact RL.nil
  | x :: l, vs, n + 1, h => by
    obtain ⟨v, r, e1, h1, h3⟩ := h.inv
    rw [e1]
    exact RL.drop n h3
theorem RL.set {K : PySem.W.Frag} {μ : List Addr} {G : Hp} {x : AV} {v : V} (hx : R K μ G x v) : ∀ {l : List AV} {vs : List V} (i : Nat), RL K μ G l vs → RL K μ G (l.set i x) (vs.set i v)
  | [], vs, i, h => by
    have h' : vs = [] := h
    rw [h']
    cases i <;> exact RL.nil
  | y :: l, vs, 0, h => by
    obtain ⟨u, r, e1, h1, h3⟩ := h.inv
    rw [e1]
    exact RL.cons hx h3
  | y :: l, vs, i + 1, h => by
    obtain ⟨u, r, e1, h1, h3⟩ := h.inv
    rw [e1]
    exact RL.cons h1 (RL.set hx i h3)
theorem RL.map {K : PySem.W.Frag} {μ : List Addr} {G : Hp} {α : Type} {f : α → AV} {g : α → V} (hf : ∀ a, R K μ G (f a) (g a)) : ∀ l : List α, RL K μ G (l.map f) (l.map g)
  | [] => RL.nil
  | a :: l => RL.cons (hf a) (RL.map hf l)

/-! ### what is known stays known -/
structure Ext (G : Hp) (μ : List Addr) (G' : Hp) (μ' : List Addr) : Prop where
  g : Same G G'
  m : μ <+: μ'
theorem Ext.refl (G : Hp) (μ : List Addr) : Ext G μ G μ := ⟨Same.refl G, List.prefix_rfl⟩
theorem Ext.trans {G G1 G2 : Hp} {μ μ1 μ2 : List Addr} (a : Ext G μ G1 μ1) (b : Ext G1 μ1 G2 μ2) : Ext G μ G2 μ2 := ⟨a.g.trans b.g, a.m.trans b.m⟩
theorem Same.sqt {K : PySem.W.Frag} {G G' : Hp} {a : Addr} {vs : List V} (e : Same G G') (h : SqT K G a vs) : SqT K G' a vs := by
  rcases h with (h | ⟨o, h⟩) | h
  · exact .inl (.inl (e _ _ h))
  · exact .inl (.inr ⟨o, e _ _ h⟩)
  · exact .inr h
theorem pre_get {μ μ' : List Addr} (h : μ <+: μ') {i : Nat} {a : Addr} (e : μ[i]? = some a) : μ'[i]? = some a := by
  obtain ⟨t, rfl⟩ := h
  rw [List.getElem?_append_left (List.getElem?_eq_some_iff.mp e).1]
  exact e
section
variable {K : PySem.W.Frag} {G G' : Hp} {μ μ' : List Addr}
mutual
theorem R.mono (x : Ext G μ G' μ') : ∀ {d : AV} {v : V}, R K μ G d v → R K μ' G' d v
  | .non, _, h => h
  | .bl _, _, h => h
  | .int _, _, h => h
  | .str _, _, h => h
  | .ty _, _, h => h
  | .tup l, v, h => by
    obtain ⟨a, vs, e, s, r⟩ := h
    exact ⟨a, vs, e, Same.sqt x.g s, RL.mono x r⟩
  | .lst l, v, h => by
    obtain ⟨a, vs, e, s, r⟩ := h
    exact ⟨a, vs, e, x.g _ _ s, RL.mono x r⟩
  | .lstR l, v, h => by
    obtain ⟨a, vs, e, s, r⟩ := h
    exact ⟨a, vs, e, x.g.seq s, RL.mono x r⟩
  | .obj c ks l, v, h => by
    obtain ⟨a, dx, vs, e, s, le, r⟩ := h
    exact ⟨a, dx, vs, e, x.g _ _ s, le, RL.mono x r⟩
  | .ref i, v, h => by
    obtain ⟨a, e, h⟩ := h
    exact ⟨a, pre_get x.m e, h⟩
theorem RL.mono (x : Ext G μ G' μ') : ∀ {d : List AV} {v : List V}, RL K μ G d v → RL K μ' G' d v
  | [], _, h => h
  | y :: l, vs, h => by
    obtain ⟨v, r, e, h1, h2⟩ := h
    exact ⟨v, r, e, R.mono x h1, RL.mono x h2⟩
end
theorem RM.mono (x : Ext G μ G' μ') : ∀ {m : MO} {o : Option HO}, RM K μ G m o → RM K μ' G' m o
  | .lst l, o, h => by
    obtain ⟨vs, e, r⟩ := h
    exact ⟨vs, e, RL.mono x r⟩
  | .ins c ks l, o, h => by
    obtain ⟨dx, vs, e, le, r⟩ := h
    exact ⟨dx, vs, e, le, RL.mono x r⟩
theorem RM.ne {m : MO} {o : Option HO} (h : RM K μ G m o) : o ≠ none := by
  cases m with
  | lst l =>
    obtain ⟨vs, e, r⟩ := h
    rw [e]
    exact fun z => nomatch z
  | ins c ks l =>
    obtain ⟨dx, vs, e, le, r⟩ := h
    rw [e]
    exact fun z => nomatch z
end

/-- the heap: what never changes (G), the cells (at μ) -/
structure RelH (K : PySem.W.Frag) (H : Hp) (h : AHeap) (G : Hp) (μ : List Addr) : Prop where
  ex : Same G H
  len : μ.length = h.length
  cont : ∀ (i : Nat) (mo : MO), h[i]? = some (some mo) → ∃ a, μ[i]? = some a ∧ G a = none ∧ RM K μ G mo (H a)
  inj : ∀ (i j : Nat) (a : Addr) (mo mo' : MO), h[i]? = some (some mo) → h[j]? = some (some mo') → μ[i]? = some a → μ[j]? = some a → i = j
def RelS (K : PySem.W.Frag) (σ : St) (ρ : Env2) (G : Hp) (μ : List Addr) : Prop := σ.length = ρ.length ∧ ∀ (i : Nat) (d : AV), ρ[i]? = some (some d) → ∃ v, σ[i]? = some (some v) ∧ R K μ G d v
structure Rel (K : PySem.W.Frag) (σ : St) (H : Hp) (ρ : Env2) (h : AHeap) (G : Hp) (μ : List Addr) : Prop where
  hp : RelH K H h G μ
  sl : RelS K σ ρ G μ
theorem RelS.mono {K : PySem.W.Frag} {σ : St} {ρ : Env2} {G G' : Hp} {μ μ' : List Addr} (x : Ext G μ G' μ') (h : RelS K σ ρ G μ) : RelS K σ ρ G' μ' := ⟨h.1, fun i d e => by
  obtain ⟨v, e1, r⟩ := h.2 i d e
  exact ⟨v, e1, R.mono x r⟩⟩
theorem RelS.set {K : PySem.W.Frag} {σ : St} {ρ : Env2} {G : Hp} {μ : List Addr} (h : RelS K σ ρ G μ) {i : Nat} {d : AV} {v : V} (r : R K μ G d v) : RelS K (σ.set i (some v)) (ρ.set i (some d)) G μ := by
  refine ⟨by rw [List.length_set, List.length_set]; exact h.1, fun j e he => ?_⟩
  by_cases q : i = j
  · subst q
    by_cases hi : i < ρ.length
    · rw [List.getElem?_set_self hi] at he
      cases he
      exact ⟨v, List.getElem?_set_self (by rw [h.1]; exact hi), r⟩
    · rw [List.getElem?_eq_none (by rw [List.length_set]; omega)] at he
      cases he
  · rw [List.getElem?_set_ne q] at he
    obtain ⟨u, e1, r1⟩ := h.2 j e he
    exact ⟨u, by rw [List.getElem?_set_ne q]; exact e1, r1⟩
theorem RelS.unset {K : PySem.W.Frag} {σ : St} {ρ : Env2} {G : Hp} {μ : List Addr} (h : RelS K σ ρ G μ) {i : Nat} : RelS K (σ.set i none) (ρ.set i none) G μ := by
  refine ⟨by rw [List.length_set, List.length_set]; exact h.1, fun j e he => ?_⟩
  by_cases q : i = j
  · subst q
    by_cases hi : i < ρ.length
    · rw [List.getElem?_set_self hi] at he
      cases he
    · rw [List.getElem?_eq_none (by rw [List.length_set]; omega)] at he
      cases he
  · rw [List.getElem?_set_ne q] at he
    obtain ⟨u, e1, r1⟩ := h.2 j e he
    exact ⟨u, by rw [List.getElem?_set_ne q]; exact e1, r1⟩

section
variable {K : PySem.W.Frag} {H : Hp} {h : AHeap} {G : Hp} {μ : List Addr}
/-- what is new to H is new to G -/
theorem RelH.free (r : RelH K H h G μ) {p : Addr} (hp : H p = none) : G p = none := r.ex.free hp
/-- a new object that never changes -/
theorem RelH.grow (r : RelH K H h G μ) {p : Addr} {o : HO} (hp : H p = none) : RelH K (upd H p o) h (upd G p o) μ ∧ Ext G μ (upd G p o) μ := by
  have hg := r.free hp
  have x : Ext G μ (upd G p o) μ := ⟨fun b u e => by rw [upd_ne (ne_of_none e hg)]; exact e, List.prefix_rfl⟩
  refine ⟨⟨fun b u e => ?_, r.len, fun i mo e => ?_, r.inj⟩, x⟩
  · by_cases hb : b = p
    · subst hb
      rw [upd_same] at e ⊢
      exact e
    · rw [upd_ne hb] at e ⊢
      exact r.ex b u e
  · obtain ⟨a, e1, e2, e3⟩ := r.cont i mo e
    have hne : a ≠ p := fun z => RM.ne e3 (by rw [z]; exact hp)
    exact ⟨a, e1, by rw [upd_ne hne]; exact e2, by rw [upd_ne hne]; exact RM.mono x e3⟩
/-- a new object that nobody speaks of -/
theorem RelH.other (r : RelH K H h G μ) {H' : Hp} (k : ∀ b o, H b = some o → H' b = some o) : RelH K H' h G μ :=
  ⟨fun b u e => k b u (r.ex b u e), r.len, fun i mo e => by
    obtain ⟨a, e1, e2, e3⟩ := r.cont i mo e
    refine ⟨a, e1, e2, ?_⟩
    cases q : H a with
    | none => exact absurd q (RM.ne e3)
    | some o =>
      rw [q] at e3
      rw [k a o q]
      exact e3, r.inj⟩
/-- a new cell -/
theorem RelH.cell (r : RelH K H h G μ) {p : Addr} {o : HO} {mo : MO} (hp : H p = none) (hm : RM K (μ ++ [p]) G mo (some o)) : RelH K (upd H p o) (h ++ [some mo]) G (μ ++ [p]) ∧ Ext G μ G (μ ++ [p]) := by
  have hg := r.free hp
  have x : Ext G μ G (μ ++ [p]) := ⟨Same.refl G, List.prefix_append _ _⟩
  refine ⟨⟨fun b u e => ?_, by simp [r.len], fun i m e => ?_, fun i j a m m' e1 e2 e3 e4 => ?_⟩, x⟩
  · rw [upd_ne (ne_of_none e hg)]
    exact r.ex b u e
  · by_cases hi : i < h.length
    · rw [List.getElem?_append_left hi] at e
      obtain ⟨a, e1, e2, e3⟩ := r.cont i m e
      have hne : a ≠ p := fun z => RM.ne e3 (by rw [z]; exact hp)
      exact ⟨a, pre_get x.m e1, e2, by rw [upd_ne hne]; exact RM.mono x e3⟩
    · have hl : i = h.length := by
        have := (List.getElem?_eq_some_iff.mp e).1
        rw [List.length_append, List.length_singleton] at this
        omega
      subst hl
      rw [List.getElem?_append_right (Nat.le_refl _), Nat.sub_self] at e
      cases e
      refine ⟨p, ?_, hg, by rw [upd_same]; exact hm⟩
      rw [← r.len, List.getElem?_append_right (Nat.le_refl _), Nat.sub_self]
      rfl
  · have old : ∀ {i : Nat} {m : MO}, (h ++ [some mo])[i]? = some (some m) → (μ ++ [p])[i]? = some a → i < h.length → ∃ m2, h[i]? = some (some m2) ∧ μ[i]? = some a ∧ a ≠ p := fun {i m} f1 f2 hi => by
      rw [List.getElem?_append_left hi] at f1
      rw [List.getElem?_append_left (by rw [r.len]; exact hi)] at f2
      obtain ⟨a', g1, g2, g3⟩ := r.cont i m f1
      rw [f2] at g1
      cases g1
      exact ⟨m, f1, f2, fun z => RM.ne g3 (by rw [z]; exact hp)⟩
    have new : ∀ {i : Nat} {m : MO}, (h ++ [some mo])[i]? = some (some m) → (μ ++ [p])[i]? = some a → ¬ i < h.length → i = h.length ∧ a = p := fun {i m} f1 f2 hi => by
      have hl : i = h.length := by
        have := (List.getElem?_eq_some_iff.mp f1).1
        rw [List.length_append, List.length_singleton] at this
        omega
      refine ⟨hl, ?_⟩
      rw [hl, ← r.len, List.getElem?_append_right (Nat.le_refl _), Nat.sub_self] at f2
      exact (Option.some.inj f2).symm
    by_cases hi : i < h.length
    · by_cases hj : j < h.length
      · obtain ⟨m1, g1, g2, _⟩ := old e1 e3 hi
        obtain ⟨m2, g3, g4, _⟩ := old e2 e4 hj
        exact r.inj i j a _ _ g1 g3 g2 g4
      · obtain ⟨_, _, _, z⟩ := old e1 e3 hi
        exact absurd (new e2 e4 hj).2 z
    · by_cases hj : j < h.length
      · obtain ⟨_, _, _, z⟩ := old e2 e4 hj
        exact absurd (new e1 e3 hi).2 z
      · rw [(new e1 e3 hi).1, (new e2 e4 hj).1]
/-- a cell is written -/
theorem RelH.write (r : RelH K H h G μ) {i : Nat} {a : Addr} {o : HO} {mo mo' : MO} (e : h[i]? = some (some mo)) (ea : μ[i]? = some a) (hm : RM K μ G mo' (some o)) : RelH K (upd H a o) (h.set i (some mo')) G μ := by
  obtain ⟨a', g1, g2, g3⟩ := r.cont i mo e
  rw [ea] at g1
  cases g1
  have hi : i < h.length := (List.getElem?_eq_some_iff.mp e).1
  have back : ∀ {j : Nat} {m : MO}, (h.set i (some mo'))[j]? = some (some m) → ∃ m2, h[j]? = some (some m2) := fun {j m} q => by
    by_cases hj : i = j
    · rw [← hj]
      exact ⟨mo, e⟩
    · rw [List.getElem?_set_ne hj] at q
      exact ⟨m, q⟩
  refine ⟨fun b u q => ?_, by simp [r.len], fun j m q => ?_, fun j k b m m' q1 q2 q3 q4 => ?_⟩
  · rw [upd_ne (ne_of_none q g2)]
    exact r.ex b u q
  · by_cases hj : i = j
    · subst hj
      rw [List.getElem?_set_self hi] at q
      cases q
      exact ⟨a, ea, g2, by rw [upd_same]; exact hm⟩
    · rw [List.getElem?_set_ne hj] at q
      obtain ⟨b, f1, f2, f3⟩ := r.cont j m q
      refine ⟨b, f1, f2, ?_⟩
      have hne : b ≠ a := fun z => hj (r.inj i j a _ _ e q ea (by rw [← z]; exact f1))
      rw [upd_ne hne]
      exact f3
  · obtain ⟨m1, w1⟩ := back q1
    obtain ⟨m2, w2⟩ := back q2
    exact r.inj j k b _ _ w1 w2 q3 q4
/-- a cell ends: what it holds never changes from now on -/
theorem RelH.freeze (r : RelH K H h G μ) {i : Nat} {a : Addr} {o : HO} {mo : MO} (e : h[i]? = some (some mo)) (ea : μ[i]? = some a) (eo : H a = some o) : RelH K H (h.set i none) (upd G a o) μ ∧ Ext G μ (upd G a o) μ := by
  obtain ⟨a', g1, g2, g3⟩ := r.cont i mo e
  rw [ea] at g1
  cases g1
  have x : Ext G μ (upd G a o) μ := ⟨fun b u q => by rw [upd_ne (ne_of_none q g2)]; exact q, List.prefix_rfl⟩
  have hi : i < h.length := (List.getElem?_eq_some_iff.mp e).1
  have back : ∀ {j : Nat} {m : MO}, (h.set i none)[j]? = some (some m) → i ≠ j ∧ h[j]? = some (some m) := fun {j m} q => by
    by_cases hj : i = j
    · subst hj
      rw [List.getElem?_set_self hi] at q
      cases q
    · rw [List.getElem?_set_ne hj] at q
      exact ⟨hj, q⟩
  refine ⟨⟨fun b u q => ?_, by simp [r.len], fun j m q => ?_, fun j k b m m' q1 q2 q3 q4 => ?_⟩, x⟩
  · by_cases hb : b = a
    · subst hb
      rw [upd_same] at q
      rw [eo]
      exact q
    · rw [upd_ne hb] at q
      exact r.ex b u q
  · obtain ⟨hj, q⟩ := back q
    obtain ⟨b, f1, f2, f3⟩ := r.cont j m q
    have hne : b ≠ a := fun z => hj (r.inj i j a _ _ e q ea (by rw [← z]; exact f1))
    exact ⟨b, f1, by rw [upd_ne hne]; exact f2, RM.mono x f3⟩
  · exact r.inj j k b _ _ (back q1).2 (back q2).2 q3 q4
end

/-! ### the judgements -/
def RExc (K : PySem.W.Frag) (μ : List Addr) (G : Hp) (e : Exc) (d : Option Addr) : Prop := e.ks.length = e.vs.length ∧ (e.ks = [] ∨ ∃ dd vs, d = some dd ∧ G dd = some (.xd (e.ks.zip vs)) ∧ RL K μ G e.vs vs)
/-- what is wanted where an exception leaves -/
abbrev WX2 := Value → Option Addr → St → Hp → Prop
def ExcK (K : PySem.W.Frag) (W : WX2) (e : Exc) (σ : St) (ρ : Env2) (h' : AHeap) (G : Hp) (μ : List Addr) : Prop :=
  ∀ d H' G' μ', Rel K σ H' ρ h' G' μ' → Ext G μ G' μ' → RExc K μ' G' e d → W (.ref (He.ga K e.cls)) d σ H'
def SimE (K : PySem.W.Frag) (W : WX2) (t : TE) (m : ME) : Prop := ∀ σ H ρ h G μ, Rel K σ H ρ h G μ → ∀ Q : VK, match m ρ h with
  | .bad => True
  | .ok d h' => (∀ v H' G' μ', Rel K σ H' ρ h' G' μ' → Ext G μ G' μ' → R K μ' G' d v → Q v H') → t σ H Q
  | .exc e h' => ExcK K W e σ ρ h' G μ → t σ H Q
def SimT (K : PySem.W.Frag) (W : WX2) (t : TT) (m : MT) : Prop := ∀ σ H ρ h G μ, Rel K σ H ρ h G μ → ∀ Q : Bool → Hp → Prop, match m ρ h with
  | .bad => True
  | .ok b h' => (∀ H' G' μ', Rel K σ H' ρ h' G' μ' → Ext G μ G' μ' → Q b H') → t σ H Q
  | .exc e h' => ExcK K W e σ ρ h' G μ → t σ H Q
def SimA (K : PySem.W.Frag) (W : WX2) (t : TA) (m : MA) : Prop := ∀ σ H ρ h G μ, Rel K σ H ρ h G μ → ∀ Q : List V → Hp → Prop, match m ρ h with
  | .bad => True
  | .ok l h' => (∀ vs H' G' μ', Rel K σ H' ρ h' G' μ' → Ext G μ G' μ' → RL K μ' G' l vs → Q vs H') → t σ H Q
  | .exc e h' => ExcK K W e σ ρ h' G μ → t σ H Q
def FlK (K : PySem.W.Frag) (D : Ends) (σ : St) (H : Hp) (G : Hp) (μ : List Addr) : Fl → Prop
  | .nx => D.nx σ H
  | .bk => D.bk σ H
  | .ct => D.ct σ H
  | .rt d => ∀ v, R K μ G d v → D.rt v H
def SimS (K : PySem.W.Frag) (W : WX2) (t : TS) (m : MS) : Prop := ∀ σ H ρ h G μ, Rel K σ H ρ h G μ → ∀ D : Ends, match m ρ h with
  | .bad => True
  | .ok f ρ' h' => (∀ σ' H' G' μ', Rel K σ' H' ρ' h' G' μ' → Ext G μ G' μ' → FlK K D σ' H' G' μ' f) → t D σ H
  | .exc e ρ' h' => (∀ d σ' H' G' μ', Rel K σ' H' ρ' h' G' μ' → Ext G μ G' μ' → RExc K μ' G' e d → W (.ref (He.ga K e.cls)) d σ' H') → t D σ H
/-- a target: it stores a value -/
def SimG (K : PySem.W.Frag) (W : WX2) (t : TG) (m : MG) : Prop := ∀ σ H ρ h G μ, Rel K σ H ρ h G μ → ∀ d v, R K μ G d v → ∀ Q : St → Hp → Prop, match m d ρ h with
  | .bad => True
  | .ok .nx ρ' h' => (∀ σ' H' G' μ', Rel K σ' H' ρ' h' G' μ' → Ext G μ G' μ' → Q σ' H') → t v σ H Q
  | _ => True
/-! the reading that a meaning has by itself -/
def cE (K : PySem.W.Frag) (W : WX2) (m : ME) : TE := fun σ H Q => ∃ ρ h G μ, Rel K σ H ρ h G μ ∧ match m ρ h with
  | .bad => False
  | .ok d h' => ∀ v H' G' μ', Rel K σ H' ρ h' G' μ' → Ext G μ G' μ' → R K μ' G' d v → Q v H'
  | .exc e h' => ExcK K W e σ ρ h' G μ
def cT (K : PySem.W.Frag) (W : WX2) (m : MT) : TT := fun σ H Q => ∃ ρ h G μ, Rel K σ H ρ h G μ ∧ match m ρ h with
  | .bad => False
  | .ok b h' => ∀ H' G' μ', Rel K σ H' ρ h' G' μ' → Ext G μ G' μ' → Q b H'
  | .exc e h' => ExcK K W e σ ρ h' G μ
def cA (K : PySem.W.Frag) (W : WX2) (m : MA) : TA := fun σ H Q => ∃ ρ h G μ, Rel K σ H ρ h G μ ∧ match m ρ h with
  | .bad => False
  | .ok l h' => ∀ vs H' G' μ', Rel K σ H' ρ h' G' μ' → Ext G μ G' μ' → RL K μ' G' l vs → Q vs H'
  | .exc e h' => ExcK K W e σ ρ h' G μ
def cS (K : PySem.W.Frag) (W : WX2) (m : MS) : TS := fun D σ H => ∃ ρ h G μ, Rel K σ H ρ h G μ ∧ match m ρ h with
  | .bad => False
  | .ok f ρ' h' => ∀ σ' H' G' μ', Rel K σ' H' ρ' h' G' μ' → Ext G μ G' μ' → FlK K D σ' H' G' μ' f
  | .exc e ρ' h' => ∀ d σ' H' G' μ', Rel K σ' H' ρ' h' G' μ' → Ext G μ G' μ' → RExc K μ' G' e d → W (.ref (He.ga K e.cls)) d σ' H'
def cG (K : PySem.W.Frag) (m : MG) : TG := fun v σ H Q => ∃ ρ h G μ d, Rel K σ H ρ h G μ ∧ R K μ G d v ∧ match m d ρ h with
  | .ok .nx ρ' h' => ∀ σ' H' G' μ', Rel K σ' H' ρ' h' G' μ' → Ext G μ G' μ' → Q σ' H'
  | _ => False
section
variable {K : PySem.W.Frag} {W : WX2}
theorem sE (m : ME) : SimE K W (cE K W m) m := fun σ H ρ h G μ rel Q => by
  cases e : m ρ h with
  | bad => trivial
  | ok d h' =>
    intro k
    exact ⟨ρ, h, G, μ, rel, by rw [e]; exact k⟩
  | exc x h' =>
    intro k
    exact ⟨ρ, h, G, μ, rel, by rw [e]; exact k⟩
theorem sT (m : MT) : SimT K W (cT K W m) m := fun σ H ρ h G μ rel Q => by
  cases e : m ρ h with
  | bad => trivial
  | ok d h' =>
    intro k
    exact ⟨ρ, h, G, μ, rel, by rw [e]; exact k⟩
  | exc x h' =>
    intro k
    exact ⟨ρ, h, G, μ, rel, by rw [e]; exact k⟩
theorem sA (m : MA) : SimA K W (cA K W m) m := fun σ H ρ h G μ rel Q => by
  cases e : m ρ h with
  | bad => trivial
  | ok d h' =>
    intro k
    exact ⟨ρ, h, G, μ, rel, by rw [e]; exact k⟩
  | exc x h' =>
    intro k
    exact ⟨ρ, h, G, μ, rel, by rw [e]; exact k⟩
theorem sS (m : MS) : SimS K W (cS K W m) m := fun σ H ρ h G μ rel D => by
  cases e : m ρ h with
  | bad => trivial
  | ok f ρ' h' =>
    intro k
    exact ⟨ρ, h, G, μ, rel, by rw [e]; exact k⟩
  | exc x ρ' h' =>
    intro k
    exact ⟨ρ, h, G, μ, rel, by rw [e]; exact k⟩
theorem sG (m : MG) : SimG K W (cG K m) m := fun σ H ρ h G μ rel d v r Q => by
  cases e : m d ρ h with
  | bad => trivial
  | exc x ρ' h' => trivial
  | ok f ρ' h' =>
    cases f with
    | nx =>
      intro k
      exact ⟨ρ, h, G, μ, d, rel, r, by rw [e]; exact k⟩
    | _ => trivial
theorem SimE.to {t : TE} {m : ME} (s : SimE K W t m) (σ : L2.St) (H : Hp) (Q : VK) (c : cE K W m σ H Q) : t σ H Q := by
  obtain ⟨ρ, h, G, μ, rel, k⟩ := c
  have z := s σ H ρ h G μ rel Q
  revert k z
  cases m ρ h with
  | bad => exact fun k => k.elim
  | ok d h' => exact fun k z => z k
  | exc x h' => exact fun k z => z k
theorem SimT.to {t : TT} {m : MT} (s : SimT K W t m) (σ : L2.St) (H : Hp) (Q : Bool → Hp → Prop) (c : cT K W m σ H Q) : t σ H Q := by
  obtain ⟨ρ, h, G, μ, rel, k⟩ := c
  have z := s σ H ρ h G μ rel Q
  revert k z
  cases m ρ h with
  | bad => exact fun k => k.elim
  | ok d h' => exact fun k z => z k
  | exc x h' => exact fun k z => z k
theorem SimA.to {t : TA} {m : MA} (s : SimA K W t m) (σ : L2.St) (H : Hp) (Q : List V → Hp → Prop) (c : cA K W m σ H Q) : t σ H Q := by
  obtain ⟨ρ, h, G, μ, rel, k⟩ := c
  have z := s σ H ρ h G μ rel Q
  revert k z
  cases m ρ h with
  | bad => exact fun k => k.elim
  | ok d h' => exact fun k z => z k
  | exc x h' => exact fun k z => z k
theorem SimS.to {t : TS} {m : MS} (s : SimS K W t m) (D : Ends) (σ : L2.St) (H : Hp) (c : cS K W m D σ H) : t D σ H := by
  obtain ⟨ρ, h, G, μ, rel, k⟩ := c
  have z := s σ H ρ h G μ rel D
  revert k z
  cases m ρ h with
  | bad => exact fun k => k.elim
  | ok f ρ' h' => exact fun k z => z k
  | exc x ρ' h' => exact fun k z => z k
theorem SimG.to {t : TG} {m : MG} (s : SimG K W t m) (v : V) (σ : L2.St) (H : Hp) (Q : L2.St → Hp → Prop) (c : cG K m v σ H Q) : t v σ H Q := by
  obtain ⟨ρ, h, G, μ, d, rel, r, k⟩ := c
  have z := s σ H ρ h G μ rel d v r Q
  revert k z
  cases m d ρ h with
  | bad => exact fun k => k.elim
  | exc x ρ' h' => exact fun k => k.elim
  | ok f ρ' h' =>
    cases f with
    | nx => exact fun k z => z k
    | _ => exact fun k => k.elim
end
structure PEm (X : Cx) (W : WX2) (e : Expr) (m : ME) : Prop where
  p : PE X e (cE X.K W m)
structure PTm (X : Cx) (W : WX2) (e : Expr) (m : MT) : Prop where
  p : PT X e (cT X.K W m)
structure PWm (X : Cx) (W : WX2) (e : Expr) (m : MT) : Prop where
  p : PW X e (cT X.K W m)
structure PAm (X : Cx) (W : WX2) (es : List Expr) (m : MA) : Prop where
  p : PA X es (cA X.K W m)
structure PSm (X : Cx) (W : WX2) (st : Stmt) (m : MS) : Prop where
  p : PS X st (cS X.K W m)
structure PSsm (X : Cx) (W : WX2) (sts : List Stmt) (m : MS) : Prop where
  p : PSs X sts (cS X.K W m)
structure PGm (X : Cx) (e : Expr) (m : MG) : Prop where
  p : PG X e (cG X.K m)
section
variable {X : Cx} {W : WX2} {e : Expr} {es : List Expr} {st : Stmt} {sts : List Stmt}
theorem PEm.of {t : TE} {m : ME} (p : PE X e t) (s : SimE X.K W t m) : PEm X W e m := ⟨⟨fun pins s' σ H Q I c => p.run pins s' σ H Q I (s.to σ H Q c)⟩⟩
theorem PTm.of {t : TT} {m : MT} (p : PT X e t) (s : SimT X.K W t m) : PTm X W e m := ⟨⟨fun pins s' σ H Q I c => p.run pins s' σ H Q I (s.to σ H Q c)⟩⟩
theorem PWm.of {t : TT} {m : MT} (p : PW X e t) (s : SimT X.K W t m) : PWm X W e m := ⟨⟨fun wh pins s' σ H Q I c => p.run wh pins s' σ H Q I (s.to σ H Q c)⟩⟩
theorem PAm.of {t : TA} {m : MA} (p : PA X es t) (s : SimA X.K W t m) : PAm X W es m := ⟨⟨fun pos pins s' σ H Q I c => p.run pos pins s' σ H Q I (s.to σ H Q c)⟩⟩
theorem PSm.of {t : TS} {m : MS} (p : PS X st t) (s : SimS X.K W t m) : PSm X W st m := ⟨⟨fun pins s' σ H D I c => p.run pins s' σ H D I (s.to D σ H c)⟩⟩
theorem PSsm.of {t : TS} {m : MS} (p : PSs X sts t) (s : SimS X.K W t m) : PSsm X W sts m := ⟨⟨fun pins s' σ H D I c => p.run pins s' σ H D I (s.to D σ H c)⟩⟩
theorem PGm.of {t : TG} {m : MG} (p : PG X e t) (s : SimG X.K W t m) : PGm X e m := ⟨⟨fun pins s' σ H v u Q I r c => p.run pins s' σ H v u Q I r (s.to v σ H Q c)⟩⟩
theorem PEm.x {m : ME} (h : PEm X W e m) : ∃ t, PE X e t ∧ SimE X.K W t m := ⟨_, h.p, sE m⟩
theorem PTm.x {m : MT} (h : PTm X W e m) : ∃ t, PT X e t ∧ SimT X.K W t m := ⟨_, h.p, sT m⟩
theorem PWm.x {m : MT} (h : PWm X W e m) : ∃ t, PW X e t ∧ SimT X.K W t m := ⟨_, h.p, sT m⟩
theorem PAm.x {m : MA} (h : PAm X W es m) : ∃ t, PA X es t ∧ SimA X.K W t m := ⟨_, h.p, sA m⟩
theorem PSm.x {m : MS} (h : PSm X W st m) : ∃ t, PS X st t ∧ SimS X.K W t m := ⟨_, h.p, sS m⟩
theorem PSsm.x {m : MS} (h : PSsm X W sts m) : ∃ t, PSs X sts t ∧ SimS X.K W t m := ⟨_, h.p, sS m⟩
theorem PGm.x {m : MG} (h : PGm X e m) : ∃ t, PG X e t ∧ SimG X.K W t m := ⟨_, h.p, sG m⟩
end
end Mi

set_option maxRecDepth 100000
set_option maxHeartbeats 4000000
/-! Expressions. -/
namespace Mi
open PySem PySem.Spec L2

/-! ### meanings -/
def mVar (i : Nat) : ME := fun ρ h => match ρ[i]? with
  | some (some d) => .ok d h
  | _ => .bad
def mC (d : AV) : ME := fun _ h => .ok d h
abbrev F2 := AV → AV → AHeap → Option AV
abbrev F1 := AV → AHeap → Option AV
def mOp (f : F2) (a b : ME) : ME := fun ρ h => match a ρ h with
  | .bad => .bad
  | .exc e h1 => .exc e h1
  | .ok x h1 => match b ρ h1 with
    | .bad => .bad
    | .exc e h2 => .exc e h2
    | .ok y h2 => match f x y h2 with
      | none => .bad
      | some z => .ok z h2
def mUn (f : F1) (a : ME) : ME := fun ρ h => match a ρ h with
  | .bad => .bad
  | .exc e h1 => .exc e h1
  | .ok x h1 => match f x h1 with
    | none => .bad
    | some z => .ok z h1
/-- a value that is a bool, as a test -/
def mTst (a : ME) : MT := fun ρ h => match a ρ h with
  | .bad => .bad
  | .exc e h1 => .exc e h1
  | .ok (.bl b) h1 => .ok b h1
  | .ok _ _ => .bad
def mIf (t : MT) (a b : ME) : ME := fun ρ h => match t ρ h with
  | .bad => .bad
  | .exc e h1 => .exc e h1
  | .ok c h1 => if c = true then a ρ h1 else b ρ h1
def mAndV (a b : ME) : ME := fun ρ h => match a ρ h with
  | .bad => .bad
  | .exc e h1 => .exc e h1
  | .ok (.bl c) h1 => if c = true then b ρ h1 else .ok (.bl false) h1
  | .ok _ _ => .bad
def mOrV (a b : ME) : ME := fun ρ h => match a ρ h with
  | .bad => .bad
  | .exc e h1 => .exc e h1
  | .ok (.bl c) h1 => if c = true then .ok (.bl true) h1 else b ρ h1
  | .ok _ _ => .bad
def mNotV (a : ME) : ME := fun ρ h => match a ρ h with
  | .bad => .bad
  | .exc e h1 => .exc e h1
  | .ok (.bl c) h1 => .ok (.bl (!c)) h1
  | .ok _ _ => .bad
def mAnd (a b : MT) : MT := fun ρ h => match a ρ h with
  | .bad => .bad
  | .exc e h1 => .exc e h1
  | .ok c h1 => if c = true then b ρ h1 else .ok false h1
def mOr (a b : MT) : MT := fun ρ h => match a ρ h with
  | .bad => .bad
  | .exc e h1 => .exc e h1
  | .ok c h1 => if c = true then .ok true h1 else b ρ h1
def mNot (a : MT) : MT := fun ρ h => match a ρ h with
  | .bad => .bad
  | .exc e h1 => .exc e h1
  | .ok c h1 => .ok (!c) h1
def mNil : MA := fun _ h => .ok [] h
def mCons (a : ME) (r : MA) : MA := fun ρ h => match a ρ h with
  | .bad => .bad
  | .exc e h1 => .exc e h1
  | .ok x h1 => match r ρ h1 with
    | .bad => .bad
    | .exc e h2 => .exc e h2
    | .ok l h2 => .ok (x :: l) h2
/-- a written tuple; a written list that never changes; one that changes -/
def mTup (a : MA) : ME := fun ρ h => match a ρ h with
  | .bad => .bad
  | .exc e h1 => .exc e h1
  | .ok l h1 => if l.length ≤ sizeLine then .ok (.tup l) h1 else .bad
def mLst (a : MA) : ME := fun ρ h => match a ρ h with
  | .bad => .bad
  | .exc e h1 => .exc e h1
  | .ok l h1 => if l.length ≤ sizeLine then .ok (.lst l) h1 else .bad
def mLstC (a : MA) : ME := fun ρ h => match a ρ h with
  | .bad => .bad
  | .exc e h1 => .exc e h1
  | .ok l h1 => if l.length ≤ sizeLine then .ok (.ref h1.length) (h1 ++ [some (.lst l)]) else .bad

/-! ### moving along -/
section
variable {K : PySem.W.Frag} {W : WX2} {σ : St} {ρ : Env2} {h h' : AHeap} {G G' : Hp} {μ μ' : List Addr} {e : Exc}
theorem ExcK.mono (x : Ext G μ G' μ') (k : ExcK K W e σ ρ h G μ) : ExcK K W e σ ρ h G' μ' := fun d H' G2 μ2 r y q => k d H' G2 μ2 r (x.trans y) q
end

/-! ### rules on values -/
/-- a two-place operation -/
def SimR (K : PySem.W.Frag) (r : R2) (f : F2) : Prop := ∀ H h G μ, RelH K H h G μ → ∀ x y v u, R K μ G x v → R K μ G y u → ∀ Q : VK, ∀ z, f x y h = some z → (∀ w H' G', RelH K H' h G' μ → Ext G μ G' μ → R K μ G' z w → Q w H') → r v u H Q
def SimU (K : PySem.W.Frag) (r : V → Hp → VK → Prop) (f : F1) : Prop := ∀ H h G μ, RelH K H h G μ → ∀ x v, R K μ G x v → ∀ Q : VK, ∀ z, f x h = some z → (∀ w H' G', RelH K H' h G' μ → Ext G μ G' μ → R K μ G' z w → Q w H') → r v H Q
section
variable {K : PySem.W.Frag} {W : WX2} {ta tb : TE} {a b : ME} {tt tu : TT} {m n : MT} {r : R2} {f : F2} {l : TA} {q : MA}
theorem sim_var {i : Nat} : SimE K W (tVar i) (mVar i) := fun σ H ρ h G μ rel Q => by
  unfold mVar
  cases e : ρ[i]? with
  | none => trivial
  | some o =>
    cases o with
    | none => trivial
    | some d =>
      intro k
      obtain ⟨v, e1, r1⟩ := rel.sl.2 i _ e
      exact ⟨v, e1, k v H G μ rel (Ext.refl _ _) r1⟩
theorem sim_c {d : AV} {v : V} (hr : ∀ μ G, R K μ G d v) : SimE K W (tC v) (mC d) := fun σ H ρ h G μ rel Q k => k v H G μ rel (Ext.refl _ _) (hr μ G)
theorem sim_op (ha : SimE K W ta a) (hb : SimE K W tb b) (hr : SimR K r f) : SimE K W (tOp r ta tb) (mOp f a b) := fun σ H ρ h G μ rel Q => by
  unfold mOp
  have A := ha σ H ρ h G μ rel
  cases ea : a ρ h with
  | bad => trivial
  | exc e h1 =>
    rw [ea] at A
    exact A _
  | ok x h1 =>
    rw [ea] at A
    dsimp only
    cases eb : b ρ h1 with
    | bad => trivial
    | exc e h2 =>
      intro k
      refine A _ fun v H1 G1 μ1 r1 x1 rv => ?_
      have B := hb σ H1 ρ h1 G1 μ1 r1 (fun y H2 => r v y H2 Q)
      rw [eb] at B
      exact B (k.mono x1)
    | ok y h2 =>
      dsimp only
      cases ez : f x y h2 with
      | none => trivial
      | some z =>
        intro k
        refine A _ fun v H1 G1 μ1 r1 x1 rv => ?_
        have B := hb σ H1 ρ h1 G1 μ1 r1 (fun y H2 => r v y H2 Q)
        rw [eb] at B
        refine B fun u H2 G2 μ2 r2 x2 ru => ?_
        exact hr H2 h2 G2 μ2 r2.hp x y v u (R.mono x2 rv) ru Q z ez fun w H3 G3 r3 x3 rw' => k w H3 G3 μ2 ⟨r3, r2.sl.mono x3⟩ ((x1.trans x2).trans x3) rw'
theorem sim_un {r : V → Hp → VK → Prop} {f : F1} (ha : SimE K W ta a) (hr : SimU K r f) : SimE K W (tUn r ta) (mUn f a) := fun σ H ρ h G μ rel Q => by
  unfold mUn
  have A := ha σ H ρ h G μ rel
  cases ea : a ρ h with
  | bad => trivial
  | exc e h1 =>
    rw [ea] at A
    exact A _
  | ok x h1 =>
    rw [ea] at A
    dsimp only
    cases ez : f x h1 with
    | none => trivial
    | some z =>
      intro k
      refine A _ fun v H1 G1 μ1 r1 x1 rv => ?_
      exact hr H1 h1 G1 μ1 r1.hp x v rv Q z ez fun w H3 G3 r3 x3 rw' => k w H3 G3 μ1 ⟨r3, r1.sl.mono x3⟩ (x1.trans x3) rw'
/-- a test from a value -/
theorem sim_tst (ha : SimE K W ta a) : SimT K W (tTest ta) (mTst a) := fun σ H ρ h G μ rel Q => by
  unfold mTst
  have A := ha σ H ρ h G μ rel
  cases ea : a ρ h with
  | bad => trivial
  | exc e h1 =>
    rw [ea] at A
    exact A _
  | ok x h1 =>
    rw [ea] at A
    cases x with
    | bl c =>
      intro k
      exact A _ fun v H1 G1 μ1 r1 x1 rv => ⟨c, rv, k H1 G1 μ1 r1 x1⟩
    | _ => trivial
theorem sim_if (ht : SimT K W tt m) (ha : SimE K W ta a) (hb : SimE K W tb b) : SimE K W (tIf tt ta tb) (mIf m a b) := fun σ H ρ h G μ rel Q => by
  unfold mIf
  have A := ht σ H ρ h G μ rel
  cases ea : m ρ h with
  | bad => trivial
  | exc e h1 =>
    rw [ea] at A
    exact A _
  | ok c h1 =>
    rw [ea] at A
    dsimp only
    cases c with
    | true =>
      rw [if_pos rfl]
      cases eb : a ρ h1 with
      | bad => trivial
      | exc e h2 =>
        intro k
        refine A _ fun H1 G1 μ1 r1 x1 => ?_
        have B := ha σ H1 ρ h1 G1 μ1 r1 Q
        rw [eb] at B
        exact B (k.mono x1)
      | ok y h2 =>
        intro k
        refine A _ fun H1 G1 μ1 r1 x1 => ?_
        have B := ha σ H1 ρ h1 G1 μ1 r1 Q
        rw [eb] at B
        exact B fun u H2 G2 μ2 r2 x2 ru => k u H2 G2 μ2 r2 (x1.trans x2) ru
    | false =>
      rw [if_neg Bool.false_ne_true]
      cases eb : b ρ h1 with
      | bad => trivial
      | exc e h2 =>
        intro k
        refine A _ fun H1 G1 μ1 r1 x1 => ?_
        have B := hb σ H1 ρ h1 G1 μ1 r1 Q
        rw [eb] at B
        exact B (k.mono x1)
      | ok y h2 =>
        intro k
        refine A _ fun H1 G1 μ1 r1 x1 => ?_
        have B := hb σ H1 ρ h1 G1 μ1 r1 Q
        rw [eb] at B
        exact B fun u H2 G2 μ2 r2 x2 ru => k u H2 G2 μ2 r2 (x1.trans x2) ru
theorem sim_and (ht : SimT K W tt m) (hu : SimT K W tu n) : SimT K W (tAnd tt tu) (mAnd m n) := fun σ H ρ h G μ rel Q => by
  unfold mAnd
  have A := ht σ H ρ h G μ rel
  cases ea : m ρ h with
  | bad => trivial
  | exc e h1 =>
    rw [ea] at A
    exact A _
  | ok c h1 =>
    rw [ea] at A
    dsimp only
    cases c with
    | true =>
      rw [if_pos rfl]
      cases eb : n ρ h1 with
      | bad => trivial
      | exc e h2 =>
        intro k
        refine A _ fun H1 G1 μ1 r1 x1 => ?_
        have B := hu σ H1 ρ h1 G1 μ1 r1 Q
        rw [eb] at B
        exact B (k.mono x1)
      | ok y h2 =>
        intro k
        refine A _ fun H1 G1 μ1 r1 x1 => ?_
        have B := hu σ H1 ρ h1 G1 μ1 r1 Q
        rw [eb] at B
        exact B fun H2 G2 μ2 r2 x2 => k H2 G2 μ2 r2 (x1.trans x2)
    | false =>
      rw [if_neg Bool.false_ne_true]
      intro k
      exact A _ fun H1 G1 μ1 r1 x1 => k H1 G1 μ1 r1 x1
theorem sim_or (ht : SimT K W tt m) (hu : SimT K W tu n) : SimT K W (tOr tt tu) (mOr m n) := fun σ H ρ h G μ rel Q => by
  unfold mOr
  have A := ht σ H ρ h G μ rel
  cases ea : m ρ h with
  | bad => trivial
  | exc e h1 =>
    rw [ea] at A
    exact A _
  | ok c h1 =>
    rw [ea] at A
    dsimp only
    cases c with
    | false =>
      rw [if_neg Bool.false_ne_true]
      cases eb : n ρ h1 with
      | bad => trivial
      | exc e h2 =>
        intro k
        refine A _ fun H1 G1 μ1 r1 x1 => ?_
        have B := hu σ H1 ρ h1 G1 μ1 r1 Q
        rw [eb] at B
        exact B (k.mono x1)
      | ok y h2 =>
        intro k
        refine A _ fun H1 G1 μ1 r1 x1 => ?_
        have B := hu σ H1 ρ h1 G1 μ1 r1 Q
        rw [eb] at B
        exact B fun H2 G2 μ2 r2 x2 => k H2 G2 μ2 r2 (x1.trans x2)
    | true =>
      rw [if_pos rfl]
      intro k
      exact A _ fun H1 G1 μ1 r1 x1 => k H1 G1 μ1 r1 x1
theorem sim_not (ht : SimT K W tt m) : SimT K W (tNot tt) (mNot m) := fun σ H ρ h G μ rel Q => by
  unfold mNot
  have A := ht σ H ρ h G μ rel
  cases ea : m ρ h with
  | bad => trivial
  | exc e h1 =>
    rw [ea] at A
    exact A _
  | ok c h1 =>
    rw [ea] at A
    intro k
    exact A _ fun H1 G1 μ1 r1 x1 => k H1 G1 μ1 r1 x1
theorem sim_andV (ha : SimE K W ta a) (hb : SimE K W tb b) : SimE K W (tAndV ta tb) (mAndV a b) := fun σ H ρ h G μ rel Q => by
  unfold mAndV
  have A := ha σ H ρ h G μ rel
  cases ea : a ρ h with
  | bad => trivial
  | exc e h1 =>
    rw [ea] at A
    exact A _
  | ok x h1 =>
    rw [ea] at A
    cases x with
    | bl c =>
      dsimp only
      cases c with
      | true =>
        rw [if_pos rfl]
        cases eb : b ρ h1 with
        | bad => trivial
        | exc e h2 =>
          intro k
          refine A _ fun v H1 G1 μ1 r1 x1 rv => ⟨true, rv, ?_⟩
          have B := hb σ H1 ρ h1 G1 μ1 r1 Q
          rw [eb] at B
          exact B (k.mono x1)
        | ok y h2 =>
          intro k
          refine A _ fun v H1 G1 μ1 r1 x1 rv => ⟨true, rv, ?_⟩
          have B := hb σ H1 ρ h1 G1 μ1 r1 Q
          rw [eb] at B
          exact B fun u H2 G2 μ2 r2 x2 ru => k u H2 G2 μ2 r2 (x1.trans x2) ru
      | false =>
        rw [if_neg Bool.false_ne_true]
        intro k
        exact A _ fun v H1 G1 μ1 r1 x1 rv => ⟨false, rv, k _ H1 G1 μ1 r1 x1 rfl⟩
    | _ => trivial
theorem sim_orV (ha : SimE K W ta a) (hb : SimE K W tb b) : SimE K W (tOrV ta tb) (mOrV a b) := fun σ H ρ h G μ rel Q => by
  unfold mOrV
  have A := ha σ H ρ h G μ rel
  cases ea : a ρ h with
  | bad => trivial
  | exc e h1 =>
    rw [ea] at A
    exact A _
  | ok x h1 =>
    rw [ea] at A
    cases x with
    | bl c =>
      dsimp only
      cases c with
      | false =>
        rw [if_neg Bool.false_ne_true]
        cases eb : b ρ h1 with
        | bad => trivial
        | exc e h2 =>
          intro k
          refine A _ fun v H1 G1 μ1 r1 x1 rv => ⟨false, rv, ?_⟩
          have B := hb σ H1 ρ h1 G1 μ1 r1 Q
          rw [eb] at B
          exact B (k.mono x1)
        | ok y h2 =>
          intro k
          refine A _ fun v H1 G1 μ1 r1 x1 rv => ⟨false, rv, ?_⟩
          have B := hb σ H1 ρ h1 G1 μ1 r1 Q
          rw [eb] at B
          exact B fun u H2 G2 μ2 r2 x2 ru => k u H2 G2 μ2 r2 (x1.trans x2) ru
      | true =>
        rw [if_pos rfl]
        intro k
        exact A _ fun v H1 G1 μ1 r1 x1 rv => ⟨true, rv, k _ H1 G1 μ1 r1 x1 rfl⟩
    | _ => trivial
theorem sim_notV (ha : SimE K W ta a) : SimE K W (tNotV ta) (mNotV a) := fun σ H ρ h G μ rel Q => by
  unfold mNotV
  have A := ha σ H ρ h G μ rel
  cases ea : a ρ h with
  | bad => trivial
  | exc e h1 =>
    rw [ea] at A
    exact A _
  | ok x h1 =>
    rw [ea] at A
    cases x with
    | bl c =>
      intro k
      exact A _ fun v H1 G1 μ1 r1 x1 rv => ⟨c, rv, k _ H1 G1 μ1 r1 x1 rfl⟩
    | _ => trivial
theorem sim_nil : SimA K W tNil mNil := fun σ H ρ h G μ rel Q k => k [] H G μ rel (Ext.refl _ _) rfl
theorem sim_cons (ha : SimE K W ta a) (hl : SimA K W l q) : SimA K W (tCons ta l) (mCons a q) := fun σ H ρ h G μ rel Q => by
  unfold mCons
  have A := ha σ H ρ h G μ rel
  cases ea : a ρ h with
  | bad => trivial
  | exc e h1 =>
    rw [ea] at A
    exact A _
  | ok x h1 =>
    rw [ea] at A
    dsimp only
    cases eb : q ρ h1 with
    | bad => trivial
    | exc e h2 =>
      intro k
      refine A _ fun v H1 G1 μ1 r1 x1 rv => ?_
      have B := hl σ H1 ρ h1 G1 μ1 r1 (fun vs H2 => Q (v :: vs) H2)
      rw [eb] at B
      exact B (k.mono x1)
    | ok y h2 =>
      intro k
      refine A _ fun v H1 G1 μ1 r1 x1 rv => ?_
      have B := hl σ H1 ρ h1 G1 μ1 r1 (fun vs H2 => Q (v :: vs) H2)
      rw [eb] at B
      exact B fun vs H2 G2 μ2 r2 x2 rs => k _ H2 G2 μ2 r2 (x1.trans x2) (RL.cons (R.mono x2 rv) rs)
theorem sim_tup (hl : SimA K W l q) : SimE K W (tTup l) (mTup q) := fun σ H ρ h G μ rel Q => by
  unfold mTup
  have A := hl σ H ρ h G μ rel
  cases ea : q ρ h with
  | bad => trivial
  | exc e h1 =>
    rw [ea] at A
    exact A _
  | ok x h1 =>
    rw [ea] at A
    dsimp only
    by_cases hz : x.length ≤ sizeLine
    · rw [if_pos hz]
      intro k
      refine A _ fun vs H1 G1 μ1 r1 x1 rs => ⟨by rw [rs.length]; exact hz, fun p hp => ?_⟩
      obtain ⟨g, y⟩ := r1.hp.grow (o := .tup vs) hp
      exact k _ _ _ μ1 ⟨g, r1.sl.mono y⟩ (x1.trans y) ⟨p, vs, rfl, SqT.of upd_same, RL.mono y rs⟩
    · rw [if_neg hz]
      trivial
theorem sim_lst (hl : SimA K W l q) : SimE K W (tLst l) (mLst q) := fun σ H ρ h G μ rel Q => by
  unfold mLst
  have A := hl σ H ρ h G μ rel
  cases ea : q ρ h with
  | bad => trivial
  | exc e h1 =>
    rw [ea] at A
    exact A _
  | ok x h1 =>
    rw [ea] at A
    dsimp only
    by_cases hz : x.length ≤ sizeLine
    · rw [if_pos hz]
      intro k
      refine A _ fun vs H1 G1 μ1 r1 x1 rs => ⟨by rw [rs.length]; exact hz, fun p hp => ?_⟩
      obtain ⟨g, y⟩ := r1.hp.grow (o := .lst vs) hp
      exact k _ _ _ μ1 ⟨g, r1.sl.mono y⟩ (x1.trans y) ⟨p, vs, rfl, upd_same, RL.mono y rs⟩
    · rw [if_neg hz]
      trivial
theorem sim_lstC (hl : SimA K W l q) : SimE K W (tLst l) (mLstC q) := fun σ H ρ h G μ rel Q => by
  unfold mLstC
  have A := hl σ H ρ h G μ rel
  cases ea : q ρ h with
  | bad => trivial
  | exc e h1 =>
    rw [ea] at A
    exact A _
  | ok x h1 =>
    rw [ea] at A
    dsimp only
    by_cases hz : x.length ≤ sizeLine
    · rw [if_pos hz]
      intro k
      refine A _ fun vs H1 G1 μ1 r1 x1 rs => ⟨by rw [rs.length]; exact hz, fun p hp => ?_⟩
      have x2 : Ext G1 μ1 G1 (μ1 ++ [p]) := ⟨Same.refl _, List.prefix_append _ _⟩
      obtain ⟨g, y⟩ := r1.hp.cell (o := .lst vs) (mo := .lst x) hp ⟨vs, rfl, RL.mono x2 rs⟩
      refine k _ _ _ _ ⟨g, r1.sl.mono y⟩ (x1.trans y) ⟨p, ?_, rfl⟩
      rw [← r1.hp.len, List.getElem?_append_right (Nat.le_refl _), Nat.sub_self]
      rfl
    · rw [if_neg hz]
      trivial
end

/-! ### the rules -/
section
variable {X : Cx} {W : WX2} {a b c : Expr} {ma mb mc : ME} {pos : Pos} {es rest : List Expr} {mt mu : MT}
theorem em_var (i : Nat) {x : Str} (hN : X.N[i]? = some x := by rfl) (hv : Vis X.env.scope x := by first | exact Or.inl rfl | exact Or.inr (Or.inl rfl) | exact Or.inr (Or.inr rfl)) (hd : (x == ("__debug__" : Str)) = false := by decide)
    (hcd : (x == ("__classdict__" : Str)) = false := by decide) : PEm X W (.Name x pos) (mVar i) := .of (pe_var hN hv hd hcd) (sim_var)
theorem em_int {i : Int} {j} : PEm X W (.Constant (.int i) j pos) (mC (.int i)) := .of (pe_int) (sim_c fun _ _ => rfl)
theorem em_bl {i : Bool} {j} : PEm X W (.Constant (.bool i) j pos) (mC (.bl i)) := .of (pe_bl) (sim_c fun _ _ => rfl)
theorem em_non {j} : PEm X W (.Constant .none j pos) (mC .non) := .of (pe_non) (sim_c fun _ _ => rfl)
theorem em_str {i : Str} {j} : PEm X W (.Constant (.str i) j pos) (mC (.str i)) := .of (pe_str) (sim_c fun _ _ => rfl)
theorem em_op {op : Operator} {r : R2} {f : F2} (ho : OpR X (binaryOp op) r) (hs : SimR X.K r f) (ha : PEm X W a ma) (hb : PEm X W b mb) : PEm X W (.BinOp a op b pos) (mOp f ma mb) := by
  obtain ⟨ta, pa, sa⟩ := ha.x
  obtain ⟨tb, pb, sb⟩ := hb.x
  exact .of (pe_op ho pa pb) (sim_op sa sb hs)
theorem em_un {op : UnaryOp} {r : V → Hp → VK → Prop} {f : F1} (ho : UnR X (unaryOp op) r) (hs : SimU X.K r f) (ha : PEm X W a ma) : PEm X W (.UnaryOp op a pos) (mUn f ma) := by
  obtain ⟨ta, pa, sa⟩ := ha.x
  exact .of (pe_un ho pa) (sim_un sa hs)
theorem em_cmp {op : CmpOp} {r : R2} {f : F2} (ho : OpR X (compareOp op) r) (hs : SimR X.K r f) (ha : PEm X W a ma) (hb : PEm X W b mb) (hm : behindInMarks op b = false := by first | exact nomark _ | rfl) : PEm X W (.Compare a [op] [b] pos) (mOp f ma mb) := by
  obtain ⟨ta, pa, sa⟩ := ha.x
  obtain ⟨tb, pb, sb⟩ := hb.x
  exact .of (pe_cmpR ho pa pb hm) (sim_op sa sb hs)
theorem tm_cmp {op : CmpOp} {r : R2} {f : F2} (ho : OpR X (compareOp op) r) (hs : SimR X.K r f) (ha : PEm X W a ma) (hb : PEm X W b mb) (hm : behindInMarks op b = false := by first | exact nomark _ | rfl) : PTm X W (.Compare a [op] [b] pos) (mTst (mOp f ma mb)) := by
  obtain ⟨ta, pa, sa⟩ := ha.x
  obtain ⟨tb, pb, sb⟩ := hb.x
  exact .of (pt_cmpR ho pa pb hm) (sim_tst (sim_op sa sb hs))
theorem tm_val (ha : PEm X W a ma) (he : ∀ whole, isTrue a X.env whole = (do let v ← whole; standAt a.pos; holding [v] (truthy v)) := by intro _; rfl) : PTm X W a (mTst ma) := by
  obtain ⟨ta, pa, sa⟩ := ha.x
  exact .of (pt_val pa he) (sim_tst sa)
theorem em_ifx (hc : PTm X W c mt) (ha : PEm X W a ma) (hb : PEm X W b mb) : PEm X W (.IfExp c a b pos) (mIf mt ma mb) := by
  obtain ⟨tc, pc, sc⟩ := hc.x
  obtain ⟨ta, pa, sa⟩ := ha.x
  obtain ⟨tb, pb, sb⟩ := hb.x
  exact .of (pe_ifExp pc pa pb) (sim_if sc sa sb)
theorem em_not (ha : PEm X W a ma) : PEm X W (.UnaryOp .Not a pos) (mNotV ma) := by
  obtain ⟨ta, pa, sa⟩ := ha.x
  exact .of (pe_not pa) (sim_notV sa)
theorem em_one {op} (ha : PEm X W a ma) : PEm X W (.BoolOp op [a] pos) ma := by
  obtain ⟨ta, pa, sa⟩ := ha.x
  exact .of (pe_one pa) (sa)
theorem em_and (ha : PEm X W a ma) (hb : PEm X W (.BoolOp .And (b :: rest) pos) mb) : PEm X W (.BoolOp .And (a :: b :: rest) pos) (mAndV ma mb) := by
  obtain ⟨ta, pa, sa⟩ := ha.x
  obtain ⟨tb, pb, sb⟩ := hb.x
  exact .of (pe_and pa pb) (sim_andV sa sb)
theorem em_or (ha : PEm X W a ma) (hb : PEm X W (.BoolOp .Or (b :: rest) pos) mb) : PEm X W (.BoolOp .Or (a :: b :: rest) pos) (mOrV ma mb) := by
  obtain ⟨ta, pa, sa⟩ := ha.x
  obtain ⟨tb, pb, sb⟩ := hb.x
  exact .of (pe_or pa pb) (sim_orV sa sb)
theorem wm_and1 (ha : PTm X W a mt) : PWm X W (.BoolOp .And [a] pos) mt := by
  obtain ⟨ta, pa, sa⟩ := ha.x
  exact .of (pw_and1 pa) (sa)
theorem wm_or1 (ha : PTm X W a mt) : PWm X W (.BoolOp .Or [a] pos) mt := by
  obtain ⟨ta, pa, sa⟩ := ha.x
  exact .of (pw_or1 pa) (sa)
theorem wm_and (ha : PTm X W a mt) (hb : PWm X W (.BoolOp .And (b :: rest) pos) mu) : PWm X W (.BoolOp .And (a :: b :: rest) pos) (mAnd mt mu) := by
  obtain ⟨ta, pa, sa⟩ := ha.x
  obtain ⟨tb, pb, sb⟩ := hb.x
  exact .of (pw_and pa pb) (sim_and sa sb)
theorem wm_or (ha : PTm X W a mt) (hb : PWm X W (.BoolOp .Or (b :: rest) pos) mu) : PWm X W (.BoolOp .Or (a :: b :: rest) pos) (mOr mt mu) := by
  obtain ⟨ta, pa, sa⟩ := ha.x
  obtain ⟨tb, pb, sb⟩ := hb.x
  exact .of (pw_or pa pb) (sim_or sa sb)
theorem tm_w (h : PWm X W a mt) : PTm X W a mt := by
  obtain ⟨t, p, s⟩ := h.x
  exact .of p.pt s
theorem tm_not (ha : PTm X W a mt) : PTm X W (.UnaryOp .Not a pos) (mNot mt) := by
  obtain ⟨ta, pa, sa⟩ := ha.x
  exact .of (pt_not pa) (sim_not sa)
theorem am_nil : PAm X W [] mNil := .of (pa_nil) (sim_nil)
theorem am_cons {m : MA} (ha : PEm X W a ma) (hr : PAm X W es m) (hs : starEach (a :: es) X.env = (false, eval a X.env) :: starEach es X.env := by rfl) : PAm X W (a :: es) (mCons ma m) := by
  obtain ⟨ta, pa, sa⟩ := ha.x
  obtain ⟨tb, pb, sb⟩ := hr.x
  exact .of (pa_cons pa pb hs) (sim_cons sa sb)
theorem em_tup {m : MA} {k} (h : PAm X W es m) : PEm X W (.Tuple es k pos) (mTup m) := by
  obtain ⟨t, p, s⟩ := h.x
  exact .of (pe_tup p) (sim_tup s)
theorem em_lst {m : MA} (h : PAm X W es m) : PEm X W (.List es pos) (mLst m) := by
  obtain ⟨t, p, s⟩ := h.x
  exact .of (pe_lst p) (sim_lst s)
theorem em_lstC {m : MA} (h : PAm X W es m) : PEm X W (.List es pos) (mLstC m) := by
  obtain ⟨t, p, s⟩ := h.x
  exact .of (pe_lst p) (sim_lstC s)
/-- two comparisons in a row -/
def mChain (f g : F2) (a b c : ME) : ME := fun ρ h => match a ρ h with
  | .bad => .bad
  | .exc e h1 => .exc e h1
  | .ok x h1 => match b ρ h1 with
    | .bad => .bad
    | .exc e h2 => .exc e h2
    | .ok y h2 => match f x y h2 with
      | some (.bl k) => if k = true then (match c ρ h2 with
        | .bad => .bad
        | .exc e h3 => .exc e h3
        | .ok z h3 => match g y z h3 with
          | none => .bad
          | some w => .ok w h3) else .ok (.bl false) h2
      | _ => .bad
theorem sim_chain {K : PySem.W.Frag} {ta tb tc : TE} {r r' : R2} {f g : F2} (ha : SimE K W ta ma) (hb : SimE K W tb mb) (hc : SimE K W tc mc) (hr : SimR K r f) (hr' : SimR K r' g) : SimE K W (tChain r r' ta tb tc) (mChain f g ma mb mc) := fun σ H ρ h G μ rel Q => by
  unfold mChain
  have A := ha σ H ρ h G μ rel
  cases ea : ma ρ h with
  | bad => trivial
  | exc e h1 =>
    rw [ea] at A
    exact A _
  | ok x h1 =>
    rw [ea] at A
    dsimp only
    cases eb : mb ρ h1 with
    | bad => trivial
    | exc e h2 =>
      intro k
      refine A _ fun v H1 G1 μ1 r1 x1 rv => ?_
      have B := hb σ H1 ρ h1 G1 μ1 r1 (fun y H2 => r v y H2 fun z H3 => ∃ k, z = .bl k ∧ (if k = true then tc σ H3 fun w' H4 => r' y w' H4 Q else Q (.bl false) H3))
      rw [eb] at B
      exact B (k.mono x1)
    | ok y h2 =>
      dsimp only
      cases ez : f x y h2 with
      | none => trivial
      | some z =>
        cases z with
        | bl kk =>
          dsimp only
          cases kk with
          | false =>
            rw [if_neg Bool.false_ne_true]
            intro k
            refine A _ fun v H1 G1 μ1 r1 x1 rv => ?_
            have B := hb σ H1 ρ h1 G1 μ1 r1 (fun y H2 => r v y H2 fun z H3 => ∃ k, z = .bl k ∧ (if k = true then tc σ H3 fun w' H4 => r' y w' H4 Q else Q (.bl false) H3))
            rw [eb] at B
            refine B fun u H2 G2 μ2 r2 x2 ru => ?_
            refine hr H2 h2 G2 μ2 r2.hp x y v u (R.mono x2 rv) ru _ _ ez fun w H3 G3 r3 x3 rw' => ⟨false, rw', ?_⟩
            rw [if_neg Bool.false_ne_true]
            exact k _ H3 G3 μ2 ⟨r3, r2.sl.mono x3⟩ ((x1.trans x2).trans x3) rfl
          | true =>
            rw [if_pos rfl]
            cases ec : mc ρ h2 with
            | bad => trivial
            | exc e h3 =>
              intro k
              refine A _ fun v H1 G1 μ1 r1 x1 rv => ?_
              have B := hb σ H1 ρ h1 G1 μ1 r1 (fun y H2 => r v y H2 fun z H3 => ∃ k, z = .bl k ∧ (if k = true then tc σ H3 fun w' H4 => r' y w' H4 Q else Q (.bl false) H3))
              rw [eb] at B
              refine B fun u H2 G2 μ2 r2 x2 ru => ?_
              refine hr H2 h2 G2 μ2 r2.hp x y v u (R.mono x2 rv) ru _ _ ez fun w H3 G3 r3 x3 rw' => ⟨true, rw', ?_⟩
              rw [if_pos rfl]
              have C := hc σ H3 ρ h2 G3 μ2 ⟨r3, r2.sl.mono x3⟩ (fun w' H4 => r' u w' H4 Q)
              rw [ec] at C
              exact C (k.mono ((x1.trans x2).trans x3))
            | ok z h3 =>
              dsimp only
              cases eg : g y z h3 with
              | none => trivial
              | some w0 =>
                intro k
                refine A _ fun v H1 G1 μ1 r1 x1 rv => ?_
                have B := hb σ H1 ρ h1 G1 μ1 r1 (fun y H2 => r v y H2 fun z H3 => ∃ k, z = .bl k ∧ (if k = true then tc σ H3 fun w' H4 => r' y w' H4 Q else Q (.bl false) H3))
                rw [eb] at B
                refine B fun u H2 G2 μ2 r2 x2 ru => ?_
                refine hr H2 h2 G2 μ2 r2.hp x y v u (R.mono x2 rv) ru _ _ ez fun w H3 G3 r3 x3 rw' => ⟨true, rw', ?_⟩
                rw [if_pos rfl]
                have C := hc σ H3 ρ h2 G3 μ2 ⟨r3, r2.sl.mono x3⟩ (fun w' H4 => r' u w' H4 Q)
                rw [ec] at C
                refine C fun w' H4 G4 μ4 r4 x4 rw4 => ?_
                exact hr' H4 h3 G4 μ4 r4.hp y z u w' (R.mono x4 (R.mono x3 ru)) rw4 Q w0 eg fun w5 H5 G5 r5 x5 rw5 => k w5 H5 G5 μ4 ⟨r5, r4.sl.mono x5⟩ ((((x1.trans x2).trans x3).trans x4).trans x5) rw5
        | _ => trivial
theorem em_chain {op op' : CmpOp} {r r' : R2} {f g : F2} (ho : OpR X (compareOp op) r) (hs : SimR X.K r f) (ho' : OpR X (compareOp op') r') (hs' : SimR X.K r' g) (ha : PEm X W a ma) (hb : PEm X W b mb) (hc : PEm X W c mc)
    (hm : lastMarks [op, op'] [b, c] = false := by with_unfolding_all rfl) : PEm X W (.Compare a [op, op'] [b, c] pos) (mChain f g ma mb mc) := by
  obtain ⟨ta, pa, sa⟩ := ha.x
  obtain ⟨tb, pb, sb⟩ := hb.x
  obtain ⟨tc, pc, sc⟩ := hc.x
  exact .of (pe_chain ho ho' pa pb pc hm) (sim_chain sa sb sc hs hs')
theorem tm_chain {op op' : CmpOp} {r r' : R2} {f g : F2} (ho : OpR X (compareOp op) r) (hs : SimR X.K r f) (ho' : OpR X (compareOp op') r') (hs' : SimR X.K r' g) (ha : PEm X W a ma) (hb : PEm X W b mb) (hc : PEm X W c mc)
    (hm : lastMarks [op, op'] [b, c] = false := by with_unfolding_all rfl) : PTm X W (.Compare a [op, op'] [b, c] pos) (mTst (mChain f g ma mb mc)) := by
  obtain ⟨ta, pa, sa⟩ := ha.x
  obtain ⟨tb, pb, sb⟩ := hb.x
  obtain ⟨tc, pc, sc⟩ := hc.x
  exact .of (pt_chain ho ho' pa pb pc hm) (sim_tst (sim_chain sa sb sc hs hs'))
end
end Mi

set_option maxRecDepth 100000
set_option maxHeartbeats 4000000
/-! Operations on values. -/
namespace Mi
open PySem PySem.Spec L2
theorem OpR.or {X : Cx} {f : Value → Value → Sem Value} {r r' : R2} (h : OpR X f r) (h' : OpR X f r') : OpR X f (fun x y H Q => r x y H Q ∨ r' x y H Q) := by
  intro pins s σ H x y v u Q I rx ry q
  rcases q with q | q
  · exact h pins s σ H x y v u Q I rx ry q
  · exact h' pins s σ H x y v u Q I rx ry q
theorem IxR.or {X : Cx} {r r' : R2} (h : IxR X r) (h' : IxR X r') : IxR X (fun x y H Q => r x y H Q ∨ r' x y H Q) := by
  intro a b pins s σ H x y v u Q I rx ry q hs
  rcases q with q | q
  · exact h a b pins s σ H x y v u Q I rx ry q hs
  · exact h' a b pins s σ H x y v u Q I rx ry q hs

/-! ### arithmetic -/
def aAdd : F2 := fun x y _ => match x, y with
  | .int i, .int j => some (.int (i + j))
  | .tup l, .tup m => if l.length + m.length ≤ sizeLine then some (.tup (l ++ m)) else none
  | .lst l, .lst m => if l.length + m.length ≤ sizeLine then some (.lst (l ++ m)) else none
  | .str i, .str j => if i.length + j.length ≤ sizeLine then some (.str (i ++ j)) else none
  | _, _ => none
def aSub : F2 := fun x y _ => match x, y with
  | .int i, .int j => some (.int (i - j))
  | _, _ => none
def mulOk (i j : Int) : Bool := !(decide (Builtin.Int.intBits i > shortFactorBits) && decide (Builtin.Int.intBits j > shortFactorBits) && Builtin.Int.intTooBig (Builtin.Int.intBits i + Builtin.Int.intBits j))
def aMul : F2 := fun x y _ => match x, y with
  | .int i, .int j => if mulOk i j = true then some (.int (i * j)) else none
  | _, _ => none
def aMod : F2 := fun x y _ => match x, y with
  | .int i, .int j => if j = 0 then none else some (.int (i.fmod j))
  | _, _ => none
def divOk (i j : Int) : Bool := decide (j ≠ 0) && !Builtin.divisionGoesByPylong i j
def aFdiv : F2 := fun x y _ => match x, y with
  | .int i, .int j => if divOk i j = true then some (.int (i.fdiv j)) else none
  | _, _ => none
def aPow : F2 := fun x y _ => match x, y with
  | .int i, .int j => if 0 ≤ j ∧ j ≤ 1000000 ∧ i.natAbs < 2 ^ 64 then some (.int (i ^ j.toNat)) else none
  | _, _ => none
def aCmp (p : Int → Int → Bool) : F2 := fun x y _ => match x, y with
  | .int i, .int j => some (.bl (p i j))
  | _, _ => none
abbrev aLt : F2 := aCmp fun i j => decide (i < j)
abbrev aLe : F2 := aCmp fun i j => decide (i ≤ j)
abbrev aGt : F2 := aCmp fun i j => decide (j < i)
abbrev aGe : F2 := aCmp fun i j => decide (j ≤ i)
def aNeg : F1 := fun x _ => match x with
  | .int i => some (.int (-i))
  | _ => none
def rAddX (K : PySem.W.Frag) : R2 := fun x y H Q => ((rI0 (fun i j => .int (i + j)) x y H Q ∨ rCatA K x y H Q) ∨ rCat x y H Q) ∨ (∃ i j, x = .str i ∧ y = .str j ∧ i.length + j.length ≤ sizeLine ∧ Q (.str (i ++ j)) H)
theorem op_addX {X : Cx} : OpR X (binaryOp .Add) (rAddX X.K) := OpR.or (OpR.or (OpR.or op_add op_catA) op_cat) op_add_str
theorem op_mulX' {X : Cx} : OpR X (binaryOp .Mult) (rI (fun i j => mulOk i j = true) fun i j => .int (i * j)) := opI fun i j _ _ _ _ _ hc q => PyProof.Rows.mul_int q (by
  unfold IntMulOk
  unfold mulOk at hc
  intro z
  rw [z] at hc
  cases hc)
theorem op_fdivX {X : Cx} : OpR X (binaryOp .FloorDiv) (rI (fun i j => divOk i j = true) fun i j => .int (i.fdiv j)) := opI fun i j _ _ _ _ _ hc q => by
  unfold divOk at hc
  rw [Bool.and_eq_true] at hc
  exact PyProof.Rows.floordiv_int (of_decide_eq_true hc.1) q (.inl (by
    have h2 := hc.2
    revert h2
    cases Builtin.divisionGoesByPylong i j
    · exact fun _ => rfl
    · exact fun z => by cases z))
section
variable {K : PySem.W.Frag}
theorem sr_I0 {g : Int → Int → Int} : SimR K (rI0 fun i j => .int (g i j)) (fun x y _ => match x, y with
  | .int i, .int j => some (.int (g i j))
  | _, _ => none) := fun H h G μ rh x y v u rx ry Q z e k => by
  cases x <;> try cases e
  cases y <;> try cases e
  exact ⟨_, _, rx, ry, k _ H G rh (Ext.refl _ _) rfl⟩
theorem sr_cmp {p : Int → Int → Bool} : SimR K (rI0 fun i j => .bl (p i j)) (aCmp p) := fun H h G μ rh x y v u rx ry Q z e k => by
  cases x <;> try cases e
  cases y <;> try cases e
  exact ⟨_, _, rx, ry, k _ H G rh (Ext.refl _ _) rfl⟩
theorem sr_sub : SimR K (rI0 fun i j => .int (i - j)) aSub := sr_I0
theorem sr_mul : SimR K (rI (fun i j => mulOk i j = true) fun i j => .int (i * j)) aMul := fun H h G μ rh x y v u rx ry Q z e k => by
  cases x <;> try cases e
  cases y <;> try cases e
  rename_i i j
  by_cases hc : mulOk i j = true
  · have e' : (if mulOk i j = true then some (AV.int (i * j)) else none) = some z := e
    rw [if_pos hc] at e'
    cases e'
    exact ⟨_, _, rx, ry, hc, k _ H G rh (Ext.refl _ _) rfl⟩
  · have e' : (if mulOk i j = true then some (AV.int (i * j)) else none) = some z := e
    rw [if_neg hc] at e'
    cases e'
theorem sr_mod : SimR K (rI (fun _ j => j ≠ 0) fun i j => .int (i.fmod j)) aMod := fun H h G μ rh x y v u rx ry Q z e k => by
  cases x <;> try cases e
  cases y <;> try cases e
  rename_i i j
  have e' : (if j = 0 then none else some (AV.int (i.fmod j))) = some z := e
  by_cases hc : j = 0
  · rw [if_pos hc] at e'
    cases e'
  · rw [if_neg hc] at e'
    cases e'
    exact ⟨_, _, rx, ry, hc, k _ H G rh (Ext.refl _ _) rfl⟩
theorem sr_fdiv : SimR K (rI (fun i j => divOk i j = true) fun i j => .int (i.fdiv j)) aFdiv := fun H h G μ rh x y v u rx ry Q z e k => by
  cases x <;> try cases e
  cases y <;> try cases e
  rename_i i j
  have e' : (if divOk i j = true then some (AV.int (i.fdiv j)) else none) = some z := e
  by_cases hc : divOk i j = true
  · rw [if_pos hc] at e'
    cases e'
    exact ⟨_, _, rx, ry, hc, k _ H G rh (Ext.refl _ _) rfl⟩
  · rw [if_neg hc] at e'
    cases e'
theorem sr_pow : SimR K (rI CPow fun i j => .int (i ^ j.toNat)) aPow := fun H h G μ rh x y v u rx ry Q z e k => by
  cases x <;> try cases e
  cases y <;> try cases e
  rename_i i j
  have e' : (if 0 ≤ j ∧ j ≤ 1000000 ∧ i.natAbs < 2 ^ 64 then some (AV.int (i ^ j.toNat)) else none) = some z := e
  by_cases hc : 0 ≤ j ∧ j ≤ 1000000 ∧ i.natAbs < 2 ^ 64
  · rw [if_pos hc] at e'
    cases e'
    exact ⟨_, _, rx, ry, hc, k _ H G rh (Ext.refl _ _) rfl⟩
  · rw [if_neg hc] at e'
    cases e'
theorem su_neg : SimU K (rU fun i => .int (-i)) aNeg := fun H h G μ rh x v rx Q z e k => by
  cases x <;> try cases e
  exact ⟨_, rx, k _ H G rh (Ext.refl _ _) rfl⟩
theorem same_sqT {G H : Hp} {a : Addr} {vs : List V} (s : Same G H) (h : SqT K G a vs) : SqT K H a vs := Same.sqt s h
theorem sr_add : SimR K (rAddX K) aAdd := fun H h G μ rh x y v u rx ry Q z e k => by
  cases x with
  | int i =>
    cases y <;> try cases e
    exact .inl (.inl (.inl ⟨_, _, rx, ry, k _ H G rh (Ext.refl _ _) rfl⟩))
  | str i =>
    cases y <;> try cases e
    rename_i j
    have e' : (if i.length + j.length ≤ sizeLine then some (AV.str (i ++ j)) else none) = some z := e
    by_cases hc : i.length + j.length ≤ sizeLine
    · rw [if_pos hc] at e'
      cases e'
      exact .inr ⟨_, _, rx, ry, hc, k _ H G rh (Ext.refl _ _) rfl⟩
    · rw [if_neg hc] at e'
      cases e'
  | tup l =>
    cases y <;> try cases e
    rename_i m
    have e' : (if l.length + m.length ≤ sizeLine then some (AV.tup (l ++ m)) else none) = some z := e
    by_cases hc : l.length + m.length ≤ sizeLine
    · rw [if_pos hc] at e'
      cases e'
      obtain ⟨a, vs, ea, sa, ra⟩ := rx
      obtain ⟨b, us, eb, sb, rb⟩ := ry
      refine .inl (.inl (.inr ⟨a, b, vs, us, ea, eb, same_sqT rh.ex sa, same_sqT rh.ex sb, by rw [ra.length, rb.length]; exact hc, fun h0 => ?_, fun h1 h0 => ?_, fun h1 h2 p hp => ?_⟩))
      · refine k _ H G rh (Ext.refl _ _) ⟨b, us, rfl, sb, ?_⟩
        have hl : l = [] := List.eq_nil_of_length_eq_zero (by rw [← ra.length, h0]; rfl)
        rw [hl]
        exact rb
      · refine k _ H G rh (Ext.refl _ _) ⟨a, vs, rfl, sa, ?_⟩
        have hl : m = [] := List.eq_nil_of_length_eq_zero (by rw [← rb.length, h0]; rfl)
        rw [hl, List.append_nil]
        exact ra
      · obtain ⟨g, x2⟩ := rh.grow (o := .tup (vs ++ us)) hp
        exact k _ _ _ g x2 ⟨p, _, rfl, SqT.of upd_same, RL.mono x2 (RL.app ra rb)⟩
    · rw [if_neg hc] at e'
      cases e'
  | lst l =>
    cases y <;> try cases e
    rename_i m
    have e' : (if l.length + m.length ≤ sizeLine then some (AV.lst (l ++ m)) else none) = some z := e
    by_cases hc : l.length + m.length ≤ sizeLine
    · rw [if_pos hc] at e'
      cases e'
      obtain ⟨a, vs, ea, sa, ra⟩ := rx
      obtain ⟨b, us, eb, sb, rb⟩ := ry
      refine .inl (.inr ⟨a, b, vs, us, ea, eb, rh.ex _ _ sa, rh.ex _ _ sb, by rw [ra.length, rb.length]; exact hc, fun p hp => ?_⟩)
      obtain ⟨g, x2⟩ := rh.grow (o := .lst (vs ++ us)) hp
      exact k _ _ _ g x2 ⟨p, _, rfl, upd_same, RL.mono x2 (RL.app ra rb)⟩
    · rw [if_neg hc] at e'
      cases e'
  | _ => cases e

/-! ### the items of a list or a tuple -/
def isT : AV → Bool
  | .tup _ => true
  | _ => false
def getL (h : AHeap) : AV → Option (List AV)
  | .tup l => some l
  | .lst l => some l
  | .lstR l => some l
  | .ref i => match h[i]? with
    | some (some (.lst l)) => some l
    | _ => none
  | _ => none
theorem getL_sq {H : Hp} {h : AHeap} {G : Hp} {μ : List Addr} {x : AV} {v : V} {l : List AV} (rh : RelH K H h G μ) (r : R K μ G x v) (e : getL h x = some l) :
    ∃ a vs, v = .ref a ∧ RL K μ G l vs ∧ ((isT x = true ∧ SqT K H a vs ∧ SqT K G a vs) ∨ (isT x = false ∧ SqL K H a vs)) := by
  cases x with
  | tup m =>
    cases e
    obtain ⟨a, vs, ea, sa, ra⟩ := r
    exact ⟨a, vs, ea, ra, .inl ⟨rfl, same_sqT rh.ex sa, sa⟩⟩
  | lst m =>
    cases e
    obtain ⟨a, vs, ea, sa, ra⟩ := r
    exact ⟨a, vs, ea, ra, .inr ⟨rfl, SqL.of (rh.ex _ _ sa)⟩⟩
  | lstR m =>
    cases e
    obtain ⟨a, vs, ea, sa, ra⟩ := r
    exact ⟨a, vs, ea, ra, .inr ⟨rfl, rh.ex.seq sa⟩⟩
  | ref i =>
    have e' : (match h[i]? with
      | some (some (.lst l)) => some l
      | _ => none) = some l := e
    cases q : h[i]? with
    | none =>
      rw [q] at e'
      cases e'
    | some o =>
      rw [q] at e'
      cases o with
      | none => cases e'
      | some mo =>
        cases mo with
        | ins c ks m => cases e'
        | lst m =>
          cases e'
          obtain ⟨a, e1, e2, vs, e3, e4⟩ := rh.cont i _ q
          obtain ⟨b, f1, f2⟩ := r
          rw [e1] at f1
          cases f1
          exact ⟨a, vs, f2, e4, .inr ⟨rfl, SqL.of e3⟩⟩
  | _ => cases e
def aAt (l : List AV) (i : Int) : Option AV := (ixN l.length i).bind fun j => l[j]?
def aIx : F2 := fun x y h => match getL h x, y with
  | some l, .int i => aAt l i
  | _, _ => none
theorem aAt_rel {μ : List Addr} {G : Hp} {l : List AV} {vs : List V} {i : Int} {z : AV} (r : RL K μ G l vs) (e : aAt l i = some z) : ∃ w, atI vs i = some w ∧ R K μ G z w := by
  unfold aAt at e
  unfold atI
  rw [r.length]
  cases q : ixN l.length i with
  | none =>
    rw [q] at e
    cases e
  | some j =>
    rw [q] at e
    exact r.get e
theorem sr_ix : SimR K (fun x y H Q => rIxL K x y H Q ∨ rIxT K x y H Q) aIx := fun H h G μ rh x y v u rx ry Q z e k => by
  unfold aIx at e
  cases el : getL h x with
  | none =>
    rw [el] at e
    cases e
  | some l =>
    rw [el] at e
    cases y <;> try cases e
    rename_i i
    obtain ⟨a, vs, ea, ra, s⟩ := getL_sq rh rx el
    obtain ⟨w, e1, r1⟩ := aAt_rel ra e
    rcases s with ⟨_, s, _⟩ | ⟨_, s⟩
    · exact .inr ⟨a, vs, i, w, ea, ry, s, e1, k _ H G rh (Ext.refl _ _) r1⟩
    · exact .inl ⟨a, vs, i, w, ea, ry, s, e1, k _ H G rh (Ext.refl _ _) r1⟩
theorem ix_LT {X : Cx} : IxR X (fun x y H Q => rIxL X.K x y H Q ∨ rIxT X.K x y H Q) := IxR.or ix_list ix_tup

/-! ### slices -/
def cutA (l : List AV) (lo hi : Option Int) : List AV := (l.drop (HT.sIx l.length 0 lo)).take (HT.sIx l.length l.length hi - HT.sIx l.length 0 lo)
def aSl (x : AV) (lo hi : Option Int) (h : AHeap) : Option AV := match getL h x with
  | some l => if isT x = true then some (.tup (cutA l lo hi)) else some (.lst (cutA l lo hi))
  | none => none

/-! ### equality of data -/
mutual
def py0 : AV → Option PyData
  | .non => some .none
  | .bl b => some (.bool b)
  | .int i => some (.int i)
  | .str x => some (.str x)
  | .tup l => match py0L l with
    | some d => some (.tuple d)
    | none => none
  | .lst l => match py0L l with
    | some d => some (.list d)
    | none => none
  | .lstR l => match py0L l with
    | some d => some (.list d)
    | none => none
  | _ => none
def py0L : List AV → Option (List PyData)
  | [] => some []
  | x :: l => match py0 x, py0L l with
    | some d, some ds => some (d :: ds)
    | _, _ => none
end
def py (h : AHeap) : AV → Option PyData
  | .ref i => match h[i]? with
    | some (some (.lst l)) => (match py0L l with
      | some d => some (.list d)
      | none => none)
    | _ => none
  | x => py0 x
mutual
theorem py0_dp {G H : Hp} {μ : List Addr} (s : Same G H) : ∀ {x : AV} {v : V} {d : PyData}, R K μ G x v → py0 x = some d → Dp K H v d
  | .non, v, d, r, e => by
    cases e
    have r' : v = .non := r
    rw [r']
    exact .non
  | .bl b, v, d, r, e => by
    cases e
    have r' : v = .bl b := r
    rw [r']
    exact .bl b
  | .int b, v, d, r, e => by
    cases e
    have r' : v = .int b := r
    rw [r']
    exact .int b
  | .str b, v, d, r, e => by
    cases e
    have r' : v = .str b := r
    rw [r']
    exact .str b
  | .tup l, v, d, r, e => by
    have e' : (match py0L l with
      | some d => some (PyData.tuple d)
      | none => none) = some d := e
    cases q : py0L l with
    | none =>
      rw [q] at e'
      cases e'
    | some ds =>
      rw [q] at e'
      cases e'
      obtain ⟨a, vs, ea, sa, ra⟩ := r
      rw [ea]
      exact .tup (same_sqT s sa) (py0L_dp s ra q)
  | .lst l, v, d, r, e => by
    have e' : (match py0L l with
      | some d => some (PyData.list d)
      | none => none) = some d := e
    cases q : py0L l with
    | none =>
      rw [q] at e'
      cases e'
    | some ds =>
      rw [q] at e'
      cases e'
      obtain ⟨a, vs, ea, sa, ra⟩ := r
      rw [ea]
      exact .lst (SqL.of (s _ _ sa)) (py0L_dp s ra q)
  | .lstR l, v, d, r, e => by
    have e' : (match py0L l with
      | some d => some (PyData.list d)
      | none => none) = some d := e
    cases q : py0L l with
    | none =>
      rw [q] at e'
      cases e'
    | some ds =>
      rw [q] at e'
      cases e'
      obtain ⟨a, vs, ea, sa, ra⟩ := r
      rw [ea]
      exact .lst (s.seq sa) (py0L_dp s ra q)
  | .ty n, _, _, _, e => by cases e
  | .obj c ks l, _, _, _, e => by cases e
  | .ref i, _, _, _, e => by cases e
theorem py0L_dp {G H : Hp} {μ : List Addr} (s : Same G H) : ∀ {l : List AV} {vs : List V} {ds : List PyData}, RL K μ G l vs → py0L l = some ds → DpAll K H vs ds
  | [], vs, ds, r, e => by
    cases e
    have r' : vs = [] := r
    rw [r']
    exact .nil
  | x :: l, vs, ds, r, e => by
    have e' : (match py0 x, py0L l with
      | some d, some ds => some (d :: ds)
      | _, _ => none) = some ds := e
    cases q : py0 x with
    | none =>
      rw [q] at e'
      cases e'
    | some d =>
      cases q2 : py0L l with
      | none =>
        rw [q, q2] at e'
        cases e'
      | some ds' =>
        rw [q, q2] at e'
        cases e'
        obtain ⟨v, t, ev, r1, r2⟩ := r.inv
        rw [ev]
        exact .cons (py0_dp s r1 q) (py0L_dp s r2 q2)
end
theorem py_dp {H : Hp} {h : AHeap} {G : Hp} {μ : List Addr} {x : AV} {v : V} {d : PyData} (rh : RelH K H h G μ) (r : R K μ G x v) (e : py h x = some d) : Dp K H v d := by
  cases x with
  | ref i =>
    have e' : (match h[i]? with
      | some (some (.lst l)) => (match py0L l with
        | some d => some (PyData.list d)
        | none => none)
      | _ => none) = some d := e
    cases q : h[i]? with
    | none =>
      rw [q] at e'
      cases e'
    | some o =>
      rw [q] at e'
      cases o with
      | none => cases e'
      | some mo =>
        cases mo with
        | ins c ks m => cases e'
        | lst m =>
          dsimp only at e'
          cases q2 : py0L m with
          | none =>
            rw [q2] at e'
            cases e'
          | some ds =>
            rw [q2] at e'
            cases e'
            obtain ⟨a, e1, e2, vs, e3, e4⟩ := rh.cont i _ q
            obtain ⟨b, f1, f2⟩ := r
            rw [e1] at f1
            cases f1
            rw [f2]
            exact .lst (SqL.of e3) (py0L_dp rh.ex e4 q2)
  | _ => exact py0_dp rh.ex r e
def aEq : F2 := fun x y h => match py h x, py h y with
  | some d, some e => if SeqAt.shaped d = true ∧ SeqAt.shaped e = true then some (.bl (PyData.eqv d e)) else none
  | _, _ => none
def aNe : F2 := fun x y h => match py h x, py h y with
  | some d, some e => if SeqAt.shaped d = true ∧ SeqAt.shaped e = true then some (.bl (!PyData.eqv d e)) else none
  | _, _ => none
theorem sr_eq : SimR K (rEqD K) aEq := fun H h G μ rh x y v u rx ry Q z e k => by
  unfold aEq at e
  cases ex : py h x with
  | none =>
    rw [ex] at e
    cases e
  | some d =>
    cases ey : py h y with
    | none =>
      rw [ex, ey] at e
      cases e
    | some d' =>
      rw [ex, ey] at e
      dsimp only at e
      by_cases hc : SeqAt.shaped d = true ∧ SeqAt.shaped d' = true
      · rw [if_pos hc] at e
        cases e
        exact ⟨d, d', py_dp rh rx ex, py_dp rh ry ey, hc.1, hc.2, k _ H G rh (Ext.refl _ _) rfl⟩
      · rw [if_neg hc] at e
        cases e
theorem sr_ne : SimR K (rNeD K) aNe := fun H h G μ rh x y v u rx ry Q z e k => by
  unfold aNe at e
  cases ex : py h x with
  | none =>
    rw [ex] at e
    cases e
  | some d =>
    cases ey : py h y with
    | none =>
      rw [ex, ey] at e
      cases e
    | some d' =>
      rw [ex, ey] at e
      dsimp only at e
      by_cases hc : SeqAt.shaped d = true ∧ SeqAt.shaped d' = true
      · rw [if_pos hc] at e
        cases e
        exact ⟨d, d', py_dp rh rx ex, py_dp rh ry ey, hc.1, hc.2, k _ H G rh (Ext.refl _ _) rfl⟩
      · rw [if_neg hc] at e
        cases e

/-! ### is, is not -/
def isN : AV → Bool
  | .non => true
  | _ => false
theorem isN_rel {μ : List Addr} {G : Hp} {x : AV} {v : V} (r : R K μ G x v) : decide (v = .non) = isN x := by
  cases x with
  | non =>
    have r' : v = .non := r
    rw [r'] <;> rfl
  | bl b =>
    have r' : v = .bl b := r
    rw [r'] <;> rfl
  | int b =>
    have r' : v = .int b := r
    rw [r'] <;> rfl
  | str b =>
    have r' : v = .str b := r
    rw [r'] <;> rfl
  | ty b =>
    have r' : v = .ty b := r
    rw [r'] <;> rfl
  | tup l =>
    obtain ⟨a, vs, ea, _⟩ := r
    rw [ea] <;> rfl
  | lst l =>
    obtain ⟨a, vs, ea, _⟩ := r
    rw [ea] <;> rfl
  | lstR l =>
    obtain ⟨a, vs, ea, _⟩ := r
    rw [ea] <;> rfl
  | obj c ks l =>
    obtain ⟨a, dx, vs, ea, _⟩ := r
    rw [ea] <;> rfl
  | ref i =>
    obtain ⟨a, _, ea⟩ := r
    rw [ea] <;> rfl
def aIs : F2 := fun x y _ => match y with
  | .non => some (.bl (isN x))
  | .bl b => (match x with
    | .bl a => some (.bl (decide (a = b)))
    | _ => none)
  | _ => none
def aIsNot : F2 := fun x y _ => match y with
  | .non => some (.bl (!isN x))
  | .bl b => (match x with
    | .bl a => some (.bl (!decide (a = b)))
    | _ => none)
  | _ => none
def rIsX : R2 := fun x y H Q => (y = .non ∧ Q (.bl (decide (x = .non))) H) ∨ rIsB x y H Q
def rIsNotX : R2 := fun x y H Q => (y = .non ∧ Q (.bl (!decide (x = .non))) H) ∨ rNotB x y H Q
theorem op_isX {X : Cx} : OpR X (compareOp .Is) rIsX := OpR.or op_isN op_isBl
theorem op_isNotX {X : Cx} : OpR X (compareOp .IsNot) rIsNotX := OpR.or op_notN op_notBl
theorem sr_is : SimR K rIsX aIs := fun H h G μ rh x y v u rx ry Q z e k => by
  cases y with
  | non =>
    cases e
    refine .inl ⟨ry, ?_⟩
    rw [isN_rel rx]
    exact k _ H G rh (Ext.refl _ _) rfl
  | bl b =>
    cases x <;> try cases e
    exact .inr ⟨_, _, rx, ry, k _ H G rh (Ext.refl _ _) rfl⟩
  | _ => cases e
theorem sr_isNot : SimR K rIsNotX aIsNot := fun H h G μ rh x y v u rx ry Q z e k => by
  cases y with
  | non =>
    cases e
    refine .inl ⟨ry, ?_⟩
    rw [isN_rel rx]
    exact k _ H G rh (Ext.refl _ _) rfl
  | bl b =>
    cases x <;> try cases e
    exact .inr ⟨_, _, rx, ry, k _ H G rh (Ext.refl _ _) rfl⟩
  | _ => cases e

/-! ### built-in functions -/
abbrev FC := List AV → AHeap → Option AV
def SimC (K : PySem.W.Frag) (r : List V → Hp → VK → Prop) (f : FC) : Prop := ∀ H h G μ, RelH K H h G μ → ∀ xs vs, RL K μ G xs vs → ∀ Q : VK, ∀ z, f xs h = some z → (∀ w H' G', RelH K H' h G' μ → Ext G μ G' μ → R K μ G' z w → Q w H') → r vs H Q
def mCB (f : FC) (a : MA) : ME := fun ρ h => match a ρ h with
  | .bad => .bad
  | .exc e h1 => .exc e h1
  | .ok l h1 => match f l h1 with
    | none => .bad
    | some z => .ok z h1
theorem sim_cb {W : WX2} {r : List V → Hp → VK → Prop} {f : FC} {ta : TA} {ma : MA} (ha : SimA K W ta ma) (hr : SimC K r f) : SimE K W (tCB r ta) (mCB f ma) := fun σ H ρ h G μ rel Q => by
  unfold mCB
  have A := ha σ H ρ h G μ rel
  cases ea : ma ρ h with
  | bad => trivial
  | exc e h1 =>
    rw [ea] at A
    exact A _
  | ok l h1 =>
    rw [ea] at A
    dsimp only
    cases ez : f l h1 with
    | none => trivial
    | some z =>
      intro k
      refine A _ fun vs H1 G1 μ1 r1 x1 rs => ?_
      exact hr H1 h1 G1 μ1 r1.hp l vs rs Q z ez fun w H2 G2 r2 x2 rw' => k w H2 G2 μ1 ⟨r2, r1.sl.mono x2⟩ (x1.trans x2) rw'
def aLen : FC := fun xs h => match xs with
  | [x] => (match getL h x with
    | some l => some (.int l.length)
    | none => none)
  | _ => none
theorem sc_len : SimC K (fun xs H Q => ∃ p ys, xs = [.ref p] ∧ (SqL K H p ys ∨ SqT K H p ys) ∧ Q (.int ys.length) H) aLen := fun H h G μ rh xs vs rs Q z e k => by
  cases xs with
  | nil => cases e
  | cons x t =>
    cases t with
    | cons y t => cases e
    | nil =>
      obtain ⟨v, r, ev, rv, rn⟩ := rs.inv
      have rn' : r = [] := rn
      subst rn' ev
      have e' : (match getL h x with
        | some l => some (AV.int l.length)
        | none => none) = some z := e
      cases q : getL h x with
      | none =>
        rw [q] at e'
        cases e'
      | some l =>
        rw [q] at e'
        cases e'
        obtain ⟨a, us, ea, ra, s⟩ := getL_sq rh rv q
        subst ea
        refine ⟨a, us, rfl, ?_, ?_⟩
        · rcases s with ⟨_, s, _⟩ | ⟨_, s⟩
          · exact .inr s
          · exact .inl s
        · rw [ra.length]
          exact k _ H G rh (Ext.refl _ _) rfl
def aAbs : FC := fun xs _ => match xs with
  | [.int i] => some (.int (if i < 0 then -i else i))
  | _ => none
theorem one_inv {μ : List Addr} {G : Hp} {x : AV} {vs : List V} (rs : RL K μ G [x] vs) : ∃ v, vs = [v] ∧ R K μ G x v := by
  obtain ⟨v, r, ev, rv, rn⟩ := rs.inv
  have rn' : r = [] := rn
  subst rn'
  exact ⟨v, ev, rv⟩
theorem two_inv {μ : List Addr} {G : Hp} {x y : AV} {vs : List V} (rs : RL K μ G [x, y] vs) : ∃ v u, vs = [v, u] ∧ R K μ G x v ∧ R K μ G y u := by
  obtain ⟨v, r, ev, rv, rn⟩ := rs.inv
  obtain ⟨u, er, ru⟩ := one_inv rn
  subst er
  exact ⟨v, u, ev, rv, ru⟩
theorem sc_abs : SimC K (fun xs H Q => ∃ i, xs = [.int i] ∧ Q (.int (if i < 0 then -i else i)) H) aAbs := fun H h G μ rh xs vs rs Q z e k => by
  cases xs with
  | nil => cases e
  | cons x t =>
    cases t with
    | cons y t => cases x <;> cases e
    | nil =>
      cases x <;> try cases e
      obtain ⟨v, ev, rv⟩ := one_inv rs
      have rv' : v = .int _ := rv
      subst ev rv'
      exact ⟨_, rfl, k _ H G rh (Ext.refl _ _) rfl⟩
def aInt : FC := fun xs _ => match xs with
  | [.int i] => some (.int i)
  | [.bl b] => some (.int (if b then 1 else 0))
  | _ => none
theorem sc_int : SimC K (fun xs H Q => (∃ i, xs = [.int i] ∧ Q (.int i) H) ∨ ∃ k, xs = [.bl k] ∧ Q (.int (if k then 1 else 0)) H) aInt := fun H h G μ rh xs vs rs Q z e k => by
  cases xs with
  | nil => cases e
  | cons x t =>
    cases t with
    | cons y t => cases x <;> cases e
    | nil =>
      obtain ⟨v, ev, rv⟩ := one_inv rs
      cases x <;> try cases e
      · rename_i b
        have rv' : v = .bl b := rv
        subst ev rv'
        exact .inr ⟨_, rfl, k _ H G rh (Ext.refl _ _) rfl⟩
      · rename_i b
        have rv' : v = .int b := rv
        subst ev rv'
        exact .inl ⟨_, rfl, k _ H G rh (Ext.refl _ _) rfl⟩
def aGcd : FC := fun xs _ => match xs with
  | [.int i, .int j] => some (.int ((Nat.gcd i.natAbs j.natAbs : Nat) : Int))
  | _ => none
theorem sc_gcd : SimC K (fun vs H Q => ∃ a b : Int, vs = [.int a, .int b] ∧ Q (.int ((Nat.gcd a.natAbs b.natAbs : Nat) : Int)) H) aGcd := fun H h G μ rh xs vs rs Q z e k => by
  match xs, e with
  | [.int i, .int j], e =>
    cases e
    obtain ⟨v, u, ev, rv, ru⟩ := two_inv rs
    have rv' : v = .int i := rv
    have ru' : u = .int j := ru
    subst ev rv' ru'
    exact ⟨i, j, rfl, k _ H G rh (Ext.refl _ _) rfl⟩
/-- tuple(x) | list(x): a new list that never changes -/
def aTuple : FC := fun xs h => match xs with
  | [x] => (match getL h x with
    | some l => some (.tup l)
    | none => none)
  | _ => none
def aList : FC := fun xs h => match xs with
  | [x] => (match getL h x with
    | some l => some (.lst l)
    | none => none)
  | _ => none
theorem sc_tuple : SimC K (fun xs H Q => ∃ p ys, xs = [.ref p] ∧ ((SqL K H p ys ∧ ∀ l, H l = none → Q (.ref l) (upd H l (.tup ys))) ∨ (SqT K H p ys ∧ Q (.ref p) H))) aTuple := fun H h G μ rh xs vs rs Q z e k => by
  match xs, e with
  | [x], e =>
    obtain ⟨v, ev, rv⟩ := one_inv rs
    subst ev
    have e' : (match getL h x with
      | some l => some (AV.tup l)
      | none => none) = some z := e
    cases q : getL h x with
    | none =>
      rw [q] at e'
      cases e'
    | some l =>
      rw [q] at e'
      cases e'
      obtain ⟨a, us, ea, ra, s⟩ := getL_sq rh rv q
      subst ea
      refine ⟨a, us, rfl, ?_⟩
      rcases s with ⟨_, s, sg⟩ | ⟨_, s⟩
      · exact .inr ⟨s, k _ H G rh (Ext.refl _ _) ⟨a, us, rfl, sg, ra⟩⟩
      · refine .inl ⟨s, fun p hp => ?_⟩
        obtain ⟨g, x2⟩ := rh.grow (o := .tup us) hp
        exact k _ _ _ g x2 ⟨p, _, rfl, SqT.of upd_same, RL.mono x2 ra⟩
theorem sc_list : SimC K (fun xs H Q => ∃ p ys, xs = [.ref p] ∧ (SqL K H p ys ∨ SqT K H p ys) ∧ ∀ l, H l = none → Q (.ref l) (upd H l (.lst ys))) aList := fun H h G μ rh xs vs rs Q z e k => by
  match xs, e with
  | [x], e =>
    obtain ⟨v, ev, rv⟩ := one_inv rs
    subst ev
    have e' : (match getL h x with
      | some l => some (AV.lst l)
      | none => none) = some z := e
    cases q : getL h x with
    | none =>
      rw [q] at e'
      cases e'
    | some l =>
      rw [q] at e'
      cases e'
      obtain ⟨a, us, ea, ra, s⟩ := getL_sq rh rv q
      subst ea
      refine ⟨a, us, rfl, ?_, fun p hp => ?_⟩
      · rcases s with ⟨_, s, sg⟩ | ⟨_, s⟩
        · exact .inr s
        · exact .inl s
      · obtain ⟨g, x2⟩ := rh.grow (o := .lst us) hp
        exact k _ _ _ g x2 ⟨p, _, rfl, upd_same, RL.mono x2 ra⟩
/-- bools in a list -/
def bools : List AV → Option (List Bool)
  | [] => some []
  | .bl b :: l => (match bools l with
    | some bs => some (b :: bs)
    | none => none)
  | _ :: _ => none
theorem bools_rel {μ : List Addr} {G : Hp} : ∀ {l : List AV} {vs : List V} {bs : List Bool}, RL K μ G l vs → bools l = some bs → vs = bs.map V.bl
  | [], vs, bs, r, e => by
    cases e
    exact r
  | x :: l, vs, bs, r, e => by
    obtain ⟨v, t, ev, rv, rt⟩ := r.inv
    cases x <;> try cases e
    rename_i b
    have e' : (match bools l with
      | some bs => some (b :: bs)
      | none => none) = some bs := e
    cases q : bools l with
    | none =>
      rw [q] at e'
      cases e'
    | some bs' =>
      rw [q] at e'
      cases e'
      have rv' : v = .bl b := rv
      rw [ev, rv', bools_rel rt q] <;> rfl
def intsOf : List AV → Option (List Int)
  | [] => some []
  | .int b :: l => (match intsOf l with
    | some bs => some (b :: bs)
    | none => none)
  | _ :: _ => none
theorem intsOf_rel {μ : List Addr} {G : Hp} : ∀ {l : List AV} {vs : List V} {bs : List Int}, RL K μ G l vs → intsOf l = some bs → vs = bs.map V.int
  | [], vs, bs, r, e => by
    cases e
    exact r
  | x :: l, vs, bs, r, e => by
    obtain ⟨v, t, ev, rv, rt⟩ := r.inv
    cases x <;> try cases e
    rename_i b
    have e' : (match intsOf l with
      | some bs => some (b :: bs)
      | none => none) = some bs := e
    cases q : intsOf l with
    | none =>
      rw [q] at e'
      cases e'
    | some bs' =>
      rw [q] at e'
      cases e'
      have rv' : v = .int b := rv
      rw [ev, rv', intsOf_rel rt q] <;> rfl
/-- a fold over a list (not a tuple) -/
def onL (f : List AV → Option AV) : FC := fun xs h => match xs with
  | [x] => if isT x = true then none else (match getL h x with
    | some l => f l
    | none => none)
  | _ => none
theorem sc_onL {f : List AV → Option AV} {r : List V → Hp → VK → Prop} (hr : ∀ H h G μ, RelH K H h G μ → ∀ l a us, RL K μ G l us → SqL K H a us → ∀ Q : VK, ∀ z, f l = some z → (∀ w H' G', RelH K H' h G' μ → Ext G μ G' μ → R K μ G' z w → Q w H') → r [.ref a] H Q) : SimC K r (onL f) := fun H h G μ rh xs vs rs Q z e k => by
  match xs, e with
  | [x], e =>
    obtain ⟨v, ev, rv⟩ := one_inv rs
    subst ev
    have e' : (if isT x = true then none else (match getL h x with
      | some l => f l
      | none => none)) = some z := e
    by_cases ht : isT x = true
    · rw [if_pos ht] at e'
      cases e'
    · rw [if_neg ht] at e'
      cases q : getL h x with
      | none =>
        rw [q] at e'
        cases e'
      | some l =>
        rw [q] at e'
        obtain ⟨a, us, ea, ra, s⟩ := getL_sq rh rv q
        subst ea
        rcases s with ⟨s0, _⟩ | ⟨_, s⟩
        · exact absurd s0 ht
        · exact hr H h G μ rh l a us ra s Q z e' k
def fAll : List AV → Option AV := fun l => match bools l with
  | some bs => some (.bl (bs.all id))
  | none => none
def fAny : List AV → Option AV := fun l => match bools l with
  | some bs => some (.bl (bs.any id))
  | none => none
def fSum : List AV → Option AV := fun l => match intsOf l with
  | some bs => some (.int bs.sum)
  | none => none
theorem sc_all : SimC K (rAll K) (onL fAll) := sc_onL fun H h G μ rh l a us ra s Q z e k => by
  unfold fAll at e
  cases q : bools l with
  | none =>
    rw [q] at e
    cases e
  | some bs =>
    rw [q] at e
    cases e
    rw [bools_rel ra q] at s
    exact ⟨a, bs, rfl, s, k _ H G rh (Ext.refl _ _) rfl⟩
theorem sc_any : SimC K (rAny K) (onL fAny) := sc_onL fun H h G μ rh l a us ra s Q z e k => by
  unfold fAny at e
  cases q : bools l with
  | none =>
    rw [q] at e
    cases e
  | some bs =>
    rw [q] at e
    cases e
    rw [bools_rel ra q] at s
    exact ⟨a, bs, rfl, s, k _ H G rh (Ext.refl _ _) rfl⟩
theorem sc_sum : SimC K (rSum K) (onL fSum) := sc_onL fun H h G μ rh l a us ra s Q z e k => by
  unfold fSum at e
  cases q : intsOf l with
  | none =>
    rw [q] at e
    cases e
  | some bs =>
    rw [q] at e
    cases e
    rw [intsOf_rel ra q] at s
    exact ⟨a, bs, rfl, s, k _ H G rh (Ext.refl _ _) rfl⟩
/-- isinstance(x, T) | isinstance(x, (T, U, ..)), T a built-in type -/
def tyName : AV → Option String
  | .non => some "NoneType"
  | .bl _ => some "bool"
  | .int _ => some "int"
  | .str _ => some "str"
  | .tup _ => some "tuple"
  | .lst _ => some "list"
  | _ => none
def aIsi (n : String) : FC := fun xs _ => match xs with
  | [x, .ty m] => if m = n then (match tyName x with
    | some t => (match kitB t n with
      | some b => some (.bl b)
      | none => none)
    | none => none) else none
  | _ => none
theorem ty_rel {H G : Hp} {μ : List Addr} {x : AV} {v : V} {t : String} (s : Same G H) (r : R K μ G x v) (e : tyName x = some t) : TyX K H v (.type t) := by
  cases x with
  | non =>
    cases e
    have r' : v = .non := r
    rw [r']
    exact .base .non
  | bl b =>
    cases e
    have r' : v = .bl b := r
    rw [r']
    exact .base (.bl b)
  | int b =>
    cases e
    have r' : v = .int b := r
    rw [r']
    exact .base (.int b)
  | str b =>
    cases e
    have r' : v = .str b := r
    rw [r']
    exact .base (.str b)
  | tup l =>
    cases e
    obtain ⟨a, vs, ea, sa, ra⟩ := r
    rw [ea]
    rcases same_sqT s sa with (z | ⟨o, z⟩) | ⟨o, its, n, z1, z2, _⟩
    · exact .base (.tup z)
    · exact .fTuple z
    · exact .kTuple z1 z2
  | lst l =>
    cases e
    obtain ⟨a, vs, ea, sa, ra⟩ := r
    rw [ea]
    exact .base (.lst (s _ _ sa))
  | _ => cases e
theorem sc_isi (n : String) : SimC K (rIsi K) (aIsi n) := fun H h G μ rh xs vs rs Q z e k => by
  match xs, e with
  | [x, .ty m], e =>
    obtain ⟨v, u, ev, rv, ru⟩ := two_inv rs
    have ru' : u = .ty m := ru
    subst ev ru'
    have e' : (if m = n then (match tyName x with
      | some t => (match kitB t n with
        | some b => some (AV.bl b)
        | none => none)
      | none => none) else none) = some z := e
    by_cases hm : m = n
    · rw [if_pos hm] at e'
      subst hm
      cases q : tyName x with
      | none =>
        rw [q] at e'
        cases e'
      | some t =>
        rw [q] at e'
        dsimp only at e'
        cases q2 : kitB t m with
        | none =>
          rw [q2] at e'
          cases e'
        | some b =>
          rw [q2] at e'
          cases e'
          exact ⟨v, .ty m, .type t, .type m, b, rfl, .ty m, ty_rel rh.ex rv q, kit_ty q2, k _ H G rh (Ext.refl _ _) rfl⟩
    · rw [if_neg hm] at e'
      cases e'
end
section
variable {X : Cx} {W : WX2} {a b e : Expr} {ma mb : ME} {pos : Pos} {es : List Expr} {m : MA}
theorem em_ix (ha : PEm X W a ma) (hb : PEm X W b mb) (hs : PlainIx b) : PEm X W (.Subscript a b pos) (mOp aIx ma mb) := by
  obtain ⟨ta, pa, sa⟩ := ha.x
  obtain ⟨tb, pb, sb⟩ := hb.x
  exact .of (pe_ix ix_LT pa pb hs) (sim_op sa sb sr_ix)
/-- a built-in function, by its name -/
theorem em_B {x : Str} {id : String} {p : Pos} {r : List V → Hp → VK → Prop} {f : FC} (hc : CallR X (.builtin id) r) (hs : SimC X.K r f) (hg : Gl X x) (hm : X.mg x = none) (hv : bootBuiltins x = some (.builtin id)) (ha : PAm X W (e :: es) m) (hn : x ≠ "__name__" := by decide)
    (hdb : (x == ("__debug__" : Str)) = false := by decide) (he : starEach (e :: es) X.env = (false, eval e X.env) :: starEach es X.env := by rfl) (hpl : (backTo pos (starEach es X.env)).any (·.1) = false := by rfl) :
    PEm X W (.Call (.Name x p) (e :: es) [] pos) (mCB f m) := by
  obtain ⟨ta, pa, sa⟩ := ha.x
  exact .of (pe_callB hc hg hm hv pa hn hdb he hpl) (sim_cb sa hs)
theorem em_Ty {x : Str} {T : String} {p : Pos} {r : List V → Hp → VK → Prop} {f : FC} (hc : CallR X (.type T) r) (hs : SimC X.K r f) (hg : Gl X x) (hm : X.mg x = none) (hv : bootBuiltins x = some (.type T)) (ha : PAm X W (e :: es) m) (hn : x ≠ "__name__" := by decide)
    (hdb : (x == ("__debug__" : Str)) = false := by decide) (he : starEach (e :: es) X.env = (false, eval e X.env) :: starEach es X.env := by rfl) (hpl : (backTo pos (starEach es X.env)).any (·.1) = false := by rfl) :
    PEm X W (.Call (.Name x p) (e :: es) [] pos) (mCB f m) := by
  obtain ⟨ta, pa, sa⟩ := ha.x
  exact .of (pe_callTy hc hg hm hv pa hn hdb he hpl) (sim_cb sa hs)
/-- a built-in that the module has by import -/
theorem em_Bf {x : Str} {id : String} {p : Pos} {r : List V → Hp → VK → Prop} {f : FC} (hc : CallR X (.builtin id) r) (hs : SimC X.K r f) (hg : Gl X x) (hm : X.mg x = some (.builtin id)) (ha : PAm X W (e :: es) m)
    (hdb : (x == ("__debug__" : Str)) = false := by decide) (he : starEach (e :: es) X.env = (false, eval e X.env) :: starEach es X.env := by rfl) (hpl : (backTo pos (starEach es X.env)).any (·.1) = false := by rfl) :
    PEm X W (.Call (.Name x p) (e :: es) [] pos) (mCB f m) := by
  obtain ⟨ta, pa, sa⟩ := ha.x
  exact .of (pe_callBfun hc hg hm pa hdb he hpl) (sim_cb sa hs)
/-- a built-in type's name as a value -/
theorem em_ty {x : Str} {n : String} {p : Pos} (hg : Gl X x) (hm : X.mg x = none) (hv : bootBuiltins x = some (.type n)) (hn : x ≠ "__name__" := by decide) (hd : (x == ("__debug__" : Str)) = false := by decide) : PEm X W (.Name x p) (mC (.ty n)) :=
  .of (pe_bltn hg hm hv (show RelV (.ty n) (.type n) from rfl) hn hd) (sim_c fun _ _ => rfl)
end
end Mi

set_option maxRecDepth 100000
set_option maxHeartbeats 4000000
/-! Statements. -/
namespace Mi
open PySem PySem.Spec L2

/-! ### meanings -/
def mNext : MS := fun ρ h => .ok .nx ρ h
def mSeq (a b : MS) : MS := fun ρ h => match a ρ h with
  | .ok .nx ρ1 h1 => b ρ1 h1
  | r => r
def gNm (i : Nat) : MG := fun d ρ h => .ok .nx (ρ.set i (some d)) h
abbrev MGs := List AV → Env2 → AHeap → RetS
def gsNil : MGs := fun l ρ h => match l with
  | [] => .ok .nx ρ h
  | _ => .bad
def gsCons (g : MG) (r : MGs) : MGs := fun l ρ h => match l with
  | x :: l => (match g x ρ h with
    | .ok .nx ρ1 h1 => r l ρ1 h1
    | _ => .bad)
  | [] => .bad
def gTp (n : Nat) (g : MGs) : MG := fun d ρ h => match d with
  | .tup l => if l.length = n then g l ρ h else .bad
  | _ => .bad
def mAsg (e : ME) (g : MG) : MS := fun ρ h => match e ρ h with
  | .bad => .bad
  | .exc x h1 => .exc x ρ h1
  | .ok d h1 => match g d ρ h1 with
    | .ok .nx ρ2 h2 => .ok .nx ρ2 h2
    | _ => .bad
def mDrop (e : ME) : MS := fun ρ h => match e ρ h with
  | .bad => .bad
  | .exc x h1 => .exc x ρ h1
  | .ok _ h1 => .ok .nx ρ h1
def mRet (e : ME) : MS := fun ρ h => match e ρ h with
  | .bad => .bad
  | .exc x h1 => .exc x ρ h1
  | .ok d h1 => .ok (.rt d) ρ h1
def mRetN : MS := fun ρ h => .ok (.rt .non) ρ h
def mBrk : MS := fun ρ h => .ok .bk ρ h
def mCnt : MS := fun ρ h => .ok .ct ρ h
def mNever : MS := fun _ _ => .bad
def mIfS (t : MT) (a b : MS) : MS := fun ρ h => match t ρ h with
  | .bad => .bad
  | .exc x h1 => .exc x ρ h1
  | .ok c h1 => if c = true then a ρ h1 else b ρ h1
/-- a, b = x, y -/
def mPar (i j : Nat) (a : MA) : MS := fun ρ h => match a ρ h with
  | .bad => .bad
  | .exc x h1 => .exc x ρ h1
  | .ok [x, y] h1 => .ok .nx ((ρ.set i (some x)).set j (some y)) h1
  | .ok _ _ => .bad
def mPar3 (i j l : Nat) (a : MA) : MS := fun ρ h => match a ρ h with
  | .bad => .bad
  | .exc x h1 => .exc x ρ h1
  | .ok [x, y, z] h1 => .ok .nx (((ρ.set i (some x)).set j (some y)).set l (some z)) h1
  | .ok _ _ => .bad
/-- name op= e -/
def mAug (i : Nat) (f : F2) (e : ME) : MS := fun ρ h => match ρ[i]? with
  | some (some x) => (match e ρ h with
    | .bad => .bad
    | .exc z h1 => .exc z ρ h1
    | .ok y h1 => (match f x y h1 with
      | some d => .ok .nx (ρ.set i (some d)) h1
      | none => .bad))
  | _ => .bad
/-- o[i] = e: the value, the list, the place -/
def mSetIx (o i e : ME) : MS := fun ρ h => match e ρ h with
  | .bad => .bad
  | .exc x h1 => .exc x ρ h1
  | .ok d h1 => match o ρ h1 with
    | .ok (.ref c) h2 => (match i ρ h2 with
      | .ok (.int k) h3 => (match h3[c]? with
        | some (some (.lst l)) => (match ixN l.length k with
          | some j => .ok .nx ρ (h3.set c (some (.lst (l.set j d))))
          | none => .bad)
        | _ => .bad)
      | .exc x h3 => .exc x ρ h3
      | _ => .bad)
    | .exc x h2 => .exc x ρ h2
    | _ => .bad
/-- o.f = e, o being made -/
def putK (f : Str) : List Str → List Str
  | [] => [f]
  | g :: r => if g = f then g :: r else g :: putK f r
def putL (f : Str) (d : AV) : List Str → List AV → List AV
  | [], _ => [d]
  | g :: r, x :: l => if g = f then d :: l else x :: putL f d r l
  | _ :: _, [] => []
def mSetAt (cs : List Str) (f : Str) (o e : ME) : MS := fun ρ h => match e ρ h with
  | .bad => .bad
  | .exc x h1 => .exc x ρ h1
  | .ok d h1 => match o ρ h1 with
    | .ok (.ref c) h2 => (match h2[c]? with
      | some (some (.ins n ks l)) => if n ∈ cs ∧ ks.length < 1000 then .ok .nx ρ (h2.set c (some (.ins n (putK f ks) (putL f d ks l)))) else .bad
      | _ => .bad)
    | .exc x h2 => .exc x ρ h2
    | _ => .bad
def isLc (h : AHeap) (c : Nat) : Bool := match h[c]? with
  | some (some (.lst _)) => true
  | _ => false
theorem isLc_ok {h : AHeap} {c : Nat} (e : isLc h c = true) : ∃ l, h[c]? = some (some (MO.lst l)) := by
  unfold isLc at e
  cases q : h[c]? with
  | none =>
    rw [q] at e
    cases e
  | some o =>
    rw [q] at e
    cases o with
    | none => cases e
    | some mo =>
      cases mo with
      | lst l => exact ⟨l, rfl⟩
      | ins n ks l => cases e
/-- xs.append(e), xs.extend(e) as expressions -/
def mApp (o e : ME) : ME := fun ρ h => match o ρ h with
  | .ok (.ref c) h1 => if isLc h1 c = true then (match e ρ h1 with
    | .ok d h2 => (match h2[c]? with
      | some (some (.lst l)) => if l.length < sizeLine then .ok .non (h2.set c (some (.lst (l ++ [d])))) else .bad
      | _ => .bad)
    | .exc x h2 => .exc x h2
    | .bad => .bad) else .bad
  | .exc x h1 => .exc x h1
  | _ => .bad
def mExt (o e : ME) : ME := fun ρ h => match o ρ h with
  | .ok (.ref c) h1 => if isLc h1 c = true then (match e ρ h1 with
    | .ok d h2 => (match h2[c]?, d with
      | some (some (.lst l)), .lst m => if l.length + m.length ≤ sizeLine then .ok .non (h2.set c (some (.lst (l ++ m)))) else .bad
      | _, _ => .bad)
    | .exc x h2 => .exc x h2
    | .bad => .bad) else .bad
  | .exc x h1 => .exc x h1
  | _ => .bad
/-- from here on the list (the instance) at the name i never changes -/
def mFrz (i : Nat) : MS := fun ρ h => match ρ[i]? with
  | some (some (.ref c)) => (match h[c]? with
    | some (some (.lst l)) => .ok .nx (ρ.set i (some (.lst l))) (h.set c none)
    | some (some (.ins n ks l)) => .ok .nx (ρ.set i (some (.obj n ks l))) (h.set c none)
    | _ => .bad)
  | _ => .ok .nx ρ h

/-! ### ties -/
section
variable {K : PySem.W.Frag} {W : WX2} {ta tb te to ti : TE} {a b e o i' : ME} {tt : TT} {m : MT} {l : TA} {q : MA} {t u : TS} {x y : MS} {g : TG} {k' : MG}
theorem FlK.mono {D : Ends} {σ : L2.St} {H : Hp} {G G' : Hp} {μ : List Addr} {f : Fl} (h : FlK K D σ H G μ f) : True := trivial
theorem ss_next : SimS K W tNext mNext := fun σ H ρ h G μ rel D k => k σ H G μ rel (Ext.refl _ _)
theorem ss_brk : SimS K W tBreak mBrk := fun σ H ρ h G μ rel D k => k σ H G μ rel (Ext.refl _ _)
theorem ss_cnt : SimS K W tCont mCnt := fun σ H ρ h G μ rel D k => k σ H G μ rel (Ext.refl _ _)
theorem ss_never : SimS K W t mNever := fun σ H ρ h G μ rel D => trivial
theorem ss_seq (h1 : SimS K W t x) (h2 : SimS K W u y) : SimS K W (tSeq t u) (mSeq x y) := fun σ H ρ h G μ rel D => by
  unfold mSeq
  have A := h1 σ H ρ h G μ rel { D with nx := u D }
  cases ea : x ρ h with
  | bad => trivial
  | exc z ρ1 h1 =>
    rw [ea] at A
    exact A
  | ok f ρ1 h1 =>
    rw [ea] at A
    cases f with
    | nx =>
      dsimp only
      cases eb : y ρ1 h1 with
      | bad => trivial
      | exc z ρ2 h3 =>
        intro k
        refine A fun σ1 H1 G1 μ1 r1 x1 => ?_
        have B := h2 σ1 H1 ρ1 h1 G1 μ1 r1 D
        rw [eb] at B
        exact B fun d σ2 H2 G2 μ2 r2 x2 q => k d σ2 H2 G2 μ2 r2 (x1.trans x2) q
      | ok f2 ρ2 h3 =>
        intro k
        refine A fun σ1 H1 G1 μ1 r1 x1 => ?_
        have B := h2 σ1 H1 ρ1 h1 G1 μ1 r1 D
        rw [eb] at B
        exact B fun σ2 H2 G2 μ2 r2 x2 => k σ2 H2 G2 μ2 r2 (x1.trans x2)
    | rt d =>
      intro k
      exact A fun σ1 H1 G1 μ1 r1 x1 => k σ1 H1 G1 μ1 r1 x1
    | bk =>
      intro k
      exact A fun σ1 H1 G1 μ1 r1 x1 => k σ1 H1 G1 μ1 r1 x1
    | ct =>
      intro k
      exact A fun σ1 H1 G1 μ1 r1 x1 => k σ1 H1 G1 μ1 r1 x1
theorem sg_nm {i : Nat} : SimG K W (gName i) (gNm i) := fun σ H ρ h G μ rel d v r Q k => k _ H G μ ⟨rel.hp, rel.sl.set r⟩ (Ext.refl _ _)
def SimGs (K : PySem.W.Frag) (t : TGs) (m : MGs) : Prop := ∀ σ H ρ h G μ, Rel K σ H ρ h G μ → ∀ l vs, RL K μ G l vs → ∀ Q : L2.St → Hp → Prop, match m l ρ h with
  | .ok .nx ρ' h' => (∀ σ' H' G' μ', Rel K σ' H' ρ' h' G' μ' → Ext G μ G' μ' → Q σ' H') → t vs σ H Q
  | _ => True
theorem sgs_nil : SimGs K gNil gsNil := fun σ H ρ h G μ rel l vs r Q => by
  cases l with
  | nil =>
    intro k
    exact ⟨r, k σ H G μ rel (Ext.refl _ _)⟩
  | cons x l => trivial
theorem sgs_cons {tr : TGs} {mr : MGs} (h1 : SimG K W g k') (h2 : SimGs K tr mr) : SimGs K (gCons g tr) (gsCons k' mr) := fun σ H ρ h G μ rel l vs r Q => by
  cases l with
  | nil => trivial
  | cons x l =>
    obtain ⟨v, us, ev, rv, rs⟩ := r.inv
    show (match (match k' x ρ h with
      | .ok .nx ρ1 h1 => mr l ρ1 h1
      | _ => .bad) with
      | .ok .nx ρ' h' => (∀ σ' H' G' μ', Rel K σ' H' ρ' h' G' μ' → Ext G μ G' μ' → Q σ' H') → gCons g tr vs σ H Q
      | _ => True)
    have A := h1 σ H ρ h G μ rel x v rv (fun σ1 H1 => tr us σ1 H1 Q)
    cases ea : k' x ρ h with
    | bad => trivial
    | exc z ρ1 h1 => trivial
    | ok f ρ1 h1 =>
      rw [ea] at A
      cases f with
      | nx =>
        dsimp only
        cases eb : mr l ρ1 h1 with
        | bad => trivial
        | exc z ρ2 h3 => trivial
        | ok f2 ρ2 h3 =>
          cases f2 with
          | nx =>
            intro k
            refine ⟨v, us, ev, A fun σ1 H1 G1 μ1 r1 x1 => ?_⟩
            have B := h2 σ1 H1 ρ1 h1 G1 μ1 r1 l us (RL.mono x1 rs) Q
            rw [eb] at B
            exact B fun σ2 H2 G2 μ2 r2 x2 => k σ2 H2 G2 μ2 r2 (x1.trans x2)
          | _ => trivial
      | _ => trivial
theorem sg_tp {n : Nat} {tr : TGs} {mr : MGs} (h : SimGs K tr mr) : SimG K W (gTup K n tr) (gTp n mr) := fun σ H ρ hh G μ rel d v r Q => by
  cases d with
  | tup l =>
    show (match (if l.length = n then mr l ρ hh else .bad) with
      | .bad => True
      | .ok .nx ρ' h' => (∀ σ' H' G' μ', Rel K σ' H' ρ' h' G' μ' → Ext G μ G' μ' → Q σ' H') → gTup K n tr v σ H Q
      | _ => True)
    by_cases hn : l.length = n
    · rw [if_pos hn]
      obtain ⟨a, vs, ea, sa, ra⟩ := r
      have A := h σ H ρ hh G μ rel l vs ra Q
      cases eb : mr l ρ hh with
      | bad => trivial
      | exc z ρ2 h3 => trivial
      | ok f2 ρ2 h3 =>
        rw [eb] at A
        cases f2 with
        | nx =>
          intro k
          exact ⟨a, vs, ea, same_sqT rel.hp.ex sa, by rw [ra.length]; exact hn, A k⟩
        | _ => trivial
    · rw [if_neg hn]
      trivial
  | _ => trivial
theorem ss_asg (he : SimE K W te e) (hg : SimG K W g k') : SimS K W (tAsg te g) (mAsg e k') := fun σ H ρ h G μ rel D => by
  unfold mAsg
  have A := he σ H ρ h G μ rel
  cases ea : e ρ h with
  | bad => trivial
  | exc z h1 =>
    rw [ea] at A
    intro k
    exact A _ fun d H' G' μ' r1 x1 q => k d σ H' G' μ' r1 x1 q
  | ok d h1 =>
    rw [ea] at A
    dsimp only
    cases eb : k' d ρ h1 with
    | bad => trivial
    | exc z ρ2 h2 => trivial
    | ok f ρ2 h2 =>
      cases f with
      | nx =>
        intro k
        refine A _ fun v H1 G1 μ1 r1 x1 rv => ?_
        have B := hg σ H1 ρ h1 G1 μ1 r1 d v rv D.nx
        rw [eb] at B
        exact B fun σ2 H2 G2 μ2 r2 x2 => k σ2 H2 G2 μ2 r2 (x1.trans x2)
      | _ => trivial
theorem ss_drop (he : SimE K W te e) : SimS K W (tDrop te) (mDrop e) := fun σ H ρ h G μ rel D => by
  unfold mDrop
  have A := he σ H ρ h G μ rel
  cases ea : e ρ h with
  | bad => trivial
  | exc z h1 =>
    rw [ea] at A
    intro k
    exact A _ fun d H' G' μ' r1 x1 q => k d σ H' G' μ' r1 x1 q
  | ok d h1 =>
    rw [ea] at A
    intro k
    exact A _ fun v H1 G1 μ1 r1 x1 rv => k σ H1 G1 μ1 r1 x1
theorem ss_ret (he : SimE K W te e) : SimS K W (tRet te) (mRet e) := fun σ H ρ h G μ rel D => by
  unfold mRet
  have A := he σ H ρ h G μ rel
  cases ea : e ρ h with
  | bad => trivial
  | exc z h1 =>
    rw [ea] at A
    intro k
    exact A _ fun d H' G' μ' r1 x1 q => k d σ H' G' μ' r1 x1 q
  | ok d h1 =>
    rw [ea] at A
    intro k
    exact A _ fun v H1 G1 μ1 r1 x1 rv => k σ H1 G1 μ1 r1 x1 v rv
theorem ss_retN : SimS K W tRetN mRetN := fun σ H ρ h G μ rel D k => k σ H G μ rel (Ext.refl _ _) .non rfl
theorem ss_if (ht : SimT K W tt m) (h1 : SimS K W t x) (h2 : SimS K W u y) : SimS K W (tIfS tt t u) (mIfS m x y) := fun σ H ρ h G μ rel D => by
  unfold mIfS
  have A := ht σ H ρ h G μ rel
  cases ea : m ρ h with
  | bad => trivial
  | exc z h1 =>
    rw [ea] at A
    intro k
    exact A _ fun d H' G' μ' r1 x1 q => k d σ H' G' μ' r1 x1 q
  | ok c hh =>
    rw [ea] at A
    dsimp only
    cases c with
    | true =>
      rw [if_pos rfl]
      cases eb : x ρ hh with
      | bad => trivial
      | exc z ρ2 h3 =>
        intro k
        refine A _ fun H1 G1 μ1 r1 x1 => ?_
        have B := h1 σ H1 ρ hh G1 μ1 r1 D
        rw [eb] at B
        exact B fun d σ2 H2 G2 μ2 r2 x2 q => k d σ2 H2 G2 μ2 r2 (x1.trans x2) q
      | ok f2 ρ2 h3 =>
        intro k
        refine A _ fun H1 G1 μ1 r1 x1 => ?_
        have B := h1 σ H1 ρ hh G1 μ1 r1 D
        rw [eb] at B
        exact B fun σ2 H2 G2 μ2 r2 x2 => k σ2 H2 G2 μ2 r2 (x1.trans x2)
    | false =>
      rw [if_neg Bool.false_ne_true]
      cases eb : y ρ hh with
      | bad => trivial
      | exc z ρ2 h3 =>
        intro k
        refine A _ fun H1 G1 μ1 r1 x1 => ?_
        have B := h2 σ H1 ρ hh G1 μ1 r1 D
        rw [eb] at B
        exact B fun d σ2 H2 G2 μ2 r2 x2 q => k d σ2 H2 G2 μ2 r2 (x1.trans x2) q
      | ok f2 ρ2 h3 =>
        intro k
        refine A _ fun H1 G1 μ1 r1 x1 => ?_
        have B := h2 σ H1 ρ hh G1 μ1 r1 D
        rw [eb] at B
        exact B fun σ2 H2 G2 μ2 r2 x2 => k σ2 H2 G2 μ2 r2 (x1.trans x2)
theorem ss_par {i j : Nat} (ha : SimA K W l q) : SimS K W (tPar i j l) (mPar i j q) := fun σ H ρ h G μ rel D => by
  unfold mPar
  have A := ha σ H ρ h G μ rel
  cases ea : q ρ h with
  | bad => trivial
  | exc z h1 =>
    rw [ea] at A
    intro k
    exact A _ fun d H' G' μ' r1 x1 q => k d σ H' G' μ' r1 x1 q
  | ok ds h1 =>
    rw [ea] at A
    match ds with
    | [] => trivial
    | [_] => trivial
    | _ :: _ :: _ :: _ => trivial
    | [x, y] =>
      intro k
      refine A _ fun vs H1 G1 μ1 r1 x1 rs => ?_
      obtain ⟨v, u, ev, rv, ru⟩ := two_inv rs
      exact ⟨v, u, ev, k _ H1 G1 μ1 ⟨r1.hp, (r1.sl.set rv).set ru⟩ x1⟩
theorem ss_par3 {i j n : Nat} (ha : SimA K W l q) : SimS K W (tPar3 i j n l) (mPar3 i j n q) := fun σ H ρ h G μ rel D => by
  unfold mPar3
  have A := ha σ H ρ h G μ rel
  cases ea : q ρ h with
  | bad => trivial
  | exc z h1 =>
    rw [ea] at A
    intro k
    exact A _ fun d H' G' μ' r1 x1 q => k d σ H' G' μ' r1 x1 q
  | ok ds h1 =>
    rw [ea] at A
    match ds with
    | [] => trivial
    | [_] => trivial
    | [_, _] => trivial
    | _ :: _ :: _ :: _ :: _ => trivial
    | [x, y, z] =>
      intro k
      refine A _ fun vs H1 G1 μ1 r1 x1 rs => ?_
      obtain ⟨v, r, ev, rv, rr⟩ := rs.inv
      obtain ⟨u, w, er, ru, rw'⟩ := two_inv rr
      subst er
      exact ⟨v, u, w, ev, k _ H1 G1 μ1 ⟨r1.hp, ((r1.sl.set rv).set ru).set rw'⟩ x1⟩
theorem ss_setIx (ho : SimE K W to o) (hi : SimE K W ti i') (he : SimE K W te e) : SimS K W (tAsg te (gSub to ti rSetL)) (mSetIx o i' e) := fun σ H ρ h G μ rel D => by
  unfold mSetIx
  have A := he σ H ρ h G μ rel
  cases ea : e ρ h with
  | bad => trivial
  | exc z h1 =>
    rw [ea] at A
    intro k
    exact A _ fun d H' G' μ' r1 x1 q => k d σ H' G' μ' r1 x1 q
  | ok d h1 =>
    rw [ea] at A
    dsimp only
    cases eo : o ρ h1 with
    | bad => trivial
    | exc z h2 =>
      intro k
      refine A _ fun v H1 G1 μ1 r1 x1 rv => ?_
      have B := ho σ H1 ρ h1 G1 μ1 r1 (fun o H1 => ti σ H1 fun i H2 => rSetL o i v H2 fun H3 => D.nx σ H3)
      rw [eo] at B
      exact B fun d H' G' μ' r2 x2 q => k d σ H' G' μ' r2 (x1.trans x2) q
    | ok p h2 =>
      cases p with
      | ref c =>
        dsimp only
        cases ei : i' ρ h2 with
        | bad => trivial
        | exc z h3 =>
          intro k
          refine A _ fun v H1 G1 μ1 r1 x1 rv => ?_
          have B := ho σ H1 ρ h1 G1 μ1 r1 (fun o H1 => ti σ H1 fun i H2 => rSetL o i v H2 fun H3 => D.nx σ H3)
          rw [eo] at B
          refine B fun u H2 G2 μ2 r2 x2 ru => ?_
          have C := hi σ H2 ρ h2 G2 μ2 r2 (fun i H2 => rSetL u i v H2 fun H3 => D.nx σ H3)
          rw [ei] at C
          exact C fun d H' G' μ' r3 x3 q => k d σ H' G' μ' r3 ((x1.trans x2).trans x3) q
        | ok n h3 =>
          cases n with
          | int kk =>
            dsimp only
            cases ec : h3[c]? with
            | none => trivial
            | some oo =>
              cases oo with
              | none => trivial
              | some mo =>
                cases mo with
                | ins _ _ _ => trivial
                | lst ll =>
                  dsimp only
                  cases ej : ixN ll.length kk with
                  | none => trivial
                  | some j =>
                    intro k
                    refine A _ fun v H1 G1 μ1 r1 x1 rv => ?_
                    have B := ho σ H1 ρ h1 G1 μ1 r1 (fun o H1 => ti σ H1 fun i H2 => rSetL o i v H2 fun H3 => D.nx σ H3)
                    rw [eo] at B
                    refine B fun u H2 G2 μ2 r2 x2 ru => ?_
                    have C := hi σ H2 ρ h2 G2 μ2 r2 (fun i H2 => rSetL u i v H2 fun H3 => D.nx σ H3)
                    rw [ei] at C
                    refine C fun w H3 G3 μ3 r3 x3 rw' => ?_
                    obtain ⟨pa, f1, f2⟩ := R.mono x3 ru
                    obtain ⟨pb, g1, g2, vs, g3, g4⟩ := r3.hp.cont c _ ec
                    rw [f1] at g1
                    cases g1
                    have hw : RM K μ3 G3 (.lst (ll.set j d)) (some (.lst (vs.set j v))) := ⟨_, rfl, RL.set (R.mono x3 (R.mono x2 rv)) j g4⟩
                    refine ⟨pa, vs, kk, j, f2, rw', g3, by rw [g4.length]; exact ej, ?_⟩
                    exact k σ _ G3 μ3 ⟨r3.hp.write ec f1 hw, r3.sl⟩ ((x1.trans x2).trans x3)
          | _ => trivial
      | _ => trivial
theorem put_zip (f : Str) (d : AV) (v : V) {μ : List Addr} {G : Hp} (hv : R K μ G d v) : ∀ {ks : List Str} {l : List AV} {vs : List V}, ks.length = l.length → RL K μ G l vs → ∃ us, putF f v (ks.zip vs) = (putK f ks).zip us ∧ (putK f ks).length = (putL f d ks l).length ∧ RL K μ G (putL f d ks l) us
  | [], l, vs, hl, r => by
    refine ⟨[v], ?_, rfl, RL.cons hv RL.nil⟩
    rw [List.zip_nil_left] <;> rfl
  | g :: ks, [], vs, hl, r => by simp at hl
  | g :: ks, x :: l, vs, hl, r => by
    obtain ⟨w, us, ev, rw', rs⟩ := r.inv
    subst ev
    have hl' : ks.length = l.length := by simpa using hl
    by_cases hg : g = f
    · refine ⟨v :: us, ?_, ?_, ?_⟩
      · show (if g = f then (g, v) :: ks.zip us else (g, w) :: putF f v (ks.zip us)) = (if g = f then g :: ks else g :: putK f ks).zip (v :: us)
        rw [if_pos hg, if_pos hg] <;> rfl
      · show (if g = f then g :: ks else g :: putK f ks).length = (if g = f then d :: l else x :: putL f d ks l).length
        rw [if_pos hg, if_pos hg, List.length_cons, List.length_cons, hl']
      · show RL K μ G (if g = f then d :: l else x :: putL f d ks l) (v :: us)
        rw [if_pos hg]
        exact RL.cons hv rs
    · obtain ⟨ws, e1, e2, e3⟩ := put_zip f d v hv hl' rs
      refine ⟨w :: ws, ?_, ?_, ?_⟩
      · show (if g = f then (g, v) :: ks.zip us else (g, w) :: putF f v (ks.zip us)) = (if g = f then g :: ks else g :: putK f ks).zip (w :: ws)
        rw [if_neg hg, if_neg hg, e1] <;> rfl
      · show (if g = f then g :: ks else g :: putK f ks).length = (if g = f then d :: l else x :: putL f d ks l).length
        rw [if_neg hg, if_neg hg, List.length_cons, List.length_cons, e2]
      · show RL K μ G (if g = f then d :: l else x :: putL f d ks l) (w :: ws)
        rw [if_neg hg]
        exact RL.cons rw' e3
/-- what of a class must be known for its attribute f -/
structure CA (K : PySem.W.Frag) (c f : Str) : Prop where
  cl : Cls K (He.ga K c)
  na : NoAttr K (He.ga K c) f
theorem ss_setAt {f : Str} {cs : List Str} (hc : ∀ c ∈ cs, CA K c f) (ho : SimE K W to o) (he : SimE K W te e) : SimS K W (sFld K to te f) (mSetAt cs f o e) := fun σ H ρ h G μ rel D => by
  unfold mSetAt
  have A := he σ H ρ h G μ rel
  cases ea : e ρ h with
  | bad => trivial
  | exc z h1 =>
    rw [ea] at A
    intro k
    exact A _ fun d H' G' μ' r1 x1 q => k d σ H' G' μ' r1 x1 q
  | ok d h1 =>
    rw [ea] at A
    dsimp only
    cases eo : o ρ h1 with
    | bad => trivial
    | exc z h2 =>
      intro k
      refine A _ fun v H1 G1 μ1 r1 x1 rv => ?_
      have B := ho σ H1 ρ h1 G1 μ1 r1 (fun x H2 => ∃ a C dx fs, x = .ref a ∧ H2 a = some (.ins C dx fs) ∧ Cls K C ∧ NoAttr K C f ∧ fs.length < 1000 ∧ D.nx σ (upd H2 a (.ins C dx (putF f v fs))))
      rw [eo] at B
      exact B fun d H' G' μ' r2 x2 q => k d σ H' G' μ' r2 (x1.trans x2) q
    | ok p h2 =>
      cases p with
      | ref c =>
        dsimp only
        cases ec : h2[c]? with
        | none => trivial
        | some oo =>
          cases oo with
          | none => trivial
          | some mo =>
            cases mo with
            | lst _ => trivial
            | ins n ks l =>
              dsimp only
              by_cases hn : n ∈ cs ∧ ks.length < 1000
              · rw [if_pos hn]
                intro k
                refine A _ fun v H1 G1 μ1 r1 x1 rv => ?_
                have B := ho σ H1 ρ h1 G1 μ1 r1 (fun x H2 => ∃ a C dx fs, x = .ref a ∧ H2 a = some (.ins C dx fs) ∧ Cls K C ∧ NoAttr K C f ∧ fs.length < 1000 ∧ D.nx σ (upd H2 a (.ins C dx (putF f v fs))))
                rw [eo] at B
                refine B fun u H2 G2 μ2 r2 x2 ru => ?_
                obtain ⟨pa, f1, f2⟩ := ru
                obtain ⟨pb, g1, g2, dx, vs, g3, gl, g4⟩ := r2.hp.cont c _ ec
                rw [f1] at g1
                cases g1
                obtain ⟨us, p1, p2, p3⟩ := put_zip f d v (R.mono x2 rv) gl g4
                have hlen : (ks.zip vs).length < 1000 := by
                  rw [List.length_zip]
                  have := hn.2
                  omega
                have hw : RM K μ2 G2 (.ins n (putK f ks) (putL f d ks l)) (some (.ins (He.ga K n) dx (putF f v (ks.zip vs)))) := ⟨dx, us, by rw [p1], p2, p3⟩
                refine ⟨pa, _, dx, _, f2, g3, (hc n hn.1).cl, (hc n hn.1).na, hlen, ?_⟩
                exact k σ _ G2 μ2 ⟨r2.hp.write ec f1 hw, r2.sl⟩ (x1.trans x2)
              · rw [if_neg hn]
                trivial
      | _ => trivial
theorem se_app (ho : SimE K W to o) (he : SimE K W te e) : SimE K W (tBM K "list" rAppend to (tCons te tNil)) (mApp o e) := fun σ H ρ h G μ rel Q => by
  unfold mApp
  have A := ho σ H ρ h G μ rel
  cases eo : o ρ h with
  | bad => trivial
  | exc z h1 =>
    rw [eo] at A
    exact A _
  | ok p h1 =>
    rw [eo] at A
    cases p with
    | ref c =>
      dsimp only
      have ty : ∀ {v : V} {H1 : Hp} {G1 : Hp} {μ1 : List Addr}, Rel K σ H1 ρ h1 G1 μ1 → (∃ l, h1[c]? = some (some (MO.lst l))) → R K μ1 G1 (.ref c) v → tyV K "list" v H1 := fun {v H1 G1 μ1} r1 hl rv => by
        obtain ⟨l, hl⟩ := hl
        obtain ⟨pa, f1, f2⟩ := rv
        obtain ⟨pb, g1, g2, vs, g3, g4⟩ := r1.hp.cont c _ hl
        rw [f1] at g1
        cases g1
        rw [f2]
        exact .inl ⟨rfl, vs, SqL.of g3⟩
      by_cases hl0 : isLc h1 c = true
      · have hl := isLc_ok hl0
        rw [if_pos hl0]
        cases ee : e ρ h1 with
        | bad => trivial
        | exc z h2 =>
          intro k
          refine A _ fun v H1 G1 μ1 r1 x1 rv => ⟨ty r1 hl rv, ?_⟩
          have B := he σ H1 ρ h1 G1 μ1 r1 (fun y H2 => rAppend v [y] H2 Q)
          rw [ee] at B
          exact B (k.mono x1)
        | ok d h2 =>
          dsimp only
          cases ec : h2[c]? with
          | none => trivial
          | some oo =>
            cases oo with
            | none => trivial
            | some mo =>
              cases mo with
              | ins _ _ _ => trivial
              | lst ll =>
                dsimp only
                by_cases hz : ll.length < sizeLine
                · rw [if_pos hz]
                  intro k
                  refine A _ fun v H1 G1 μ1 r1 x1 rv => ⟨ty r1 hl rv, ?_⟩
                  have B := he σ H1 ρ h1 G1 μ1 r1 (fun y H2 => rAppend v [y] H2 Q)
                  rw [ee] at B
                  refine B fun u H2 G2 μ2 r2 x2 ru => ?_
                  obtain ⟨pa, f1, f2⟩ := R.mono x2 rv
                  obtain ⟨pb, g1, g2, vs, g3, g4⟩ := r2.hp.cont c _ ec
                  rw [f1] at g1
                  cases g1
                  have hw : RM K μ2 G2 (.lst (ll ++ [d])) (some (.lst (vs ++ [u]))) := ⟨_, rfl, RL.app g4 (RL.cons ru RL.nil)⟩
                  exact ⟨pa, vs, u, f2, rfl, g3, by rw [g4.length]; exact hz, k .non _ G2 μ2 ⟨r2.hp.write ec f1 hw, r2.sl⟩ (x1.trans x2) rfl⟩
                · rw [if_neg hz]
                  trivial
      · rw [if_neg hl0]
        trivial
    | _ => trivial
theorem se_ext (ho : SimE K W to o) (he : SimE K W te e) : SimE K W (tBM K "list" rExtend to (tCons te tNil)) (mExt o e) := fun σ H ρ h G μ rel Q => by
  unfold mExt
  have A := ho σ H ρ h G μ rel
  cases eo : o ρ h with
  | bad => trivial
  | exc z h1 =>
    rw [eo] at A
    exact A _
  | ok p h1 =>
    rw [eo] at A
    cases p with
    | ref c =>
      dsimp only
      have ty : ∀ {v : V} {H1 : Hp} {G1 : Hp} {μ1 : List Addr}, Rel K σ H1 ρ h1 G1 μ1 → (∃ l, h1[c]? = some (some (MO.lst l))) → R K μ1 G1 (.ref c) v → tyV K "list" v H1 := fun {v H1 G1 μ1} r1 hl rv => by
        obtain ⟨l, hl⟩ := hl
        obtain ⟨pa, f1, f2⟩ := rv
        obtain ⟨pb, g1, g2, vs, g3, g4⟩ := r1.hp.cont c _ hl
        rw [f1] at g1
        cases g1
        rw [f2]
        exact .inl ⟨rfl, vs, SqL.of g3⟩
      by_cases hl0 : isLc h1 c = true
      · have hl := isLc_ok hl0
        rw [if_pos hl0]
        cases ee : e ρ h1 with
        | bad => trivial
        | exc z h2 =>
          intro k
          refine A _ fun v H1 G1 μ1 r1 x1 rv => ⟨ty r1 hl rv, ?_⟩
          have B := he σ H1 ρ h1 G1 μ1 r1 (fun y H2 => rExtend v [y] H2 Q)
          rw [ee] at B
          exact B (k.mono x1)
        | ok d h2 =>
          dsimp only
          cases ec : h2[c]? with
          | none => trivial
          | some oo =>
            cases oo with
            | none => trivial
            | some mo =>
              cases mo with
              | ins _ _ _ => trivial
              | lst ll =>
                cases d with
                | lst m =>
                  dsimp only
                  by_cases hz : ll.length + m.length ≤ sizeLine
                  · rw [if_pos hz]
                    intro k
                    refine A _ fun v H1 G1 μ1 r1 x1 rv => ⟨ty r1 hl rv, ?_⟩
                    have B := he σ H1 ρ h1 G1 μ1 r1 (fun y H2 => rExtend v [y] H2 Q)
                    rw [ee] at B
                    refine B fun u H2 G2 μ2 r2 x2 ru => ?_
                    obtain ⟨pa, f1, f2⟩ := R.mono x2 rv
                    obtain ⟨pb, g1, g2, vs, g3, g4⟩ := r2.hp.cont c _ ec
                    rw [f1] at g1
                    cases g1
                    obtain ⟨pc, us, w1, w2, w3⟩ := ru
                    have hw : RM K μ2 G2 (.lst (ll ++ m)) (some (.lst (vs ++ us))) := ⟨_, rfl, RL.app g4 w3⟩
                    exact ⟨pa, pc, vs, us, f2, by rw [w1], g3, r2.hp.ex _ _ w2, by rw [g4.length, w3.length]; exact hz, k .non _ G2 μ2 ⟨r2.hp.write ec f1 hw, r2.sl⟩ (x1.trans x2) rfl⟩
                  · rw [if_neg hz]
                    trivial
                | _ => trivial
      · rw [if_neg hl0]
        trivial
    | _ => trivial
/-- a step that only the meaning takes -/
theorem ss_frz {i : Nat} (hs : SimS K W t x) : SimS K W t (mSeq (mFrz i) x) := fun σ H ρ h G μ rel D => by
  unfold mSeq mFrz
  have plain : match x ρ h with
    | .bad => True
    | .ok f ρ' h' => (∀ σ' H' G' μ', Rel K σ' H' ρ' h' G' μ' → Ext G μ G' μ' → FlK K D σ' H' G' μ' f) → t D σ H
    | .exc e ρ' h' => (∀ d σ' H' G' μ', Rel K σ' H' ρ' h' G' μ' → Ext G μ G' μ' → RExc K μ' G' e d → W (.ref (He.ga K e.cls)) d σ' H') → t D σ H := hs σ H ρ h G μ rel D
  cases ei : ρ[i]? with
  | none => exact plain
  | some oo =>
    cases oo with
    | none => exact plain
    | some d =>
      cases d with
      | ref c =>
        dsimp only
        cases ec : h[c]? with
        | none => trivial
        | some om =>
          cases om with
          | none => trivial
          | some mo =>
            obtain ⟨v, sv, pa, f1, f2⟩ := rel.sl.2 i _ ei
            obtain ⟨pb, g1, g2, g3⟩ := rel.hp.cont c _ ec
            rw [f1] at g1
            cases g1
            cases hpa : H pa with
            | none => exact absurd hpa (RM.ne g3)
            | some ho =>
              obtain ⟨fz, xt⟩ := rel.hp.freeze ec f1 hpa
              have slot : ∀ d', R K μ (upd G pa ho) d' v → RelS K σ (ρ.set i (some d')) (upd G pa ho) μ := fun d' rd => by
                refine ⟨by rw [List.length_set]; exact rel.sl.1, fun j e he => ?_⟩
                by_cases hj : i = j
                · subst hj
                  have hi : i < ρ.length := (List.getElem?_eq_some_iff.mp ei).1
                  rw [List.getElem?_set_self hi] at he
                  cases he
                  exact ⟨v, sv, rd⟩
                · rw [List.getElem?_set_ne hj] at he
                  obtain ⟨u, e1, r1⟩ := rel.sl.2 j e he
                  exact ⟨u, e1, R.mono xt r1⟩
              cases mo with
              | lst l =>
                dsimp only
                obtain ⟨vs, e1, e2⟩ := g3
                rw [hpa] at e1
                cases e1
                have A := hs σ H (ρ.set i (some (.lst l))) (h.set c none) _ μ ⟨fz, slot _ ⟨pa, vs, f2, upd_same, RL.mono xt e2⟩⟩ D
                cases ea : x (ρ.set i (some (.lst l))) (h.set c none) with
                | bad => trivial
                | exc z ρ1 h1 =>
                  rw [ea] at A
                  intro k
                  exact A fun d σ1 H1 G1 μ1 r1 x1 q => k d σ1 H1 G1 μ1 r1 (xt.trans x1) q
                | ok f ρ1 h1 =>
                  rw [ea] at A
                  intro k
                  exact A fun σ1 H1 G1 μ1 r1 x1 => k σ1 H1 G1 μ1 r1 (xt.trans x1)
              | ins n ks l =>
                dsimp only
                obtain ⟨dx, vs, e1, el, e2⟩ := g3
                rw [hpa] at e1
                cases e1
                have A := hs σ H (ρ.set i (some (.obj n ks l))) (h.set c none) _ μ ⟨fz, slot _ ⟨pa, dx, vs, f2, upd_same, el, RL.mono xt e2⟩⟩ D
                cases ea : x (ρ.set i (some (.obj n ks l))) (h.set c none) with
                | bad => trivial
                | exc z ρ1 h1 =>
                  rw [ea] at A
                  intro k
                  exact A fun d σ1 H1 G1 μ1 r1 x1 q => k d σ1 H1 G1 μ1 r1 (xt.trans x1) q
                | ok f ρ1 h1 =>
                  rw [ea] at A
                  intro k
                  exact A fun σ1 H1 G1 μ1 r1 x1 => k σ1 H1 G1 μ1 r1 (xt.trans x1)
      | _ => exact plain
end
end Mi

set_option maxRecDepth 100000
set_option maxHeartbeats 4000000
/-! Attributes, calls, defs. -/
namespace Mi
open PySem PySem.Spec L2

/-! ### attributes -/
def mAt (cs : List Str) (f : Str) (o : ME) : ME := fun ρ h => match o ρ h with
  | .bad => .bad
  | .exc x h1 => .exc x h1
  | .ok (.obj n ks l) h1 => if n ∈ cs then (match (ks.zip l).lookup f with
    | some d => .ok d h1
    | none => .bad) else .bad
  | .ok (.ref c) h1 => (match h1[c]? with
    | some (some (.ins n ks l)) => if n ∈ cs then (match (ks.zip l).lookup f with
      | some d => .ok d h1
      | none => .bad) else .bad
    | _ => .bad)
  | .ok _ _ => .bad
theorem RL.lookup {K : PySem.W.Frag} {μ : List Addr} {G : Hp} {f : Str} {d : AV} : ∀ {ks : List Str} {l : List AV} {vs : List V}, RL K μ G l vs → (ks.zip l).lookup f = some d → ∃ v, (ks.zip vs).lookup f = some v ∧ R K μ G d v
  | [], _, _, _, e => by
    rw [List.zip_nil_left] at e
    cases e
  | _ :: _, [], _, _, e => by
    rw [List.zip_nil_right] at e
    cases e
  | g :: ks, x :: l, vs, r, e => by
    obtain ⟨v, us, ev, rv, rs⟩ := r.inv
    subst ev
    rw [List.zip_cons_cons, List.lookup_cons] at e ⊢
    cases q : f == g with
    | true =>
      rw [q] at e
      cases e
      exact ⟨v, rfl, rv⟩
    | false =>
      rw [q] at e
      exact RL.lookup rs e
section
variable {K : PySem.W.Frag} {W : WX2} {to te ta : TE} {o e a : ME} {f : Str} {cs : List Str}
theorem se_at (hc : ∀ c ∈ cs, CA K c f) (ho : SimE K W to o) : SimE K W (tFld K to f) (mAt cs f o) := fun σ H ρ h G μ rel Q => by
  unfold mAt
  have A := ho σ H ρ h G μ rel
  cases eo : o ρ h with
  | bad => trivial
  | exc z h1 =>
    rw [eo] at A
    exact A _
  | ok p h1 =>
    rw [eo] at A
    cases p with
    | obj n ks l =>
      dsimp only
      by_cases hn : n ∈ cs
      · rw [if_pos hn]
        cases el : (ks.zip l).lookup f with
        | none => trivial
        | some d =>
          intro k
          refine A _ fun v H1 G1 μ1 r1 x1 rv => ?_
          obtain ⟨pa, dx, vs, e1, e2, e3, e4⟩ := rv
          obtain ⟨w, e5, e6⟩ := RL.lookup e4 el
          exact ⟨pa, _, dx, _, w, e1, r1.hp.ex _ _ e2, (hc n hn).cl, (hc n hn).na, e5, k w H1 G1 μ1 r1 x1 e6⟩
      · rw [if_neg hn]
        trivial
    | ref c =>
      dsimp only
      cases ec : h1[c]? with
      | none => trivial
      | some oo =>
        cases oo with
        | none => trivial
        | some mo =>
          cases mo with
          | lst _ => trivial
          | ins n ks l =>
            dsimp only
            by_cases hn : n ∈ cs
            · rw [if_pos hn]
              cases el : (ks.zip l).lookup f with
              | none => trivial
              | some d =>
                intro k
                refine A _ fun v H1 G1 μ1 r1 x1 rv => ?_
                obtain ⟨pa, f1, f2⟩ := rv
                obtain ⟨pb, g1, g2, dx, vs, g3, gl, g4⟩ := r1.hp.cont c _ ec
                rw [f1] at g1
                cases g1
                obtain ⟨w, e5, e6⟩ := RL.lookup g4 el
                exact ⟨pa, _, dx, _, w, f2, g3, (hc n hn).cl, (hc n hn).na, e5, k w H1 G1 μ1 r1 x1 e6⟩
            · rw [if_neg hn]
              trivial
    | _ => trivial
end

/-! ### what a def promises -/
def spM (K : PySem.W.Frag) (n : Nat) (F : Fn) : Sp := fun vs H Q E => ∃ args h G μ, RelH K H h G μ ∧ RL K μ G args vs ∧ args.length = n ∧ match F args h with
  | .bad => False
  | .ok d h' => ∀ v H' G' μ', RelH K H' h' G' μ' → Ext G μ G' μ' → R K μ' G' d v → Q v H'
  | .exc e h' => ∀ d H' G' μ', RelH K H' h' G' μ' → Ext G μ G' μ' → RExc K μ' G' e d → E (.ref (He.ga K e.cls)) d H'
def fnOf (m : MS) (n : Nat) : Fn := fun args h => match m (args.map some ++ List.replicate (n - args.length) none) h with
  | .ok (.rt d) _ h' => .ok d h'
  | .ok .nx _ h' => .ok .non h'
  | .exc e _ h' => .exc e h'
  | _ => .bad
abbrev W0 : WX2 := fun _ _ _ _ => False
theorem spM.len {K : PySem.W.Frag} {n : Nat} {F : Fn} {vs : List V} {H : Hp} {Q : VK} {E : XK} (h : spM K n F vs H Q E) : vs.length = n := by
  obtain ⟨args, hh, G, μ, _, r, e, _⟩ := h
  rw [r.length, e]
theorem start_rel {K : PySem.W.Frag} {G : Hp} {μ : List Addr} {args : List AV} {vs : List V} {N : List Str} (r : RL K μ G args vs) : RelS K (start N vs) (args.map some ++ List.replicate (N.length - args.length) none) G μ := by
  have hl := r.length
  refine ⟨?_, fun i d e => ?_⟩
  · show (vs.map some ++ List.replicate (N.length - vs.length) none).length = _
    rw [List.length_append, List.length_append, List.length_map, List.length_map, List.length_replicate, List.length_replicate, hl]
  · show ∃ v, (vs.map some ++ List.replicate (N.length - vs.length) none)[i]? = some (some v) ∧ R K μ G d v
    by_cases hi : i < args.length
    · rw [List.getElem?_append_left (by rw [List.length_map]; exact hi), List.getElem?_map] at e
      cases q : args[i]? with
      | none =>
        rw [q] at e
        cases e
      | some d' =>
        rw [q] at e
        cases e
        obtain ⟨v, e1, e2⟩ := r.get q
        exact ⟨v, by rw [List.getElem?_append_left (by rw [List.length_map, hl]; exact hi), List.getElem?_map, e1] <;> rfl, e2⟩
    · rw [List.getElem?_append_right (by rw [List.length_map]; omega)] at e
      have := (List.getElem?_eq_some_iff.mp e).2
      rw [List.getElem_replicate] at this
      cases this
/-- without what it may raise -/
def noX (F : Fn) : Fn := fun args h => match F args h with
  | .ok d h' => .ok d h'
  | _ => .bad
abbrev FnK (P : Program) (w : World) (K : PySem.W.Frag) (mg : Str → Option Value) (base : Heap) (k : Nat) (f : Addr) (fd : FuncData) (ps : List Str) (F : Fn) : Prop := FnOk P w K mg base (L2.CX P w) k f fd ps (spM K ps.length F)
theorem FnOk.more {P : Program} {w : World} {K : PySem.W.Frag} {mg : Str → Option Value} {base : Heap} {k : Nat} {f : Addr} {fd : FuncData} {ps : List Str} {F F' : Fn} (h : FnK P w K mg base k f fd ps F) (e : ∀ args h, F' args h = F args h ∨ F' args h = .bad) : FnK P w K mg base k f fd ps F' := by
  refine FnOk.imp h fun vs H Q E q => ?_
  obtain ⟨args, hh, G, μ, rh, ra, el, q⟩ := q
  refine ⟨args, hh, G, μ, rh, ra, el, ?_⟩
  rcases e args hh with z | z
  · rw [z] at q
    exact q
  · rw [z] at q
    exact q.elim
/-- a def that raises nothing -/
theorem fn_ok {P : Program} {w : World} {K : PySem.W.Frag} {mg : Str → Option Value} {base : Heap} {x qual : Str} {params : Arguments} {body : List Stmt} {scope : Scope} {dvs : List V} {kws : List (Str × V)} {f : Addr} {fd : FuncData} {N ps : List Str} {k : Nat} {m : MS} {CX : CXT}
    (F : FunD K x qual params body scope dvs kws f fd) (S : FnScope N ps scope)
    (hb : ∀ (cdv : Value) (A : Around) (outer : List Env) (s : Shared) (H : Hp) (E : XK), Room k (A.deeper (PyProof.Rows.envOfC qual scope s.heap.objs.size f cdv)) → PSsm (cxOf CX P w K mg base N qual scope f cdv A outer s H E).nox W0 body m) :
    FnOk P w K mg base CX (k + 1) f fd ps (spM K ps.length (noX (fnOf m N.length))) := by
  refine F.ok S (fun vs H Q E h => h.len) (fun cdv A outer s H vs Q E hr h => ⟨_, (hb cdv A outer s H E hr).p.nox, ?_⟩)
  obtain ⟨args, hh, G, μ, rh, ra, el, q⟩ := h
  refine ⟨args.map some ++ List.replicate (N.length - args.length) none, hh, G, μ, ⟨rh, start_rel ra⟩, ?_⟩
  unfold noX fnOf at q
  revert q
  cases m (args.map some ++ List.replicate (N.length - args.length) none) hh with
  | bad => exact fun q => q.elim
  | exc e ρ' h' => exact fun q => q.elim
  | ok f ρ' h' =>
    cases f with
    | nx => exact fun q σ' H' G' μ' rel x1 => q .non H' G' μ' rel.hp x1 rfl
    | rt d => exact fun q σ' H' G' μ' rel x1 v rv => q v H' G' μ' rel.hp x1 rv
    | bk => exact fun q => q.elim
    | ct => exact fun q => q.elim
/-- a def that may raise -/
theorem fn_okX {P : Program} {w : World} {K : PySem.W.Frag} {mg : Str → Option Value} {base : Heap} {x qual : Str} {params : Arguments} {body : List Stmt} {scope : Scope} {dvs : List V} {kws : List (Str × V)} {f : Addr} {fd : FuncData} {N ps : List Str} {k : Nat} {m : MS}
    (F : FunD K x qual params body scope dvs kws f fd) (S : FnScope N ps scope)
    (hb : ∀ (cdv : Value) (A : Around) (outer : List Env) (s : Shared) (H : Hp) (E : XK), Room k (A.deeper (PyProof.Rows.envOfC qual scope s.heap.objs.size f cdv)) → PSsm (cxOf (L2.CX P w) P w K mg base N qual scope f cdv A outer s H E) (fun cls d _ H' => E cls d H') body m) :
    FnK P w K mg base (k + 1) f fd ps (fnOf m N.length) := by
  refine F.ok S (fun vs H Q E h => h.len) (fun cdv A outer s H vs Q E hr h => ⟨_, (hb cdv A outer s H E hr).p, ?_⟩)
  obtain ⟨args, hh, G, μ, rh, ra, el, q⟩ := h
  refine ⟨args.map some ++ List.replicate (N.length - args.length) none, hh, G, μ, ⟨rh, start_rel ra⟩, ?_⟩
  unfold fnOf at q
  revert q
  cases m (args.map some ++ List.replicate (N.length - args.length) none) hh with
  | bad => exact fun q => q.elim
  | exc e ρ' h' => exact fun q d σ' H' G' μ' rel x1 re => q d H' G' μ' rel.hp x1 re
  | ok f ρ' h' =>
    cases f with
    | nx => exact fun q σ' H' G' μ' rel x1 => q .non H' G' μ' rel.hp x1 rfl
    | rt d => exact fun q σ' H' G' μ' rel x1 v rv => q v H' G' μ' rel.hp x1 rv
    | bk => exact fun q => q.elim
    | ct => exact fun q => q.elim

theorem fd_one {K : PySem.W.Frag} {x qual : Str} {params : Arguments} {body : List Stmt} {scope : Scope} {dvs : List V} {kws : List (Str × V)} {f : Addr} {fd fd2 : FuncData} (F : FunD K x qual params body scope dvs kws f fd) (F2 : FunD K x qual params body scope dvs kws f fd2) : fd = fd2 := by
  obtain ⟨_, _, _, _, _, _, _, _, _, _, _, l, _⟩ := F.ex
  obtain ⟨_, _, _, _, _, _, _, _, _, _, _, l2, _⟩ := F2.ex
  rw [l] at l2
  cases l2
  rfl

/-! ### data without cells -/
mutual
def clsd : AV → Bool
  | .tup l => clsdL l
  | .lst l => clsdL l
  | .lstR l => clsdL l
  | .obj _ _ l => clsdL l
  | .ref _ => false
  | _ => true
def clsdL : List AV → Bool
  | [] => true
  | x :: l => clsd x && clsdL l
end
def MO.clsd : MO → Bool
  | .lst l => clsdL l
  | .ins _ _ l => clsdL l
mutual
theorem R.any {K : PySem.W.Frag} {G : Hp} {μ μ' : List Addr} : ∀ {d : AV} {v : V}, clsd d = true → R K μ G d v → R K μ' G d v
  | .non, _, _, h => h
  | .bl _, _, _, h => h
  | .int _, _, _, h => h
  | .str _, _, _, h => h
  | .ty _, _, _, h => h
  | .tup l, v, c, h => by
    obtain ⟨a, vs, e, s, r⟩ := h
    exact ⟨a, vs, e, s, RL.any c r⟩
  | .lst l, v, c, h => by
    obtain ⟨a, vs, e, s, r⟩ := h
    exact ⟨a, vs, e, s, RL.any c r⟩
  | .lstR l, v, c, h => by
    obtain ⟨a, vs, e, s, r⟩ := h
    exact ⟨a, vs, e, s, RL.any c r⟩
  | .obj _ ks l, v, c, h => by
    obtain ⟨a, dx, vs, e, s, le, r⟩ := h
    exact ⟨a, dx, vs, e, s, le, RL.any c r⟩
  | .ref i, v, c, h => by cases c
theorem RL.any {K : PySem.W.Frag} {G : Hp} {μ μ' : List Addr} : ∀ {d : List AV} {v : List V}, clsdL d = true → RL K μ G d v → RL K μ' G d v
  | [], _, _, h => h
  | y :: l, vs, c, h => by
    obtain ⟨c1, c2⟩ := Bool.and_eq_true_iff.mp (show (clsd y && clsdL l) = true from c)
    obtain ⟨v, r, e, h1, h2⟩ := h
    exact ⟨v, r, e, R.any c1 h1, RL.any c2 h2⟩
end
mutual
theorem R.back {K : PySem.W.Frag} {G G' : Hp} {μ μ' : List Addr} (pre : μ <+: μ') : ∀ {d : AV} {v u : V}, R K μ G d u → R K μ' G' d v → R K μ G' d v
  | .non, _, _, _, h => h
  | .bl _, _, _, _, h => h
  | .int _, _, _, _, h => h
  | .str _, _, _, _, h => h
  | .ty _, _, _, _, h => h
  | .tup l, v, u, g, h => by
    obtain ⟨_, _, _, _, rg⟩ := g
    obtain ⟨a, vs, e, s, r⟩ := h
    exact ⟨a, vs, e, s, RL.back pre rg r⟩
  | .lst l, v, u, g, h => by
    obtain ⟨_, _, _, _, rg⟩ := g
    obtain ⟨a, vs, e, s, r⟩ := h
    exact ⟨a, vs, e, s, RL.back pre rg r⟩
  | .lstR l, v, u, g, h => by
    obtain ⟨_, _, _, _, rg⟩ := g
    obtain ⟨a, vs, e, s, r⟩ := h
    exact ⟨a, vs, e, s, RL.back pre rg r⟩
  | .obj _ ks l, v, u, g, h => by
    obtain ⟨_, _, _, _, _, _, rg⟩ := g
    obtain ⟨a, dx, vs, e, s, le, r⟩ := h
    exact ⟨a, dx, vs, e, s, le, RL.back pre rg r⟩
  | .ref i, v, u, g, h => by
    obtain ⟨a, e1, e2⟩ := g
    obtain ⟨b, f1, f2⟩ := h
    rw [pre_get pre e1] at f1
    cases f1
    exact ⟨a, e1, f2⟩
theorem RL.back {K : PySem.W.Frag} {G G' : Hp} {μ μ' : List Addr} (pre : μ <+: μ') : ∀ {d : List AV} {v u : List V}, RL K μ G d u → RL K μ' G' d v → RL K μ G' d v
  | [], _, _, _, h => h
  | y :: l, vs, us, g, h => by
    obtain ⟨_, _, _, g1, g2⟩ := g
    obtain ⟨v, r, e, h1, h2⟩ := h
    exact ⟨v, r, e, R.back pre g1 h1, RL.back pre g2 h2⟩
end
/-- the cells that a call has made end with it -/
def DropOk (h h' : AHeap) : Prop := h.length ≤ h'.length ∧ ∀ i mo, i < h.length → h'[i]? = some (some mo) → h[i]? = some (some mo) ∨ mo.clsd = true
open Classical in
noncomputable def dropF (F : Fn) : Fn := fun args h => match F args h with
  | .ok d h' => if clsd d = true ∧ DropOk h h' then .ok d (h'.take h.length) else .bad
  | _ => .bad
theorem RelH.drop {K : PySem.W.Frag} {H H' : Hp} {h h' : AHeap} {G G' : Hp} {μ μ' : List Addr} (r0 : RelH K H h G μ) (r : RelH K H' h' G' μ') (x : Ext G μ G' μ') (ok : DropOk h h') : RelH K H' (h'.take h.length) G' μ := by
  refine ⟨r.ex, by rw [List.length_take, r0.len]; have := ok.1; omega, fun i mo e => ?_, fun i j a mo mo' e1 e2 e3 e4 => ?_⟩
  · have hi : i < h.length := by
      have := (List.getElem?_eq_some_iff.mp e).1
      rw [List.length_take] at this
      omega
    rw [List.getElem?_take_of_lt hi] at e
    obtain ⟨a, f1, f2, f3⟩ := r.cont i mo e
    have hm : μ[i]? = some a := by
      have hlt : i < μ.length := by rw [r0.len]; exact hi
      have q := pre_get x.m (List.getElem?_eq_getElem hlt)
      rw [f1] at q
      rw [List.getElem?_eq_getElem hlt]
      exact q.symm
    refine ⟨a, hm, f2, ?_⟩
    rcases ok.2 i mo hi e with z | z
    · obtain ⟨b, g1, g2, g3⟩ := r0.cont i mo z
      cases mo with
      | lst l =>
        obtain ⟨us, _, w1⟩ := g3
        obtain ⟨vs, e1, e2⟩ := f3
        exact ⟨vs, e1, RL.back x.m w1 e2⟩
      | ins c ks l =>
        obtain ⟨_, us, _, _, w1⟩ := g3
        obtain ⟨dx, vs, e1, el, e2⟩ := f3
        exact ⟨dx, vs, e1, el, RL.back x.m w1 e2⟩
    · cases mo with
      | lst l =>
        obtain ⟨vs, e1, e2⟩ := f3
        exact ⟨vs, e1, RL.any z e2⟩
      | ins c ks l =>
        obtain ⟨dx, vs, e1, el, e2⟩ := f3
        exact ⟨dx, vs, e1, el, RL.any z e2⟩
  · have old : ∀ {i : Nat} {m : MO}, (h'.take h.length)[i]? = some (some m) → h'[i]? = some (some m) := fun {i m} e => by
      have hi : i < h.length := by
        have := (List.getElem?_eq_some_iff.mp e).1
        rw [List.length_take] at this
        omega
      rw [List.getElem?_take_of_lt hi] at e
      exact e
    exact r.inj i j a _ _ (old e1) (old e2) (pre_get x.m e3) (pre_get x.m e4)
theorem fn_drop {P : Program} {w : World} {K : PySem.W.Frag} {mg : Str → Option Value} {base : Heap} {k : Nat} {f : Addr} {fd : FuncData} {ps : List Str} {F : Fn} {CX : CXT} (h : FnOk P w K mg base CX k f fd ps (spM K ps.length F)) : FnOk P w K mg base CX k f fd ps (spM K ps.length (dropF F)) := by
  refine FnOk.imp h fun vs H Q E q => ?_
  obtain ⟨args, hh, G, μ, rh, ra, el, q⟩ := q
  refine ⟨args, hh, G, μ, rh, ra, el, ?_⟩
  unfold dropF at q
  revert q
  cases F args hh with
  | bad => exact fun q => q.elim
  | exc e h' => exact fun q => q.elim
  | ok d h' =>
    dsimp only
    by_cases hc : clsd d = true ∧ DropOk hh h'
    · rw [if_pos hc]
      exact fun q v H' G' μ' r' x' rv => q v H' G' μ (rh.drop r' x' hc.2) ⟨x'.g, List.prefix_rfl⟩ (R.any hc.1 rv)
    · rw [if_neg hc]
      exact fun q => q.elim

/-! ### calls -/
def mCall (n : Nat) (F : Fn) (ds : List AV) (a : MA) : ME := fun ρ h => match a ρ h with
  | .bad => .bad
  | .exc x h1 => .exc x h1
  | .ok l h1 => if (l ++ ds).length = n then (match F (l ++ ds) h1 with
    | .ok d h2 => .ok d h2
    | _ => .bad) else .bad
def isC (c m : Str) (h : AHeap) : AV → Bool
  | .obj c' ks _ => decide (c' = c) && !decide (m ∈ ks)
  | .ref i => (match h[i]? with
    | some (some (.ins c' ks _)) => decide (c' = c) && !decide (m ∈ ks)
    | _ => false)
  | _ => false
def mMeth (c m : Str) (n : Nat) (F : Fn) (ds : List AV) (o : ME) (a : MA) : ME := fun ρ h => match o ρ h with
  | .bad => .bad
  | .exc x h1 => .exc x h1
  | .ok x h1 => if isC c m h1 x = true then (match a ρ h1 with
    | .bad => .bad
    | .exc x h1 => .exc x h1
    | .ok l h2 => if (x :: (l ++ ds)).length = n then (match F (x :: (l ++ ds)) h2 with
      | .ok d h3 => .ok d h3
      | _ => .bad) else .bad) else .bad
open Classical in
noncomputable def mMake (c : Str) (n : Nat) (F : Fn) (ds : List AV) (a : MA) : ME := fun ρ h => match a ρ h with
  | .bad => .bad
  | .exc x h1 => .exc x h1
  | .ok l h1 => if (AV.non :: (l ++ ds)).length = n then (match F (.ref h1.length :: (l ++ ds)) (h1 ++ [some (.ins c [] [])]) with
    | .ok .non h2 => (match h2[h1.length]? with
      | some (some (.ins n ks vs)) => if clsdL vs = true ∧ DropOk h1 h2 then .ok (.obj n ks vs) (h2.take h1.length) else .bad
      | _ => .bad)
    | _ => .bad) else .bad
/-- C(..) as a cell -/
def mMakeC (c : Str) (n : Nat) (F : Fn) (ds : List AV) (a : MA) : ME := fun ρ h => match a ρ h with
  | .bad => .bad
  | .exc x h1 => .exc x h1
  | .ok l h1 => if (AV.non :: (l ++ ds)).length = n then (match F (.ref h1.length :: (l ++ ds)) (h1 ++ [some (.ins c [] [])]) with
    | .ok .non h2 => .ok (.ref h1.length) h2
    | _ => .bad) else .bad
theorem zip_no {m : Str} : ∀ {ks : List Str} {vs : List V}, m ∉ ks → (ks.zip vs).lookup m = none
  | [], _, _ => by rw [List.zip_nil_left] <;> rfl
  | _ :: _, [], _ => by rw [List.zip_nil_right] <;> rfl
  | g :: ks, v :: vs, h => by
    rw [List.zip_cons_cons, List.lookup_cons]
    have h1 : (m == g) = false := by
      rw [beq_eq_false_iff_ne]
      exact fun z => h (by rw [z]; exact List.mem_cons_self)
    rw [h1]
    exact zip_no fun z => h (List.mem_cons_of_mem _ z)
theorem isC_rel {K : PySem.W.Frag} {H : Hp} {h : AHeap} {G : Hp} {μ : List Addr} {c m : Str} {x : AV} {v : V} (rh : RelH K H h G μ) (r : R K μ G x v) (e : isC c m h x = true) : ∃ a dx fs, v = .ref a ∧ H a = some (.ins (He.ga K c) dx fs) ∧ fs.lookup m = none := by
  cases x with
  | obj c' ks l =>
    obtain ⟨e1, e2⟩ := Bool.and_eq_true_iff.mp (show (decide (c' = c) && !decide (m ∈ ks)) = true from e)
    have e1' := of_decide_eq_true e1
    subst e1'
    have e3 : m ∉ ks := fun z => by
      rw [decide_eq_true z] at e2
      cases e2
    obtain ⟨a, dx, vs, f1, f2, f3, f4⟩ := r
    exact ⟨a, dx, _, f1, rh.ex _ _ f2, zip_no e3⟩
  | ref i =>
    have e' : (match h[i]? with
      | some (some (.ins c' ks _)) => decide (c' = c) && !decide (m ∈ ks)
      | _ => false) = true := e
    cases q : h[i]? with
    | none =>
      rw [q] at e'
      cases e'
    | some oo =>
      rw [q] at e'
      cases oo with
      | none => cases e'
      | some mo =>
        cases mo with
        | lst _ => cases e'
        | ins c' ks l =>
          obtain ⟨e1, e2⟩ := Bool.and_eq_true_iff.mp (show (decide (c' = c) && !decide (m ∈ ks)) = true from e')
          have e1' := of_decide_eq_true e1
          subst e1'
          have e3 : m ∉ ks := fun z => by
            rw [decide_eq_true z] at e2
            cases e2
          obtain ⟨pa, f1, f2⟩ := r
          obtain ⟨pb, g1, g2, dx, vs, g3, gl, g4⟩ := rh.cont i _ q
          rw [f1] at g1
          cases g1
          exact ⟨pa, dx, _, f2, g3, zip_no e3⟩
  | _ => cases e
section
variable {K : PySem.W.Frag} {W : WX2} {to te ta : TE} {o : ME} {t : TA} {a : MA} {n : Nat} {F : Fn} {ds : List AV} {dvs : List V} {c m : Str}
theorem sp_run {H : Hp} {h : AHeap} {G : Hp} {μ : List Addr} {args : List AV} {vs : List V} {Q : VK} {E : XK} {d : AV} {h' : AHeap} (rh : RelH K H h G μ) (r : RL K μ G args vs) (hn : args.length = n) (e : F args h = .ok d h')
    (k : ∀ v H' G' μ', RelH K H' h' G' μ' → Ext G μ G' μ' → R K μ' G' d v → Q v H') : spM K n F vs H Q E := ⟨args, h, G, μ, rh, r, hn, by rw [e]; exact k⟩
theorem se_call (hd : ∀ μ G, RL K μ G ds dvs) (ha : SimA K W t a) : SimE K W (tCall (spM K n F) dvs E0 t) (mCall n F ds a) := fun σ H ρ h G μ rel Q => by
  unfold mCall
  have A := ha σ H ρ h G μ rel
  cases ea : a ρ h with
  | bad => trivial
  | exc z h1 =>
    rw [ea] at A
    exact A _
  | ok l h1 =>
    rw [ea] at A
    dsimp only
    by_cases hn : (l ++ ds).length = n
    · rw [if_pos hn]
      cases ef : F (l ++ ds) h1 with
      | bad => trivial
      | exc z h2 => trivial
      | ok d h2 =>
        intro k
        refine A _ fun vs H1 G1 μ1 r1 x1 rs => ?_
        exact sp_run r1.hp (RL.app rs (hd μ1 G1)) hn ef fun v H2 G2 μ2 r2 x2 rv => k v H2 G2 μ2 ⟨r2, r1.sl.mono x2⟩ (x1.trans x2) rv
    · rw [if_neg hn]
      trivial
theorem se_meth (hd : ∀ μ G, RL K μ G ds dvs) (ho : SimE K W to o) (ha : SimA K W t a) : SimE K W (tMeth (He.ga K c) m (spM K n F) dvs E0 to t) (mMeth c m n F ds o a) := fun σ H ρ h G μ rel Q => by
  unfold mMeth
  have O := ho σ H ρ h G μ rel
  cases eo : o ρ h with
  | bad => trivial
  | exc z h1 =>
    rw [eo] at O
    exact O _
  | ok x h1 =>
    rw [eo] at O
    dsimp only
    by_cases hc : isC c m h1 x = true
    · rw [if_pos hc]
      cases ea : a ρ h1 with
      | bad => trivial
      | exc z h2 =>
        intro k
        refine O _ fun v H1 G1 μ1 r1 x1 rv => ?_
        obtain ⟨pa, dx, fs, e1, e2, e3⟩ := isC_rel r1.hp rv hc
        have A := ha σ H1 ρ h1 G1 μ1 r1 (fun vs H2 => spM K n F (v :: (vs ++ dvs)) H2 Q E0)
        rw [ea] at A
        exact ⟨pa, dx, fs, e1, e2, e3, A (k.mono x1)⟩
      | ok l h2 =>
        dsimp only
        by_cases hn : (x :: (l ++ ds)).length = n
        · rw [if_pos hn]
          cases ef : F (x :: (l ++ ds)) h2 with
          | bad => trivial
          | exc z h3 => trivial
          | ok d h3 =>
            intro k
            refine O _ fun v H1 G1 μ1 r1 x1 rv => ?_
            obtain ⟨pa, dx, fs, e1, e2, e3⟩ := isC_rel r1.hp rv hc
            have A := ha σ H1 ρ h1 G1 μ1 r1 (fun vs H2 => spM K n F (v :: (vs ++ dvs)) H2 Q E0)
            rw [ea] at A
            refine ⟨pa, dx, fs, e1, e2, e3, A fun vs H2 G2 μ2 r2 x2 rs => ?_⟩
            exact sp_run r2.hp (RL.cons (R.mono x2 rv) (RL.app rs (hd μ2 G2))) hn ef fun v H3 G3 μ3 r3 x3 rv => k v H3 G3 μ3 ⟨r3, r2.sl.mono x3⟩ ((x1.trans x2).trans x3) rv
        · rw [if_neg hn]
          trivial
    · rw [if_neg hc]
      trivial
theorem new_ins {H : Hp} {h : AHeap} {G : Hp} {μ : List Addr} {x dx : Addr} {C : Addr} (r : RelH K H h G μ) (hC : C = He.ga K c) (hx : H x = none) (hdx : H dx = none) (ne : dx ≠ x) :
    RelH K (upd (upd H dx (.own x)) x (.ins C dx [])) (h ++ [some (.ins c [] [])]) G (μ ++ [x]) ∧ Ext G μ G (μ ++ [x]) ∧ (μ ++ [x])[h.length]? = some x := by
  have r1 : RelH K (upd H dx (.own x)) h G μ := r.other fun b o e => by rw [upd_ne (ne_of_none e hdx)]; exact e
  have hx1 : (upd H dx (.own x)) x = none := by rw [upd_ne ne.symm]; exact hx
  obtain ⟨g, y⟩ := r1.cell (o := .ins C dx []) (mo := .ins c [] []) hx1 ⟨dx, [], by rw [hC] <;> rfl, rfl, RL.nil⟩
  refine ⟨g, y, ?_⟩
  rw [← r.len, List.getElem?_append_right (Nat.le_refl _), Nat.sub_self]
  rfl
theorem se_makeC (hd : ∀ μ G, RL K μ G ds dvs) (ha : SimA K W t a) : SimE K W (tMake (He.ga K c) (spM K n F) dvs E0 t) (mMakeC c n F ds a) := fun σ H ρ h G μ rel Q => by
  unfold mMakeC
  have A := ha σ H ρ h G μ rel
  cases ea : a ρ h with
  | bad => trivial
  | exc z h1 =>
    rw [ea] at A
    exact A _
  | ok l h1 =>
    rw [ea] at A
    dsimp only
    by_cases hn : (AV.non :: (l ++ ds)).length = n
    · rw [if_pos hn]
      cases ef : F (.ref h1.length :: (l ++ ds)) (h1 ++ [some (.ins c [] [])]) with
      | bad => trivial
      | exc z h2 => trivial
      | ok d h2 =>
        cases d with
        | non =>
          intro k
          refine A _ fun vs H1 G1 μ1 r1 x1 rs x dx hx hdx ne => ?_
          obtain ⟨g, y, ix⟩ := new_ins (c := c) r1.hp rfl hx hdx ne
          exact sp_run (args := .ref h1.length :: (l ++ ds)) (d := .non) g (RL.cons (x := .ref h1.length) ⟨x, ix, rfl⟩ (RL.app (RL.mono y rs) (hd _ _))) hn ef fun v H2 G2 μ2 r2 x2 rv => ⟨rv, k _ H2 G2 μ2 ⟨r2, (r1.sl.mono y).mono x2⟩ ((x1.trans y).trans x2) ⟨x, pre_get x2.m ix, rfl⟩⟩
        | _ => trivial
    · rw [if_neg hn]
      trivial
theorem se_make (hd : ∀ μ G, RL K μ G ds dvs) (ha : SimA K W t a) : SimE K W (tMake (He.ga K c) (spM K n F) dvs E0 t) (mMake c n F ds a) := fun σ H ρ h G μ rel Q => by
  unfold mMake
  have A := ha σ H ρ h G μ rel
  cases ea : a ρ h with
  | bad => trivial
  | exc z h1 =>
    rw [ea] at A
    exact A _
  | ok l h1 =>
    rw [ea] at A
    dsimp only
    by_cases hn : (AV.non :: (l ++ ds)).length = n
    · rw [if_pos hn]
      cases ef : F (.ref h1.length :: (l ++ ds)) (h1 ++ [some (.ins c [] [])]) with
      | bad => trivial
      | exc z h2 => trivial
      | ok d h2 =>
        cases d with
        | non =>
          dsimp only
          cases ec : h2[h1.length]? with
          | none => trivial
          | some oo =>
            cases oo with
            | none => trivial
            | some mo =>
              cases mo with
              | lst _ => trivial
              | ins c' ks ws =>
                dsimp only
                by_cases hc : clsdL ws = true ∧ DropOk h1 h2
                · rw [if_pos hc]
                  intro k
                  refine A _ fun vs H1 G1 μ1 r1 x1 rs x dx hx hdx ne => ?_
                  obtain ⟨g, y, ix⟩ := new_ins (c := c) r1.hp rfl hx hdx ne
                  refine sp_run (args := .ref h1.length :: (l ++ ds)) (d := .non) g (RL.cons (x := .ref h1.length) ⟨x, ix, rfl⟩ (RL.app (RL.mono y rs) (hd _ _))) hn ef fun v H2 G2 μ2 r2 x2 rv => ⟨rv, ?_⟩
                  -- the new cell ends
                  have ix2 := pre_get x2.m ix
                  obtain ⟨pb, g1, g2, dx2, us, g3, gl, g4⟩ := r2.cont _ _ ec
                  rw [ix2] at g1
                  cases g1
                  have rH : RelH K H2 (h2.take h1.length) G2 μ1 := r1.hp.drop r2 (y.trans x2) hc.2
                  have hle : h1.length < h2.length := (List.getElem?_eq_some_iff.mp ec).1
                  have x3 : Ext G2 μ1 (upd G2 x (.ins (He.ga K c') dx2 (ks.zip us))) μ1 := ⟨fun b u q => by rw [upd_ne (ne_of_none q g2)]; exact q, List.prefix_rfl⟩
                  have rH' : RelH K H2 (h2.take h1.length) (upd G2 x (.ins (He.ga K c') dx2 (ks.zip us))) μ1 := by
                    refine ⟨fun b u q => ?_, rH.len, fun i mo e => ?_, rH.inj⟩
                    · by_cases hb : b = x
                      · subst hb
                        rw [upd_same] at q
                        rw [g3]
                        exact q
                      · rw [upd_ne hb] at q
                        exact rH.ex b u q
                    · obtain ⟨b, f1, f2, f3⟩ := rH.cont i mo e
                      have hi : i < h1.length := by
                        have := (List.getElem?_eq_some_iff.mp e).1
                        rw [List.length_take] at this
                        omega
                      have e' : h2[i]? = some (some mo) := by
                        rw [List.getElem?_take_of_lt hi] at e
                        exact e
                      have hne : b ≠ x := fun z => by
                        have := r2.inj i h1.length x mo _ e' ec (by rw [← z]; exact pre_get (y.trans x2).m f1) ix2
                        omega
                      exact ⟨b, f1, by rw [upd_ne hne]; exact f2, RM.mono x3 f3⟩
                  refine k _ H2 _ μ1 ⟨rH', (r1.sl.mono ⟨(y.trans x2).g, List.prefix_rfl⟩).mono x3⟩ ((x1.trans ⟨(y.trans x2).g, List.prefix_rfl⟩).trans x3) ?_
                  exact ⟨x, dx2, us, rfl, upd_same, gl, RL.mono x3 (RL.any hc.1 g4)⟩
                · rw [if_neg hc]
                  trivial
        | _ => trivial
    · rw [if_neg hn]
      trivial
end
end Mi

set_option maxRecDepth 100000
set_option maxHeartbeats 4000000
/-! Loops and comprehensions. -/
namespace Mi
open PySem PySem.Spec L2

/-! ### what is wanted behind a meaning -/
def KS (K : PySem.W.Frag) (W : WX2) (D : Ends) (G : Hp) (μ : List Addr) : RetS → Prop
  | .bad => False
  | .ok f ρ' h' => ∀ σ' H' G' μ', Rel K σ' H' ρ' h' G' μ' → Ext G μ G' μ' → FlK K D σ' H' G' μ' f
  | .exc e ρ' h' => ∀ d σ' H' G' μ', Rel K σ' H' ρ' h' G' μ' → Ext G μ G' μ' → RExc K μ' G' e d → W (.ref (He.ga K e.cls)) d σ' H'
theorem KS.mono {K : PySem.W.Frag} {W : WX2} {D : Ends} {G G' : Hp} {μ μ' : List Addr} (x : Ext G μ G' μ') : ∀ {r : RetS}, KS K W D G μ r → KS K W D G' μ' r
  | .bad, k => k
  | .ok _ _ _, k => fun σ2 H2 G2 μ2 r2 x2 => k σ2 H2 G2 μ2 r2 (x.trans x2)
  | .exc _ _ _, k => fun d σ2 H2 G2 μ2 r2 x2 q => k d σ2 H2 G2 μ2 r2 (x.trans x2) q
theorem SimS.go {K : PySem.W.Frag} {W : WX2} {t : TS} {m : MS} (s : SimS K W t m) {σ : L2.St} {H : Hp} {ρ : Env2} {h : AHeap} {G : Hp} {μ : List Addr} (rel : Rel K σ H ρ h G μ) (D : Ends) (k : KS K W D G μ (m ρ h)) : t D σ H := by
  have A := s σ H ρ h G μ rel D
  revert A k
  cases m ρ h with
  | bad => exact fun k => k.elim
  | ok f ρ' h' => exact fun k A => A k
  | exc e ρ' h' => exact fun k A => A k
theorem SimS.by {K : PySem.W.Frag} {W : WX2} {t : TS} {m : MS} (s : ∀ σ H ρ h G μ, Rel K σ H ρ h G μ → ∀ D : Ends, KS K W D G μ (m ρ h) → t D σ H) : SimS K W t m := fun σ H ρ h G μ rel D => by
  have A := s σ H ρ h G μ rel D
  revert A
  cases m ρ h with
  | bad => exact fun _ => trivial
  | ok f ρ' h' => exact fun A => A
  | exc e ρ' h' => exact fun A => A

/-! ### what is walked -/
abbrev MI := Env2 → AHeap → Ret (List AV)
def Walks (K : PySem.W.Frag) (J : It) (l : List AV) (G0 : Hp) (μ0 : List Addr) : Prop := ∀ H h G μ, RelH K H h G μ → Ext G0 μ0 G μ →
  (∀ i x, l[i]? = some x → J.go i H ∧ ∀ v H', J.yld i H v H' → ∃ G', RelH K H' h G' μ ∧ Ext G μ G' μ ∧ R K μ G' x v) ∧ J.stop l.length H
theorem Walks.mono {K : PySem.W.Frag} {J : It} {l : List AV} {G0 G1 : Hp} {μ0 μ1 : List Addr} (x : Ext G0 μ0 G1 μ1) (w : Walks K J l G0 μ0) : Walks K J l G1 μ1 := fun H h G μ r y => w H h G μ r (x.trans y)
def SimI (K : PySem.W.Frag) (W : WX2) (wi : TI) (m : MI) : Prop := ∀ σ H ρ h G μ, Rel K σ H ρ h G μ → ∀ P : It → Hp → Prop, match m ρ h with
  | .bad => True
  | .ok l h' => (∀ J H' G' μ', Rel K σ H' ρ h' G' μ' → Ext G μ G' μ' → Walks K J l G' μ' → P J H') → wi σ H P
  | .exc e h' => ExcK K W e σ ρ h' G μ → wi σ H P
/-- a list or a tuple that never changes -/
def iSeq (K : PySem.W.Frag) (tl : TE) : TI := fun σ H P => tl σ H fun x H1 => ∃ a, x = .ref a ∧ (((∃ xs, SqL K H1 a xs) ∧ P (Itl K a) H1) ∨ ((∃ xs, SqT K H1 a xs) ∧ P (Itt K a) H1))
theorem pi_seq {X : Cx} {tg l : Expr} {tl : TE} (hl : PE X l tl) : PI X tg l (iSeq X.K tl) := by
  refine ⟨fun pins s σ H P I h => ?_⟩
  refine thn (hl.run pins s σ H _ I h) fun v s1 ⟨x, H1, I1, r1, q1⟩ => ?_
  obtain ⟨a, e, q1⟩ := q1
  subst e
  cases r1
  rcases q1 with ⟨⟨xs, hq⟩, q⟩ | ⟨⟨xs, hq⟩, q⟩
  · obtain ⟨its, rv, p, hz⟩ := I1.list hq
    refine wpAny_pyIter_list p.isList ?_
    refine ⟨s1.heap.objs.size, [s1.heap.objs.size], _, _, H1, rfl, I1.kept (t' := s1.toks) fun b o e => Heap.get?_push_of_some _ e, turn_list a _, ⟨_, Heap.get?_push_size _ rfl, rfl, rfl⟩, fun b hb => ?_, q⟩
    have e : b = s1.heap.objs.size := by simpa using hb
    subst e
    exact I1.fpOk (Nat.le_refl _) (I1.hok.fresh (Nat.le_refl _))
  · obtain ⟨its, rv, p, hz⟩ := I1.tuple hq
    refine wpAny_pyIter_tuple (show s1.heap.IsTuple a its.toArray from p) ?_
    refine ⟨s1.heap.objs.size, [s1.heap.objs.size], _, _, H1, rfl, I1.kept (t' := s1.toks) fun b o e => Heap.get?_push_of_some _ e, turn_tuple a _, ⟨_, Heap.get?_push_size _ rfl, rfl, rfl⟩, fun b hb => ?_, q⟩
    have e : b = s1.heap.objs.size := by simpa using hb
    subst e
    exact I1.fpOk (Nat.le_refl _) (I1.hok.fresh (Nat.le_refl _))
def frzL : AV → Option (List AV)
  | .tup l => some l
  | .lst l => some l
  | .lstR l => some l
  | _ => none
def iSq (e : ME) : MI := fun ρ h => match e ρ h with
  | .bad => .bad
  | .exc x h1 => .exc x h1
  | .ok d h1 => match frzL d with
    | some l => .ok l h1
    | none => .bad
def iR1 (a : MA) : MI := fun ρ h => match a ρ h with
  | .bad => .bad
  | .exc x h1 => .exc x h1
  | .ok [.int j] h1 => if -(2 ^ 62) ≤ j ∧ j < 2 ^ 62 then .ok ((List.range j.toNat).map fun (i : Nat) => AV.int (i : Int)) h1 else .bad
  | .ok _ _ => .bad
def iR2 (a : MA) : MI := fun ρ h => match a ρ h with
  | .bad => .bad
  | .exc x h1 => .exc x h1
  | .ok [.int i, .int j] h1 => if -(2 ^ 62) ≤ i ∧ i < 2 ^ 62 ∧ -(2 ^ 62) ≤ j ∧ j < 2 ^ 62 then .ok ((List.range (j - i).toNat).map fun (k : Nat) => AV.int (i + (k : Int))) h1 else .bad
  | .ok _ _ => .bad
section
variable {K : PySem.W.Frag} {W : WX2} {te : TE} {e : ME} {ta : TA} {a : MA}
theorem walks_tup {a : Addr} {vs : List V} {l : List AV} {G : Hp} {μ : List Addr} (s : SqT K G a vs) (r : RL K μ G l vs) : Walks K (Itt K a) l G μ := fun H h G1 μ1 rh x => by
  refine ⟨fun i d e => ?_, vs, same_sqT rh.ex (same_sqT x.g s), by rw [r.length]; exact Nat.le_refl _⟩
  obtain ⟨v, e1, e2⟩ := r.get e
  refine ⟨⟨vs, v, same_sqT rh.ex (same_sqT x.g s), e1⟩, fun w H' y => ?_⟩
  obtain ⟨y1, y2⟩ := y
  subst y1
  have q := y2 vs (same_sqT rh.ex (same_sqT x.g s))
  rw [e1] at q
  cases q
  exact ⟨G1, rh, Ext.refl _ _, R.mono x e2⟩
theorem walks_lst {a : Addr} {vs : List V} {l : List AV} {G : Hp} {μ : List Addr} (s : SqL K G a vs) (r : RL K μ G l vs) : Walks K (Itl K a) l G μ := fun H h G1 μ1 rh x => by
  refine ⟨fun i d e => ?_, vs, rh.ex.seq (x.g.seq s), by rw [r.length]; exact Nat.le_refl _⟩
  obtain ⟨v, e1, e2⟩ := r.get e
  refine ⟨⟨vs, v, rh.ex.seq (x.g.seq s), e1⟩, fun w H' y => ?_⟩
  obtain ⟨y1, y2⟩ := y
  subst y1
  have q := y2 vs (rh.ex.seq (x.g.seq s))
  rw [e1] at q
  cases q
  exact ⟨G1, rh, Ext.refl _ _, R.mono x e2⟩
theorem walks_rng {lo : Int} {n : Nat} {G : Hp} {μ : List Addr} : Walks K (Itr lo n) ((List.range n).map fun (k : Nat) => AV.int (lo + (k : Int))) G μ := fun H h G1 μ1 rh x => by
  refine ⟨fun i d e => ?_, ?_⟩
  · rw [List.getElem?_map] at e
    by_cases hi : i < n
    · rw [List.getElem?_range hi] at e
      cases e
      refine ⟨hi, fun w H' y => ?_⟩
      obtain ⟨y1, y2⟩ := y
      subst y1 y2
      exact ⟨G1, rh, Ext.refl _ _, rfl⟩
    · rw [List.getElem?_eq_none (by rw [List.length_range]; omega)] at e
      cases e
  · show n ≤ _
    rw [List.length_map, List.length_range]
    exact Nat.le_refl _
theorem si_seq (he : SimE K W te e) : SimI K W (iSeq K te) (iSq e) := fun σ H ρ h G μ rel P => by
  unfold iSq
  have A := he σ H ρ h G μ rel
  cases ea : e ρ h with
  | bad => trivial
  | exc z h1 =>
    rw [ea] at A
    exact A _
  | ok d h1 =>
    rw [ea] at A
    cases d with
    | tup l =>
      intro k
      refine A _ fun v H1 G1 μ1 r1 x1 rv => ?_
      obtain ⟨pa, vs, e1, e2, e3⟩ := rv
      exact ⟨pa, e1, .inr ⟨⟨vs, same_sqT r1.hp.ex e2⟩, k _ H1 G1 μ1 r1 x1 (walks_tup e2 e3)⟩⟩
    | lst l =>
      intro k
      refine A _ fun v H1 G1 μ1 r1 x1 rv => ?_
      obtain ⟨pa, vs, e1, e2, e3⟩ := rv
      exact ⟨pa, e1, .inl ⟨⟨vs, SqL.of (r1.hp.ex _ _ e2)⟩, k _ H1 G1 μ1 r1 x1 (walks_lst (SqL.of e2) e3)⟩⟩
    | lstR l =>
      intro k
      refine A _ fun v H1 G1 μ1 r1 x1 rv => ?_
      obtain ⟨pa, vs, e1, e2, e3⟩ := rv
      exact ⟨pa, e1, .inl ⟨⟨vs, r1.hp.ex.seq e2⟩, k _ H1 G1 μ1 r1 x1 (walks_lst e2 e3)⟩⟩
    | _ => trivial
theorem si_r1 (ha : SimA K W ta a) : SimI K W (iRng1 ta) (iR1 a) := fun σ H ρ h G μ rel P => by
  unfold iR1
  have A := ha σ H ρ h G μ rel
  cases ea : a ρ h with
  | bad => trivial
  | exc z h1 =>
    rw [ea] at A
    exact A _
  | ok ds h1 =>
    rw [ea] at A
    match ds with
    | [] => trivial
    | d :: _ :: _ => cases d <;> trivial
    | [d] =>
      cases d with
      | int j =>
        dsimp only
        by_cases hj : -(2 ^ 62) ≤ j ∧ j < 2 ^ 62
        · rw [if_pos hj]
          intro k
          refine A _ fun vs H1 G1 μ1 r1 x1 rs => ?_
          obtain ⟨v, ev, rv⟩ := one_inv rs
          have rv' : v = .int j := rv
          subst ev rv'
          refine ⟨j, rfl, hj.1, hj.2, k _ H1 G1 μ1 r1 x1 ?_⟩
          have w := walks_rng (K := K) (lo := 0) (n := j.toNat) (G := G1) (μ := μ1)
          have e0 : ((List.range j.toNat).map fun (k : Nat) => AV.int (0 + (k : Int))) = (List.range j.toNat).map fun (k : Nat) => AV.int (k : Int) := by
            congr 1
            funext q
            rw [Int.zero_add]
          rw [e0] at w
          exact w
        · rw [if_neg hj]
          trivial
      | _ => trivial
theorem si_r2 (ha : SimA K W ta a) : SimI K W (iRng2 ta) (iR2 a) := fun σ H ρ h G μ rel P => by
  unfold iR2
  have A := ha σ H ρ h G μ rel
  cases ea : a ρ h with
  | bad => trivial
  | exc z h1 =>
    rw [ea] at A
    exact A _
  | ok ds h1 =>
    rw [ea] at A
    match ds with
    | [] => trivial
    | [d] => cases d <;> trivial
    | d :: d2 :: _ :: _ => cases d <;> (try trivial) <;> cases d2 <;> trivial
    | [d, d2] =>
      cases d with
      | int i =>
        cases d2 with
        | int j =>
          dsimp only
          by_cases hj : -(2 ^ 62) ≤ i ∧ i < 2 ^ 62 ∧ -(2 ^ 62) ≤ j ∧ j < 2 ^ 62
          · rw [if_pos hj]
            intro k
            refine A _ fun vs H1 G1 μ1 r1 x1 rs => ?_
            obtain ⟨v, u, ev, rv, ru⟩ := two_inv rs
            have rv' : v = .int i := rv
            have ru' : u = .int j := ru
            subst ev rv' ru'
            exact ⟨i, j, rfl, hj, k _ H1 G1 μ1 r1 x1 walks_rng⟩
          · rw [if_neg hj]
            trivial
        | _ => trivial
      | _ => trivial
end

/-! ### for -/
def forL (g : MG) (b : MS) : List AV → Env2 → AHeap → RetS
  | [], ρ, h => .ok .nx ρ h
  | x :: l, ρ, h => match g x ρ h with
    | .ok .nx ρ1 h1 => (match b ρ1 h1 with
      | .ok .nx ρ2 h2 => forL g b l ρ2 h2
      | .ok .ct ρ2 h2 => forL g b l ρ2 h2
      | .ok .bk ρ2 h2 => .ok .nx ρ2 h2
      | r => r)
    | _ => .bad
def mFor (it : MI) (g : MG) (b : MS) : MS := fun ρ h => match it ρ h with
  | .bad => .bad
  | .exc x h1 => .exc x ρ h1
  | .ok l h1 => forL g b l ρ h1
section
variable {K : PySem.W.Frag} {W : WX2} {wi : TI} {it : MI} {g : TG} {mg : MG} {tb : TS} {b : MS}
theorem ss_for (hi : SimI K W wi it) (hg : SimG K W g mg) (hb : SimS K W tb b) : SimS K W (tFor wi g tb) (mFor it mg b) := SimS.by fun σ H ρ h G μ rel D => by
  unfold mFor
  have A := hi σ H ρ h G μ rel
  cases ea : it ρ h with
  | bad => exact fun k => k.elim
  | exc z h1 =>
    rw [ea] at A
    intro k
    exact A _ fun d H' G' μ' r1 x1 q => k d σ H' G' μ' r1 x1 q
  | ok l h1 =>
    rw [ea] at A
    dsimp only
    intro k
    refine A _ fun J H1 G1 μ1 r1 x1 wk => ?_
    generalize hr : forL mg b l ρ h1 = r at k
    refine ⟨fun i m σ' H' => m = l.length - i ∧ i ≤ l.length ∧ ∃ ρ2 h2 G2 μ2, Rel K σ' H' ρ2 h2 G2 μ2 ∧ Ext G1 μ1 G2 μ2 ∧ forL mg b (l.drop i) ρ2 h2 = r, ⟨_, rfl, Nat.zero_le _, ρ, h1, G1, μ1, r1, Ext.refl _ _, hr⟩, ?_⟩
    rintro i m σ2 H2 ⟨rfl, hil, ρ2, h2, G2, μ2, r2, x2, e2⟩
    obtain ⟨w1, w2⟩ := wk H2 h2 G2 μ2 r2.hp x2
    by_cases hlt : i < l.length
    · right
      have hx : l[i]? = some l[i] := List.getElem?_eq_getElem hlt
      obtain ⟨go, yl⟩ := w1 i _ hx
      refine ⟨go, fun σ' H' => i + 1 ≤ l.length ∧ ∃ ρ3 h3 G3 μ3, Rel K σ' H' ρ3 h3 G3 μ3 ∧ Ext G1 μ1 G3 μ3 ∧ forL mg b (l.drop (i + 1)) ρ3 h3 = r, fun σ' H' n => ⟨l.length - (i + 1), by omega, rfl, n⟩, fun v H3 y => ?_⟩
      obtain ⟨G3, r3, x3, rv⟩ := yl v H3 y
      have r3' : Rel K σ2 H3 ρ2 h2 G3 μ2 := ⟨r3, r2.sl.mono x3⟩
      rw [List.drop_eq_getElem_cons hlt] at e2
      have B := hg σ2 H3 ρ2 h2 G3 μ2 r3' l[i] v rv
      have e3 : (match mg l[i] ρ2 h2 with
        | .ok .nx ρ1 h1 => (match b ρ1 h1 with
          | .ok .nx ρ2 h2 => forL mg b (l.drop (i + 1)) ρ2 h2
          | .ok .ct ρ2 h2 => forL mg b (l.drop (i + 1)) ρ2 h2
          | .ok .bk ρ2 h2 => .ok .nx ρ2 h2
          | r => r)
        | _ => .bad) = r := e2
      cases eg : mg l[i] ρ2 h2 with
      | bad =>
        rw [eg] at e3
        rw [← e3] at k
        exact k.elim
      | exc z ρ4 h4 =>
        rw [eg] at e3
        rw [← e3] at k
        exact k.elim
      | ok f ρ4 h4 =>
        rw [eg] at B e3
        cases f with
        | nx =>
          dsimp only at e3
          refine B _ fun σ4 H4 G4 μ4 r4 x4 => ?_
          have xx : Ext G1 μ1 G4 μ4 := (x2.trans x3).trans x4
          refine hb.go r4 _ ?_
          cases eb : b ρ4 h4 with
          | bad =>
            rw [eb] at e3
            rw [← e3] at k
            exact k.elim
          | exc z ρ5 h5 =>
            rw [eb] at e3
            rw [← e3] at k
            exact k.mono (x1.trans xx)
          | ok f5 ρ5 h5 =>
            rw [eb] at e3
            cases f5 with
            | nx => exact fun σ5 H5 G5 μ5 r5 x5 => ⟨hlt, ρ5, h5, G5, μ5, r5, xx.trans x5, e3⟩
            | ct => exact fun σ5 H5 G5 μ5 r5 x5 => ⟨hlt, ρ5, h5, G5, μ5, r5, xx.trans x5, e3⟩
            | bk =>
              dsimp only at e3
              rw [← e3] at k
              exact fun σ5 H5 G5 μ5 r5 x5 => k σ5 H5 G5 μ5 r5 ((x1.trans xx).trans x5)
            | rt d =>
              dsimp only at e3
              rw [← e3] at k
              exact fun σ5 H5 G5 μ5 r5 x5 => k σ5 H5 G5 μ5 r5 ((x1.trans xx).trans x5)
        | _ =>
          rw [← e3] at k
          exact k.elim
    · left
      have hi' : i = l.length := by omega
      subst hi'
      rw [List.drop_length] at e2
      have e3 : RetS.ok .nx ρ2 h2 = r := e2
      rw [← e3] at k
      exact ⟨w2, k σ2 H2 G2 μ2 r2 (x1.trans x2)⟩
end

/-! ### while -/
def whileF (c : MT) (b : MS) : Nat → Env2 → AHeap → Option RetS
  | 0, _, _ => none
  | n + 1, ρ, h => match c ρ h with
    | .bad => some .bad
    | .exc x h1 => some (.exc x ρ h1)
    | .ok false h1 => some (.ok .nx ρ h1)
    | .ok true h1 => (match b ρ h1 with
      | .ok .nx ρ2 h2 => whileF c b n ρ2 h2
      | .ok .ct ρ2 h2 => whileF c b n ρ2 h2
      | .ok .bk ρ2 h2 => some (.ok .nx ρ2 h2)
      | r => some r)
theorem whileF_more (c : MT) (b : MS) : ∀ (n : Nat) (ρ : Env2) (h : AHeap) (r : RetS), whileF c b n ρ h = some r → whileF c b (n + 1) ρ h = some r
  | 0, _, _, _, e => by cases e
  | n + 1, ρ, h, r, e => by
    unfold whileF at e ⊢
    cases ec : c ρ h with
    | bad =>
      rw [ec] at e
      exact e
    | exc x h1 =>
      rw [ec] at e
      exact e
    | ok d h1 =>
      rw [ec] at e
      cases d with
      | false => exact e
      | true =>
        dsimp only at e ⊢
        cases eb : b ρ h1 with
        | bad =>
          rw [eb] at e
          exact e
        | exc x ρ2 h2 =>
          rw [eb] at e
          exact e
        | ok f ρ2 h2 =>
          rw [eb] at e
          cases f with
          | nx => exact whileF_more c b n ρ2 h2 r e
          | ct => exact whileF_more c b n ρ2 h2 r e
          | bk => exact e
          | rt d => exact e
theorem whileF_add (c : MT) (b : MS) {n : Nat} {ρ : Env2} {h : AHeap} {r : RetS} (e : whileF c b n ρ h = some r) : ∀ k, whileF c b (n + k) ρ h = some r
  | 0 => e
  | k + 1 => whileF_more c b (n + k) ρ h r (whileF_add c b e k)
open Classical in
noncomputable def mWhile (c : MT) (b : MS) : MS := fun ρ h => if e : ∃ r n, whileF c b n ρ h = some r then e.choose else .bad
theorem mWhile_of {c : MT} {b : MS} {n : Nat} {ρ : Env2} {h : AHeap} {r : RetS} (e : whileF c b n ρ h = some r) : mWhile c b ρ h = r := by
  have q : ∃ r n, whileF c b n ρ h = some r := ⟨r, n, e⟩
  unfold mWhile
  rw [dif_pos q]
  obtain ⟨m, hm⟩ := q.choose_spec
  have h1 := whileF_add c b e m
  have h2 := whileF_add c b hm n
  rw [Nat.add_comm] at h2
  rw [h1] at h2
  exact (Option.some.inj h2).symm
section
variable {K : PySem.W.Frag} {W : WX2} {tc : TT} {c : MT} {tb : TS} {b : MS}
theorem ss_while (hc : SimT K W tc c) (hb : SimS K W tb b) : SimS K W (tWhile tc tb) (mWhile c b) := SimS.by fun σ H ρ h G μ rel D k => by
  unfold mWhile at k
  by_cases q : ∃ r n, whileF c b n ρ h = some r
  · rw [dif_pos q] at k
    obtain ⟨n, hn⟩ := q.choose_spec
    generalize q.choose = r at k hn
    refine ⟨fun m σ' H' => ∃ ρ2 h2 G2 μ2, Rel K σ' H' ρ2 h2 G2 μ2 ∧ Ext G μ G2 μ2 ∧ whileF c b m ρ2 h2 = some r, ⟨n, ρ, h, G, μ, rel, Ext.refl _ _, hn⟩, ?_⟩
    rintro m σ2 H2 ⟨ρ2, h2, G2, μ2, r2, x2, e2⟩
    cases m with
    | zero => cases e2
    | succ m =>
      unfold whileF at e2
      have A := hc σ2 H2 ρ2 h2 G2 μ2 r2
      cases ec : c ρ2 h2 with
      | bad =>
        rw [ec] at e2
        cases e2
        exact k.elim
      | exc z h3 =>
        rw [ec] at e2 A
        cases e2
        exact A _ fun d H' G' μ' r1 x1 q => k d σ2 H' G' μ' r1 (x2.trans x1) q
      | ok d h3 =>
        rw [ec] at e2 A
        cases d with
        | false =>
          cases e2
          refine A _ fun H3 G3 μ3 r3 x3 => ?_
          rw [if_neg Bool.false_ne_true]
          exact k σ2 H3 G3 μ3 r3 (x2.trans x3)
        | true =>
          dsimp only at e2
          refine A _ fun H3 G3 μ3 r3 x3 => ?_
          rw [if_pos rfl]
          refine ⟨fun σ' H' => ∃ ρ2 h2 G2 μ2, Rel K σ' H' ρ2 h2 G2 μ2 ∧ Ext G μ G2 μ2 ∧ whileF c b m ρ2 h2 = some r, fun σ' H' n => ⟨m, Nat.lt_succ_self _, n⟩, ?_⟩
          have xx := x2.trans x3
          refine hb.go r3 _ ?_
          cases eb : b ρ2 h3 with
          | bad =>
            rw [eb] at e2
            cases e2
            exact k.elim
          | exc z ρ5 h5 =>
            rw [eb] at e2
            cases e2
            exact k.mono xx
          | ok f5 ρ5 h5 =>
            rw [eb] at e2
            cases f5 with
            | nx => exact fun σ5 H5 G5 μ5 r5 x5 => ⟨ρ5, h5, G5, μ5, r5, xx.trans x5, e2⟩
            | ct => exact fun σ5 H5 G5 μ5 r5 x5 => ⟨ρ5, h5, G5, μ5, r5, xx.trans x5, e2⟩
            | bk =>
              cases e2
              exact fun σ5 H5 G5 μ5 r5 x5 => k σ5 H5 G5 μ5 r5 (xx.trans x5)
            | rt d =>
              cases e2
              exact fun σ5 H5 G5 μ5 r5 x5 => k σ5 H5 G5 μ5 r5 (xx.trans x5)
  · rw [dif_neg q] at k
    exact k.elim
end
end Mi

set_option maxRecDepth 100000
set_option maxHeartbeats 4000000
/-! Comprehensions, the rules of statements. -/
namespace Mi
open PySem PySem.Spec L2

/-! ### own names of a block -/
def wipeA (ρ : Env2) : List Nat → Env2
  | [] => ρ
  | v :: vs => (wipeA ρ vs).set v none
theorem wipe_rel {K : PySem.W.Frag} {σ : L2.St} {ρ : Env2} {G : Hp} {μ : List Addr} (h : RelS K σ ρ G μ) : ∀ vs : List Nat, RelS K (wipe σ vs) (wipeA ρ vs) G μ
  | [] => h
  | _ :: vs => (wipe_rel h vs).unset
theorem wipe_set {σ : L2.St} {j : Nat} {x : Option V} : ∀ {vs : List Nat}, j ∈ vs → wipe (σ.set j x) vs = wipe σ vs
  | v :: vs, h => by
    show (wipe (σ.set j x) vs).set v none = (wipe σ vs).set v none
    by_cases hj : j ∈ vs
    · rw [wipe_set hj]
    · have e : v = j := by
        rcases List.mem_cons.mp h with z | z
        · exact z.symm
        · exact absurd z hj
      subst e
      have out : ∀ (vs : List Nat), v ∉ vs → ∀ y : Option V, wipe (σ.set v y) vs = (wipe σ vs).set v y := by
        intro vs
        induction vs with
        | nil => intro _ y; rfl
        | cons u us ih =>
          intro hn y
          show (wipe (σ.set v y) us).set u none = ((wipe σ us).set u none).set v y
          rw [ih (fun z => hn (List.mem_cons_of_mem _ z)) y]
          exact List.set_comm _ _ (fun z => hn (by rw [z]; exact List.mem_cons_self))
      rw [out vs hj x, List.set_set]
theorem wipe_wipe {σ : L2.St} : ∀ vs us : List Nat, (∀ v ∈ us, v ∈ vs) → wipe (wipe σ us) vs = wipe σ vs
  | vs, [], _ => rfl
  | vs, u :: us, h => by
    show wipe ((wipe σ us).set u none) vs = wipe σ vs
    rw [wipe_set (h u List.mem_cons_self)]
    exact wipe_wipe vs us fun v hv => h v (List.mem_cons_of_mem _ hv)
def SimGo (K : PySem.W.Frag) (vs : List Nat) (t : TG) (m : MG) : Prop := ∀ σ H ρ h G μ, Rel K σ H ρ h G μ → ∀ d v, R K μ G d v → ∀ Q : L2.St → Hp → Prop, match m d ρ h with
  | .ok .nx ρ' h' => (∀ σ' H' G' μ', Rel K σ' H' ρ' h' G' μ' → Ext G μ G' μ' → wipe σ' vs = wipe σ vs → Q σ' H') → t v σ H Q
  | _ => True
def SimGos (K : PySem.W.Frag) (vs : List Nat) (t : TGs) (m : MGs) : Prop := ∀ σ H ρ h G μ, Rel K σ H ρ h G μ → ∀ l ws, RL K μ G l ws → ∀ Q : L2.St → Hp → Prop, match m l ρ h with
  | .ok .nx ρ' h' => (∀ σ' H' G' μ', Rel K σ' H' ρ' h' G' μ' → Ext G μ G' μ' → wipe σ' vs = wipe σ vs → Q σ' H') → t ws σ H Q
  | _ => True
section
variable {K : PySem.W.Frag} {vs : List Nat} {g : TG} {k' : MG}
theorem sgo_nm {i : Nat} (hi : i ∈ vs) : SimGo K vs (gName i) (gNm i) := fun σ H ρ h G μ rel d v r Q k => k _ H G μ ⟨rel.hp, rel.sl.set r⟩ (Ext.refl _ _) (wipe_set hi)
theorem sgos_nil : SimGos K vs gNil gsNil := fun σ H ρ h G μ rel l ws r Q => by
  cases l with
  | nil =>
    intro k
    exact ⟨r, k σ H G μ rel (Ext.refl _ _) rfl⟩
  | cons x l => trivial
theorem sgos_cons {tr : TGs} {mr : MGs} (h1 : SimGo K vs g k') (h2 : SimGos K vs tr mr) : SimGos K vs (gCons g tr) (gsCons k' mr) := fun σ H ρ h G μ rel l ws r Q => by
  cases l with
  | nil => trivial
  | cons x l =>
    obtain ⟨v, us, ev, rv, rs⟩ := r.inv
    show (match (match k' x ρ h with
      | .ok .nx ρ1 h1 => mr l ρ1 h1
      | _ => .bad) with
      | .ok .nx ρ' h' => (∀ σ' H' G' μ', Rel K σ' H' ρ' h' G' μ' → Ext G μ G' μ' → wipe σ' vs = wipe σ vs → Q σ' H') → gCons g tr ws σ H Q
      | _ => True)
    have A := h1 σ H ρ h G μ rel x v rv (fun σ1 H1 => tr us σ1 H1 Q)
    cases ea : k' x ρ h with
    | bad => trivial
    | exc z ρ1 h1 => trivial
    | ok f ρ1 h1 =>
      rw [ea] at A
      cases f with
      | nx =>
        dsimp only
        cases eb : mr l ρ1 h1 with
        | bad => trivial
        | exc z ρ2 h3 => trivial
        | ok f2 ρ2 h3 =>
          cases f2 with
          | nx =>
            intro k
            refine ⟨v, us, ev, A fun σ1 H1 G1 μ1 r1 x1 w1 => ?_⟩
            have B := h2 σ1 H1 ρ1 h1 G1 μ1 r1 l us (RL.mono x1 rs) Q
            rw [eb] at B
            exact B fun σ2 H2 G2 μ2 r2 x2 w2 => k σ2 H2 G2 μ2 r2 (x1.trans x2) (w2.trans w1)
          | _ => trivial
      | _ => trivial
theorem sgo_tp {n : Nat} {tr : TGs} {mr : MGs} (h : SimGos K vs tr mr) : SimGo K vs (gTup K n tr) (gTp n mr) := fun σ H ρ hh G μ rel d v r Q => by
  cases d with
  | tup l =>
    show (match (if l.length = n then mr l ρ hh else .bad) with
      | .ok .nx ρ' h' => (∀ σ' H' G' μ', Rel K σ' H' ρ' h' G' μ' → Ext G μ G' μ' → wipe σ' vs = wipe σ vs → Q σ' H') → gTup K n tr v σ H Q
      | _ => True)
    by_cases hn : l.length = n
    · rw [if_pos hn]
      obtain ⟨a, ws, ea, sa, ra⟩ := r
      have A := h σ H ρ hh G μ rel l ws ra Q
      cases eb : mr l ρ hh with
      | bad => trivial
      | exc z ρ2 h3 => trivial
      | ok f2 ρ2 h3 =>
        rw [eb] at A
        cases f2 with
        | nx =>
          intro k
          exact ⟨a, ws, ea, same_sqT rel.hp.ex sa, by rw [ra.length]; exact hn, A k⟩
        | _ => trivial
    · rw [if_neg hn]
      trivial
  | _ => trivial
end
def cGo (K : PySem.W.Frag) (vs : List Nat) (m : MG) : TG := fun v σ H Q => ∃ ρ h G μ d, Rel K σ H ρ h G μ ∧ R K μ G d v ∧ match m d ρ h with
  | .ok .nx ρ' h' => ∀ σ' H' G' μ', Rel K σ' H' ρ' h' G' μ' → Ext G μ G' μ' → wipe σ' vs = wipe σ vs → Q σ' H'
  | _ => False
theorem sGo {K : PySem.W.Frag} {vs : List Nat} (m : MG) : SimGo K vs (cGo K vs m) m := fun σ H ρ h G μ rel d v r Q => by
  cases e : m d ρ h with
  | bad => trivial
  | exc x ρ' h' => trivial
  | ok f ρ' h' =>
    cases f with
    | nx =>
      intro k
      exact ⟨ρ, h, G, μ, d, rel, r, by rw [e]; exact k⟩
    | _ => trivial
structure PGo (X : Cx) (vs : List Nat) (e : Expr) (m : MG) : Prop where
  p : PG X e (cGo X.K vs m)
theorem PGo.of {X : Cx} {vs : List Nat} {e : Expr} {t : TG} {m : MG} (p : PG X e t) (s : SimGo X.K vs t m) : PGo X vs e m := ⟨⟨fun pins s' σ H v u Q I r c => p.run pins s' σ H v u Q I r (by
  obtain ⟨ρ, h, G, μ, d, rel, rr, k⟩ := c
  have z := s σ H ρ h G μ rel d v rr Q
  revert k z
  cases m d ρ h with
  | bad => exact fun k => k.elim
  | exc x ρ' h' => exact fun k => k.elim
  | ok f ρ' h' =>
    cases f with
    | nx => exact fun k z => z k
    | _ => exact fun k => k.elim)⟩⟩

/-! ### comprehensions -/
/-- the cell n holds what is made so far -/
def lcL (n : Nat) (g : MG) (tt : MT) (e : ME) : List AV → Env2 → AHeap → List AV → Ret (List AV)
  | [], _, h, acc => .ok acc h
  | x :: l, ρ, h, acc => match g x ρ h with
    | .ok .nx ρ1 h1 => (match tt ρ1 h1 with
      | .ok false h2 => (match h2[n]? with
        | some (some (.lst a)) => lcL n g tt e l ρ h2 a
        | _ => .bad)
      | .ok true h2 => (match e ρ1 h2 with
        | .ok y h3 => (match h3[n]? with
          | some (some (.lst a)) => if a.length < sizeLine then lcL n g tt e l ρ (h3.set n (some (.lst (a ++ [y])))) (a ++ [y]) else .bad
          | _ => .bad)
        | _ => .bad)
      | _ => .bad)
    | _ => .bad
open Classical in
noncomputable def mLc (own : List Nat) (it : MI) (g : MG) (tt : MT) (e : ME) : ME := fun ρ h => match it ρ h with
  | .bad => .bad
  | .exc x h1 => .exc x h1
  | .ok l h1 => match lcL h1.length g tt e l (wipeA ρ own) (h1 ++ [some (.lst [])]) [] with
    | .ok ys h2 => if clsdL ys = true ∧ DropOk h1 h2 ∧ h2[h1.length]? = some (some (.lst ys)) then .ok (.lst ys) (h2.take h1.length) else .bad
    | _ => .bad
/-- the same, the list stays a cell -/
noncomputable def mLcC (own : List Nat) (it : MI) (g : MG) (tt : MT) (e : ME) : ME := fun ρ h => match mLc own it g tt e ρ h with
  | .ok (.lst ys) h1 => .ok (.ref h1.length) (h1 ++ [some (.lst ys)])
  | _ => .bad
def mYes : MT := fun _ h => .ok true h
section
variable {K : PySem.W.Frag} {W : WX2} {wi : TI} {it : MI} {g : TG} {mg : MG} {tt : TT} {mt : MT} {te : TE} {me : ME} {own : List Nat}
theorem lc_run (hg : SimGo K own g mg) (ht : SimT K W0 tt mt) (he : SimE K W0 te me) {J : It} {l : List AV} {σ : L2.St} {ρ : Env2} {H1 : Hp} {h1 : AHeap} {G1 : Hp} {μ1 : List Addr} {ys : List AV} {hz : AHeap} {Q : VK} (r1 : Rel K σ H1 ρ h1 G1 μ1) (wk : Walks K J l G1 μ1)
    (hl : lcL h1.length mg mt me l (wipeA ρ own) (h1 ++ [some (.lst [])]) [] = .ok ys hz) {D : Addr} (hD : H1 D = none)
    (k : ∀ H2 G2 μ2, RelH K H2 hz G2 μ2 → Ext G1 (μ1 ++ [D]) G2 μ2 → Q (.ref D) H2) :
    ∃ Wd : Nat → Nat → Hp → Prop, (∃ m, Wd 0 m (upd H1 D (.lst []))) ∧ ∀ i m H, Wd i m H → (J.stop i H ∧ Q (.ref D) H) ∨ (J.go i H ∧ ∃ Nx : Hp → Prop, (∀ H', Nx H' → ∃ m', m' < m ∧ Wd (i + 1) m' H') ∧ ∀ x H', J.yld i H x H' → g x (wipe σ own) H' fun σ2 H2 => wipe σ2 own = wipe σ own ∧ tt σ2 H2 fun b H3 =>
      if b = true then te σ2 H3 fun y H4 => ∃ acc, H4 D = some (.lst acc) ∧ acc.length < sizeLine ∧ Nx (upd H4 D (.lst (acc ++ [y]))) else Nx H3) := by
  have x0 : Ext G1 μ1 G1 (μ1 ++ [D]) := ⟨Same.refl _, List.prefix_append _ _⟩
  obtain ⟨g0, _⟩ := r1.hp.cell (o := .lst []) (mo := .lst []) hD ⟨[], rfl, RL.nil⟩
  have ix : (μ1 ++ [D])[h1.length]? = some D := by
    rw [← r1.hp.len, List.getElem?_append_right (Nat.le_refl _), Nat.sub_self]
    rfl
  refine ⟨fun i m H => m = l.length - i ∧ i ≤ l.length ∧ ∃ h2 G2 μ2 acc, RelH K H h2 G2 μ2 ∧ Ext G1 (μ1 ++ [D]) G2 μ2 ∧ lcL h1.length mg mt me (l.drop i) (wipeA ρ own) h2 acc = .ok ys hz, ⟨_, rfl, Nat.zero_le _, _, G1, _, [], g0, Ext.refl _ _, hl⟩, ?_⟩
  rintro i m H ⟨rfl, hil, h2, G2, μ2, acc, r2, x2, e2⟩
  obtain ⟨w1, w2⟩ := wk H h2 G2 μ2 r2 (x0.trans x2)
  by_cases hlt : i < l.length
  · right
    have hx : l[i]? = some l[i] := List.getElem?_eq_getElem hlt
    obtain ⟨go, yl⟩ := w1 i _ hx
    refine ⟨go, fun H' => i + 1 ≤ l.length ∧ ∃ h2 G2 μ2 acc, RelH K H' h2 G2 μ2 ∧ Ext G1 (μ1 ++ [D]) G2 μ2 ∧ lcL h1.length mg mt me (l.drop (i + 1)) (wipeA ρ own) h2 acc = .ok ys hz, fun H' n => ⟨l.length - (i + 1), by omega, rfl, n⟩, fun v H3 y => ?_⟩
    obtain ⟨G3, r3, x3, rv⟩ := yl v H3 y
    have rS : RelS K (wipe σ own) (wipeA ρ own) G3 μ2 := wipe_rel (r1.sl.mono ((x0.trans x2).trans x3)) own
    rw [List.drop_eq_getElem_cons hlt] at e2
    have B := hg (wipe σ own) H3 (wipeA ρ own) h2 G3 μ2 ⟨r3, rS⟩ l[i] v rv
    have e3 : (match mg l[i] (wipeA ρ own) h2 with
      | .ok .nx ρ1 h3 => (match mt ρ1 h3 with
        | .ok false h4 => (match h4[h1.length]? with
          | some (some (.lst a)) => lcL h1.length mg mt me (l.drop (i + 1)) (wipeA ρ own) h4 a
          | _ => .bad)
        | .ok true h4 => (match me ρ1 h4 with
          | .ok y h5 => (match h5[h1.length]? with
            | some (some (.lst a)) => if a.length < sizeLine then lcL h1.length mg mt me (l.drop (i + 1)) (wipeA ρ own) (h5.set h1.length (some (.lst (a ++ [y])))) (a ++ [y]) else .bad
            | _ => .bad)
          | _ => .bad)
        | _ => .bad)
      | _ => .bad) = .ok ys hz := e2
    cases eg : mg l[i] (wipeA ρ own) h2 with
    | bad =>
      rw [eg] at e3
      cases e3
    | exc z ρ4 h4 =>
      rw [eg] at e3
      cases e3
    | ok f ρ4 h4 =>
      rw [eg] at B e3
      cases f with
      | nx =>
        dsimp only at e3
        refine B _ fun σ4 H4 G4 μ4 r4 x4 w4 => ⟨?_, ?_⟩
        · rw [w4]
          exact wipe_wipe own own fun _ z => z
        · have C := ht σ4 H4 ρ4 h4 G4 μ4 r4
          cases et : mt ρ4 h4 with
          | bad =>
            rw [et] at e3
            cases e3
          | exc z h5 =>
            rw [et] at e3
            cases e3
          | ok b h5 =>
            rw [et] at C e3
            refine C _ fun H5 G5 μ5 r5 x5 => ?_
            have xx : Ext G1 (μ1 ++ [D]) G5 μ5 := ((x2.trans x3).trans x4).trans x5
            cases b with
            | false =>
              rw [if_neg Bool.false_ne_true]
              dsimp only at e3
              cases en : h5[h1.length]? with
              | none =>
                rw [en] at e3
                cases e3
              | some oo =>
                rw [en] at e3
                cases oo with
                | none => cases e3
                | some mo =>
                  cases mo with
                  | ins _ _ _ => cases e3
                  | lst a => exact ⟨hlt, h5, G5, μ5, a, r5.hp, xx, e3⟩
            | true =>
              rw [if_pos rfl]
              dsimp only at e3
              have E := he σ4 H5 ρ4 h5 G5 μ5 r5
              cases ee : me ρ4 h5 with
              | bad =>
                rw [ee] at e3
                cases e3
              | exc z h6 =>
                rw [ee] at e3
                cases e3
              | ok y h6 =>
                rw [ee] at E e3
                refine E _ fun w H6 G6 μ6 r6 x6 rw' => ?_
                dsimp only at e3
                cases en : h6[h1.length]? with
                | none =>
                  rw [en] at e3
                  cases e3
                | some oo =>
                  rw [en] at e3
                  cases oo with
                  | none => cases e3
                  | some mo =>
                    cases mo with
                    | ins _ _ _ => cases e3
                    | lst a =>
                      dsimp only at e3
                      by_cases hz' : a.length < sizeLine
                      · rw [if_pos hz'] at e3
                        have ix6 : μ6[h1.length]? = some D := pre_get (xx.trans x6).m ix
                        obtain ⟨pb, g1, g2, us, g3, g4⟩ := r6.hp.cont _ _ en
                        rw [ix6] at g1
                        cases g1
                        have hw : RM K μ6 G6 (.lst (a ++ [y])) (some (.lst (us ++ [w]))) := ⟨_, rfl, RL.app g4 (RL.cons rw' RL.nil)⟩
                        exact ⟨us, g3, by rw [g4.length]; exact hz', hlt, _, G6, μ6, _, r6.hp.write en ix6 hw, xx.trans x6, e3⟩
                      · rw [if_neg hz'] at e3
                        cases e3
      | _ => cases e3
  · left
    have hi' : i = l.length := by omega
    subst hi'
    rw [List.drop_length] at e2
    cases e2
    exact ⟨w2, k H G2 μ2 r2 x2⟩
theorem se_lc (hi : SimI K W wi it) (hg : SimGo K own g mg) (ht : SimT K W0 tt mt) (he : SimE K W0 te me) : SimE K W (tLc wi g tt te own) (mLc own it mg mt me) := fun σ H ρ h G μ rel Q => by
  unfold mLc
  have A := hi σ H ρ h G μ rel
  cases ea : it ρ h with
  | bad => trivial
  | exc z h1 =>
    rw [ea] at A
    exact A _
  | ok l h1 =>
    rw [ea] at A
    dsimp only
    cases el : lcL h1.length mg mt me l (wipeA ρ own) (h1 ++ [some (.lst [])]) [] with
    | bad => trivial
    | exc z h2 => trivial
    | ok ys h2 =>
      dsimp only
      by_cases hc : clsdL ys = true ∧ DropOk h1 h2 ∧ h2[h1.length]? = some (some (.lst ys))
      · rw [if_pos hc]
        intro k
        refine A _ fun J H1 G1 μ1 r1 x1 wk D hD => lc_run hg ht he r1 wk el hD fun H2 G2 μ2 r2 x2 => ?_
        have x0 : Ext G1 μ1 G1 (μ1 ++ [D]) := ⟨Same.refl _, List.prefix_append _ _⟩
        have ix : (μ1 ++ [D])[h1.length]? = some D := by
          rw [← r1.hp.len, List.getElem?_append_right (Nat.le_refl _), Nat.sub_self]
          rfl
        have ix2 := pre_get x2.m ix
        obtain ⟨pb, g1, g2, us, g3, g4⟩ := r2.cont _ _ hc.2.2
        rw [ix2] at g1
        cases g1
        have rH : RelH K H2 (h2.take h1.length) G2 μ1 := r1.hp.drop r2 (x0.trans x2) hc.2.1
        have x3 : Ext G2 μ1 (upd G2 D (.lst us)) μ1 := ⟨fun b u q => by rw [upd_ne (ne_of_none q g2)]; exact q, List.prefix_rfl⟩
        have rH' : RelH K H2 (h2.take h1.length) (upd G2 D (.lst us)) μ1 := by
          refine ⟨fun b u q => ?_, rH.len, fun i mo e => ?_, rH.inj⟩
          · by_cases hb : b = D
            · subst hb
              rw [upd_same] at q
              rw [g3]
              exact q
            · rw [upd_ne hb] at q
              exact rH.ex b u q
          · obtain ⟨b, f1, f2, f3⟩ := rH.cont i mo e
            have hi : i < h1.length := by
              have := (List.getElem?_eq_some_iff.mp e).1
              rw [List.length_take] at this
              omega
            have e' : h2[i]? = some (some mo) := by
              rw [List.getElem?_take_of_lt hi] at e
              exact e
            have hne : b ≠ D := fun z => by
              have := r2.inj i h1.length D mo _ e' hc.2.2 (by rw [← z]; exact pre_get (x0.trans x2).m f1) ix2
              omega
            exact ⟨b, f1, by rw [upd_ne hne]; exact f2, RM.mono x3 f3⟩
        refine k _ H2 _ μ1 ⟨rH', (r1.sl.mono ⟨(x0.trans x2).g, List.prefix_rfl⟩).mono x3⟩ ((x1.trans ⟨(x0.trans x2).g, List.prefix_rfl⟩).trans x3) ?_
        exact ⟨D, us, rfl, upd_same, RL.mono x3 (RL.any hc.1 g4)⟩
      · rw [if_neg hc]
        trivial
/-- a list that never changes, made a cell: not of use for a list that somebody else knows; here the list is new -/
theorem se_lcC (hi : SimI K W wi it) (hg : SimGo K own g mg) (ht : SimT K W0 tt mt) (he : SimE K W0 te me) : SimE K W (tLc wi g tt te own) (mLcC own it mg mt me) := fun σ H ρ h G μ rel Q => by
  unfold mLcC mLc
  have A := hi σ H ρ h G μ rel
  cases ea : it ρ h with
  | bad => trivial
  | exc z h1 => trivial
  | ok l h1 =>
    rw [ea] at A
    dsimp only
    cases el : lcL h1.length mg mt me l (wipeA ρ own) (h1 ++ [some (.lst [])]) [] with
    | bad => trivial
    | exc z h2 => trivial
    | ok ys h2 =>
      dsimp only
      by_cases hc : clsdL ys = true ∧ DropOk h1 h2 ∧ h2[h1.length]? = some (some (.lst ys))
      · rw [if_pos hc]
        dsimp only
        intro k
        refine A _ fun J H1 G1 μ1 r1 x1 wk D hD => lc_run hg ht he r1 wk el hD fun H2 G2 μ2 r2 x2 => ?_
        have x0 : Ext G1 μ1 G1 (μ1 ++ [D]) := ⟨Same.refl _, List.prefix_append _ _⟩
        have ix : (μ1 ++ [D])[h1.length]? = some D := by
          rw [← r1.hp.len, List.getElem?_append_right (Nat.le_refl _), Nat.sub_self]
          rfl
        have ix2 := pre_get x2.m ix
        have g0 := r2.cont _ _ hc.2.2
        obtain ⟨pb, g1, g2, us, g3, g4⟩ := g0
        rw [ix2] at g1
        cases g1
        have rH : RelH K H2 (h2.take h1.length) G2 μ1 := r1.hp.drop r2 (x0.trans x2) hc.2.1
        have hlen : (h2.take h1.length).length = h1.length := by
          rw [List.length_take]
          have := (List.getElem?_eq_some_iff.mp hc.2.2).1
          omega
        have x4 : Ext G2 μ1 G2 (μ1 ++ [D]) := ⟨Same.refl _, List.prefix_append _ _⟩
        have back : ∀ {i : Nat} {mo : MO}, (h2.take h1.length ++ [some (.lst ys)])[i]? = some (some mo) → h2[i]? = some (some mo) ∧ i ≤ h1.length := fun {i mo} e => by
          by_cases hi : i < h1.length
          · rw [List.getElem?_append_left (by rw [hlen]; exact hi), List.getElem?_take_of_lt hi] at e
            exact ⟨e, by omega⟩
          · have hl := (List.getElem?_eq_some_iff.mp e).1
            rw [List.length_append, hlen, List.length_singleton] at hl
            have hi' : i = h1.length := by omega
            subst hi'
            rw [List.getElem?_append_right (by rw [hlen]; exact Nat.le_refl _), hlen, Nat.sub_self] at e
            cases e
            exact ⟨hc.2.2, Nat.le_refl _⟩
        have pre : (μ1 ++ [D]) <+: μ2 := x2.m
        have lk : ∀ {i : Nat} {a : Addr}, (μ1 ++ [D])[i]? = some a → μ2[i]? = some a := fun {i a} e => pre_get pre e
        have rC : RelH K H2 (h2.take h1.length ++ [some (.lst ys)]) G2 (μ1 ++ [D]) := by
          refine ⟨r2.ex, by rw [List.length_append, List.length_append, hlen, r1.hp.len] <;> rfl, fun i mo e => ?_, fun i j a mo mo' e1 e2 e3 e4 => r2.inj i j a _ _ (back e1).1 (back e2).1 (lk e3) (lk e4)⟩
          by_cases hi : i < h1.length
          · rw [List.getElem?_append_left (by rw [hlen]; exact hi)] at e
            obtain ⟨b, f1, f2, f3⟩ := rH.cont i mo e
            exact ⟨b, pre_get x4.m f1, f2, RM.mono x4 f3⟩
          · have hi' : i = h1.length := by
              have := (back e).2
              omega
            subst hi'
            rw [List.getElem?_append_right (by rw [hlen]; exact Nat.le_refl _), hlen, Nat.sub_self] at e
            cases e
            exact ⟨D, ix, g2, us, g3, RL.any hc.1 g4⟩
        refine k _ H2 G2 (μ1 ++ [D]) ⟨rC, r1.sl.mono ⟨x2.g, List.prefix_append _ _⟩⟩ (x1.trans ⟨x2.g, List.prefix_append _ _⟩) ⟨D, ?_, rfl⟩
        rw [hlen]
        exact ix
      · rw [if_neg hc]
        trivial
end
end Mi

set_option maxRecDepth 100000
set_option maxHeartbeats 4000000
/-! The rules of statements, calls, loops. -/
namespace Mi
open PySem PySem.Spec L2

structure PIm (X : Cx) (W : WX2) (tg iter : Expr) (m : MI) : Prop where
  ex : ∃ wi, PI X tg iter wi ∧ SimI X.K W wi m
structure PTsm (X : Cx) (ifs : List Expr) (m : MT) : Prop where
  p : PTs X ifs (cT X.K W0 m)
theorem PTsm.of {X : Cx} {ifs : List Expr} {t : TT} {m : MT} (p : PTs X ifs t) (s : SimT X.K W0 t m) : PTsm X ifs m := ⟨⟨fun pins s' σ H Q I c => p.run pins s' σ H Q I (s.to σ H Q c)⟩⟩
theorem sim_yes {K : PySem.W.Frag} {W : WX2} : SimT K W tYes mYes := fun σ H ρ h G μ rel Q k => k H G μ rel (Ext.refl _ _)

section
variable {X : Cx} {W : WX2} {a b c e o i : Expr} {ma mb me mo mi : ME} {pos : Pos} {es : List Expr} {st : Stmt} {rest : List Stmt} {ms mr : MS} {mt : MT} {m : MA} {g : MG} {gs : MGs}
/-! blocks -/
theorem sm_nil : PSsm X W [] mNext := .of pss_nil ss_next
theorem sm_cons (h1 : PSm X W st ms) (h2 : PSsm X W rest mr) : PSsm X W (st :: rest) (mSeq ms mr) := by
  obtain ⟨t, p, s⟩ := h1.x
  obtain ⟨u, q, r⟩ := h2.x
  exact .of (pss_cons p q) (ss_seq s r)
theorem sm_one (h1 : PSm X W st ms) : PSsm X W [st] ms := by
  obtain ⟨t, p, s⟩ := h1.x
  exact .of (pss_one p) s
theorem sm_frz (j : Nat) {sts : List Stmt} (h : PSsm X W sts mr) : PSsm X W sts (mSeq (mFrz j) mr) := by
  obtain ⟨t, p, s⟩ := h.x
  exact .of p (ss_frz s)
theorem sm_never {sts : List Stmt} : PSsm X W sts mNever := .of (t := tNever) pss_never ss_never
theorem st_never : PSm X W st mNever := .of (t := tNever) ps_never ss_never
theorem st_pass : PSm X W (.Pass pos) mNext := .of ps_pass ss_next
theorem st_break : PSm X W (.Break pos) mBrk := .of ps_break ss_brk
theorem st_continue : PSm X W (.Continue pos) mCnt := .of ps_continue ss_cnt
theorem st_expr (he : PEm X W e me) (hs : swapsWith e none pos.line X.env = pure false := by rfl) : PSm X W (.Expr e pos) (mDrop me) := by
  obtain ⟨t, p, s⟩ := he.x
  exact .of (ps_expr p hs) (ss_drop s)
theorem st_ret (he : PEm X W e me) : PSm X W (.Return (some e) pos) (mRet me) := by
  obtain ⟨t, p, s⟩ := he.x
  exact .of (ps_ret p) (ss_ret s)
theorem st_retN : PSm X W (.Return none pos) mRetN := .of ps_retN ss_retN
theorem st_if {x y : List Stmt} {mx my : MS} (hc : PTm X W c mt) (ha : PSsm X W x mx) (hb : PSsm X W y my) : PSm X W (.If c x y pos) (mIfS mt mx my) := by
  obtain ⟨tc, pc, sc⟩ := hc.x
  obtain ⟨ta, pa, sa⟩ := ha.x
  obtain ⟨tb, pb, sb⟩ := hb.x
  exact .of (ps_if pc pa pb) (ss_if sc sa sb)
/-! targets -/
theorem gm_nm (j : Nat) {x : Str} (hN : X.N.Nodup) (hi : X.N[j]? = some x := by rfl) (hx : Loc X.env.scope x := by first | exact Or.inl rfl | exact Or.inr rfl) (hf : X.fn x = true ∨ X.env.scope.names.lookup x = some .local := by first | exact .inl rfl | exact .inr rfl | assumption) : PGm X (.Name x pos) (gNm j) :=
  .of (pg_name hN hi hx hf) (sg_nm (W := W0))
structure PGsm (X : Cx) (ts : List Expr) (m : MGs) : Prop where
  ex : ∃ t, PGs X ts t ∧ SimGs X.K t m
theorem gsm_nil : PGsm X [] gsNil := ⟨_, pgs_nil, sgs_nil⟩
theorem gsm_cons (h1 : PGm X e g) (h2 : PGsm X es gs) (hs : (assignEach (e :: es) X.env).map (·.2) = assign e X.env :: (assignEach es X.env).map (·.2) := by rfl) : PGsm X (e :: es) (gsCons g gs) := by
  obtain ⟨t, p, s⟩ := h1.x (W := W0)
  obtain ⟨u, q, r⟩ := h2.ex
  exact ⟨_, pgs_cons p q hs, sgs_cons s r⟩
theorem gm_tp {k : Nat} (n : Nat) (hc : X.calm = true) (h : PGsm X es gs) (hn : (assignEach es X.env).length = n := by rfl) (hst : (assignEach es X.env).findIdx? (·.1) = none := by rfl) : PGm X (.Tuple es k pos) (gTp n gs) := by
  obtain ⟨t, p, s⟩ := h.ex
  exact .of (pg_tup hc p hn hst) (sg_tp (W := W0) s)
/-! in a comprehension -/
theorem go_nm {vs : List Nat} (j : Nat) {x : Str} (hN : X.N.Nodup) (hv : j ∈ vs := by decide) (hi : X.N[j]? = some x := by rfl) (hx : Loc X.env.scope x := by first | exact Or.inl rfl | exact Or.inr rfl) (hf : X.fn x = true ∨ X.env.scope.names.lookup x = some .local := by first | exact .inl rfl | exact .inr rfl | assumption) : PGo X vs (.Name x pos) (gNm j) :=
  .of (pg_name hN hi hx hf) (sgo_nm hv)
structure PGos (X : Cx) (vs : List Nat) (ts : List Expr) (m : MGs) : Prop where
  p : PGs X ts (fun ws σ H Q => ∃ ρ h G μ l, Rel X.K σ H ρ h G μ ∧ RL X.K μ G l ws ∧ match m l ρ h with
    | .ok .nx ρ' h' => ∀ σ' H' G' μ', Rel X.K σ' H' ρ' h' G' μ' → Ext G μ G' μ' → wipe σ' vs = wipe σ vs → Q σ' H'
    | _ => False)
theorem PGos.of {vs : List Nat} {ts : List Expr} {t : TGs} {m : MGs} (p : PGs X ts t) (s : SimGos X.K vs t m) : PGos X vs ts m := ⟨⟨fun pins s' σ H ws us Q I r c => p.run pins s' σ H ws us Q I r (by
  obtain ⟨ρ, h, G, μ, l, rel, rr, k⟩ := c
  have z := s σ H ρ h G μ rel l ws rr Q
  revert k z
  cases m l ρ h with
  | bad => exact fun k => k.elim
  | exc x ρ' h' => exact fun k => k.elim
  | ok f ρ' h' =>
    cases f with
    | nx => exact fun k z => z k
    | _ => exact fun k => k.elim)⟩⟩
theorem PGos.x {vs : List Nat} {ts : List Expr} {m : MGs} (h : PGos X vs ts m) : ∃ t, PGs X ts t ∧ SimGos X.K vs t m := ⟨_, h.p, fun σ H ρ hh G μ rel l ws r Q => by
  cases e : m l ρ hh with
  | bad => trivial
  | exc x ρ' h' => trivial
  | ok f ρ' h' =>
    cases f with
    | nx =>
      intro k
      exact ⟨ρ, hh, G, μ, l, rel, r, by rw [e]; exact k⟩
    | _ => trivial⟩
theorem gos_nil {vs : List Nat} : PGos X vs [] gsNil := .of pgs_nil sgos_nil
theorem gos_cons {vs : List Nat} (h1 : PGo X vs e g) (h2 : PGos X vs es gs) (hs : (assignEach (e :: es) X.env).map (·.2) = assign e X.env :: (assignEach es X.env).map (·.2) := by rfl) : PGos X vs (e :: es) (gsCons g gs) := by
  obtain ⟨u, q, r⟩ := h2.x
  exact .of (pgs_cons h1.p q hs) (sgos_cons (sGo g) r)
theorem go_tp {vs : List Nat} {k : Nat} (n : Nat) (hc : X.calm = true) (h : PGos X vs es gs) (hn : (assignEach es X.env).length = n := by rfl) (hst : (assignEach es X.env).findIdx? (·.1) = none := by rfl) : PGo X vs (.Tuple es k pos) (gTp n gs) := by
  obtain ⟨t, p, s⟩ := h.x
  exact .of (pg_tup hc p hn hst) (sgo_tp s)
/-! stores -/
theorem st_set (j : Nat) {x : Str} {pos' : Pos} (hN : X.N.Nodup) (he : PEm X W e me) (hi : X.N[j]? = some x := by rfl) (hx : Loc X.env.scope x := by first | exact Or.inl rfl | exact Or.inr rfl) (hs : swapsWith e (some (.Name x pos')) pos.line X.env = pure false := by rfl)
    (hf : X.fn x = true ∨ X.env.scope.names.lookup x = some .local := by first | exact .inl rfl | exact .inr rfl | assumption) : PSm X W (.Assign [.Name x pos'] e pos) (mAsg me (gNm j)) := by
  obtain ⟨t, p, s⟩ := he.x
  exact .of (ps_set hN hi hx p hs hf) (ss_asg s (sg_nm (W := W)))
theorem st_asg {tg : Expr} (he : PEm X W e me) (hg : PGm X tg g) (hs : swapsWithSole [tg] e pos.line X.env = pure false := by rfl) (hw : swappedStores [tg] e X.env = pure none := by rfl)
    (h1 : (assignEach [tg] X.env).map (·.2) = [assign tg X.env] := by rfl) : PSm X W (.Assign [tg] e pos) (mAsg me g) := by
  obtain ⟨t, p, s⟩ := he.x
  obtain ⟨u, q, r⟩ := hg.x (W := W)
  exact .of (ps_asg p q hs hw h1) (ss_asg s r)
theorem st_par (j k : Nat) {x y : Str} {px py pt : Pos} {kt k2 pt2} (hc : X.calm = true) (hN : X.N.Nodup) (ha : PAm X W [a, b] m) (hi : X.N[j]? = some x := by rfl) (hj : X.N[k]? = some y := by rfl) (hij : j ≠ k := by decide)
    (hx : X.env.scope.names.lookup x = some .local := by rfl) (hy : X.env.scope.names.lookup y = some .local := by rfl)
    (hw : swappedStores [.Tuple [.Name x px, .Name y py] kt pt] (.Tuple [a, b] k2 pt2) X.env = pure (some [x, y]) := by rfl)
    (hs : swapsWithSole [.Tuple [.Name x px, .Name y py] kt pt] (.Tuple [a, b] k2 pt2) pos.line X.env = pure false := by rfl) :
    PSm X W (.Assign [.Tuple [.Name x px, .Name y py] kt pt] (.Tuple [a, b] k2 pt2) pos) (mPar j k m) := by
  obtain ⟨t, p, s⟩ := ha.x
  exact .of (ps_par hc hN hi hj hij hx hy p hw hs) (ss_par s)
theorem st_par3 (j k l : Nat) {x y z : Str} {px py pz pt : Pos} {kt k2 pt2} (hc : X.calm = true) (hN : X.N.Nodup) (ha : PAm X W [a, b, c] m) (hi : X.N[j]? = some x := by rfl) (hj : X.N[k]? = some y := by rfl) (hl : X.N[l]? = some z := by rfl)
    (hij : j ≠ k := by decide) (hil : j ≠ l := by decide) (hjl : k ≠ l := by decide)
    (hx : X.env.scope.names.lookup x = some .local := by rfl) (hy : X.env.scope.names.lookup y = some .local := by rfl) (hz : X.env.scope.names.lookup z = some .local := by rfl)
    (hw : swappedStores [.Tuple [.Name x px, .Name y py, .Name z pz] kt pt] (.Tuple [a, b, c] k2 pt2) X.env = pure (some [x, y, z]) := by rfl)
    (hs : swapsWithSole [.Tuple [.Name x px, .Name y py, .Name z pz] kt pt] (.Tuple [a, b, c] k2 pt2) pos.line X.env = pure false := by rfl) :
    PSm X W (.Assign [.Tuple [.Name x px, .Name y py, .Name z pz] kt pt] (.Tuple [a, b, c] k2 pt2) pos) (mPar3 j k l m) := by
  obtain ⟨t, p, s⟩ := ha.x
  exact .of (ps_par3 hc hN hi hj hl hij hil hjl hx hy hz p hw hs) (ss_par3 s)
theorem st_setIx {spos : Pos} (ho : PEm X W o mo) (hi : PEm X W i mi) (he : PEm X W e me)
    (ha : ∀ v, assign (.Subscript o i spos) X.env v = (do
      let ov ← holding [v] (eval o X.env)
      let iv ← holding [v, ov] (eval i X.env)
      standAt spos
      holding [v, ov, iv] (setItem ov iv v)
      release [v, ov, iv] []) := by intro _; rfl)
    (hs : swapsWithSole [.Subscript o i spos] e pos.line X.env = pure false := by rfl) (hw : swappedStores [.Subscript o i spos] e X.env = pure none := by rfl)
    (h1 : (assignEach [.Subscript o i spos] X.env).map (·.2) = [assign (.Subscript o i spos) X.env] := by rfl) : PSm X W (.Assign [.Subscript o i spos] e pos) (mSetIx mo mi me) := by
  obtain ⟨t, p, s⟩ := ho.x
  obtain ⟨u, q, r⟩ := hi.x
  obtain ⟨v, z, y⟩ := he.x
  exact .of (ps_asg z (pg_sub p q set_list ha) hs hw h1) (ss_setIx s r y)
theorem st_setAt {cs : List Str} {f : Str} {pos' : Pos} (hc : ∀ c ∈ cs, CA X.K c f) (ho : PEm X W o mo) (he : PEm X W e me) (hs : swapsWith e (some (.Attribute o f pos')) pos.line X.env = pure false := by rfl) : PSm X W (.Assign [.Attribute o f pos'] e pos) (mSetAt cs f mo me) := by
  obtain ⟨t, p, s⟩ := ho.x
  obtain ⟨v, z, y⟩ := he.x
  exact .of (ps_fld p z hs) (ss_setAt hc s y)
/-! attributes, calls -/
theorem em_at {cs : List Str} {f : Str} (hc : ∀ c ∈ cs, CA X.K c f) (ho : PEm X W o mo) (hb : attributeBase o f X.env (eval o X.env) = eval o X.env := by rfl) : PEm X W (.Attribute o f pos) (mAt cs f mo) := by
  obtain ⟨t, p, s⟩ := ho.x
  exact .of (pe_fld p hb) (se_at hc s)
theorem em_append {apos : Pos} (ho : PEm X W o mo) (he : PEm X W e me) (hbase : attributeBase o "append" X.env (eval o X.env) = eval o X.env := by rfl)
    (hfew : ((backTo pos (starEach (e :: []) X.env)).all (fun x => !x.1) && (backToKw pos (keywordEach [] X.env)).all (fun x => x.1.isSome)
      && decide ((e :: []).length + ([] : List Keyword).length + (if ([] : List Keyword).isEmpty then 0 else 1) < 30)) = true := by rfl)
    (hline : (apos.endLine == pos.line) = true := by rfl) (hs : starEach (e :: []) X.env = (false, eval e X.env) :: starEach [] X.env := by rfl) (hplain : (backTo pos (starEach [] X.env)).any (·.1) = false := by rfl) :
    PEm X W (.Call (.Attribute o "append" apos) [e] [] pos) (mApp mo me) := by
  obtain ⟨t, p, s⟩ := ho.x
  obtain ⟨u, q, r⟩ := he.x
  exact .of (pe_bm PySem.F.plainAttrs_list PySem.F.slot_list_append PySem.F.type_list_append mt_append p (pa_cons q pa_nil hs) hbase hfew hline hs hplain) (se_app s r)
theorem em_extend {apos : Pos} (ho : PEm X W o mo) (he : PEm X W e me) (hbase : attributeBase o "extend" X.env (eval o X.env) = eval o X.env := by rfl)
    (hfew : ((backTo pos (starEach (e :: []) X.env)).all (fun x => !x.1) && (backToKw pos (keywordEach [] X.env)).all (fun x => x.1.isSome)
      && decide ((e :: []).length + ([] : List Keyword).length + (if ([] : List Keyword).isEmpty then 0 else 1) < 30)) = true := by rfl)
    (hline : (apos.endLine == pos.line) = true := by rfl) (hs : starEach (e :: []) X.env = (false, eval e X.env) :: starEach [] X.env := by rfl) (hplain : (backTo pos (starEach [] X.env)).any (·.1) = false := by rfl) :
    PEm X W (.Call (.Attribute o "extend" apos) [e] [] pos) (mExt mo me) := by
  obtain ⟨t, p, s⟩ := ho.x
  obtain ⟨u, q, r⟩ := he.x
  exact .of (pe_bm PySem.F.plainAttrs_list PySem.F.slot_list_extend PySem.F.type_list_extend mt_extend p (pa_cons q pa_nil hs) hbase hfew hline hs hplain) (se_ext s r)
/-- what is known of a def: where it stands, its worth, its defaults -/
structure Df (P : Program) (w : World) (K : PySem.W.Frag) (mg : Str → Option Value) (base : Heap) (k : Nat) (f : Addr) (n nd : Nat) (ds : List AV) (F : Fn) : Prop where
  ex : ∃ (fd : FuncData) (ps : List Str) (dvs : List V) (vs : List Value), ps.length = n ∧ FnK P w K mg base k f fd ps F ∧ Binds K fd ps vs ∧ Vals dvs vs ∧ (∀ μ G, RL K μ G ds dvs)
  kp : PySem.W.keepIn K (.ref f) = true
theorem em_call {x : Str} {p : Pos} {f : Addr} {k n nd : Nat} {ds : List AV} {F : Fn} (D : Df X.prog X.w X.K X.mg X.base k f n nd ds F) (hr : Room k X.A) (hm : X.mg x = some (.ref f)) (ha : PAm X W (e :: es) m) (hg : Gl X x := by rfl)
    (hdb : (x == ("__debug__" : Str)) = false := by decide) (he : starEach (e :: es) X.env = (false, eval e X.env) :: starEach es X.env := by rfl) (hpl : (backTo pos (starEach es X.env)).any (·.1) = false := by rfl) :
    PEm X W (.Call (.Name x p) (e :: es) [] pos) (mCall n F ds m) := by
  obtain ⟨fd, ps, dvs, vs, hn, FF, hb, hd, hds⟩ := D.ex
  obtain ⟨t, q, s⟩ := ha.x
  subst hn
  exact .of (pe_call FF hr hg hm D.kp hb hd passL q hdb he hpl) (se_call hds s)
theorem em_call0 {x : Str} {p : Pos} {f : Addr} {k n nd : Nat} {ds : List AV} {F : Fn} (D : Df X.prog X.w X.K X.mg X.base k f n nd ds F) (hr : Room k X.A) (hm : X.mg x = some (.ref f)) (hg : Gl X x := by rfl)
    (hdb : (x == ("__debug__" : Str)) = false := by decide) : PEm X W (.Call (.Name x p) [] [] pos) (mCall n F ds mNil) := by
  obtain ⟨fd, ps, dvs, vs, hn, FF, hb, hd, hds⟩ := D.ex
  subst hn
  exact .of (pe_call0 FF hr hg hm D.kp hb hd passL hdb) (se_call hds sim_nil)
theorem em_meth {pl : Sem Bool} {c m' : Str} {apos : Pos} {f : Addr} {k n nd : Nat} {ds : List AV} {F : Fn} (D : Df X.prog X.w X.K X.mg X.base k f n nd ds F) (hr : Room k X.A) (hc : Cls X.K (He.ga X.K c)) (hm : Meth X.K (He.ga X.K c) m' f) (ho : PEm X W o mo) (ha : PAm X W (e :: es) m)
    (hst : starEach (e :: es) X.env = (false, eval e X.env) :: starEach es X.env := by rfl) (hpl : (backTo pos (starEach es X.env)).any (·.1) = false := by rfl)
    (ht : eval (.Call (.Attribute o m' apos) (e :: es) [] pos) X.env = (do
      let ov ← eval o X.env
      standAt apos.atName
      let (f, first) ← holding [ov] (getMethod ov m' pl)
      callWith pos f first (backTo pos (starEach (e :: es) X.env)) (backToKw pos (keywordEach [] X.env))) := by rfl) :
    PEm X W (.Call (.Attribute o m' apos) (e :: es) [] pos) (mMeth c m' n F ds mo m) := by
  obtain ⟨fd, ps, dvs, vs, hn, FF, hb, hd, hds⟩ := D.ex
  obtain ⟨t, q, s⟩ := ha.x
  obtain ⟨t', q', s'⟩ := ho.x
  subst hn
  exact .of (pe_meth q' hc hm FF hr hb hd passL q hst hpl ht) (se_meth hds s' s)
theorem em_meth0 {pl : Sem Bool} {c m' : Str} {apos : Pos} {f : Addr} {k n nd : Nat} {ds : List AV} {F : Fn} (D : Df X.prog X.w X.K X.mg X.base k f n nd ds F) (hr : Room k X.A) (hc : Cls X.K (He.ga X.K c)) (hm : Meth X.K (He.ga X.K c) m' f) (ho : PEm X W o mo)
    (ht : eval (.Call (.Attribute o m' apos) [] [] pos) X.env = (do
      let ov ← eval o X.env
      standAt apos.atName
      let (f, first) ← holding [ov] (getMethod ov m' pl)
      callWith pos f first (backTo pos (starEach [] X.env)) (backToKw pos (keywordEach [] X.env))) := by rfl) :
    PEm X W (.Call (.Attribute o m' apos) [] [] pos) (mMeth c m' n F ds mo mNil) := by
  obtain ⟨fd, ps, dvs, vs, hn, FF, hb, hd, hds⟩ := D.ex
  obtain ⟨t', q', s'⟩ := ho.x
  subst hn
  exact .of (pe_meth0 q' hc hm FF hr hb hd passL ht) (se_meth hds s' sim_nil)
theorem em_make {x : Str} {p : Pos} {f : Addr} {k n nd : Nat} {ds : List AV} {F : Fn} (D : Df X.prog X.w X.K X.mg X.base k f n nd ds F) (hr : Room (k + 1) X.A) (M : Mk X.K (He.ga X.K x) f) (hm : X.mg x = some (.ref (He.ga X.K x))) (ha : PAm X W (e :: es) m) (hg : Gl X x := by rfl)
    (hdb : (x == ("__debug__" : Str)) = false := by decide) (he : starEach (e :: es) X.env = (false, eval e X.env) :: starEach es X.env := by rfl) (hpl : (backTo pos (starEach es X.env)).any (·.1) = false := by rfl) :
    PEm X W (.Call (.Name x p) (e :: es) [] pos) (mMake x n F ds m) := by
  obtain ⟨fd, ps, dvs, vs, hn, FF, hb, hd, hds⟩ := D.ex
  obtain ⟨t, q, s⟩ := ha.x
  subst hn
  exact .of (pe_make M FF hr hg hm hb hd passL q hdb he hpl) (se_make hds s)
theorem em_make0 {x : Str} {p : Pos} {f : Addr} {k n nd : Nat} {ds : List AV} {F : Fn} (D : Df X.prog X.w X.K X.mg X.base k f n nd ds F) (hr : Room (k + 1) X.A) (M : Mk X.K (He.ga X.K x) f) (hm : X.mg x = some (.ref (He.ga X.K x))) (hg : Gl X x := by rfl)
    (hdb : (x == ("__debug__" : Str)) = false := by decide) : PEm X W (.Call (.Name x p) [] [] pos) (mMake x n F ds mNil) := by
  obtain ⟨fd, ps, dvs, vs, hn, FF, hb, hd, hds⟩ := D.ex
  subst hn
  exact .of (pe_make0 M FF hr hg hm hb hd passL hdb) (se_make hds sim_nil)
theorem em_makeC {x : Str} {p : Pos} {f : Addr} {k n nd : Nat} {ds : List AV} {F : Fn} (D : Df X.prog X.w X.K X.mg X.base k f n nd ds F) (hr : Room (k + 1) X.A) (M : Mk X.K (He.ga X.K x) f) (hm : X.mg x = some (.ref (He.ga X.K x))) (ha : PAm X W (e :: es) m) (hg : Gl X x := by rfl)
    (hdb : (x == ("__debug__" : Str)) = false := by decide) (he : starEach (e :: es) X.env = (false, eval e X.env) :: starEach es X.env := by rfl) (hpl : (backTo pos (starEach es X.env)).any (·.1) = false := by rfl) :
    PEm X W (.Call (.Name x p) (e :: es) [] pos) (mMakeC x n F ds m) := by
  obtain ⟨fd, ps, dvs, vs, hn, FF, hb, hd, hds⟩ := D.ex
  obtain ⟨t, q, s⟩ := ha.x
  subst hn
  exact .of (pe_make M FF hr hg hm hb hd passL q hdb he hpl) (se_makeC hds s)
/-! a module's constant -/
theorem em_glob {x : Str} {u : Value} {v : V} {d : AV} (hm : X.mg x = some u) (r : RelV v u) (hr : ∀ μ G, R X.K μ G d v) (hg : Gl X x := by rfl) (hd : (x == ("__debug__" : Str)) = false := by decide) : PEm X W (.Name x pos) (mC d) := .of (pe_glob hg hm r hd) (sim_c hr)
/-! loops -/
theorem im_seq {tg : Expr} (he : PEm X W e me) : PIm X W tg e (iSq me) := by
  obtain ⟨t, p, s⟩ := he.x
  exact ⟨_, pi_seq p, si_seq s⟩
theorem im_r1 {tg : Expr} {p : Pos} (hm : X.mg "range" = none) (ha : PAm X W [a] m) (hg : Gl X "range" := by rfl) (hs : starEach [a] X.env = [(false, eval a X.env)] := by rfl) : PIm X W tg (.Call (.Name "range" p) [a] [] pos) (iR1 m) := by
  obtain ⟨t, q, s⟩ := ha.x
  exact ⟨_, pi_range1 hg hm q hs, si_r1 s⟩
theorem im_r2 {tg : Expr} {p : Pos} (hm : X.mg "range" = none) (ha : PAm X W [a, b] m) (hg : Gl X "range" := by rfl) (hs : starEach [a, b] X.env = [(false, eval a X.env), (false, eval b X.env)] := by rfl) (hs2 : starEach [b] X.env = [(false, eval b X.env)] := by rfl) : PIm X W tg (.Call (.Name "range" p) [a, b] [] pos) (iR2 m) := by
  obtain ⟨t, q, s⟩ := ha.x
  exact ⟨_, pi_range2 hg hm q hs hs2, si_r2 s⟩
theorem st_for {tg iter : Expr} {body : List Stmt} {it : MI} {mb : MS} (hp : PassesOwn (model X.prog X.w) X.A X.env X.xe) (hc : X.calm = true) (hi : PIm X W tg iter it) (hg : PGm X tg g) (hb : PSsm X W body mb)
    (hs : ∀ x, foldedSetIterable iter X.env x = pure x := by intro _; rfl) : PSm X W (.For tg iter body [] pos) (mFor it g mb) := by
  obtain ⟨wi, pi, si⟩ := hi.ex
  obtain ⟨u, q, r⟩ := hg.x (W := W)
  obtain ⟨t, p, s⟩ := hb.x
  exact .of (ps_for hp hc pi q p hs) (ss_for si r s)
theorem st_while {body : List Stmt} {mb : MS} (hp : PassesOwn (model X.prog X.w) X.A X.env X.xe) (hc : PTm X W c mt) (hb : PSsm X W body mb) : PSm X W (.While c body [] pos) (mWhile mt mb) := by
  obtain ⟨tc, pc, sc⟩ := hc.x
  obtain ⟨t, p, s⟩ := hb.x
  exact .of (ps_while hp pc p) (ss_while sc s)
/-! comprehensions -/
theorem tsm_nil : PTsm X [] mYes := .of pts_nil sim_yes
theorem tsm_one (h : PTm X W0 c mt) : PTsm X [c] mt := by
  obtain ⟨t, p, s⟩ := h.x
  exact .of (pts_one p) s
theorem em_lc {elt tg iter : Expr} {ifs : List Expr} {scope : Scope} {own : List (Str × Nat)} {it : MI} (hc : X.calm = true) (hN : X.N.Nodup) (ok : BlkOk X.N X.env.scope scope own) (hi : PIm X W tg iter it)
    (hg : ∀ (s : Shared) (H : Hp) (C : Addr) (cl : List (Str × Addr)) (fp : List Addr), PGo (X.blk s H scope (compEnvC scope cl C X.env) fp) (own.map (·.2)) tg g) (ht : ∀ (s : Shared) (H : Hp) (C : Addr) (cl : List (Str × Addr)) (fp : List Addr), PTsm (X.blk s H scope (compEnvC scope cl C X.env) fp) ifs mt)
    (he : ∀ (s : Shared) (H : Hp) (C : Addr) (cl : List (Str × Addr)) (fp : List Addr), PEm (X.blk s H scope (compEnvC scope cl C X.env) fp) W0 elt me) (hs : ∀ x, foldedSetIterable iter X.env x = pure x := by intro _; rfl) :
    PEm X W (.ListComp elt [⟨tg, iter, ifs, 0⟩] scope pos) (mLc (own.map (·.2)) it g mt me) := by
  obtain ⟨wi, pi, si⟩ := hi.ex
  exact .of (pe_lc hc hN pi ok (fun s H C cl fp => (hg s H C cl fp).p) (fun s H C cl fp => (ht s H C cl fp).p) (fun s H C cl fp => (he s H C cl fp).p) hs) (se_lc si (sGo g) (sT mt) (sE me))
theorem em_lcC {elt tg iter : Expr} {ifs : List Expr} {scope : Scope} {own : List (Str × Nat)} {it : MI} (hc : X.calm = true) (hN : X.N.Nodup) (ok : BlkOk X.N X.env.scope scope own) (hi : PIm X W tg iter it)
    (hg : ∀ (s : Shared) (H : Hp) (C : Addr) (cl : List (Str × Addr)) (fp : List Addr), PGo (X.blk s H scope (compEnvC scope cl C X.env) fp) (own.map (·.2)) tg g) (ht : ∀ (s : Shared) (H : Hp) (C : Addr) (cl : List (Str × Addr)) (fp : List Addr), PTsm (X.blk s H scope (compEnvC scope cl C X.env) fp) ifs mt)
    (he : ∀ (s : Shared) (H : Hp) (C : Addr) (cl : List (Str × Addr)) (fp : List Addr), PEm (X.blk s H scope (compEnvC scope cl C X.env) fp) W0 elt me) (hs : ∀ x, foldedSetIterable iter X.env x = pure x := by intro _; rfl) :
    PEm X W (.ListComp elt [⟨tg, iter, ifs, 0⟩] scope pos) (mLcC (own.map (·.2)) it g mt me) := by
  obtain ⟨wi, pi, si⟩ := hi.ex
  exact .of (pe_lc hc hN pi ok (fun s H C cl fp => (hg s H C cl fp).p) (fun s H C cl fp => (ht s H C cl fp).p) (fun s H C cl fp => (he s H C cl fp).p) hs) (se_lcC si (sGo g) (sT mt) (sE me))
/-- y = [..] -/
theorem st_setLc (j : Nat) {y : Str} {py : Pos} {elt tg iter : Expr} {ifs : List Expr} {scope : Scope} {own : List (Str × Nat)} {spos : Pos} {it : MI} (hc : X.calm = true) (hN : X.N.Nodup) (ok : BlkOk X.N X.env.scope scope own)
    (hsw : swapsWith (.ListComp elt [⟨tg, iter, ifs, 0⟩] scope pos) (some (.Name y py)) spos.line X.env = pure true) (hi : PIm X W tg iter it)
    (hg : ∀ (s : Shared) (H : Hp) (C : Addr) (cl : List (Str × Addr)) (fp : List Addr), PGo (X.blk s H scope (compEnvC scope cl C X.env) fp) (own.map (·.2)) tg g) (ht : ∀ (s : Shared) (H : Hp) (C : Addr) (cl : List (Str × Addr)) (fp : List Addr), PTsm (X.blk s H scope (compEnvC scope cl C X.env) fp) ifs mt)
    (he : ∀ (s : Shared) (H : Hp) (C : Addr) (cl : List (Str × Addr)) (fp : List Addr), PEm (X.blk s H scope (compEnvC scope cl C X.env) fp) W0 elt me) (hy : X.N[j]? = some y := by rfl) (hyl : X.env.scope.names.lookup y = some .local := by rfl) (hs : ∀ x, foldedSetIterable iter X.env x = pure x := by intro _; rfl) :
    PSm X W (.Assign [.Name y py] (.ListComp elt [⟨tg, iter, ifs, 0⟩] scope pos) spos) (mAsg (mLc (own.map (·.2)) it g mt me) (gNm j)) := by
  obtain ⟨wi, pi, si⟩ := hi.ex
  exact .of (ps_setLc hc hN hy hyl hsw pi ok (fun s H C cl fp => (hg s H C cl fp).p) (fun s H C cl fp => (ht s H C cl fp).p) (fun s H C cl fp => (he s H C cl fp).p) hs) (ss_asg (se_lc si (sGo g) (sT mt) (sE me)) (sg_nm (W := W)))
theorem st_setLcC (j : Nat) {y : Str} {py : Pos} {elt tg iter : Expr} {ifs : List Expr} {scope : Scope} {own : List (Str × Nat)} {spos : Pos} {it : MI} (hc : X.calm = true) (hN : X.N.Nodup) (ok : BlkOk X.N X.env.scope scope own)
    (hsw : swapsWith (.ListComp elt [⟨tg, iter, ifs, 0⟩] scope pos) (some (.Name y py)) spos.line X.env = pure true) (hi : PIm X W tg iter it)
    (hg : ∀ (s : Shared) (H : Hp) (C : Addr) (cl : List (Str × Addr)) (fp : List Addr), PGo (X.blk s H scope (compEnvC scope cl C X.env) fp) (own.map (·.2)) tg g) (ht : ∀ (s : Shared) (H : Hp) (C : Addr) (cl : List (Str × Addr)) (fp : List Addr), PTsm (X.blk s H scope (compEnvC scope cl C X.env) fp) ifs mt)
    (he : ∀ (s : Shared) (H : Hp) (C : Addr) (cl : List (Str × Addr)) (fp : List Addr), PEm (X.blk s H scope (compEnvC scope cl C X.env) fp) W0 elt me) (hy : X.N[j]? = some y := by rfl) (hyl : X.env.scope.names.lookup y = some .local := by rfl) (hs : ∀ x, foldedSetIterable iter X.env x = pure x := by intro _; rfl) :
    PSm X W (.Assign [.Name y py] (.ListComp elt [⟨tg, iter, ifs, 0⟩] scope pos) spos) (mAsg (mLcC (own.map (·.2)) it g mt me) (gNm j)) := by
  obtain ⟨wi, pi, si⟩ := hi.ex
  exact .of (ps_setLc hc hN hy hyl hsw pi ok (fun s H C cl fp => (hg s H C cl fp).p) (fun s H C cl fp => (ht s H C cl fp).p) (fun s H C cl fp => (he s H C cl fp).p) hs) (ss_asg (se_lcC si (sGo g) (sT mt) (sE me)) (sg_nm (W := W)))
end
end Mi

set_option maxRecDepth 100000
set_option maxHeartbeats 4000000
/-! Slices, membership, truth. -/
namespace Mi
open PySem PySem.Spec L2

/-! ### slices -/
abbrev MO' := Env2 → AHeap → Ret (Option Int)
def oNone : MO' := fun _ h => .ok none h
def oSome (e : ME) : MO' := fun ρ h => match e ρ h with
  | .ok (.int i) h1 => .ok (some i) h1
  | .exc x h1 => .exc x h1
  | _ => .bad
def mSl (e : ME) (lo hi : MO') : ME := fun ρ h => match e ρ h with
  | .bad => .bad
  | .exc x h1 => .exc x h1
  | .ok x h1 => match lo ρ h1 with
    | .ok l h2 => (match hi ρ h2 with
      | .ok u h3 => (match aSl x l u h3 with
        | some z => .ok z h3
        | none => .bad)
      | _ => .bad)
    | _ => .bad
def SimO (K : PySem.W.Frag) (W : WX2) (t : TO) (m : MO') : Prop := ∀ σ H ρ h G μ, Rel K σ H ρ h G μ → ∀ Q : Option Int → Hp → Prop, match m ρ h with
  | .ok b h' => (∀ H' G' μ', Rel K σ H' ρ h' G' μ' → Ext G μ G' μ' → Q b H') → t σ H Q
  | _ => True
section
variable {K : PySem.W.Frag} {W : WX2} {te : TE} {e : ME} {tl tu : TO} {lo hi : MO'}
theorem so_none : SimO K W tNoPart oNone := fun σ H ρ h G μ rel Q k => k H G μ rel (Ext.refl _ _)
theorem so_some (he : SimE K W te e) : SimO K W (tPart te) (oSome e) := fun σ H ρ h G μ rel Q => by
  unfold oSome
  have A := he σ H ρ h G μ rel
  cases ea : e ρ h with
  | bad => trivial
  | exc z h1 => trivial
  | ok x h1 =>
    rw [ea] at A
    cases x with
    | int i =>
      intro k
      exact A _ fun v H1 G1 μ1 r1 x1 rv => ⟨i, rv, k H1 G1 μ1 r1 x1⟩
    | _ => trivial
theorem RL.cut {μ : List Addr} {G : Hp} {l : List AV} {vs : List V} {a b : Option Int} (r : RL K μ G l vs) : RL K μ G (cutA l a b) (cutV vs a b) := by
  unfold cutA cutV
  rw [r.length]
  exact RL.take _ (RL.drop _ r)
theorem se_sl (he : SimE K W te e) (hl : SimO K W tl lo) (hu : SimO K W tu hi) : SimE K W (tSl (fun x lo hi H Q => rSlL K x lo hi H Q ∨ rSlA K x lo hi H Q) te tl tu) (mSl e lo hi) := fun σ H ρ h G μ rel Q => by
  unfold mSl
  have A := he σ H ρ h G μ rel
  cases ea : e ρ h with
  | bad => trivial
  | exc z h1 =>
    rw [ea] at A
    exact A _
  | ok x h1 =>
    rw [ea] at A
    dsimp only
    cases eb : lo ρ h1 with
    | bad => trivial
    | exc z h2 => trivial
    | ok l h2 =>
      dsimp only
      cases ec : hi ρ h2 with
      | bad => trivial
      | exc z h3 => trivial
      | ok u h3 =>
        dsimp only
        cases ez : aSl x l u h3 with
        | none => trivial
        | some z =>
          intro k
          refine A _ fun v H1 G1 μ1 r1 x1 rv => ?_
          have B := hl σ H1 ρ h1 G1 μ1 r1 (fun l H2 => tu σ H2 fun u H3 => rSlL K v l u H3 Q ∨ rSlA K v l u H3 Q)
          rw [eb] at B
          refine B fun H2 G2 μ2 r2 x2 => ?_
          have C := hu σ H2 ρ h2 G2 μ2 r2 (fun u H3 => rSlL K v l u H3 Q ∨ rSlA K v l u H3 Q)
          rw [ec] at C
          refine C fun H3 G3 μ3 r3 x3 => ?_
          unfold aSl at ez
          cases eg : getL h3 x with
          | none =>
            rw [eg] at ez
            cases ez
          | some ll =>
            rw [eg] at ez
            dsimp only at ez
            obtain ⟨a, vs, ev, ra, s⟩ := getL_sq r3.hp (R.mono (x2.trans x3) rv) eg
            have xx := (x1.trans x2).trans x3
            rcases s with ⟨ht, s, sg⟩ | ⟨ht, s⟩
            · rw [if_pos ht] at ez
              cases ez
              refine .inr ⟨a, vs, ev, s, fun hw => ?_, fun hw p hp => ?_⟩
              · refine k _ H3 G3 μ3 r3 xx ⟨a, vs, rfl, sg, ?_⟩
                have e1 : cutV vs l u = vs := by
                  unfold cutV
                  rw [hw.1, hw.2, List.drop_zero, Nat.sub_zero, List.take_length]
                have := RL.cut (a := l) (b := u) ra
                rw [e1] at this
                exact this
              · obtain ⟨g, y⟩ := r3.hp.grow (o := .tup (cutV vs l u)) hp
                exact k _ _ _ μ3 ⟨g, r3.sl.mono y⟩ (xx.trans y) ⟨p, _, rfl, SqT.of upd_same, RL.mono y (RL.cut ra)⟩
            · rw [if_neg (by rw [ht]; exact Bool.false_ne_true)] at ez
              cases ez
              refine .inl ⟨a, vs, ev, s, fun p hp => ?_⟩
              obtain ⟨g, y⟩ := r3.hp.grow (o := .lst (cutV vs l u)) hp
              exact k _ _ _ μ3 ⟨g, r3.sl.mono y⟩ (xx.trans y) ⟨p, _, rfl, upd_same, RL.mono y (RL.cut ra)⟩
end
structure POm (X : Cx) (W : WX2) (e : Option Expr) (m : MO') : Prop where
  ex : ∃ t, PO X e t ∧ SimO X.K W t m

/-! ### membership -/
def pyL (h : AHeap) (x : AV) : Option (List PyData) := match py h x with
  | some (.list ds) => some ds
  | _ => none
def aIn : F2 := fun x y h => match py h x, pyL h y with
  | some d, some ds => if SeqAt.shaped d = true ∧ SeqAt.shaped (.list ds) = true then some (.bl (ds.any fun z => PyData.eqv z d)) else none
  | _, _ => none
def aNotIn : F2 := fun x y h => match py h x, pyL h y with
  | some d, some ds => if SeqAt.shaped d = true ∧ SeqAt.shaped (.list ds) = true then some (.bl (!ds.any fun z => PyData.eqv z d)) else none
  | _, _ => none
section
variable {K : PySem.W.Frag}
theorem pyL_py {h : AHeap} {x : AV} {ds : List PyData} (e : pyL h x = some ds) : py h x = some (.list ds) := by
  unfold pyL at e
  cases q : py h x with
  | none =>
    rw [q] at e
    cases e
  | some d =>
    rw [q] at e
    cases d <;> cases e
    rfl
theorem sr_in : SimR K (rInD K) aIn := fun H h G μ rh x y v u rx ry Q z e k => by
  unfold aIn at e
  cases ex : py h x with
  | none =>
    rw [ex] at e
    cases e
  | some d =>
    cases ey : pyL h y with
    | none =>
      rw [ex, ey] at e
      cases e
    | some ds =>
      rw [ex, ey] at e
      dsimp only at e
      by_cases hc : SeqAt.shaped d = true ∧ SeqAt.shaped (.list ds) = true
      · rw [if_pos hc] at e
        cases e
        exact ⟨d, ds, py_dp rh rx ex, py_dp rh ry (pyL_py ey), hc.1, hc.2, k _ H G rh (Ext.refl _ _) rfl⟩
      · rw [if_neg hc] at e
        cases e
theorem sr_notIn : SimR K (rNotInD K) aNotIn := fun H h G μ rh x y v u rx ry Q z e k => by
  unfold aNotIn at e
  cases ex : py h x with
  | none =>
    rw [ex] at e
    cases e
  | some d =>
    cases ey : pyL h y with
    | none =>
      rw [ex, ey] at e
      cases e
    | some ds =>
      rw [ex, ey] at e
      dsimp only at e
      by_cases hc : SeqAt.shaped d = true ∧ SeqAt.shaped (.list ds) = true
      · rw [if_pos hc] at e
        cases e
        exact ⟨d, ds, py_dp rh rx ex, py_dp rh ry (pyL_py ey), hc.1, hc.2, k _ H G rh (Ext.refl _ _) rfl⟩
      · rw [if_neg hc] at e
        cases e
end

/-! ### truth -/
def truth (h : AHeap) : AV → Option Bool
  | .non => some false
  | .bl b => some b
  | .int i => some (i != 0)
  | .str s => if s.length ≤ sizeLine then some ((s.length : Int) != 0) else none
  | x => match getL h x with
    | some l => some (!l.isEmpty)
    | none => none
theorem truth_rel {K : PySem.W.Frag} {H : Hp} {h : AHeap} {G : Hp} {μ : List Addr} {x : AV} {v : V} {b : Bool} (rh : RelH K H h G μ) (r : R K μ G x v) (e : truth h x = some b) : TruV K v H b := by
  have seq : ∀ {x : AV}, R K μ G x v → (match getL h x with
    | some l => some (!l.isEmpty)
    | none => none) = some b → TruV K v H b := fun {x} r e => by
    cases q : getL h x with
    | none =>
      rw [q] at e
      cases e
    | some l =>
      rw [q] at e
      cases e
      obtain ⟨a, vs, ev, ra, s⟩ := getL_sq rh r q
      have hl : (!l.isEmpty) = !vs.isEmpty := by
        have := ra.length
        cases l <;> cases vs <;> simp at this ⊢
      subst ev
      rcases s with ⟨_, s, _⟩ | ⟨_, s⟩
      · exact .inr (.inl ⟨vs, s, hl⟩)
      · exact .inl ⟨vs, s, hl⟩
  cases x with
  | non =>
    cases e
    have r' : v = .non := r
    subst r'
    rfl
  | bl c =>
    cases e
    have r' : v = .bl b := r
    subst r'
    rfl
  | int i =>
    cases e
    have r' : v = .int i := r
    subst r'
    rfl
  | str s =>
    have r' : v = .str s := r
    subst r'
    have e' : (if s.length ≤ sizeLine then some ((s.length : Int) != 0) else none) = some b := e
    by_cases hc : s.length ≤ sizeLine
    · rw [if_pos hc] at e'
      cases e'
      exact ⟨hc, rfl⟩
    · rw [if_neg hc] at e'
      cases e'
  | ty n => cases e
  | tup l => exact seq r e
  | lst l => exact seq r e
  | lstR l => exact seq r e
  | obj c ks l => exact seq r e
  | ref i => exact seq r e
def mTru (a : ME) : MT := fun ρ h => match a ρ h with
  | .bad => .bad
  | .exc e h1 => .exc e h1
  | .ok x h1 => match truth h1 x with
    | some b => .ok b h1
    | none => .bad
def mNotT (a : ME) : ME := fun ρ h => match a ρ h with
  | .bad => .bad
  | .exc e h1 => .exc e h1
  | .ok x h1 => match truth h1 x with
    | some b => .ok (.bl (!b)) h1
    | none => .bad
section
variable {K : PySem.W.Frag} {W : WX2} {ta : TE} {a : ME}
theorem st_tru (ha : SimE K W ta a) : SimT K W (fun σ H Q => ta σ H fun x H' => ∃ k, TruV K x H' k ∧ Q k H') (mTru a) := fun σ H ρ h G μ rel Q => by
  unfold mTru
  have A := ha σ H ρ h G μ rel
  cases ea : a ρ h with
  | bad => trivial
  | exc e h1 =>
    rw [ea] at A
    exact A _
  | ok x h1 =>
    rw [ea] at A
    dsimp only
    cases eb : truth h1 x with
    | none => trivial
    | some b =>
      intro k
      exact A _ fun v H1 G1 μ1 r1 x1 rv => ⟨b, truth_rel r1.hp rv eb, k H1 G1 μ1 r1 x1⟩
theorem se_notT (ha : SimE K W ta a) : SimE K W (tNotT K ta) (mNotT a) := fun σ H ρ h G μ rel Q => by
  unfold mNotT
  have A := ha σ H ρ h G μ rel
  cases ea : a ρ h with
  | bad => trivial
  | exc e h1 =>
    rw [ea] at A
    exact A _
  | ok x h1 =>
    rw [ea] at A
    dsimp only
    cases eb : truth h1 x with
    | none => trivial
    | some b =>
      intro k
      exact A _ fun v H1 G1 μ1 r1 x1 rv => ⟨b, truth_rel r1.hp rv eb, k _ H1 G1 μ1 r1 x1 rfl⟩
end
section
variable {X : Cx} {W : WX2} {a e : Expr} {ma me : ME} {pos p2 : Pos} {lo hi : Option Expr} {ml mh : MO'}
theorem om_none : POm X W none oNone := ⟨_, po_none, so_none⟩
theorem om_some (h : PEm X W e me) : POm X W (some e) (oSome me) := by
  obtain ⟨t, p, s⟩ := h.x
  exact ⟨_, po_some p, so_some s⟩
theorem em_sl (he : PEm X W e me) (hl : POm X W lo ml) (hu : POm X W hi mh) : PEm X W (.Subscript e (.Slice lo hi none p2) pos) (mSl me ml mh) := by
  obtain ⟨t, p, s⟩ := he.x
  obtain ⟨tl, pl, sl⟩ := hl.ex
  obtain ⟨tu, pu, su⟩ := hu.ex
  exact .of (pe_slice (SlR.or sl_list sl_tupA) p pl pu) (se_sl s sl su)
theorem tm_tru (ha : PEm X W a ma) (he : ∀ whole, isTrue a X.env whole = (do let v ← whole; standAt a.pos; holding [v] (truthy v)) := by intro _; rfl) : PTm X W a (mTru ma) := by
  obtain ⟨t, p, s⟩ := ha.x
  exact .of (pt_truth p he) (st_tru s)
theorem em_notT (ha : PEm X W a ma) : PEm X W (.UnaryOp .Not a pos) (mNotT ma) := by
  obtain ⟨t, p, s⟩ := ha.x
  exact .of (pe_notT p) (se_notT s)
end

/-! ### two-place max, min -/
def aMax2 : FC := fun xs _ => match xs with
  | [.int i, .int j] => some (.int (if j > i then j else i))
  | _ => none
def aMin2 : FC := fun xs _ => match xs with
  | [.int i, .int j] => some (.int (if j < i then j else i))
  | _ => none
theorem sc_max2 {K : PySem.W.Frag} : SimC K (fun xs H Q => ∃ i j, xs = [.int i, .int j] ∧ Q (.int (if j > i then j else i)) H) aMax2 := fun H h G μ rh xs vs rs Q z e k => by
  match xs, e with
  | [.int i, .int j], e =>
    cases e
    obtain ⟨v, u, ev, rv, ru⟩ := two_inv rs
    have rv' : v = .int i := rv
    have ru' : u = .int j := ru
    subst ev rv' ru'
    exact ⟨i, j, rfl, k _ H G rh (Ext.refl _ _) rfl⟩
theorem sc_min2 {K : PySem.W.Frag} : SimC K (fun xs H Q => ∃ i j, xs = [.int i, .int j] ∧ Q (.int (if j < i then j else i)) H) aMin2 := fun H h G μ rh xs vs rs Q z e k => by
  match xs, e with
  | [.int i, .int j], e =>
    cases e
    obtain ⟨v, u, ev, rv, ru⟩ := two_inv rs
    have rv' : v = .int i := rv
    have ru' : u = .int j := ru
    subst ev rv' ru'
    exact ⟨i, j, rfl, k _ H G rh (Ext.refl _ _) rfl⟩
end Mi

set_option maxRecDepth 100000
set_option maxHeartbeats 4000000
/-! The head: what the top has left. -/
namespace Mi
open PySem PySem.Spec L2

/-! ### more facts -/
inductive XFa where
  | blt (x : Str) (id : String)
  | tup (x : Str) (vs : List He.Dv)
  | tupAt (p : PySem.W.Frag → Addr) (vs : List He.Dv)
def tupBA (K : PySem.W.Frag) (a : Addr) (vs : List He.Dv) : Bool := match K.lookup a with
  | some ⟨.type c, _, .seq its _, _⟩ => decide (c = "tuple") && (decide (its.size ≤ sizeLine) && He.relAll (vs.map (He.Dv.v K)) its.toList)
  | _ => false
def XFa.ok (K : PySem.W.Frag) : XFa → Bool
  | .blt x id => (match PySem.W.nsIn K mainGlobals x with
    | some (some (.builtin j)) => decide (j = id)
    | _ => false)
  | .tup x vs => He.eqO (PySem.W.nsIn K mainGlobals x) (some (some (.ref (He.ga K x)))) && tupBA K (He.ga K x) vs
  | .tupAt p vs => tupBA K (p K) vs
theorem tupBA_ok {K : PySem.W.Frag} {a : Addr} {vs : List He.Dv} (h : tupBA K a vs = true) (H : Hp) : SqT K H a (vs.map (He.Dv.v K)) := by
  unfold tupBA at h
  cases q : K.lookup a with
  | none =>
    rw [q] at h
    cases h
  | some o =>
    obtain ⟨oc, od, dt, osl⟩ := o
    rw [q] at h
    cases oc with
    | type c =>
      cases dt with
      | seq its n =>
        obtain ⟨h1, h2⟩ := He.ba (show (decide (c = "tuple") && (decide (its.size ≤ sizeLine) && He.relAll (vs.map (He.Dv.v K)) its.toList)) = true from h)
        obtain ⟨h3, h4⟩ := He.ba h2
        exact .inr ⟨_, its, n, q, congrArg Value.type (of_decide_eq_true h1), rfl, of_decide_eq_true h3, He.relAll_ok h4⟩
      | _ => cases h
    | _ => cases dt <;> cases h
abbrev AlM : Type := He.AlD × Bool
def obsM (n : Nat) (fa : List He.Fa) (fn : List He.DefD) (xf : List XFa) (g : Addr → Option Obj) : AlM := (He.obsD fa fn (He.frG g (He.asD g n)), xf.all fun f => f.ok (He.frG g (He.asD g n)))
def SaysM (fa : List He.Fa) (fn : List He.DefD) (xf : List XFa) (K : PySem.W.Frag) : Prop := He.SaysD fa fn K ∧ (xf.all fun f => f.ok K) = true
def hookM (n : Nat) (fa : List He.Fa) (fn : List He.DefD) (xf : List XFa) : PySem.W.Hook where
  α := AlM
  obs := fun s => obsM n fa fn xf s.heap.get?
  val := fun _ => (He.valD fn, true)
  says := fun _ h => ∃ K : PySem.W.Frag, K.In h ∧ SaysM fa fn xf K
  of := fun _ s e => ⟨_, He.frG_in, congrArg (fun z : AlM => z.1) e, congrArg (fun z : AlM => z.2) e⟩
  keeps := fun _ _ _ ⟨K, hK, c⟩ k => ⟨K, PySem.W.Frag.In.keeps hK k, c⟩
theorem obsM_eq {n : Nat} {fa : List He.Fa} {fn : List He.DefD} {xf : List XFa} {g : Addr → Option Obj} {s : Shared} (h : ∀ a, g a = s.heap.get? a) : obsM n fa fn xf g = (hookM n fa fn xf).obs s := by
  have e : g = s.heap.get? := funext h
  rw [e] <;> rfl

/-- what is known behind the top -/
structure TX (fa : List He.Fa) (fn : List He.DefD) (xf : List XFa) (K : PySem.W.Frag) (mg : Str → Option Value) : Prop where
  c : SaysM fa fn xf K
  h : ∃ h : Heap, K.In h ∧ h.Ns mainGlobals mg
section
variable {fa : List He.Fa} {fn : List He.DefD} {xf : List XFa} {K : PySem.W.Frag} {mg : Str → Option Value}
theorem TX.glo (T : TX fa fn xf K mg) (i : Nat) {x : Str} (e : fa[i]? = some (.glo x) := by rfl) : mg x = some (.ref (He.ga K x)) := by
  obtain ⟨h, X, G⟩ := T.h
  exact He.glo_ok X G (T.c.1.fact i e)
theorem TX.free (T : TX fa fn xf K mg) (i : Nat) {x : Str} (e : fa[i]? = some (.free x) := by rfl) : mg x = none := by
  obtain ⟨h, X, G⟩ := T.h
  exact He.free_ok X G (T.c.1.fact i e)
theorem TX.cls (T : TX fa fn xf K mg) (i : Nat) {x : Str} (e : fa[i]? = some (.cls x) := by rfl) : Cls K (He.ga K x) := He.cls_ok (T.c.1.fact i e)
theorem TX.meth (T : TX fa fn xf K mg) (i : Nat) {x m : Str} (e : fa[i]? = some (.meth x m) := by rfl) : Meth K (He.ga K x) m (He.ma K (He.ga K x) m) := He.meth_ok (T.c.1.fact i e)
theorem TX.mkr (T : TX fa fn xf K mg) (i : Nat) {x : Str} (e : fa[i]? = some (.mkr x) := by rfl) : Mk K (He.ga K x) (He.ma K (He.ga K x) "__init__") := He.mkr_ok (T.c.1.fact i e)
theorem TX.ca (T : TX fa fn xf K mg) (i j : Nat) {x f : Str} (e : fa[i]? = some (.cls x) := by rfl) (e2 : fa[j]? = some (.noat x f) := by rfl) : CA K x f := ⟨He.cls_ok (T.c.1.fact i e), He.noat_ok (T.c.1.fact j e2)⟩
theorem TX.xfa (T : TX fa fn xf K mg) (i : Nat) {f : XFa} (e : xf[i]? = some f) : f.ok K = true := List.all_eq_true.mp T.c.2 f (List.mem_of_getElem? e)
theorem TX.blt (T : TX fa fn xf K mg) (i : Nat) {x : Str} {id : String} (e : xf[i]? = some (.blt x id) := by rfl) : mg x = some (.builtin id) := by
  obtain ⟨h, X, G⟩ := T.h
  have q : (match PySem.W.nsIn K mainGlobals x with
    | some (some (.builtin j)) => decide (j = id)
    | _ => false) = true := T.xfa i e
  cases e1 : PySem.W.nsIn K mainGlobals x with
  | none =>
    rw [e1] at q
    cases q
  | some o =>
    rw [e1] at q
    cases o with
    | none => cases q
    | some v =>
      cases v with
      | builtin j =>
        have ej : j = id := of_decide_eq_true q
        rw [ej] at e1
        exact PySem.W.mg_of X G e1
      | _ => cases q
theorem TX.tup (T : TX fa fn xf K mg) (i : Nat) {x : Str} {vs : List He.Dv} (e : xf[i]? = some (.tup x vs) := by rfl) : mg x = some (.ref (He.ga K x)) ∧ ∀ H, SqT K H (He.ga K x) (vs.map (He.Dv.v K)) := by
  obtain ⟨h, X, G⟩ := T.h
  obtain ⟨q1, q2⟩ := He.ba (show (He.eqO (PySem.W.nsIn K mainGlobals x) (some (some (.ref (He.ga K x)))) && tupBA K (He.ga K x) vs) = true from T.xfa i e)
  exact ⟨PySem.W.mg_of X G (He.eqO_ok q1), tupBA_ok q2⟩
theorem TX.tupAt (T : TX fa fn xf K mg) (i : Nat) {p : PySem.W.Frag → Addr} {vs : List He.Dv} (e : xf[i]? = some (.tupAt p vs) := by rfl) : ∀ H, SqT K H (p K) (vs.map (He.Dv.v K)) := tupBA_ok (show tupBA K (p K) vs = true from T.xfa i e)
end
theorem all1 {p : Str → Prop} {a : Str} (h : p a) : ∀ c ∈ [a], p c := fun c hc => by
  have e : c = a := by simpa using hc
  rw [e]
  exact h
theorem all2 {p : Str → Prop} {a b : Str} (h : p a) (h2 : p b) : ∀ c ∈ [a, b], p c := fun c hc => by
  rcases List.mem_cons.mp hc with e | e
  · rw [e]
    exact h
  · exact all1 h2 c e
theorem allC {p : Str → Prop} {a : Str} {l : List Str} (h : p a) (h2 : ∀ c ∈ l, p c) : ∀ c ∈ a :: l, p c := fun c hc => by
  rcases List.mem_cons.mp hc with e | e
  · rw [e]
    exact h
  · exact h2 c e

/-! ### the law -/
theorem law_sp {K : PySem.W.Frag} {F : Fn} {H : Hp} {a : Addr} {ns : List Int} (hS : SqL K H a (ns.map V.int)) (h : ∃ h', F [.lstR (ns.map AV.int)] [] = .ok (.bl true) h') : spM K 1 F [.ref a] H (fun v _ => v = .bl true) fun _ _ _ => False := by
  obtain ⟨h', e⟩ := h
  refine ⟨[.lstR (ns.map AV.int)], [], H, [], ⟨fun _ _ z => z, rfl, fun i mo e => by simp at e, fun i j a mo mo' e => by simp at e⟩, ?_, rfl, ?_⟩
  · exact RL.cons (x := .lstR (ns.map AV.int)) ⟨a, _, rfl, hS, RL.map (f := AV.int) (g := V.int) (fun _ => rfl) ns⟩ RL.nil
  · rw [e]
    exact fun v H' G' μ' _ _ r => r
theorem cx_none {P : Program} {w : World} {H : Hp} {s : Shared} {e : Value} {s' : Shared} (h : L2.CX P w [] H s (fun _ _ _ => False) e s') : False := by
  obtain ⟨_, _, _, _, _, _, _, _, _, _, _, _, z⟩ := h
  exact z.elim
end Mi

set_option maxRecDepth 100000
set_option maxHeartbeats 4000000
/-! Meanings, evaluated. -/
namespace Mi
open PySem PySem.Spec L2
theorem aAt_0 {a : AV} {l : List AV} : aAt (a :: l) 0 = some a := by
  unfold aAt ixN
  rw [if_pos (by decide), if_pos (by rw [List.length_cons]; omega)]
  rfl
theorem aAt_nat {l : List AV} {i : Nat} {x : AV} (e : l[i]? = some x) : aAt l (i : Int) = some x := by
  have hi := (List.getElem?_eq_some_iff.mp e).1
  unfold aAt ixN
  rw [if_pos (by omega), if_pos (by omega)]
  exact e
theorem aAt_1 {a b : AV} {l : List AV} : aAt (a :: b :: l) 1 = some b := aAt_nat (i := 1) rfl
theorem aAt_2 {a b c : AV} {l : List AV} : aAt (a :: b :: c :: l) 2 = some c := aAt_nat (i := 2) rfl
theorem aEq_int {a b : Int} {h : AHeap} : aEq (.int a) (.int b) h = some (.bl (a == b)) := rfl
theorem aNe_int {a b : Int} {h : AHeap} : aNe (.int a) (.int b) h = some (.bl (!(a == b))) := rfl
theorem aEq_t2 {a b c d : Int} {h : AHeap} : aEq (.tup [.int a, .int b]) (.tup [.int c, .int d]) h = some (.bl (a == c && (b == d && true))) := rfl
theorem aNe_t2 {a b c d : Int} {h : AHeap} : aNe (.tup [.int a, .int b]) (.tup [.int c, .int d]) h = some (.bl (!(a == c && (b == d && true)))) := rfl
theorem aNe_ni {b : Int} {h : AHeap} : aNe .non (.int b) h = some (.bl true) := rfl
theorem aNe_in {b : Int} {h : AHeap} : aNe (.int b) .non h = some (.bl true) := rfl
theorem aNe_nn {h : AHeap} : aNe .non .non h = some (.bl false) := rfl
theorem aIx_t {l : List AV} {i : Int} {h : AHeap} : aIx (.tup l) (.int i) h = aAt l i := rfl
theorem aIx_l {l : List AV} {i : Int} {h : AHeap} : aIx (.lst l) (.int i) h = aAt l i := rfl
theorem aAdd_int {a b : Int} {h : AHeap} : aAdd (.int a) (.int b) h = some (.int (a + b)) := rfl
theorem aSub_int {a b : Int} {h : AHeap} : aSub (.int a) (.int b) h = some (.int (a - b)) := rfl
theorem aMul_int {a b : Int} {h : AHeap} : aMul (.int a) (.int b) h = if mulOk a b = true then some (.int (a * b)) else none := rfl
theorem aMod_int {a b : Int} {h : AHeap} : aMod (.int a) (.int b) h = if b = 0 then none else some (.int (a.fmod b)) := rfl
theorem aFdiv_int {a b : Int} {h : AHeap} : aFdiv (.int a) (.int b) h = if divOk a b = true then some (.int (a.fdiv b)) else none := rfl
theorem aCmp_int {p : Int → Int → Bool} {a b : Int} {h : AHeap} : aCmp p (.int a) (.int b) h = some (.bl (p a b)) := rfl
theorem aIs_n {x : AV} {h : AHeap} : aIs x .non h = some (.bl (isN x)) := rfl
theorem aIsNot_n {x : AV} {h : AHeap} : aIsNot x .non h = some (.bl (!isN x)) := rfl
theorem aIsNot_b {a b : Bool} {h : AHeap} : aIsNot (.bl a) (.bl b) h = some (.bl (!decide (a = b))) := rfl
theorem tr_bl {h : AHeap} {b : Bool} : truth h (.bl b) = some b := rfl
theorem tr_lst {h : AHeap} {l : List AV} : truth h (.lst l) = some (!l.isEmpty) := rfl
theorem isi {n t : String} {x : AV} {b : Bool} {h : AHeap} (ht : tyName x = some t) (hk : kitB t n = some b) : aIsi n [x, .ty n] h = some (.bl b) := by
  show (if n = n then (match tyName x with
    | some t => (match kitB t n with
      | some b => some (AV.bl b)
      | none => none)
    | none => none) else none) = some (.bl b)
  rw [if_pos rfl, ht]
  dsimp only
  rw [hk]
theorem isi_ii {a : Int} {h : AHeap} : aIsi "int" [.int a, .ty "int"] h = some (.bl true) := isi rfl (by decide +kernel)
theorem isi_ib {a : Int} {h : AHeap} : aIsi "bool" [.int a, .ty "bool"] h = some (.bl false) := isi rfl (by decide +kernel)
theorem isi_tt {l : List AV} {h : AHeap} : aIsi "tuple" [.tup l, .ty "tuple"] h = some (.bl true) := isi rfl (by decide +kernel)

/-! ### whole numbers -/
/-- below 2 ^ 4000 -/
def Sm (x : Int) : Prop := x.natAbs < 2 ^ 4000
theorem log_sm {x : Int} (h : Sm x) : x.natAbs.log2 < 4000 := PySem.Flt.log2_lt_of (by decide) h
theorem bits_sm {x : Int} (h : Sm x) : Builtin.Int.intBits x ≤ 4001 := by
  have := log_sm h
  unfold Builtin.Int.intBits
  split <;> omega
theorem mul_sm {i j : Int} (hi : Sm i) (hj : Sm j) : mulOk i j = true := by
  have h1 := bits_sm hi
  have h2 := bits_sm hj
  unfold mulOk Builtin.Int.intTooBig
  have e : bitsLine = 134217728 := by decide
  rw [e]
  have h3 : ¬ (((Builtin.Int.intBits i : Nat) : Int) + ((Builtin.Int.intBits j : Nat) : Int) > ((134217728 : Nat) : Int)) := by omega
  rw [decide_eq_false h3]
  simp
theorem bits_64 {k : Int} (h1 : -(2 ^ 64) < k) (h2 : k < 2 ^ 64) : Builtin.Int.intBits k ≤ 64 := intBits_le_64 h1 h2
theorem mul_l {i j : Int} (h1 : -(2 ^ 64) < i) (h2 : i < 2 ^ 64) : mulOk i j = true := by
  have h3 := bits_64 h1 h2
  have h4 : ¬ (Builtin.Int.intBits i > shortFactorBits) := by
    have e : shortFactorBits = 64 := rfl
    rw [e]
    omega
  unfold mulOk
  rw [decide_eq_false h4]
  simp
theorem mul_r {i j : Int} (h1 : -(2 ^ 64) < j) (h2 : j < 2 ^ 64) : mulOk i j = true := by
  have h3 := bits_64 h1 h2
  have h4 : ¬ (Builtin.Int.intBits j > shortFactorBits) := by
    have e : shortFactorBits = 64 := rfl
    rw [e]
    omega
  unfold mulOk
  rw [decide_eq_false h4]
  simp
theorem div_sm {i j : Int} (h0 : j ≠ 0) (hj : Sm j) : divOk i j = true := by
  have h1 := log_sm hj
  have h2 := PyProof.noPylong_of_log2 (x := i) (y := j) (by omega)
  unfold divOk
  rw [h2, decide_eq_true h0]
  rfl
theorem sm_of {x : Int} {n : Nat} (h : x.natAbs < 2 ^ n) (hn : n ≤ 4000) : Sm x := Nat.lt_of_lt_of_le h (Nat.pow_le_pow_right (by decide) hn)
theorem sm_small {x : Int} (h1 : -(2 ^ 64) < x) (h2 : x < 2 ^ 64) : Sm x := sm_of (n := 64) (by omega) (by decide)
end Mi

set_option maxRecDepth 100000
set_option maxHeartbeats 4000000
/-! Meanings, evaluated: loops. -/
namespace Mi
open PySem PySem.Spec L2
/-- one round of a for that goes on -/
def Goes (g : MG) (b : MS) (d : AV) (ρ : Env2) (h : AHeap) (ρ' : Env2) (h' : AHeap) : Prop := ∃ ρ1 h1, g d ρ h = .ok .nx ρ1 h1 ∧ (b ρ1 h1 = .ok .nx ρ' h' ∨ b ρ1 h1 = .ok .ct ρ' h')
theorem forL_go {g : MG} {b : MS} {d : AV} {l : List AV} {ρ ρ' : Env2} {h h' : AHeap} (x : Goes g b d ρ h ρ' h') : forL g b (d :: l) ρ h = forL g b l ρ' h' := by
  obtain ⟨ρ1, h1, e1, e2⟩ := x
  show (match g d ρ h with
    | .ok .nx ρ1 h1 => (match b ρ1 h1 with
      | .ok .nx ρ2 h2 => forL g b l ρ2 h2
      | .ok .ct ρ2 h2 => forL g b l ρ2 h2
      | .ok .bk ρ2 h2 => .ok .nx ρ2 h2
      | r => r)
    | _ => .bad) = _
  rw [e1]
  dsimp only
  rcases e2 with e2 | e2 <;> rw [e2]
theorem forL_run {g : MG} {b : MS} {I : List AV → Env2 → AHeap → Prop} (step : ∀ d l ρ h, I (d :: l) ρ h → ∃ ρ' h', Goes g b d ρ h ρ' h' ∧ I l ρ' h') : ∀ (l : List AV) (ρ : Env2) (h : AHeap), I l ρ h → ∃ ρ' h', forL g b l ρ h = .ok .nx ρ' h' ∧ I [] ρ' h'
  | [], ρ, h, i => ⟨ρ, h, rfl, i⟩
  | d :: l, ρ, h, i => by
    obtain ⟨ρ1, h1, e1, i1⟩ := step d l ρ h i
    obtain ⟨ρ2, h2, e2, i2⟩ := forL_run step l ρ1 h1 i1
    exact ⟨ρ2, h2, (forL_go e1).trans e2, i2⟩
theorem mFor_run {it : MI} {g : MG} {b : MS} {I : List AV → Env2 → AHeap → Prop} {l : List AV} {ρ : Env2} {h h1 : AHeap} (e : it ρ h = .ok l h1) (i : I l ρ h1) (step : ∀ d l ρ h, I (d :: l) ρ h → ∃ ρ' h', Goes g b d ρ h ρ' h' ∧ I l ρ' h') : ∃ ρ' h', mFor it g b ρ h = .ok .nx ρ' h' ∧ I [] ρ' h' := by
  obtain ⟨ρ2, h2, e2, i2⟩ := forL_run step l ρ h1 i
  refine ⟨ρ2, h2, ?_, i2⟩
  unfold mFor
  rw [e]
  exact e2
/-- a while, by a measure -/
theorem while_run {c : MT} {b : MS} (I : Env2 → AHeap → Prop) (m : Env2 → AHeap → Nat) (step : ∀ ρ h, I ρ h → c ρ h = .ok false h ∨ (c ρ h = .ok true h ∧ ∃ ρ' h', b ρ h = .ok .nx ρ' h' ∧ I ρ' h' ∧ m ρ' h' < m ρ h)) :
    ∀ (n : Nat) (ρ : Env2) (h : AHeap), I ρ h → m ρ h ≤ n → ∃ ρ' h', whileF c b (n + 1) ρ h = some (.ok .nx ρ' h') ∧ I ρ' h' ∧ c ρ' h' = .ok false h'
  | n, ρ, h, i, hn => by
    unfold whileF
    rcases step ρ h i with e | ⟨e, ρ', h', e2, i2, lt⟩
    · rw [e]
      exact ⟨ρ, h, rfl, i, e⟩
    · rw [e]
      dsimp only
      rw [e2]
      dsimp only
      cases n with
      | zero => omega
      | succ n => exact while_run I m step n ρ' h' i2 (by omega)
theorem mWhile_run {c : MT} {b : MS} (I : Env2 → AHeap → Prop) (m : Env2 → AHeap → Nat) (step : ∀ ρ h, I ρ h → c ρ h = .ok false h ∨ (c ρ h = .ok true h ∧ ∃ ρ' h', b ρ h = .ok .nx ρ' h' ∧ I ρ' h' ∧ m ρ' h' < m ρ h)) {ρ : Env2} {h : AHeap} (i : I ρ h) : ∃ ρ' h', mWhile c b ρ h = .ok .nx ρ' h' ∧ I ρ' h' ∧ c ρ' h' = .ok false h' := by
  obtain ⟨ρ', h', e, i2, e2⟩ := while_run I m step _ ρ h i (Nat.le_refl _)
  exact ⟨ρ', h', mWhile_of e, i2, e2⟩
theorem aInt_int {a : Int} {h : AHeap} : aInt [.int a] h = some (.int a) := rfl
theorem aAbs_int {a : Int} {h : AHeap} : aAbs [.int a] h = some (.int (a.natAbs : Int)) := by
  show some (AV.int (if a < 0 then -a else a)) = _
  congr 2
  split <;> omega
theorem aLen_tup {l : List AV} {h : AHeap} : aLen [.tup l] h = some (.int (l.length : Int)) := rfl
theorem aLen_lst {l : List AV} {h : AHeap} : aLen [.lst l] h = some (.int (l.length : Int)) := rfl
theorem aNe_same {x y : AV} {h : AHeap} {d : PyData} (e : py h x = some d) (e2 : py h y = some d) (s : SeqAt.shaped d = true) : aNe x y h = some (.bl false) := by
  unfold aNe
  rw [e, e2]
  dsimp only
  rw [if_pos ⟨s, s⟩, SeqAt.eqv_refl d (SeqAt.canLay_of_shaped s)]
  rfl
theorem py0_t2 (a b : Int) : py0 (.tup [.int a, .int b]) = some (.tuple [.int a, .int b]) := rfl
/-- pairs of whole numbers -/
def pA (x : Int × Int) : AV := .tup [.int x.1, .int x.2]
def pD (x : Int × Int) : PyData := .tuple [.int x.1, .int x.2]
theorem py0L_pairs : ∀ l : List (Int × Int), py0L (l.map pA) = some (l.map pD)
  | [] => rfl
  | x :: l => by
    rw [List.map_cons, List.map_cons]
    unfold py0L
    rw [show py0 (pA x) = some (pD x) from rfl, py0L_pairs l]
theorem can_pairs : ∀ l : List (Int × Int), PyData.canLayAll0 (l.map pD) = true
  | [] => rfl
  | x :: l => by
    rw [List.map_cons]
    unfold PyData.canLayAll0
    rw [can_pairs l]
    rfl
theorem dep_pairs : ∀ l : List (Int × Int), PyData.depthAll (l.map pD) ≤ 5
  | [] => by
    show PyData.depthAll [] ≤ 5
    decide
  | x :: l => by
    rw [List.map_cons]
    unfold PyData.depthAll
    have := dep_pairs l
    have e : PyData.depth (pD x) ≤ 4 := by
      unfold pD
      simp [PyData.depth, PyData.depthAll]
    omega
theorem shaped_pairs (l : List (Int × Int)) : SeqAt.shaped (.list (l.map pD)) = true := by
  unfold SeqAt.shaped
  have h1 : PyData.canLay0 (.list (l.map pD)) = true := can_pairs l
  have h2 : PyData.depth (.list (l.map pD)) ≤ 64 := by
    have := dep_pairs l
    unfold PyData.depth
    omega
  rw [h1, decide_eq_true h2]
  rfl
/-- n whole numbers from a on -/
def rng (a : Int) (n : Nat) : List AV := (List.range n).map fun (k : Nat) => AV.int (a + (k : Int))
theorem rng_zero (a : Int) : rng a 0 = [] := rfl
theorem rng_succ (a : Int) (n : Nat) : rng a (n + 1) = .int a :: rng (a + 1) n := by
  unfold rng
  rw [List.range_succ_eq_map, List.map_cons, List.map_map]
  congr 1
  · congr 1
    omega
  · apply List.map_congr_left
    intro k _
    show AV.int (a + ((k + 1 : Nat) : Int)) = AV.int (a + 1 + (k : Int))
    congr 1
    omega
theorem rng_nil {a : Int} {n : Nat} (e : rng a n = []) : n = 0 := by
  cases n with
  | zero => rfl
  | succ n =>
    rw [rng_succ] at e
    cases e
theorem rng_cons {a : Int} {n : Nat} {d : AV} {l : List AV} (e : d :: l = rng a n) : d = .int a ∧ ∃ m, n = m + 1 ∧ l = rng (a + 1) m := by
  cases n with
  | zero => cases e
  | succ n =>
    rw [rng_succ] at e
    cases e
    exact ⟨rfl, n, rfl, rfl⟩
theorem iR1_ev {a : MA} {ρ : Env2} {h h1 : AHeap} {j : Int} (e : a ρ h = .ok [.int j] h1) (h0 : -(2 ^ 62) ≤ j) (h2 : j < 2 ^ 62) : iR1 a ρ h = .ok (rng 0 j.toNat) h1 := by
  unfold iR1 rng
  rw [e]
  dsimp only
  rw [if_pos ⟨h0, h2⟩]
  simp only [Int.zero_add]
theorem iR2_ev {a : MA} {ρ : Env2} {h h1 : AHeap} {i j : Int} (e : a ρ h = .ok [.int i, .int j] h1) (h0 : -(2 ^ 62) ≤ i) (h2 : i < 2 ^ 62) (h3 : -(2 ^ 62) ≤ j) (h4 : j < 2 ^ 62) : iR2 a ρ h = .ok (rng i (j - i).toNat) h1 := by
  unfold iR2 rng
  rw [e]
  dsimp only
  rw [if_pos ⟨h0, h2, h3, h4⟩]
theorem DropOk.app (h : AHeap) (r : AHeap) : DropOk h (h ++ r) := by
  refine ⟨by rw [List.length_append]; omega, fun i mo hi e => .inl ?_⟩
  rw [List.getElem?_append_left hi] at e
  exact e
theorem mMake_of {c : Str} {n : Nat} {F : Fn} {ds : List AV} {a : MA} {ρ : Env2} {h h1 : AHeap} {l : List AV} {m : Str} {ks : List Str} {vs : List AV} (ea : a ρ h = .ok l h1) (hn : (AV.non :: (l ++ ds)).length = n)
    (hF : F (.ref h1.length :: (l ++ ds)) (h1 ++ [some (.ins c [] [])]) = .ok .non (h1 ++ [some (.ins m ks vs)])) (hc : clsdL vs = true) : mMake c n F ds a ρ h = .ok (.obj m ks vs) h1 := by
  unfold mMake
  rw [ea]
  dsimp only
  rw [if_pos hn, hF]
  dsimp only
  have e : (h1 ++ [some (MO.ins m ks vs)])[h1.length]? = some (some (MO.ins m ks vs)) := by
    rw [List.getElem?_append_right (Nat.le_refl _), Nat.sub_self] <;> rfl
  rw [e]
  dsimp only
  rw [if_pos ⟨hc, DropOk.app _ _⟩, List.take_left]
theorem lcL_pure {g : MG} {tt : MT} {e : ME} {h : AHeap} {ρ : Env2} (sel : AV → Bool) (f : AV → AV) : ∀ (l acc : List AV), (∀ x ∈ l, ∀ acc, ∃ ρ1, g x ρ (h ++ [some (.lst acc)]) = .ok .nx ρ1 (h ++ [some (.lst acc)]) ∧ tt ρ1 (h ++ [some (.lst acc)]) = .ok (sel x) (h ++ [some (.lst acc)]) ∧ (sel x = true → e ρ1 (h ++ [some (.lst acc)]) = .ok (f x) (h ++ [some (.lst acc)]))) → acc.length + l.length ≤ sizeLine →
    lcL h.length g tt e l ρ (h ++ [some (.lst acc)]) acc = .ok (acc ++ (l.filter sel).map f) (h ++ [some (.lst (acc ++ (l.filter sel).map f))])
  | [], acc, _, _ => by
    unfold lcL
    simp
  | x :: l, acc, hx, hl => by
    obtain ⟨ρ1, e1, e2, e3⟩ := hx x List.mem_cons_self acc
    have at_ : ∀ z, (h ++ [some (MO.lst z)])[h.length]? = some (some (MO.lst z)) := fun z => by
      rw [List.getElem?_append_right (Nat.le_refl _), Nat.sub_self] <;> rfl
    have st : ∀ y z, (h ++ [some (MO.lst y)]).set h.length (some (MO.lst z)) = h ++ [some (MO.lst z)] := fun y z => by
      rw [List.set_append_right _ _ (Nat.le_refl _), Nat.sub_self] <;> rfl
    rw [List.length_cons] at hl
    unfold lcL
    rw [e1]
    dsimp only
    rw [e2]
    cases q : sel x with
    | false =>
      dsimp only
      rw [at_]
      dsimp only
      rw [lcL_pure sel f l acc (fun y hy => hx y (List.mem_cons_of_mem _ hy)) (by omega), List.filter_cons_of_neg (by rw [q]; decide)]
    | true =>
      dsimp only
      rw [e3 q]
      dsimp only
      rw [at_]
      dsimp only
      rw [if_pos (by omega), st, lcL_pure sel f l (acc ++ [f x]) (fun y hy => hx y (List.mem_cons_of_mem _ hy)) (by rw [List.length_append]; simp; omega), List.filter_cons_of_pos q, List.map_cons, List.append_assoc] <;> rfl
theorem clsdL_of : ∀ {l : List AV}, (∀ x ∈ l, clsd x = true) → clsdL l = true
  | [], _ => rfl
  | x :: l, h => by
    unfold clsdL
    rw [h x List.mem_cons_self, clsdL_of fun y hy => h y (List.mem_cons_of_mem _ hy)]
    rfl
theorem mLc_pure {own : List Nat} {it : MI} {g : MG} {tt : MT} {e : ME} {ρ : Env2} {h h1 : AHeap} {l : List AV} (ei : it ρ h = .ok l h1) (sel : AV → Bool) (f : AV → AV) (hx : ∀ x ∈ l, ∀ acc, ∃ ρ1, g x (wipeA ρ own) (h1 ++ [some (.lst acc)]) = .ok .nx ρ1 (h1 ++ [some (.lst acc)]) ∧ tt ρ1 (h1 ++ [some (.lst acc)]) = .ok (sel x) (h1 ++ [some (.lst acc)]) ∧ (sel x = true → e ρ1 (h1 ++ [some (.lst acc)]) = .ok (f x) (h1 ++ [some (.lst acc)])))
    (hc : ∀ x ∈ l, sel x = true → clsd (f x) = true) (hl : l.length ≤ sizeLine) : mLc own it g tt e ρ h = .ok (.lst ((l.filter sel).map f)) h1 := by
  unfold mLc
  rw [ei]
  dsimp only
  rw [lcL_pure sel f l [] hx (by simpa using hl)]
  dsimp only
  rw [List.nil_append]
  have at_ : ∀ z, (h1 ++ [some (MO.lst z)])[h1.length]? = some (some (MO.lst z)) := fun z => by
    rw [List.getElem?_append_right (Nat.le_refl _), Nat.sub_self] <;> rfl
  have cl : clsdL ((l.filter sel).map f) = true := clsdL_of fun y hy => by
    obtain ⟨x, hx1, rfl⟩ := List.mem_map.mp hy
    exact hc x (List.mem_filter.mp hx1).1 (List.mem_filter.mp hx1).2
  rw [if_pos ⟨cl, DropOk.app _ _, at_ _⟩, List.take_left]
end Mi

set_option maxRecDepth 100000
set_option maxHeartbeats 4000000
/-! printed by gen.py: the meanings of the defs -/
namespace W
open PySem PySem.Spec L2 Mi
def top (i : Nat) : Stmt := PySem.Challenge.pw_untaughthelm_k00_numbers_of_every_field.main.body.getD i (.Pass ⟨0, 0, 0, 0⟩)
abbrev s__law_gcd : Stmt := top 29
abbrev N__law_gcd : List Str := ["one", "other"]
noncomputable def c0__law_gcd : MT :=
    mTst (mOp aNe (mVar 1) (mC (.int 0)))
noncomputable def b1__law_gcd : MS :=
    mPar 0 1 (mCons (mVar 1) (mCons (mOp aMod (mCB aInt (mCons (mVar 0) (mNil))) (mVar 1)) (mNil)))
noncomputable def m__law_gcd : MS :=
    mSeq (mWhile c0__law_gcd b1__law_gcd)
    (mRet (mVar 0))
noncomputable def F__law_gcd : Fn := noX (fnOf m__law_gcd 2)
abbrev s_inverse_rest : Stmt := top 24
abbrev N_inverse_rest : List Str := ["rest", "prime", "low", "high", "before", "now", "times"]
noncomputable def c0_inverse_rest : MT :=
    mTst (mOp aNe (mVar 3) (mC (.int 0)))
noncomputable def b1_inverse_rest : MS :=
    mSeq (mAsg (mOp aFdiv (mVar 2) (mVar 3)) (gNm 6))
    (mSeq (mPar 2 3 (mCons (mVar 3) (mCons (mOp aSub (mVar 2) (mOp aMul (mVar 6) (mVar 3))) (mNil))))
    (mPar 4 5 (mCons (mVar 5) (mCons (mOp aSub (mVar 4) (mOp aMul (mVar 6) (mVar 5))) (mNil)))))
noncomputable def m_inverse_rest : MS :=
    mSeq (mAsg (mTup (mCons (mVar 1) (mCons (mVar 0) (mCons (mC (.int 0)) (mCons (mC (.int 1)) (mNil)))))) (gTp 4 (gsCons (gNm 2) (gsCons (gNm 3) (gsCons (gNm 4) (gsCons (gNm 5) gsNil))))))
    (mSeq (mWhile c0_inverse_rest b1_inverse_rest)
    (mRet (mOp aMod (mVar 4) (mVar 1))))
noncomputable def F_inverse_rest : Fn := noX (fnOf m_inverse_rest 7)
abbrev s_lowest : Stmt := top 11
abbrev N_lowest : List Str := ["top", "bottom", "common"]
noncomputable def m_lowest : MS :=
    mSeq (mIfS (mTst (mOp aEq (mVar 1) (mC (.int 1)))) (mRet (mTup (mCons (mVar 0) (mCons (mC (.int 1)) (mNil))))) (mNext))
    (mSeq (mAsg (mCB aGcd (mCons (mVar 0) (mCons (mVar 1) (mNil)))) (gNm 2))
    (mRet (mTup (mCons (mOp aFdiv (mVar 0) (mVar 2)) (mCons (mOp aFdiv (mVar 1) (mVar 2)) (mNil))))))
noncomputable def F_lowest : Fn := noX (fnOf m_lowest 3)
abbrev s_ratio_negative : Stmt := top 17
abbrev N_ratio_negative : List Str := ["one"]
noncomputable def m_ratio_negative : MS :=
    mRet (mTup (mCons (mOp aSub (mC (.int 0)) (mOp aIx (mVar 0) (mC (.int 0)))) (mCons (mOp aIx (mVar 0) (mC (.int 1))) (mNil))))
noncomputable def F_ratio_negative : Fn := noX (fnOf m_ratio_negative 1)
abbrev s_is_whole : Stmt := top 9
abbrev N_is_whole : List Str := ["thing", "low", "high"]
noncomputable def m_is_whole : MS :=
    mSeq (mIfS (mOr (mNot (mTru (mCB (aIsi "int") (mCons (mVar 0) (mCons (mC (.ty "int")) (mNil)))))) (mTru (mCB (aIsi "bool") (mCons (mVar 0) (mCons (mC (.ty "bool")) (mNil)))))) (mRet (mC (.bl false))) (mNext))
    (mRet (mAndV (mOrV (mOp aIs (mVar 1) (mC .non)) (mOp aGe (mVar 0) (mVar 1))) (mOrV (mOp aIs (mVar 2) (mC .non)) (mOp aLe (mVar 0) (mVar 2)))))
noncomputable def F_is_whole : Fn := noX (fnOf m_is_whole 3)
abbrev s__law_draw : Stmt := top 28
abbrev N__law_draw : List Str := ["bag", "limit", "digit", "turn", "cells", "cell", "mixed"]
noncomputable def m__law_draw : MS :=
    mSeq (mIfS (mTst (mOp aGt (mOp aIx (mVar 0) (mC (.int 2))) (mC (.int 0)))) (mSeq (mAsg (mOp aMod (mCB aInt (mCons (mOp aIx (mVar 0) (mC (.int 2))) (mNil))) (mVar 1)) (gNm 2))
    (mSeq (mSetIx (mVar 0) (mC (.int 2)) (mOp aFdiv (mOp aIx (mVar 0) (mC (.int 2))) (mVar 1)))
    (mRet (mVar 2)))) (mNext))
    (mSeq (mAsg (mOp aIx (mVar 0) (mC (.int 1))) (gNm 3))
    (mSeq (mSetIx (mVar 0) (mC (.int 1)) (mOp aAdd (mVar 3) (mC (.int 1))))
    (mSeq (mAsg (mOp aIx (mVar 0) (mC (.int 0))) (gNm 4))
    (mSeq (mAsg (mOp aIx (mVar 4) (mOp aMod (mCB aInt (mCons (mVar 3) (mNil))) (mCB aLen (mCons (mVar 4) (mNil))))) (gNm 5))
    (mSeq (mIfS (mAnd (mTst (mOp aLt (mVar 3) (mCB aLen (mCons (mVar 4) (mNil))))) (mTst (mOp aGe (mVar 5) (mOp aPow (mC (.int 10)) (mC (.int 18)))))) (mSeq (mSetIx (mVar 0) (mC (.int 2)) (mOp aFdiv (mVar 5) (mVar 1)))
    (mRet (mOp aMod (mCB aInt (mCons (mVar 5) (mNil))) (mVar 1)))) (mNext))
    (mSeq (mAsg (mOp aMod (mCB aInt (mCons (mOp aAdd (mOp aAdd (mOp aMul (mOp aAdd (mVar 5) (mC (.int 17))) (mC (.int 48271))) (mOp aMul (mOp aMul (mVar 3) (mVar 3)) (mC (.int 7919)))) (mOp aMul (mVar 3) (mC (.int 104729)))) (mNil))) (mC (.int 2147483647))) (gNm 6))
    (mSeq (mAsg (mOp aMod (mCB aInt (mCons (mOp aAdd (mOp aMul (mVar 6) (mC (.int 69621))) (mOp aMul (mOp aAdd (mVar 3) (mC (.int 3))) (mC (.int 40692)))) (mNil))) (mC (.int 2147483399))) (gNm 6))
    (mRet (mOp aMod (mCB aInt (mCons (mOp aFdiv (mVar 6) (mC (.int 8))) (mNil))) (mVar 1))))))))))
noncomputable def F__law_draw : Fn := noX (fnOf m__law_draw 7)
abbrev s__law_order : Stmt := top 37
abbrev N__law_order : List Str := ["one", "other", "left", "right"]
noncomputable def m__law_order : MS :=
    mSeq (mAsg (mOp aMul (mOp aIx (mVar 0) (mC (.int 0))) (mOp aIx (mVar 1) (mC (.int 1)))) (gNm 2))
    (mSeq (mAsg (mOp aMul (mOp aIx (mVar 1) (mC (.int 0))) (mOp aIx (mVar 0) (mC (.int 1)))) (gNm 3))
    (mRet (mIf (mTst (mOp aEq (mVar 2) (mVar 3))) (mC (.int 0)) (mIf (mTst (mOp aGt (mVar 2) (mVar 3))) (mC (.int 1)) (mOp aSub (mC (.int 0)) (mC (.int 1)))))))
noncomputable def F__law_order : Fn := noX (fnOf m__law_order 4)
abbrev s_compare_ratios : Stmt := top 19
abbrev N_compare_ratios : List Str := ["one", "other", "left", "right"]
noncomputable def m_compare_ratios : MS :=
    mSeq (mAsg (mOp aMul (mOp aIx (mVar 0) (mC (.int 0))) (mOp aIx (mVar 1) (mC (.int 1)))) (gNm 2))
    (mSeq (mAsg (mOp aMul (mOp aIx (mVar 1) (mC (.int 0))) (mOp aIx (mVar 0) (mC (.int 1)))) (gNm 3))
    (mSeq (mIfS (mTst (mOp aLt (mVar 2) (mVar 3))) (mRet (mUn aNeg (mC (.int 1)))) (mNext))
    (mSeq (mIfS (mTst (mOp aGt (mVar 2) (mVar 3))) (mRet (mC (.int 1))) (mNext))
    (mRet (mC (.int 0))))))
noncomputable def F_compare_ratios : Fn := noX (fnOf m_compare_ratios 4)
abbrev s_ratio_size : Stmt := top 18
abbrev N_ratio_size : List Str := ["one"]
noncomputable def m_ratio_size : MS :=
    mRet (mTup (mCons (mCB aAbs (mCons (mOp aIx (mVar 0) (mC (.int 0))) (mNil))) (mCons (mOp aIx (mVar 0) (mC (.int 1))) (mNil))))
noncomputable def F_ratio_size : Fn := noX (fnOf m_ratio_size 1)
abbrev s_is_prime : Stmt := top 23
abbrev N_is_prime : List Str := ["many", "part"]
noncomputable def b0_is_prime : MS :=
    mIfS (mTst (mOp aEq (mOp aMod (mVar 0) (mVar 1)) (mC (.int 0)))) (mRet (mC (.bl false))) (mNext)
noncomputable def m_is_prime : MS :=
    mSeq (mFor (iR2 (mCons (mC (.int 2)) (mCons (mVar 0) (mNil)))) (gNm 1) b0_is_prime)
    (mRet (mC (.bl true)))
noncomputable def F_is_prime : Fn := noX (fnOf m_is_prime 2)
abbrev s__law_bag : Stmt := top 27
abbrev N__law_bag : List Str := ["script", "cells", "cell"]
noncomputable def e0__law_bag : ME :=
    mCB aAbs (mCons (mVar 2) (mNil))
noncomputable def m__law_bag : MS :=
    mSeq (mAsg (mLc [2] (iSq (mSl (mVar 0) oNone (oSome (mC (.int 63))))) (gNm 2) mYes e0__law_bag) (gNm 1))
    (mSeq (mIfS (mTst (mOp aEq (mCB aLen (mCons (mVar 1) (mNil))) (mC (.int 0)))) (mAsg (mLst (mCons (mC (.int 5)) (mNil))) (gNm 1)) (mNext))
    (mRet (mLstC (mCons (mVar 1) (mCons (mC (.int 0)) (mCons (mC (.int 0)) (mNil)))))))
noncomputable def F__law_bag : Fn := noX (fnOf m__law_bag 3)
abbrev s__law_is_number : Stmt := top 35
abbrev N__law_is_number : List Str := ["p", "thing", "part"]
noncomputable def b0__law_is_number : MS :=
    mIfS (mOr (mNot (mTru (mCB (aIsi "int") (mCons (mVar 2) (mCons (mC (.ty "int")) (mNil)))))) (mTru (mCB (aIsi "bool") (mCons (mVar 2) (mCons (mC (.ty "bool")) (mNil)))))) (mRet (mC (.bl false))) (mNext)
noncomputable def m__law_is_number : MS :=
    mSeq (mIfS (mOr (mNot (mTru (mCB (aIsi "tuple") (mCons (mVar 1) (mCons (mC (.ty "tuple")) (mNil)))))) (mTst (mOp aNe (mCB aLen (mCons (mVar 1) (mNil))) (mC (.int 2))))) (mRet (mC (.bl false))) (mNext))
    (mSeq (mFor (iSq (mVar 1)) (gNm 2) b0__law_is_number)
    (mSeq (mIfS (mTst (mOp aGt (mVar 0) (mC (.int 0)))) (mRet (mAndV (mChain aLe aLt (mC (.int 0)) (mOp aIx (mVar 1) (mC (.int 0))) (mVar 0)) (mOp aEq (mOp aIx (mVar 1) (mC (.int 1))) (mC (.int 1))))) (mNext))
    (mRet (mAndV (mOp aGe (mOp aIx (mVar 1) (mC (.int 1))) (mC (.int 1))) (mOp aEq (mCall 2 F__law_gcd [] (mCons (mCB aAbs (mCons (mOp aIx (mVar 1) (mC (.int 0))) (mNil))) (mCons (mOp aIx (mVar 1) (mC (.int 1))) (mNil)))) (mC (.int 1)))))))
noncomputable def F__law_is_number : Fn := noX (fnOf m__law_is_number 3)
abbrev s__law_make : Stmt := top 30
abbrev N__law_make : List Str := ["p", "top", "bottom", "found", "k", "common"]
noncomputable def b0__law_make : MS :=
    mIfS (mTst (mOp aEq (mOp aMod (mCB aInt (mCons (mOp aMul (mVar 2) (mVar 4)) (mNil))) (mVar 0)) (mC (.int 1)))) (mAsg (mVar 4) (gNm 3)) (mNext)
noncomputable def m__law_make : MS :=
    mSeq (mIfS (mTst (mOp aGt (mVar 0) (mC (.int 0)))) (mSeq (mAsg (mC (.int 0)) (gNm 3))
    (mSeq (mFor (iR1 (mCons (mVar 0) (mNil))) (gNm 4) b0__law_make)
    (mRet (mTup (mCons (mOp aMod (mCB aInt (mCons (mOp aMul (mVar 1) (mVar 3)) (mNil))) (mVar 0)) (mCons (mC (.int 1)) (mNil))))))) (mNext))
    (mSeq (mIfS (mTst (mOp aLt (mVar 2) (mC (.int 0)))) (mPar 1 2 (mCons (mOp aSub (mC (.int 0)) (mVar 1)) (mCons (mOp aSub (mC (.int 0)) (mVar 2)) (mNil)))) (mNext))
    (mSeq (mAsg (mCall 2 F__law_gcd [] (mCons (mCB aAbs (mCons (mVar 1) (mNil))) (mCons (mVar 2) (mNil)))) (gNm 5))
    (mRet (mTup (mCons (mOp aFdiv (mVar 1) (mVar 5)) (mCons (mOp aFdiv (mVar 2) (mVar 5)) (mNil)))))))
noncomputable def F__law_make : Fn := noX (fnOf m__law_make 6)
abbrev s_ratio_over : Stmt := top 16
abbrev N_ratio_over : List Str := ["one", "other"]
noncomputable def m_ratio_over : MS :=
    mSeq (mIfS (mTst (mOp aLt (mOp aIx (mVar 1) (mC (.int 0))) (mC (.int 0)))) (mRet (mCall 2 F_lowest [] (mCons (mOp aSub (mC (.int 0)) (mOp aMul (mOp aIx (mVar 0) (mC (.int 0))) (mOp aIx (mVar 1) (mC (.int 1))))) (mCons (mOp aSub (mC (.int 0)) (mOp aMul (mOp aIx (mVar 0) (mC (.int 1))) (mOp aIx (mVar 1) (mC (.int 0))))) (mNil))))) (mNext))
    (mRet (mCall 2 F_lowest [] (mCons (mOp aMul (mOp aIx (mVar 0) (mC (.int 0))) (mOp aIx (mVar 1) (mC (.int 1)))) (mCons (mOp aMul (mOp aIx (mVar 0) (mC (.int 1))) (mOp aIx (mVar 1) (mC (.int 0)))) (mNil)))))
noncomputable def F_ratio_over : Fn := noX (fnOf m_ratio_over 2)
abbrev s_Field_negative : Stmt := inClass (top 25) 9
abbrev N_Field_negative : List Str := ["self", "one"]
noncomputable def m_Field_negative : MS :=
    mSeq (mIfS (mTst (mOp aIs (mAt ["Field"] "prime" (mVar 0)) (mC .non))) (mRet (mCall 1 F_ratio_negative [] (mCons (mVar 1) (mNil)))) (mNext))
    (mRet (mTup (mCons (mOp aMod (mOp aSub (mC (.int 0)) (mOp aIx (mVar 1) (mC (.int 0)))) (mAt ["Field"] "prime" (mVar 0))) (mCons (mC (.int 1)) (mNil)))))
noncomputable def F_Field_negative : Fn := noX (fnOf m_Field_negative 2)
abbrev s_make_ratio : Stmt := top 12
abbrev N_make_ratio : List Str := ["top", "bottom"]
noncomputable def m_make_ratio : MS :=
    mSeq (mIfS (mNot (mTru (mCall 3 F_is_whole [.non, .non] (mCons (mVar 0) (mNil))))) (mNever) (mNext))
    (mSeq (mIfS (mOr (mNot (mTru (mCall 3 F_is_whole [.non, .non] (mCons (mVar 1) (mNil))))) (mTst (mOp aEq (mVar 1) (mC (.int 0))))) (mNever) (mNext))
    (mSeq (mIfS (mTst (mOp aLt (mVar 1) (mC (.int 0)))) (mRet (mCall 2 F_lowest [] (mCons (mOp aSub (mC (.int 0)) (mVar 0)) (mCons (mOp aSub (mC (.int 0)) (mVar 1)) (mNil))))) (mNext))
    (mRet (mCall 2 F_lowest [] (mCons (mVar 0) (mCons (mVar 1) (mNil)))))))
noncomputable def F_make_ratio : Fn := noX (fnOf m_make_ratio 2)
abbrev s_ratio_times : Stmt := top 15
abbrev N_ratio_times : List Str := ["one", "other"]
noncomputable def m_ratio_times : MS :=
    mRet (mCall 2 F_lowest [] (mCons (mOp aMul (mOp aIx (mVar 0) (mC (.int 0))) (mOp aIx (mVar 1) (mC (.int 0)))) (mCons (mOp aMul (mOp aIx (mVar 0) (mC (.int 1))) (mOp aIx (mVar 1) (mC (.int 1)))) (mNil))))
noncomputable def F_ratio_times : Fn := noX (fnOf m_ratio_times 2)
abbrev s_ratio_minus : Stmt := top 14
abbrev N_ratio_minus : List Str := ["one", "other"]
noncomputable def m_ratio_minus : MS :=
    mRet (mCall 2 F_lowest [] (mCons (mOp aSub (mOp aMul (mOp aIx (mVar 0) (mC (.int 0))) (mOp aIx (mVar 1) (mC (.int 1)))) (mOp aMul (mOp aIx (mVar 1) (mC (.int 0))) (mOp aIx (mVar 0) (mC (.int 1))))) (mCons (mOp aMul (mOp aIx (mVar 0) (mC (.int 1))) (mOp aIx (mVar 1) (mC (.int 1)))) (mNil))))
noncomputable def F_ratio_minus : Fn := noX (fnOf m_ratio_minus 2)
abbrev s_ratio_plus : Stmt := top 13
abbrev N_ratio_plus : List Str := ["one", "other"]
noncomputable def m_ratio_plus : MS :=
    mRet (mCall 2 F_lowest [] (mCons (mOp aAdd (mOp aMul (mOp aIx (mVar 0) (mC (.int 0))) (mOp aIx (mVar 1) (mC (.int 1)))) (mOp aMul (mOp aIx (mVar 1) (mC (.int 0))) (mOp aIx (mVar 0) (mC (.int 1))))) (mCons (mOp aMul (mOp aIx (mVar 0) (mC (.int 1))) (mOp aIx (mVar 1) (mC (.int 1)))) (mNil))))
noncomputable def F_ratio_plus : Fn := noX (fnOf m_ratio_plus 2)
abbrev s_is_ratio : Stmt := top 10
abbrev N_is_ratio : List Str := ["thing"]
noncomputable def m_is_ratio : MS :=
    mSeq (mIfS (mOr (mNot (mTru (mCB (aIsi "tuple") (mCons (mVar 0) (mCons (mC (.ty "tuple")) (mNil)))))) (mTst (mOp aNe (mCB aLen (mCons (mVar 0) (mNil))) (mC (.int 2))))) (mRet (mC (.bl false))) (mNext))
    (mSeq (mIfS (mOr (mNot (mTru (mCall 3 F_is_whole [.non, .non] (mCons (mOp aIx (mVar 0) (mC (.int 0))) (mNil))))) (mNot (mTru (mCall 3 F_is_whole [.non] (mCons (mOp aIx (mVar 0) (mC (.int 1))) (mCons (mC (.int 1)) (mNil))))))) (mRet (mC (.bl false))) (mNext))
    (mRet (mOp aEq (mCB aGcd (mCons (mOp aIx (mVar 0) (mC (.int 0))) (mCons (mOp aIx (mVar 0) (mC (.int 1))) (mNil)))) (mC (.int 1)))))
noncomputable def F_is_ratio : Fn := noX (fnOf m_is_ratio 1)
abbrev s_greatest_ratio : Stmt := top 21
abbrev N_greatest_ratio : List Str := ["things", "found", "thing"]
noncomputable def b0_greatest_ratio : MS :=
    mIfS (mTst (mOp aGt (mCall 2 F_compare_ratios [] (mCons (mVar 2) (mCons (mVar 1) (mNil)))) (mC (.int 0)))) (mAsg (mVar 2) (gNm 1)) (mNext)
noncomputable def m_greatest_ratio : MS :=
    mSeq (mAsg (mOp aIx (mVar 0) (mC (.int 0))) (gNm 1))
    (mSeq (mFor (iSq (mVar 0)) (gNm 2) b0_greatest_ratio)
    (mRet (mVar 1)))
noncomputable def F_greatest_ratio : Fn := noX (fnOf m_greatest_ratio 3)
abbrev s_least_ratio : Stmt := top 20
abbrev N_least_ratio : List Str := ["things", "found", "thing"]
noncomputable def b0_least_ratio : MS :=
    mIfS (mTst (mOp aLt (mCall 2 F_compare_ratios [] (mCons (mVar 2) (mCons (mVar 1) (mNil)))) (mC (.int 0)))) (mAsg (mVar 2) (gNm 1)) (mNext)
noncomputable def m_least_ratio : MS :=
    mSeq (mAsg (mOp aIx (mVar 0) (mC (.int 0))) (gNm 1))
    (mSeq (mFor (iSq (mVar 0)) (gNm 2) b0_least_ratio)
    (mRet (mVar 1)))
noncomputable def F_least_ratio : Fn := noX (fnOf m_least_ratio 3)
abbrev s__law_wide : Stmt := top 36
abbrev N__law_wide : List Str := ["bag", "kind", "found"]
noncomputable def m__law_wide : MS :=
    mSeq (mAsg (mCall 2 F__law_draw [] (mCons (mVar 0) (mCons (mC (.int 4)) (mNil)))) (gNm 1))
    (mSeq (mIfS (mTst (mOp aEq (mVar 1) (mC (.int 0)))) (mAsg (mCall 2 F__law_draw [] (mCons (mVar 0) (mCons (mOp aPow (mC (.int 10)) (mC (.int 30))) (mNil)))) (gNm 2)) (mIfS (mTst (mOp aEq (mVar 1) (mC (.int 1)))) (mAsg (mCall 2 F__law_draw [] (mCons (mVar 0) (mCons (mOp aPow (mC (.int 10)) (mC (.int 6))) (mNil)))) (gNm 2)) (mAsg (mCall 2 F__law_draw [] (mCons (mVar 0) (mCons (mC (.int 12)) (mNil)))) (gNm 2))))
    (mSeq (mIfS (mTst (mOp aEq (mCall 2 F__law_draw [] (mCons (mVar 0) (mCons (mC (.int 2)) (mNil)))) (mC (.int 1)))) (mAsg (mOp aSub (mC (.int 0)) (mVar 2)) (gNm 2)) (mNext))
    (mRet (mVar 2))))
noncomputable def F__law_wide : Fn := noX (fnOf m__law_wide 3)
abbrev s_Field___init__ : Stmt := inClass (top 25) 0
abbrev N_Field___init__ : List Str := ["self", "prime"]
noncomputable def m_Field___init__ : MS :=
    mSeq (mIfS (mTst (mOp aIsNot (mVar 1) (mC .non))) (mIfS (mOr (mNot (mTru (mCall 3 F_is_whole [] (mCons (mVar 1) (mCons (mC (.int 2)) (mCons (mC (.int 97)) (mNil))))))) (mNot (mTru (mCall 1 F_is_prime [] (mCons (mVar 1) (mNil)))))) (mNever) (mNext)) (mNext))
    (mSetAt ["Field"] "prime" (mVar 0) (mVar 1))
noncomputable def F_Field___init__ : Fn := noX (fnOf m_Field___init__ 2)
abbrev s__law_over : Stmt := top 34
abbrev N__law_over : List Str := ["p", "one", "other"]
noncomputable def m__law_over : MS :=
    mSeq (mIfS (mTst (mOp aGt (mVar 0) (mC (.int 0)))) (mRet (mCall 3 F__law_make [] (mCons (mVar 0) (mCons (mOp aIx (mVar 1) (mC (.int 0))) (mCons (mOp aIx (mVar 2) (mC (.int 0))) (mNil)))))) (mNext))
    (mRet (mCall 3 F__law_make [] (mCons (mC (.int 0)) (mCons (mOp aMul (mOp aIx (mVar 1) (mC (.int 0))) (mOp aIx (mVar 2) (mC (.int 1)))) (mCons (mOp aMul (mOp aIx (mVar 1) (mC (.int 1))) (mOp aIx (mVar 2) (mC (.int 0)))) (mNil))))))
noncomputable def F__law_over : Fn := noX (fnOf m__law_over 3)
abbrev s_Field_over : Stmt := inClass (top 25) 8
abbrev N_Field_over : List Str := ["self", "one", "other"]
noncomputable def m_Field_over : MS :=
    mSeq (mIfS (mTst (mOp aIs (mAt ["Field"] "prime" (mVar 0)) (mC .non))) (mRet (mCall 2 F_ratio_over [] (mCons (mVar 1) (mCons (mVar 2) (mNil))))) (mNext))
    (mRet (mTup (mCons (mOp aMod (mOp aMul (mOp aIx (mVar 1) (mC (.int 0))) (mCall 2 F_inverse_rest [] (mCons (mOp aIx (mVar 2) (mC (.int 0))) (mCons (mAt ["Field"] "prime" (mVar 0)) (mNil))))) (mAt ["Field"] "prime" (mVar 0))) (mCons (mC (.int 1)) (mNil)))))
noncomputable def F_Field_over : Fn := noX (fnOf m_Field_over 3)
abbrev s_Field_number : Stmt := inClass (top 25) 2
abbrev N_Field_number : List Str := ["self", "top", "bottom"]
noncomputable def m_Field_number : MS :=
    mSeq (mIfS (mTst (mOp aIs (mAt ["Field"] "prime" (mVar 0)) (mC .non))) (mRet (mCall 2 F_make_ratio [] (mCons (mVar 1) (mCons (mVar 2) (mNil))))) (mNext))
    (mSeq (mIfS (mNot (mTru (mCall 3 F_is_whole [.non, .non] (mCons (mVar 1) (mNil))))) (mNever) (mNext))
    (mSeq (mIfS (mOr (mNot (mTru (mCall 3 F_is_whole [.non, .non] (mCons (mVar 2) (mNil))))) (mTst (mOp aEq (mOp aMod (mVar 2) (mAt ["Field"] "prime" (mVar 0))) (mC (.int 0))))) (mNever) (mNext))
    (mRet (mTup (mCons (mOp aMod (mOp aMul (mVar 1) (mCall 2 F_inverse_rest [] (mCons (mOp aMod (mVar 2) (mAt ["Field"] "prime" (mVar 0))) (mCons (mAt ["Field"] "prime" (mVar 0)) (mNil))))) (mAt ["Field"] "prime" (mVar 0))) (mCons (mC (.int 1)) (mNil)))))))
noncomputable def F_Field_number : Fn := noX (fnOf m_Field_number 3)
abbrev s__law_times : Stmt := top 32
abbrev N__law_times : List Str := ["p", "one", "other"]
noncomputable def m__law_times : MS :=
    mSeq (mIfS (mTst (mOp aGt (mVar 0) (mC (.int 0)))) (mRet (mTup (mCons (mOp aMod (mCB aInt (mCons (mOp aMul (mOp aIx (mVar 1) (mC (.int 0))) (mOp aIx (mVar 2) (mC (.int 0)))) (mNil))) (mVar 0)) (mCons (mC (.int 1)) (mNil))))) (mNext))
    (mRet (mCall 3 F__law_make [] (mCons (mC (.int 0)) (mCons (mOp aMul (mOp aIx (mVar 1) (mC (.int 0))) (mOp aIx (mVar 2) (mC (.int 0)))) (mCons (mOp aMul (mOp aIx (mVar 1) (mC (.int 1))) (mOp aIx (mVar 2) (mC (.int 1)))) (mNil))))))
noncomputable def F__law_times : Fn := noX (fnOf m__law_times 3)
abbrev s__law_plus : Stmt := top 31
abbrev N__law_plus : List Str := ["p", "one", "other"]
noncomputable def m__law_plus : MS :=
    mSeq (mIfS (mTst (mOp aGt (mVar 0) (mC (.int 0)))) (mRet (mTup (mCons (mOp aMod (mCB aInt (mCons (mOp aAdd (mOp aIx (mVar 1) (mC (.int 0))) (mOp aIx (mVar 2) (mC (.int 0)))) (mNil))) (mVar 0)) (mCons (mC (.int 1)) (mNil))))) (mNext))
    (mRet (mCall 3 F__law_make [] (mCons (mC (.int 0)) (mCons (mOp aAdd (mOp aMul (mOp aIx (mVar 1) (mC (.int 0))) (mOp aIx (mVar 2) (mC (.int 1)))) (mOp aMul (mOp aIx (mVar 2) (mC (.int 0))) (mOp aIx (mVar 1) (mC (.int 1))))) (mCons (mOp aMul (mOp aIx (mVar 1) (mC (.int 1))) (mOp aIx (mVar 2) (mC (.int 1)))) (mNil))))))
noncomputable def F__law_plus : Fn := noX (fnOf m__law_plus 3)
abbrev s_Field_times : Stmt := inClass (top 25) 7
abbrev N_Field_times : List Str := ["self", "one", "other"]
noncomputable def m_Field_times : MS :=
    mSeq (mIfS (mTst (mOp aIs (mAt ["Field"] "prime" (mVar 0)) (mC .non))) (mRet (mCall 2 F_ratio_times [] (mCons (mVar 1) (mCons (mVar 2) (mNil))))) (mNext))
    (mRet (mTup (mCons (mOp aMod (mOp aMul (mOp aIx (mVar 1) (mC (.int 0))) (mOp aIx (mVar 2) (mC (.int 0)))) (mAt ["Field"] "prime" (mVar 0))) (mCons (mC (.int 1)) (mNil)))))
noncomputable def F_Field_times : Fn := noX (fnOf m_Field_times 3)
abbrev s_Field_minus : Stmt := inClass (top 25) 6
abbrev N_Field_minus : List Str := ["self", "one", "other"]
noncomputable def m_Field_minus : MS :=
    mSeq (mIfS (mTst (mOp aIs (mAt ["Field"] "prime" (mVar 0)) (mC .non))) (mRet (mCall 2 F_ratio_minus [] (mCons (mVar 1) (mCons (mVar 2) (mNil))))) (mNext))
    (mRet (mTup (mCons (mOp aMod (mOp aSub (mOp aIx (mVar 1) (mC (.int 0))) (mOp aIx (mVar 2) (mC (.int 0)))) (mAt ["Field"] "prime" (mVar 0))) (mCons (mC (.int 1)) (mNil)))))
noncomputable def F_Field_minus : Fn := noX (fnOf m_Field_minus 3)
abbrev s_Field_plus : Stmt := inClass (top 25) 5
abbrev N_Field_plus : List Str := ["self", "one", "other"]
noncomputable def m_Field_plus : MS :=
    mSeq (mIfS (mTst (mOp aIs (mAt ["Field"] "prime" (mVar 0)) (mC .non))) (mRet (mCall 2 F_ratio_plus [] (mCons (mVar 1) (mCons (mVar 2) (mNil))))) (mNext))
    (mRet (mTup (mCons (mOp aMod (mOp aAdd (mOp aIx (mVar 1) (mC (.int 0))) (mOp aIx (mVar 2) (mC (.int 0)))) (mAt ["Field"] "prime" (mVar 0))) (mCons (mC (.int 1)) (mNil)))))
noncomputable def F_Field_plus : Fn := noX (fnOf m_Field_plus 3)
abbrev s_Field_holds : Stmt := inClass (top 25) 3
abbrev N_Field_holds : List Str := ["self", "thing"]
noncomputable def m_Field_holds : MS :=
    mSeq (mIfS (mTst (mOp aIs (mAt ["Field"] "prime" (mVar 0)) (mC .non))) (mRet (mCall 1 F_is_ratio [] (mCons (mVar 1) (mNil)))) (mNext))
    (mSeq (mIfS (mOr (mNot (mTru (mCB (aIsi "tuple") (mCons (mVar 1) (mCons (mC (.ty "tuple")) (mNil)))))) (mTst (mOp aNe (mCB aLen (mCons (mVar 1) (mNil))) (mC (.int 2))))) (mRet (mC (.bl false))) (mNext))
    (mRet (mAndV (mCall 3 F_is_whole [] (mCons (mOp aIx (mVar 1) (mC (.int 0))) (mCons (mC (.int 0)) (mCons (mOp aSub (mAt ["Field"] "prime" (mVar 0)) (mC (.int 1))) (mNil))))) (mCall 3 F_is_whole [] (mCons (mOp aIx (mVar 1) (mC (.int 1))) (mCons (mC (.int 1)) (mCons (mC (.int 1)) (mNil))))))))
noncomputable def F_Field_holds : Fn := noX (fnOf m_Field_holds 2)
abbrev s__law_minus : Stmt := top 33
abbrev N__law_minus : List Str := ["p", "one", "other"]
noncomputable def m__law_minus : MS :=
    mRet (mCall 3 F__law_plus [] (mCons (mVar 0) (mCons (mVar 1) (mCons (mCall 3 F__law_times [] (mCons (mVar 0) (mCons (mCall 3 F__law_make [] (mCons (mVar 0) (mCons (mOp aSub (mC (.int 0)) (mC (.int 1))) (mCons (mC (.int 1)) (mNil))))) (mCons (mVar 2) (mNil))))) (mNil)))))
noncomputable def F__law_minus : Fn := noX (fnOf m__law_minus 3)
abbrev s__law_ratios_right : Stmt := top 38
abbrev N__law_ratios_right : List Str := ["numbers", "one", "told", "due", "other", "order", "least", "greatest", "part"]
noncomputable def q0__law_ratios_right : MT :=
    mOr (mTst (mOp aLt (mCall 2 F__law_order [] (mCons (mVar 1) (mCons (mVar 6) (mNil)))) (mC (.int 0)))) (mTst (mOp aGt (mCall 2 F__law_order [] (mCons (mVar 1) (mCons (mVar 7) (mNil)))) (mC (.int 0))))
noncomputable def e1__law_ratios_right : ME :=
    mVar 1
noncomputable def e2__law_ratios_right : ME :=
    mCall 2 F__law_is_number [] (mCons (mC (.int 0)) (mCons (mVar 8) (mNil)))
noncomputable def b3__law_ratios_right : MS :=
    mSeq (mDrop (mExt (mVar 2) (mLst (mCons (mCall 2 F_ratio_plus [] (mCons (mVar 1) (mCons (mVar 4) (mNil)))) (mCons (mCall 2 F_ratio_minus [] (mCons (mVar 1) (mCons (mVar 4) (mNil)))) (mCons (mCall 2 F_ratio_times [] (mCons (mVar 1) (mCons (mVar 4) (mNil)))) (mNil)))))))
    (mSeq (mDrop (mExt (mVar 3) (mLst (mCons (mCall 3 F__law_plus [] (mCons (mC (.int 0)) (mCons (mVar 1) (mCons (mVar 4) (mNil))))) (mCons (mCall 3 F__law_minus [] (mCons (mC (.int 0)) (mCons (mVar 1) (mCons (mVar 4) (mNil))))) (mCons (mCall 3 F__law_times [] (mCons (mC (.int 0)) (mCons (mVar 1) (mCons (mVar 4) (mNil))))) (mNil)))))))
    (mSeq (mIfS (mTst (mOp aNe (mOp aIx (mVar 4) (mC (.int 0))) (mC (.int 0)))) (mSeq (mDrop (mApp (mVar 2) (mCall 2 F_ratio_over [] (mCons (mVar 1) (mCons (mVar 4) (mNil))))))
    (mDrop (mApp (mVar 3) (mCall 3 F__law_over [] (mCons (mC (.int 0)) (mCons (mVar 1) (mCons (mVar 4) (mNil)))))))) (mNext))
    (mSeq (mAsg (mCall 2 F_compare_ratios [] (mCons (mVar 1) (mCons (mVar 4) (mNil)))) (gNm 5))
    (mIfS (mOr (mNot (mTru (mCB (aIsi "int") (mCons (mVar 5) (mCons (mC (.ty "int")) (mNil)))))) (mOr (mTru (mCB (aIsi "bool") (mCons (mVar 5) (mCons (mC (.ty "bool")) (mNil))))) (mTst (mOp aNe (mVar 5) (mCall 2 F__law_order [] (mCons (mVar 1) (mCons (mVar 4) (mNil)))))))) (mRet (mC (.bl false))) (mNext)))))
noncomputable def b4__law_ratios_right : MS :=
    mSeq (mAsg (mLstC (mCons (mCall 1 F_ratio_negative [] (mCons (mVar 1) (mNil))) (mCons (mCall 1 F_ratio_size [] (mCons (mVar 1) (mNil))) (mCons (mCall 2 F_make_ratio [] (mCons (mOp aIx (mVar 1) (mC (.int 0))) (mCons (mOp aIx (mVar 1) (mC (.int 1))) (mNil)))) (mNil))))) (gNm 2))
    (mSeq (mAsg (mLstC (mCons (mTup (mCons (mOp aSub (mC (.int 0)) (mOp aIx (mVar 1) (mC (.int 0)))) (mCons (mOp aIx (mVar 1) (mC (.int 1))) (mNil)))) (mCons (mTup (mCons (mCB aAbs (mCons (mOp aIx (mVar 1) (mC (.int 0))) (mNil))) (mCons (mOp aIx (mVar 1) (mC (.int 1))) (mNil)))) (mCons (mVar 1) (mNil))))) (gNm 3))
    (mSeq (mFor (iSq (mVar 0)) (gNm 4) b3__law_ratios_right)
    (mSeq (mFrz 2) (mIfS (mOr (mNot (mTru (mCB (onL fAll) (mCons (mLc [8] (iSq (mVar 2)) (gNm 8) mYes e2__law_ratios_right) (mNil))))) (mTst (mOp aNe (mVar 2) (mVar 3)))) (mRet (mC (.bl false))) (mNext)))))
noncomputable def m__law_ratios_right : MS :=
    mSeq (mFor (iSq (mVar 0)) (gNm 1) b4__law_ratios_right)
    (mSeq (mAsg (mCall 1 F_least_ratio [] (mCons (mCB aList (mCons (mVar 0) (mNil))) (mNil))) (gNm 6))
    (mSeq (mAsg (mCall 1 F_greatest_ratio [] (mCons (mCB aTuple (mCons (mVar 0) (mNil))) (mNil))) (gNm 7))
    (mSeq (mIfS (mOr (mNot (mTru (mCall 2 F__law_is_number [] (mCons (mC (.int 0)) (mCons (mVar 6) (mNil)))))) (mOr (mNot (mTru (mCall 2 F__law_is_number [] (mCons (mC (.int 0)) (mCons (mVar 7) (mNil)))))) (mOr (mTst (mOp aNotIn (mVar 6) (mVar 0))) (mTst (mOp aNotIn (mVar 7) (mVar 0)))))) (mRet (mC (.bl false))) (mNext))
    (mRet (mNotT (mLc [1] (iSq (mVar 0)) (gNm 1) q0__law_ratios_right e1__law_ratios_right))))))
noncomputable def F__law_ratios_right : Fn := noX (fnOf m__law_ratios_right 9)
abbrev s_law : Stmt := top 39
abbrev N_law : List Str := ["script", "bag", "p", "field", "numbers", "turn", "top", "bottom", "due", "told", "one", "other", "made", "part"]
noncomputable def q0_law : MT :=
    mNot (mTru (mCall 2 F__law_is_number [] (mCons (mVar 2) (mCons (mVar 13) (mNil)))))
noncomputable def e1_law : ME :=
    mVar 13
noncomputable def b2_law : MS :=
    mSeq (mAsg (mLstC (mCons (mMeth "Field" "plus" 3 F_Field_plus [] (mVar 3) (mCons (mVar 10) (mCons (mVar 11) (mNil)))) (mCons (mMeth "Field" "minus" 3 F_Field_minus [] (mVar 3) (mCons (mVar 10) (mCons (mVar 11) (mNil)))) (mCons (mMeth "Field" "times" 3 F_Field_times [] (mVar 3) (mCons (mVar 10) (mCons (mVar 11) (mNil)))) (mNil))))) (gNm 12))
    (mSeq (mAsg (mLstC (mCons (mCall 3 F__law_plus [] (mCons (mVar 2) (mCons (mVar 10) (mCons (mVar 11) (mNil))))) (mCons (mCall 3 F__law_minus [] (mCons (mVar 2) (mCons (mVar 10) (mCons (mVar 11) (mNil))))) (mCons (mCall 3 F__law_times [] (mCons (mVar 2) (mCons (mVar 10) (mCons (mVar 11) (mNil))))) (mNil))))) (gNm 8))
    (mSeq (mIfS (mTst (mOp aNe (mOp aIx (mVar 11) (mC (.int 0))) (mC (.int 0)))) (mSeq (mDrop (mApp (mVar 12) (mMeth "Field" "over" 3 F_Field_over [] (mVar 3) (mCons (mVar 10) (mCons (mVar 11) (mNil))))))
    (mDrop (mApp (mVar 8) (mCall 3 F__law_over [] (mCons (mVar 2) (mCons (mVar 10) (mCons (mVar 11) (mNil)))))))) (mNext))
    (mSeq (mFrz 12) (mIfS (mOr (mTst (mOp aNe (mVar 12) (mVar 8))) (mTru (mLc [13] (iSq (mVar 12)) (gNm 13) q0_law e1_law))) (mRet (mC (.bl false))) (mNext)))))
noncomputable def b3_law : MS :=
    mSeq (mIfS (mOr (mNot (mTru (mCall 2 F__law_is_number [] (mCons (mVar 2) (mCons (mMeth "Field" "negative" 2 F_Field_negative [] (mVar 3) (mCons (mVar 10) (mNil))) (mNil)))))) (mTst (mOp aNe (mMeth "Field" "negative" 2 F_Field_negative [] (mVar 3) (mCons (mVar 10) (mNil))) (mCall 3 F__law_minus [] (mCons (mVar 2) (mCons (mTup (mCons (mC (.int 0)) (mCons (mC (.int 1)) (mNil)))) (mCons (mVar 10) (mNil)))))))) (mRet (mC (.bl false))) (mNext))
    (mSeq (mFrz 4) (mFor (iSq (mVar 4)) (gNm 11) b2_law))
noncomputable def b4_law : MS :=
    mSeq (mAsg (mCall 1 F__law_wide [] (mCons (mVar 1) (mNil))) (gNm 6))
    (mSeq (mAsg (mCall 1 F__law_wide [] (mCons (mVar 1) (mNil))) (gNm 7))
    (mSeq (mIfS (mOr (mAnd (mTst (mOp aEq (mVar 2) (mC (.int 0)))) (mTst (mOp aEq (mVar 7) (mC (.int 0))))) (mAnd (mTst (mOp aGt (mVar 2) (mC (.int 0)))) (mTst (mOp aEq (mOp aMod (mCB aInt (mCons (mVar 7) (mNil))) (mVar 2)) (mC (.int 0)))))) (mAsg (mC (.int 1)) (gNm 7)) (mNext))
    (mSeq (mAsg (mCall 3 F__law_make [] (mCons (mVar 2) (mCons (mVar 6) (mCons (mVar 7) (mNil))))) (gNm 8))
    (mSeq (mAsg (mMeth "Field" "number" 3 F_Field_number [] (mVar 3) (mCons (mVar 6) (mCons (mVar 7) (mNil)))) (gNm 9))
    (mSeq (mIfS (mOr (mNot (mTru (mCall 2 F__law_is_number [] (mCons (mVar 2) (mCons (mVar 9) (mNil)))))) (mOr (mTst (mOp aNe (mVar 9) (mVar 8))) (mTst (mOp aIsNot (mMeth "Field" "holds" 2 F_Field_holds [] (mVar 3) (mCons (mVar 9) (mNil))) (mC (.bl true)))))) (mRet (mC (.bl false))) (mNext))
    (mSeq (mIfS (mAnd (mTst (mOp aEq (mVar 2) (mC (.int 0)))) (mOr (mTst (mOp aNe (mCall 2 F_make_ratio [] (mCons (mVar 6) (mCons (mVar 7) (mNil)))) (mVar 8))) (mTst (mOp aNe (mCall 2 F_make_ratio [.int 1] (mCons (mVar 6) (mNil))) (mCall 3 F__law_make [] (mCons (mC (.int 0)) (mCons (mVar 6) (mCons (mC (.int 1)) (mNil))))))))) (mRet (mC (.bl false))) (mNext))
    (mSeq (mIfS (mOr (mNot (mTru (mCall 2 F__law_is_number [] (mCons (mVar 2) (mCons (mMeth "Field" "number" 3 F_Field_number [.int 1] (mVar 3) (mCons (mVar 6) (mNil))) (mNil)))))) (mTst (mOp aNe (mMeth "Field" "number" 3 F_Field_number [.int 1] (mVar 3) (mCons (mVar 6) (mNil))) (mCall 3 F__law_make [] (mCons (mVar 2) (mCons (mVar 6) (mCons (mC (.int 1)) (mNil)))))))) (mRet (mC (.bl false))) (mNext))
    (mSeq (mFrz 8) (mDrop (mApp (mVar 4) (mVar 8)))))))))))
noncomputable def m_law : MS :=
    mSeq (mAsg (mCall 1 F__law_bag [] (mCons (mVar 0) (mNil))) (gNm 1))
    (mSeq (mAsg (mC (.int 0)) (gNm 2))
    (mSeq (mIfS (mTst (mOp aGt (mCall 2 F__law_draw [] (mCons (mVar 1) (mCons (mC (.int 3)) (mNil)))) (mC (.int 0)))) (mAsg (mOp aIx (mLst (mCons (mC (.int 2)) (mCons (mC (.int 3)) (mCons (mC (.int 5)) (mCons (mC (.int 7)) (mCons (mC (.int 11)) (mCons (mC (.int 13)) (mCons (mC (.int 17)) (mCons (mC (.int 19)) (mCons (mC (.int 23)) (mCons (mC (.int 29)) (mCons (mC (.int 31)) (mCons (mC (.int 37)) (mCons (mC (.int 41)) (mCons (mC (.int 43)) (mCons (mC (.int 47)) (mCons (mC (.int 53)) (mCons (mC (.int 59)) (mCons (mC (.int 61)) (mCons (mC (.int 67)) (mCons (mC (.int 71)) (mCons (mC (.int 73)) (mCons (mC (.int 79)) (mCons (mC (.int 83)) (mCons (mC (.int 89)) (mCons (mC (.int 97)) (mNil))))))))))))))))))))))))))) (mCall 2 F__law_draw [] (mCons (mVar 1) (mCons (mC (.int 25)) (mNil))))) (gNm 2)) (mNext))
    (mSeq (mAsg (mIf (mTst (mOp aEq (mVar 2) (mC (.int 0)))) (mMake "Field" 2 F_Field___init__ [.non] (mNil)) (mMake "Field" 2 F_Field___init__ [] (mCons (mVar 2) (mNil)))) (gNm 3))
    (mSeq (mIfS (mOr (mTst (mOp aNe (mAt ["Field"] "prime" (mVar 3)) (mIf (mTst (mOp aEq (mVar 2) (mC (.int 0)))) (mC .non) (mVar 2)))) (mOr (mTst (mOp aNe (mC (.tup [.int 0, .int 1])) (mTup (mCons (mC (.int 0)) (mCons (mC (.int 1)) (mNil)))))) (mTst (mOp aNe (mC (.tup [.int 1, .int 1])) (mTup (mCons (mC (.int 1)) (mCons (mC (.int 1)) (mNil)))))))) (mRet (mC (.bl false))) (mNext))
    (mSeq (mAsg (mLstC (mNil)) (gNm 4))
    (mSeq (mFor (iR1 (mCons (mC (.int 3)) (mNil))) (gNm 5) b4_law)
    (mSeq (mFrz 4) (mSeq (mFor (iSq (mVar 4)) (gNm 10) b3_law)
    (mSeq (mFrz 4) (mRet (mOrV (mOp aGt (mVar 2) (mC (.int 0))) (mCall 1 F__law_ratios_right [] (mCons (mVar 4) (mNil))))))))))))))
noncomputable def F_law : Fn := dropF (noX (fnOf m_law 14))
end W

set_option maxRecDepth 100000
set_option maxHeartbeats 4000000
namespace W
open PySem PySem.Spec L2 Mi
local macro_rules | `(tactic| walk_at "ev") => `(tactic| simp only [noX, fnOf, mSeq, mNext, mAsg, gNm, mIfS, mTst, mTru, mOp, mUn, mVar, mC, mCons, mNil, mTup, mLst, mRet, mCall, mMeth, mCB, mIf, mAnd, mOr, mNot, mAndV, mOrV, mNotV, mNotT, mPar, mDrop, List.map_cons, List.map_nil, List.length_cons, List.length_nil, List.cons_append, List.nil_append, List.append_nil, List.replicate_succ, List.replicate_zero, Nat.reduceAdd, Nat.reduceSub, List.getElem?_cons_zero, List.getElem?_cons_succ, List.set_cons_zero, List.set_cons_succ, aAt_0, aAt_1, aAt_2, aEq_int, aNe_int, aEq_t2, aNe_t2, aNe_ni, aNe_in, aNe_nn, aIx_t, aIx_l, aAdd_int, aSub_int, aMul_int, aMod_int, aFdiv_int, aCmp_int, aIs_n, aIsNot_n, aIsNot_b, tr_bl, tr_lst, isi_ii, isi_ib, isi_tt, aInt_int, aAbs_int, aLen_tup, aLen_lst, isN, sizeLine_eq, Nat.reduceLeDiff, ↓reduceIte, decide_true, decide_false, eq_self, if_true, Bool.false_eq_true, Bool.not_true, Bool.not_false, Bool.true_and, Bool.and_true, Bool.false_and, Bool.and_false, *])

def gcdI (a b : Int) : Int := ((Nat.gcd a.natAbs b.natAbs : Nat) : Int)
theorem gcd_pos (a : Int) {b : Int} (hb : b ≠ 0) : 0 < gcdI a b := by
  unfold gcdI
  have : 0 < Nat.gcd a.natAbs b.natAbs := Nat.gcd_pos_of_pos_right _ (by omega)
  omega
theorem gcd_le (a : Int) {b : Int} (hb : b ≠ 0) : (gcdI a b).natAbs ≤ b.natAbs := by
  unfold gcdI
  have := Nat.gcd_le_right (n := b.natAbs) a.natAbs (by omega)
  omega
theorem gcd_sm (a : Int) {b : Int} (hb : b ≠ 0) (sb : Sm b) : Sm (gcdI a b) := Nat.lt_of_le_of_lt (gcd_le a hb) sb
theorem fdiv_pos {a b : Int} (hb : 0 < b) : a.fdiv b = a / b := Int.fdiv_eq_ediv_of_nonneg a (by omega)
theorem fmod_pos {a b : Int} (hb : 0 < b) : a.fmod b = a % b := Int.fmod_eq_emod_of_nonneg a (by omega)
theorem gcdI_zero (a : Int) (ha : 0 ≤ a) : gcdI a 0 = a := by
  unfold gcdI
  rw [show (0 : Int).natAbs = 0 from rfl, Nat.gcd_zero_right]
  omega
theorem gcdI_abs (a b : Int) : gcdI (a.natAbs : Int) b = gcdI a b := by
  unfold gcdI
  rw [Int.natAbs_natCast]
theorem gcdI_step (a b : Int) (ha : 0 ≤ a) (hb : 0 < b) : gcdI b (a % b) = gcdI a b := by
  unfold gcdI
  have e : (a % b).natAbs = a.natAbs % b.natAbs := by
    obtain ⟨m, rfl⟩ := Int.eq_ofNat_of_zero_le ha
    obtain ⟨n, rfl⟩ := Int.eq_ofNat_of_zero_le (show 0 ≤ b by omega)
    rfl
  rw [e, Nat.gcd_comm a.natAbs, Nat.gcd_rec b.natAbs a.natAbs, Nat.gcd_comm]
theorem law_gcd_ev (a b : Int) (h : AHeap) (ha : 0 ≤ a) (hb : 0 ≤ b) : F__law_gcd [.int a, .int b] h = .ok (.int (gcdI a b)) h := by
  obtain ⟨ρ', h', e, ⟨x, y, hx, hy, hρ, hh, hg⟩, ec⟩ := mWhile_run (c := c0__law_gcd) (b := b1__law_gcd)
    (fun ρ k => ∃ x y, 0 ≤ x ∧ 0 ≤ y ∧ ρ = [some (.int x), some (.int y)] ∧ k = h ∧ gcdI x y = gcdI a b)
    (fun ρ _ => match ρ with
      | [_, some (.int y)] => y.natAbs
      | _ => 0)
    (by
      rintro ρ k ⟨x, y, hx, hy, rfl, rfl, hg⟩
      unfold c0__law_gcd b1__law_gcd
      by_cases y0 : y = 0
      · left
        subst y0
        walk_at "ev"
        rfl
      · right
        have yb : (y == 0) = false := by simpa using y0
        have f1 : x.fmod y = x % y := fmod_pos (by omega)
        have := Int.emod_nonneg x y0
        have := Int.emod_lt_of_pos x (show 0 < y by omega)
        refine ⟨by walk_at "ev", [some (.int y), some (.int (x % y))], k, by walk_at "ev", ⟨y, x % y, by omega, by omega, rfl, rfl, ?_⟩, ?_⟩
        · rw [gcdI_step x y hx (by omega)]
          exact hg
        · show (x % y).natAbs < y.natAbs
          omega)
    (ρ := [some (.int a), some (.int b)]) (h := h) ⟨a, b, ha, hb, rfl, rfl, rfl⟩
  subst hh hρ
  have y0 : y = 0 := by
    have e2 := ec
    unfold c0__law_gcd at e2
    simp only [mTst, mOp, mVar, mC, List.getElem?_cons_zero, List.getElem?_cons_succ, aNe_int] at e2
    simpa using e2
  subst y0
  rw [gcdI_zero x hx] at hg
  unfold F__law_gcd m__law_gcd
  walk_at "ev"
theorem aGcd_ev {a b : Int} {h : AHeap} : aGcd [.int a, .int b] h = some (.int (gcdI a b)) := rfl
/-- a ratio in lowest terms -/
def rat (a b : Int) : AV := .tup [.int (a / gcdI a b), .int (b / gcdI a b)]
theorem lowest_ev (a b : Int) (h : AHeap) (hb : 0 < b) (sb : Sm b) : F_lowest [.int a, .int b] h = .ok (rat a b) h := by
  have hg := gcd_pos a (b := b) (by omega)
  have d1 : ∀ x, divOk x (gcdI a b) = true := fun x => div_sm (by omega) (gcd_sm a (by omega) sb)
  unfold F_lowest m_lowest rat
  by_cases h1 : b = 1
  · subst h1
    have g1 : gcdI a 1 = 1 := by
      unfold gcdI
      rw [show (1 : Int).natAbs = 1 from rfl, Nat.gcd_one_right] <;> rfl
    rw [g1]
    walk_at "ev"
    simp
  · have h2 : (b == 1) = false := by simpa using h1
    have ga := @aGcd_ev a b
    have f1 : a.fdiv (gcdI a b) = a / gcdI a b := fdiv_pos hg
    have f2 : b.fdiv (gcdI a b) = b / gcdI a b := fdiv_pos hg
    walk_at "ev"
end W

set_option maxRecDepth 100000
set_option maxHeartbeats 4000000
namespace W
open PySem PySem.Spec L2 Mi
local macro_rules | `(tactic| walk_at "ev") => `(tactic| simp only [noX, fnOf, mSeq, mNext, mAsg, gNm, mIfS, mTst, mTru, mOp, mUn, mVar, mC, mCons, mNil, mTup, mLst, mRet, mCall, mMeth, mCB, mIf, mAnd, mOr, mNot, mAndV, mOrV, mNotV, mNotT, mPar, mDrop, List.map_cons, List.map_nil, List.length_cons, List.length_nil, List.cons_append, List.nil_append, List.append_nil, List.replicate_succ, List.replicate_zero, Nat.reduceAdd, Nat.reduceSub, List.getElem?_cons_zero, List.getElem?_cons_succ, List.set_cons_zero, List.set_cons_succ, aAt_0, aAt_1, aAt_2, aEq_int, aNe_int, aEq_t2, aNe_t2, aNe_ni, aNe_in, aNe_nn, aIx_t, aIx_l, aAdd_int, aSub_int, aMul_int, aMod_int, aFdiv_int, aCmp_int, aIs_n, aIsNot_n, aIsNot_b, tr_bl, tr_lst, isi_ii, isi_ib, isi_tt, aInt_int, aAbs_int, aLen_tup, aLen_lst, isN, sizeLine_eq, Nat.reduceLeDiff, ↓reduceIte, decide_true, decide_false, eq_self, if_true, Bool.false_eq_true, Bool.not_true, Bool.not_false, Bool.true_and, Bool.and_true, Bool.false_and, Bool.and_false, *])

theorem mul_b {a b : Int} {m n : Nat} (ha : a.natAbs < 2 ^ m) (hb : b.natAbs < 2 ^ n) : (a * b).natAbs < 2 ^ (m + n) := by
  rw [Int.natAbs_mul, Nat.pow_add]
  exact Nat.mul_lt_mul'' ha hb
theorem add_b {a b : Int} {m : Nat} (ha : a.natAbs < 2 ^ m) (hb : b.natAbs < 2 ^ m) : (a + b).natAbs < 2 ^ (m + 1) := by
  rw [Nat.pow_succ]
  omega
theorem sub_b {a b : Int} {m : Nat} (ha : a.natAbs < 2 ^ m) (hb : b.natAbs < 2 ^ m) : (a - b).natAbs < 2 ^ (m + 1) := by
  rw [Nat.pow_succ]
  omega
theorem neg_b {a : Int} {m : Nat} (ha : a.natAbs < 2 ^ m) : (0 - a).natAbs < 2 ^ m := by omega
theorem sm_b {a : Int} {m : Nat} (ha : a.natAbs < 2 ^ m) (hm : m ≤ 4000) : Sm a := sm_of ha hm
/-- in lowest terms -/
def rt (a b : Int) : Int × Int := (a / gcdI a b, b / gcdI a b)
theorem rat_pA (a b : Int) : rat a b = pA (rt a b) := rfl
theorem gcdI_dl (a b : Int) : gcdI a b ∣ a := by
  unfold gcdI
  exact Int.ofNat_dvd_left.mpr (Nat.gcd_dvd_left _ _)
theorem gcdI_dr (a b : Int) : gcdI a b ∣ b := by
  unfold gcdI
  exact Int.ofNat_dvd_left.mpr (Nat.gcd_dvd_right _ _)
theorem rt_pos (a : Int) {b : Int} (hb : 0 < b) : 0 < (rt a b).2 := by
  have hg := gcd_pos a (b := b) (by omega)
  obtain ⟨k, hk⟩ := gcdI_dr a b
  have : (rt a b).2 = k := by
    show b / gcdI a b = k
    have e : b / gcdI a b = (gcdI a b * k) / gcdI a b := congrArg (· / gcdI a b) hk
    rw [e]
    exact Int.mul_ediv_cancel_left k (by omega)
  rw [this]
  rcases Int.lt_trichotomy k 0 with z | z | z
  · have := Int.mul_neg_of_pos_of_neg hg z
    omega
  · subst z
    omega
  · exact z
theorem rt_gcd (a : Int) {b : Int} (hb : 0 < b) : gcdI (rt a b).1 (rt a b).2 = 1 := by
  have hg := gcd_pos a (b := b) (by omega)
  show gcdI (a / gcdI a b) (b / gcdI a b) = 1
  have hn : 0 < Nat.gcd a.natAbs b.natAbs := Nat.gcd_pos_of_pos_right _ (by omega)
  have e1 : (a / gcdI a b).natAbs = a.natAbs / Nat.gcd a.natAbs b.natAbs := by
    rw [Int.natAbs_ediv_of_dvd (gcdI_dl a b)] <;> rfl
  have e2 : (b / gcdI a b).natAbs = b.natAbs / Nat.gcd a.natAbs b.natAbs := by
    rw [Int.natAbs_ediv_of_dvd (gcdI_dr a b)] <;> rfl
  have e3 : gcdI (a / gcdI a b) (b / gcdI a b) = ((Nat.gcd (a / gcdI a b).natAbs (b / gcdI a b).natAbs : Nat) : Int) := rfl
  rw [e3, e1, e2, Nat.gcd_div_gcd_div_gcd_of_pos_right (by omega)]
  rfl
theorem rt_self {a b : Int} (h : gcdI a b = 1) : rt a b = (a, b) := by
  unfold rt
  rw [h, Int.ediv_one, Int.ediv_one]
theorem rt_1 (a : Int) {b : Int} (hb : 0 < b) : (rt a b).1.natAbs ≤ a.natAbs := by
  show (a / gcdI a b).natAbs ≤ _
  rw [Int.natAbs_ediv_of_dvd (gcdI_dl a b)]
  exact Nat.div_le_self _ _
theorem rt_2 (a : Int) {b : Int} (hb : 0 < b) : (rt a b).2.natAbs ≤ b.natAbs := by
  show (b / gcdI a b).natAbs ≤ _
  rw [Int.natAbs_ediv_of_dvd (gcdI_dr a b)]
  exact Nat.div_le_self _ _
/-- the sign below is taken above -/
def mk (t b : Int) : AV := if b < 0 then rat (0 - t) (0 - b) else rat t b
theorem law_make0 (t b : Int) (h : AHeap) (hb : b ≠ 0) (sb : Sm b) : F__law_make [.int 0, .int t, .int b] h = .ok (mk t b) h := by
  unfold F__law_make m__law_make mk
  by_cases c : b < 0
  · have sb' : Sm (0 - b) := by
      unfold Sm at sb ⊢
      omega
    have hg := gcd_pos (0 - t) (b := 0 - b) (by omega)
    have d1 : ∀ x, divOk x (gcdI (0 - t) (0 - b)) = true := fun x => div_sm (by omega) (gcd_sm _ (by omega) sb')
    have q := fun h => law_gcd_ev ((0 - t).natAbs : Int) (0 - b) h (by omega) (by omega)
    rw [gcdI_abs] at q
    have f1 : (0 - t).fdiv (gcdI (0 - t) (0 - b)) = (0 - t) / (gcdI (0 - t) (0 - b)) := fdiv_pos hg
    have f2 : (0 - b).fdiv (gcdI (0 - t) (0 - b)) = (0 - b) / (gcdI (0 - t) (0 - b)) := fdiv_pos hg
    have c1 : decide (b < 0) = true := by simpa using c
    have c2 : decide ((0 : Int) < 0) = false := rfl
    walk_at "ev"
    rfl
  · have hg := gcd_pos t (b := b) (by omega)
    have d1 : ∀ x, divOk x (gcdI t b) = true := fun x => div_sm (by omega) (gcd_sm _ (by omega) sb)
    have q := fun h => law_gcd_ev (t.natAbs : Int) b h (by omega) (by omega)
    rw [gcdI_abs] at q
    have f1 : t.fdiv (gcdI t b) = t / (gcdI t b) := fdiv_pos hg
    have f2 : b.fdiv (gcdI t b) = b / (gcdI t b) := fdiv_pos hg
    have c1 : decide (b < 0) = false := by simpa using c
    have c2 : decide ((0 : Int) < 0) = false := rfl
    walk_at "ev"
    rfl
theorem mk_pos {t b : Int} (hb : 0 < b) : mk t b = rat t b := by
  unfold mk
  rw [if_neg (by omega)]
/-- a number of the rationals, not long -/
def N0 (a b : Int) : Prop := 0 < b ∧ gcdI a b = 1 ∧ a.natAbs < 2 ^ 100 ∧ b.natAbs < 2 ^ 100
section
variable {a b c d : Int} (x : N0 a b) (y : N0 c d) (h : AHeap)
include x y
theorem m_ad : mulOk a d = true := mul_sm (sm_b x.2.2.1 (by decide)) (sm_b y.2.2.2 (by decide))
theorem m_ca : mulOk c b = true := mul_sm (sm_b y.2.2.1 (by decide)) (sm_b x.2.2.2 (by decide))
theorem m_ac : mulOk a c = true := mul_sm (sm_b x.2.2.1 (by decide)) (sm_b y.2.2.1 (by decide))
theorem m_bd : mulOk b d = true := mul_sm (sm_b x.2.2.2 (by decide)) (sm_b y.2.2.2 (by decide))
theorem m_bc : mulOk b c = true := mul_sm (sm_b x.2.2.2 (by decide)) (sm_b y.2.2.1 (by decide))
theorem p_bd : 0 < b * d := Int.mul_pos x.1 y.1
theorem s_bd : Sm (b * d) := sm_b (mul_b x.2.2.2 y.2.2.2) (by decide)
theorem s_bc : Sm (b * c) := sm_b (mul_b x.2.2.2 y.2.2.1) (by decide)
theorem ratio_plus_ev : F_ratio_plus [.tup [.int a, .int b], .tup [.int c, .int d]] h = .ok (rat (a * d + c * b) (b * d)) h := by
  have q := fun h => lowest_ev (a * d + c * b) (b * d) h (p_bd x y) (s_bd x y)
  have m1 := m_ad x y
  have m2 := m_ca x y
  have m4 := m_bd x y
  unfold F_ratio_plus m_ratio_plus
  walk_at "ev"
theorem ratio_minus_ev : F_ratio_minus [.tup [.int a, .int b], .tup [.int c, .int d]] h = .ok (rat (a * d - c * b) (b * d)) h := by
  have q := fun h => lowest_ev (a * d - c * b) (b * d) h (p_bd x y) (s_bd x y)
  have m1 := m_ad x y
  have m2 := m_ca x y
  have m4 := m_bd x y
  unfold F_ratio_minus m_ratio_minus
  walk_at "ev"
theorem ratio_times_ev : F_ratio_times [.tup [.int a, .int b], .tup [.int c, .int d]] h = .ok (rat (a * c) (b * d)) h := by
  have q := fun h => lowest_ev (a * c) (b * d) h (p_bd x y) (s_bd x y)
  have m3 := m_ac x y
  have m4 := m_bd x y
  unfold F_ratio_times m_ratio_times
  walk_at "ev"
theorem bc_lt : b * c < 0 ↔ c < 0 := by
  constructor
  · intro z
    by_cases q : c < 0
    · exact q
    · have := Int.mul_nonneg (Int.le_of_lt x.1) (show 0 ≤ c by omega)
      omega
  · exact fun z => Int.mul_neg_of_pos_of_neg x.1 z
theorem ratio_over_ev (hc : c ≠ 0) : F_ratio_over [.tup [.int a, .int b], .tup [.int c, .int d]] h = .ok (mk (a * d) (b * c)) h := by
  have m1 := m_ad x y
  have m4 := m_bc x y
  have i := bc_lt x y
  unfold F_ratio_over m_ratio_over mk
  by_cases z : c < 0
  · have z1 : decide (c < 0) = true := by simpa using z
    have z2 : b * c < 0 := i.mpr z
    have s : Sm (0 - b * c) := by
      have := s_bc x y
      unfold Sm at this ⊢
      omega
    have q := fun h => lowest_ev (0 - a * d) (0 - b * c) h (by omega) s
    walk_at "ev"
  · have z1 : decide (c < 0) = false := by simpa using z
    have z2 : ¬ (b * c < 0) := fun w => z (i.mp w)
    have z3 : 0 < b * c := Int.mul_pos x.1 (by omega)
    have q := fun h => lowest_ev (a * d) (b * c) h z3 (s_bc x y)
    walk_at "ev"
theorem law_plus_ev : F__law_plus [.int 0, .tup [.int a, .int b], .tup [.int c, .int d]] h = .ok (rat (a * d + c * b) (b * d)) h := by
  have p := p_bd x y
  have q := fun h => law_make0 (a * d + c * b) (b * d) h (by omega) (s_bd x y)
  rw [mk_pos p] at q
  have m1 := m_ad x y
  have m2 := m_ca x y
  have m4 := m_bd x y
  have c2 : decide ((0 : Int) < 0) = false := rfl
  unfold F__law_plus m__law_plus
  walk_at "ev"
theorem law_times_ev : F__law_times [.int 0, .tup [.int a, .int b], .tup [.int c, .int d]] h = .ok (rat (a * c) (b * d)) h := by
  have p := p_bd x y
  have q := fun h => law_make0 (a * c) (b * d) h (by omega) (s_bd x y)
  rw [mk_pos p] at q
  have m3 := m_ac x y
  have m4 := m_bd x y
  have c2 : decide ((0 : Int) < 0) = false := rfl
  unfold F__law_times m__law_times
  walk_at "ev"
theorem law_over_ev (hc : c ≠ 0) : F__law_over [.int 0, .tup [.int a, .int b], .tup [.int c, .int d]] h = .ok (mk (a * d) (b * c)) h := by
  have nz : b * c ≠ 0 := Int.mul_ne_zero (by have := x.1; omega) hc
  have q := fun h => law_make0 (a * d) (b * c) h nz (s_bc x y)
  have m1 := m_ad x y
  have m4 := m_bc x y
  have c2 : decide ((0 : Int) < 0) = false := rfl
  unfold F__law_over m__law_over
  walk_at "ev"
end
theorem gcd_neg (a b : Int) : gcdI (0 - a) b = gcdI a b := by
  unfold gcdI
  rw [show (0 - a).natAbs = a.natAbs by omega]
theorem N0.neg {a b : Int} (x : N0 a b) : N0 (0 - a) b := ⟨x.1, by rw [gcd_neg]; exact x.2.1, by have := x.2.2.1; omega, x.2.2.2⟩
theorem N0.m1 : N0 (-1) 1 := ⟨by decide, by decide, by decide, by decide⟩
theorem N0.z1 : N0 0 1 := ⟨by decide, by decide, by decide, by decide⟩
theorem law_minus_ev {a b c d : Int} (x : N0 a b) (y : N0 c d) (h : AHeap) : F__law_minus [.int 0, .tup [.int a, .int b], .tup [.int c, .int d]] h = .ok (rat (a * d - c * b) (b * d)) h := by
  have q1 : ∀ h, F__law_make [.int 0, .int (-1), .int 1] h = .ok (.tup [.int (-1), .int 1]) h := fun h => law_make0 (-1) 1 h (by decide) (sm_small (by decide) (by decide))
  have q2 : ∀ h, F__law_times [.int 0, .tup [.int (-1), .int 1], .tup [.int c, .int d]] h = .ok (.tup [.int (0 - c), .int d]) h := fun h => by
    rw [law_times_ev N0.m1 y h, rat_pA, show -1 * c = 0 - c by omega, Int.one_mul, rt_self (by rw [gcd_neg]; exact y.2.1)]
    rfl
  have q3 := fun h => law_plus_ev x y.neg h
  have e : a * d + (0 - c) * b = a * d - c * b := by
    rw [Int.sub_mul, Int.zero_mul]
    omega
  rw [e] at q3
  have e2 : (0 : Int) - 1 = -1 := rfl
  unfold F__law_minus m__law_minus
  walk_at "ev"
theorem ratio_negative_ev (a b : Int) (h : AHeap) : F_ratio_negative [.tup [.int a, .int b]] h = .ok (.tup [.int (0 - a), .int b]) h := by
  unfold F_ratio_negative m_ratio_negative
  walk_at "ev"
theorem ratio_size_ev (a b : Int) (h : AHeap) : F_ratio_size [.tup [.int a, .int b]] h = .ok (.tup [.int (a.natAbs : Int), .int b]) h := by
  unfold F_ratio_size m_ratio_size
  walk_at "ev"
end W

set_option maxRecDepth 100000
set_option maxHeartbeats 4000000
namespace W
open PySem PySem.Spec L2 Mi

def fld (x : AV) : AV := .obj "Field" ["prime"] [x]
theorem at_f0 (x : AV) {r : Env2} {h : AHeap} : mAt ["Field"] "prime" (mVar 0) (some (fld x) :: r) h = .ok x h := by
  unfold mAt mVar
  rw [List.getElem?_cons_zero]
  simp [fld]
local macro_rules | `(tactic| walk_at "ev") => `(tactic| simp only [noX, fnOf, mSeq, mNext, mAsg, gNm, mIfS, mTst, mTru, mOp, mUn, mVar, mC, mCons, mNil, mTup, mLst, mRet, mCall, mMeth, mCB, mIf, mAnd, mOr, mNot, mAndV, mOrV, mNotV, mNotT, mPar, mDrop, at_f0, List.map_cons, List.map_nil, List.length_cons, List.length_nil, List.cons_append, List.nil_append, List.append_nil, List.replicate_succ, List.replicate_zero, Nat.reduceAdd, Nat.reduceSub, List.getElem?_cons_zero, List.getElem?_cons_succ, List.set_cons_zero, List.set_cons_succ, aAt_0, aAt_1, aAt_2, aEq_int, aNe_int, aEq_t2, aNe_t2, aNe_ni, aNe_in, aNe_nn, aIx_t, aIx_l, aAdd_int, aSub_int, aMul_int, aMod_int, aFdiv_int, aCmp_int, aIs_n, aIsNot_n, aIsNot_b, tr_bl, tr_lst, isi_ii, isi_ib, isi_tt, aInt_int, aAbs_int, aLen_tup, aLen_lst, isN, sizeLine_eq, Nat.reduceLeDiff, ↓reduceIte, decide_true, decide_false, eq_self, if_true, Bool.false_eq_true, Bool.not_true, Bool.not_false, Bool.true_and, Bool.and_true, Bool.false_and, Bool.and_false, *])
theorem is_whole_ev (t : Int) (h : AHeap) : F_is_whole [.int t, .non, .non] h = .ok (.bl true) h := by
  unfold F_is_whole m_is_whole
  walk_at "ev"
theorem is_whole1_ev (t l : Int) (h : AHeap) : F_is_whole [.int t, .int l, .non] h = .ok (.bl (decide (l ≤ t))) h := by
  unfold F_is_whole m_is_whole
  cases e : decide (l ≤ t) <;> walk_at "ev"
theorem is_whole2_ev (t l u : Int) (h : AHeap) : F_is_whole [.int t, .int l, .int u] h = .ok (.bl (decide (l ≤ t) && decide (t ≤ u))) h := by
  unfold F_is_whole m_is_whole
  cases e : decide (l ≤ t) <;> walk_at "ev"
theorem make_ratio_ev (t b : Int) (h : AHeap) (hb : b ≠ 0) (sb : Sm b) : F_make_ratio [.int t, .int b] h = .ok (mk t b) h := by
  have q := is_whole_ev
  have z0 : (b == 0) = false := by simpa using hb
  unfold F_make_ratio m_make_ratio mk
  by_cases z : b < 0
  · have z1 : decide (b < 0) = true := by simpa using z
    have s : Sm (0 - b) := by
      unfold Sm at sb ⊢
      omega
    have q2 := fun h => lowest_ev (0 - t) (0 - b) h (by omega) s
    walk_at "ev"
  · have z1 : decide (b < 0) = false := by simpa using z
    have q2 := fun h => lowest_ev t b h (by omega) sb
    walk_at "ev"
theorem is_ratio_ev (a b : Int) (h : AHeap) (hb : 0 < b) (hg : gcdI a b = 1) : F_is_ratio [.tup [.int a, .int b]] h = .ok (.bl true) h := by
  have q := is_whole_ev
  have q1 := fun h => is_whole1_ev b 1 h
  have z1 : decide (1 ≤ b) = true := by
    rw [decide_eq_true_eq]
    omega
  rw [z1] at q1
  have z2 : ((2 : Int) == 2) = true := rfl
  have z3 : ((1 : Int) == 1) = true := rfl
  have ga := @aGcd_ev a b
  rw [hg] at ga
  have e2 : ((([AV.int a, AV.int b].length : Nat) : Int)) = 2 := rfl
  unfold F_is_ratio m_is_ratio
  simp only [List.length_cons, List.length_nil] at e2
  walk_at "ev"
theorem is_number_ev (a b : Int) (h : AHeap) (hb : 0 < b) (hg : gcdI a b = 1) : F__law_is_number [.int 0, .tup [.int a, .int b]] h = .ok (.bl true) h := by
  have q := fun h => law_gcd_ev (a.natAbs : Int) b h (by omega) (by omega)
  rw [gcdI_abs, hg] at q
  have z1 : decide (1 ≤ b) = true := by
    rw [decide_eq_true_eq]
    omega
  have z2 : ((2 : Int) == 2) = true := rfl
  have z3 : ((1 : Int) == 1) = true := rfl
  have c2 : decide ((0 : Int) < 0) = false := rfl
  have e2 : ((([AV.int a, AV.int b].length : Nat) : Int)) = 2 := rfl
  unfold F__law_is_number m__law_is_number b0__law_is_number mFor iSq
  simp only [List.length_cons, List.length_nil] at e2
  simp only [frzL, forL, noX, fnOf, mSeq, mNext, mAsg, gNm, mIfS, mTst, mTru, mOp, mUn, mVar, mC, mCons, mNil, mTup, mLst, mRet, mCall, mMeth, mCB, mIf, mAnd, mOr, mNot, mAndV, mOrV, mNotV, mNotT, mPar, mDrop, at_f0, List.map_cons, List.map_nil, List.length_cons, List.length_nil, List.cons_append, List.nil_append, List.append_nil, List.replicate_succ, List.replicate_zero, Nat.reduceAdd, Nat.reduceSub, List.getElem?_cons_zero, List.getElem?_cons_succ, List.set_cons_zero, List.set_cons_succ, aAt_0, aAt_1, aAt_2, aEq_int, aNe_int, aIx_t, aCmp_int, tr_bl, isi_ii, isi_ib, isi_tt, aInt_int, aAbs_int, aLen_tup, ↓reduceIte, decide_true, decide_false, eq_self, if_true, Bool.false_eq_true, Bool.not_true, Bool.not_false, Bool.true_and, Bool.and_true, Bool.false_and, Bool.and_false, *]
/-! ### order -/
def cmp3 (l r : Int) : Int := if l < r then -1 else if r < l then 1 else 0
section
variable {a b c d : Int} (x : N0 a b) (y : N0 c d) (h : AHeap)
include x y
theorem compare_ev : F_compare_ratios [.tup [.int a, .int b], .tup [.int c, .int d]] h = .ok (.int (cmp3 (a * d) (c * b))) h := by
  have m1 := m_ad x y
  have m2 := m_ca x y
  unfold F_compare_ratios m_compare_ratios cmp3
  by_cases z : a * d < c * b
  · have z1 : decide (a * d < c * b) = true := by simpa using z
    have z2 : ∀ h, aNeg (.int 1) h = some (.int (-1)) := fun _ => rfl
    walk_at "ev"
  · have z1 : decide (a * d < c * b) = false := by simpa using z
    by_cases w : c * b < a * d
    · have w1 : decide (c * b < a * d) = true := by simpa using w
      walk_at "ev"
    · have w1 : decide (c * b < a * d) = false := by simpa using w
      walk_at "ev"
theorem law_order_ev : F__law_order [.tup [.int a, .int b], .tup [.int c, .int d]] h = .ok (.int (cmp3 (a * d) (c * b))) h := by
  have m1 := m_ad x y
  have m2 := m_ca x y
  have e2 : (0 : Int) - 1 = -1 := rfl
  unfold F__law_order m__law_order cmp3
  by_cases z : a * d = c * b
  · have z1 : (a * d == c * b) = true := by simpa using z
    have z2 : ¬ (a * d < c * b) := by omega
    have z3 : ¬ (c * b < a * d) := by omega
    rw [if_neg z2, if_neg z3]
    clear z z2 z3
    walk_at "ev"
  · have z1 : (a * d == c * b) = false := by simpa using z
    by_cases w : c * b < a * d
    · have z2 : ¬ (a * d < c * b) := by omega
      have w1 : decide (c * b < a * d) = true := by simpa using w
      rw [if_neg z2, if_pos w]
      clear z w z2
      walk_at "ev"
    · have z2 : (a * d < c * b) := by omega
      have w1 : decide (c * b < a * d) = false := by simpa using w
      rw [if_pos z2]
      clear z w z2
      walk_at "ev"
end
/-! ### the rationals' field -/
section
variable {a b c d : Int} (h : AHeap)
theorem fn_number0 (t b : Int) (hb : b ≠ 0) (sb : Sm b) : F_Field_number [fld .non, .int t, .int b] h = .ok (mk t b) h := by
  have q := fun h => make_ratio_ev t b h hb sb
  unfold F_Field_number m_Field_number
  walk_at "ev"
theorem fn_holds0 (hb : 0 < b) (hg : gcdI a b = 1) : F_Field_holds [fld .non, .tup [.int a, .int b]] h = .ok (.bl true) h := by
  have q := fun h => is_ratio_ev a b h hb hg
  unfold F_Field_holds m_Field_holds
  walk_at "ev"
theorem fn_plus0 (x : N0 a b) (y : N0 c d) : F_Field_plus [fld .non, .tup [.int a, .int b], .tup [.int c, .int d]] h = .ok (rat (a * d + c * b) (b * d)) h := by
  have q := fun h => ratio_plus_ev x y h
  unfold F_Field_plus m_Field_plus
  walk_at "ev"
theorem fn_minus0 (x : N0 a b) (y : N0 c d) : F_Field_minus [fld .non, .tup [.int a, .int b], .tup [.int c, .int d]] h = .ok (rat (a * d - c * b) (b * d)) h := by
  have q := fun h => ratio_minus_ev x y h
  unfold F_Field_minus m_Field_minus
  walk_at "ev"
theorem fn_times0 (x : N0 a b) (y : N0 c d) : F_Field_times [fld .non, .tup [.int a, .int b], .tup [.int c, .int d]] h = .ok (rat (a * c) (b * d)) h := by
  have q := fun h => ratio_times_ev x y h
  unfold F_Field_times m_Field_times
  walk_at "ev"
theorem fn_over0 (x : N0 a b) (y : N0 c d) (hc : c ≠ 0) : F_Field_over [fld .non, .tup [.int a, .int b], .tup [.int c, .int d]] h = .ok (mk (a * d) (b * c)) h := by
  have q := fun h => ratio_over_ev x y h hc
  unfold F_Field_over m_Field_over
  walk_at "ev"
theorem fn_negative0 : F_Field_negative [fld .non, .tup [.int a, .int b]] h = .ok (.tup [.int (0 - a), .int b]) h := by
  have q := ratio_negative_ev a b
  unfold F_Field_negative m_Field_negative
  walk_at "ev"
end
end W

set_option maxRecDepth 100000
set_option maxHeartbeats 4000000
namespace W
open PySem PySem.Spec L2 Mi
local macro_rules | `(tactic| walk_at "ev") => `(tactic| simp only [noX, fnOf, mSeq, mNext, mAsg, gNm, mIfS, mTst, mTru, mOp, mUn, mVar, mC, mCons, mNil, mTup, mLst, mRet, mCall, mMeth, mCB, mIf, mAnd, mOr, mNot, mAndV, mOrV, mNotV, mNotT, mPar, mDrop, gTp, gsCons, gsNil, mSetAt, mSetIx, mApp, mExt, mFrz, mChain, mFor, iSq, frzL, forL, at_f0, List.map_cons, List.map_nil, List.length_cons, List.length_nil, List.cons_append, List.nil_append, List.append_nil, List.replicate_succ, List.replicate_zero, Nat.reduceAdd, Nat.reduceSub, List.getElem?_cons_zero, List.getElem?_cons_succ, List.set_cons_zero, List.set_cons_succ, aAt_0, aAt_1, aAt_2, aEq_int, aNe_int, aEq_t2, aNe_t2, aNe_ni, aNe_in, aNe_nn, aIx_t, aIx_l, aAdd_int, aSub_int, aMul_int, aMod_int, aFdiv_int, aCmp_int, aIs_n, aIsNot_n, aIsNot_b, tr_bl, tr_lst, isi_ii, isi_ib, isi_tt, aInt_int, aAbs_int, aLen_tup, aLen_lst, isN, sizeLine_eq, Nat.reduceLeDiff, ↓reduceIte, decide_true, decide_false, eq_self, if_true, Bool.false_eq_true, Bool.not_true, Bool.not_false, Bool.true_and, Bool.and_true, Bool.false_and, Bool.and_false, *])

def primes : List Int := [2, 3, 5, 7, 11, 13, 17, 19, 23, 29, 31, 37, 41, 43, 47, 53, 59, 61, 67, 71, 73, 79, 83, 89, 97]
theorem pr_rng : ∀ p ∈ primes, 2 ≤ p ∧ p ≤ 97 := by decide +kernel
theorem pr_cop0 : ∀ p ∈ primes, ∀ r < 97, 0 < r → r < p.natAbs → Nat.gcd p.natAbs r = 1 := by decide +kernel
theorem pr_no0 : ∀ p ∈ primes, ∀ r < 97, 2 ≤ r → r < p.natAbs → p.natAbs % r ≠ 0 := by decide +kernel
theorem pr_cop {p r : Int} (hp : p ∈ primes) (h0 : 0 < r) (h1 : r < p) : gcdI p r = 1 := by
  have := pr_rng p hp
  have := pr_cop0 p hp r.natAbs (by omega) (by omega) (by omega)
  unfold gcdI
  omega
theorem pr_no {p r : Int} (hp : p ∈ primes) (h0 : 2 ≤ r) (h1 : r < p) : p % r ≠ 0 := by
  have := pr_rng p hp
  have q := pr_no0 p hp r.natAbs (by omega) (by omega) (by omega)
  intro z
  apply q
  obtain ⟨m, rfl⟩ := Int.eq_ofNat_of_zero_le (show 0 ≤ p by omega)
  obtain ⟨n, rfl⟩ := Int.eq_ofNat_of_zero_le (show 0 ≤ r by omega)
  have : ((m % n : Nat) : Int) = 0 := z
  show m % n = 0
  omega
def IsInv (p b i : Int) : Prop := 0 ≤ i ∧ i < p ∧ p ∣ b * i - 1
theorem IsInv.uniq {p b i j : Int} (x : IsInv p b i) (y : IsInv p b j) : i = j := by
  have e : i - j = j * (b * i - 1) - i * (b * j - 1) := by
    rw [Int.mul_sub, Int.mul_sub, Int.mul_left_comm j b i, Int.mul_left_comm i b j, Int.mul_comm j i]
    omega
  have d : p ∣ i - j := by
    rw [e]
    exact Int.dvd_sub (Int.dvd_mul_of_dvd_right x.2.2) (Int.dvd_mul_of_dvd_right y.2.2)
  have h1 := x.1
  have h2 := x.2.1
  have h3 := y.1
  have h4 := y.2.1
  have := Int.eq_zero_of_dvd_of_natAbs_lt_natAbs d (by omega)
  omega
theorem dvd1 {p x : Int} (hp : 2 ≤ p) : p ∣ x - 1 ↔ x % p = 1 := by
  constructor
  · rintro ⟨k, hk⟩
    have : x = 1 + p * k := by omega
    rw [this, Int.add_mul_emod_self_left]
    exact Int.emod_eq_of_lt (by decide) (by omega)
  · intro e
    have := Int.mul_ediv_add_emod x p
    exact ⟨x / p, by omega⟩
theorem IsInv.of_mod {p b i : Int} (x : IsInv p (b % p) i) : IsInv p b i := by
  refine ⟨x.1, x.2.1, ?_⟩
  have e : b * i - 1 = (b % p * i - 1) + p * (b / p * i) := by
    have := Int.mul_ediv_add_emod b p
    have e2 : b * i = (p * (b / p) + b % p) * i := by rw [this]
    rw [e2, Int.add_mul, Int.mul_assoc]
    omega
  rw [e]
  exact Int.dvd_add x.2.2 (Int.dvd_mul_right _ _)
theorem ir_step {r p l g x y t : Int} (d1 : p ∣ x * r - l) (d2 : p ∣ y * r - g) : p ∣ (x - t * y) * r - (l - t * g) := by
  have e : (x - t * y) * r - (l - t * g) = (x * r - l) - t * (y * r - g) := by
    rw [Int.sub_mul, Int.mul_sub, Int.mul_assoc]
    omega
  rw [e]
  exact Int.dvd_sub d1 (Int.dvd_mul_of_dvd_right d2)
theorem inv_rest1 {p r : Int} (hp : p ∈ primes) (h0 : 0 < r) (h1 : r < p) (h : AHeap) : ∃ i, IsInv p r i ∧ F_inverse_rest [.int r, .int p] h = .ok (.int i) h := by
  obtain ⟨p2, p97⟩ := pr_rng p hp
  obtain ⟨ρ', h', e, ⟨l, g, x, y, z, hl, hl2, hg0, hg2, hρ, hh, hgc, d1, d2⟩, ec⟩ := mWhile_run (c := c0_inverse_rest) (b := b1_inverse_rest)
    (fun ρ k => ∃ (l g x y : Int) (z : Option AV), 0 ≤ l ∧ l ≤ 97 ∧ 0 ≤ g ∧ g ≤ 97 ∧ ρ = [some (.int r), some (.int p), some (.int l), some (.int g), some (.int x), some (.int y), z] ∧ k = h ∧ gcdI l g = 1 ∧ p ∣ x * r - l ∧ p ∣ y * r - g)
    (fun ρ _ => match ρ with
      | [_, _, _, some (.int y), _, _, _] => y.natAbs
      | _ => 0)
    (by
      rintro ρ k ⟨l, g, x, y, z, hl, hl2, hg0, hg2, rfl, rfl, hgc, d1, d2⟩
      unfold c0_inverse_rest b1_inverse_rest
      by_cases y0 : g = 0
      · left
        subst y0
        walk_at "ev"
        rfl
      · right
        have yb : (g == 0) = false := by simpa using y0
        have f1 : l.fdiv g = l / g := fdiv_pos (by omega)
        have a1 : divOk l g = true := div_sm y0 (sm_small (by omega) (by omega))
        have t0 : 0 ≤ l / g := Int.ediv_nonneg hl hg0
        have t1 : l / g ≤ l := Int.ediv_le_self _ hl
        have a2 : mulOk (l / g) g = true := mul_l (by omega) (by omega)
        have a3 : mulOk (l / g) y = true := mul_l (by omega) (by omega)
        have r0 := Int.emod_nonneg l y0
        have r1 := Int.emod_lt_of_pos l (show 0 < g by omega)
        have r2 := Int.mul_ediv_add_emod l g
        rw [Int.mul_comm] at r2
        have em : l - l / g * g = l % g := by omega
        have st := ir_step (t := l / g) d1 d2
        rw [em] at st
        refine ⟨by walk_at "ev", [some (.int r), some (.int p), some (.int g), some (.int (l % g)), some (.int y), some (.int (x - l / g * y)), some (.int (l / g))], k, by clear r2 d1 d2 st; walk_at "ev", ⟨g, l % g, y, x - l / g * y, some (.int (l / g)), by omega, by omega, by omega, by omega, rfl, rfl, ?_, d2, st⟩, ?_⟩
        · rw [gcdI_step l g hl (by omega)]
          exact hgc
        · show (l % g).natAbs < g.natAbs
          omega)
    (ρ := [some (.int r), some (.int p), some (.int p), some (.int r), some (.int 0), some (.int 1), none]) (h := h)
    ⟨p, r, 0, 1, none, by omega, by omega, by omega, by omega, rfl, rfl, pr_cop hp h0 h1, ⟨-1, by omega⟩, ⟨0, by omega⟩⟩
  subst hh hρ
  have y0 : g = 0 := by
    have e2 := ec
    unfold c0_inverse_rest at e2
    simp only [mTst, mOp, mVar, mC, List.getElem?_cons_zero, List.getElem?_cons_succ, aNe_int] at e2
    simpa using e2
  subst y0
  rw [gcdI_zero l hl] at hgc
  subst hgc
  have np : ¬ p = 0 := by omega
  have f2 : x.fmod p = x % p := fmod_pos (by omega)
  refine ⟨x % p, ⟨Int.emod_nonneg _ np, Int.emod_lt_of_pos _ (by omega), ?_⟩, ?_⟩
  · have e3 : r * (x % p) - 1 = (x * r - 1) - p * (x / p * r) := by
      have := Int.mul_ediv_add_emod x p
      have e2 : x * r = (p * (x / p) + x % p) * r := by rw [this]
      rw [e2, Int.add_mul, Int.mul_assoc, Int.mul_comm r]
      omega
    rw [e3]
    exact Int.dvd_sub d1 (Int.dvd_mul_right _ _)
  · unfold F_inverse_rest m_inverse_rest
    clear d1 d2 p2 p97 hl hl2 hg0 hg2
    walk_at "ev"
theorem inv_rest {p r : Int} (hp : p ∈ primes) (h0 : 0 < r) (h1 : r < p) : ∃ i, IsInv p r i ∧ ∀ h, F_inverse_rest [.int r, .int p] h = .ok (.int i) h := by
  obtain ⟨i, hi, _⟩ := inv_rest1 hp h0 h1 []
  refine ⟨i, hi, fun h => ?_⟩
  obtain ⟨j, hj, e⟩ := inv_rest1 hp h0 h1 h
  rw [e, hi.uniq hj]
theorem is_prime_ev {p : Int} (hp : p ∈ primes) (h : AHeap) : F_is_prime [.int p] h = .ok (.bl true) h := by
  obtain ⟨p2, p97⟩ := pr_rng p hp
  have ei : iR2 (mCons (mC (.int 2)) (mCons (mVar 0) (mNil))) [some (.int p), none] h = .ok (rng 2 (p - 2).toNat) h := iR2_ev rfl (by omega) (by omega) (by omega) (by omega)
  obtain ⟨ρ', h', e, ⟨z, hz, hh⟩⟩ := mFor_run (g := gNm 1) (b := b0_is_prime) (I := fun l ρ k => (∃ z, ρ = [some (.int p), z]) ∧ k = h ∧ ∃ (m : Int) (n : Nat), 2 ≤ m ∧ m + n = p ∧ l = rng m n) ei
    ⟨⟨_, rfl⟩, rfl, 2, _, by omega, by omega, rfl⟩
    (by
      rintro d l ρ k ⟨⟨z, rfl⟩, rfl, m, n, hm, hn, el⟩
      obtain ⟨rfl, n', rfl, rfl⟩ := rng_cons el
      have q := pr_no hp hm (by omega)
      have f1 : p.fmod m = p % m := fmod_pos (by omega)
      have nz : ¬ m = 0 := by omega
      have qb : (p % m == 0) = false := by simpa using q
      refine ⟨[some (.int p), some (.int m)], k, ⟨[some (.int p), some (.int m)], k, rfl, .inl ?_⟩, ⟨_, rfl⟩, rfl, m + 1, n', by omega, by omega, rfl⟩
      unfold b0_is_prime
      clear hp p2 p97 ei el hm hn
      walk_at "ev")
  obtain ⟨z, rfl⟩ := z
  subst hz
  unfold F_is_prime m_is_prime
  simp only [noX, fnOf, List.map_cons, List.map_nil, List.length_cons, List.length_nil, List.cons_append, List.nil_append, Nat.reduceAdd, Nat.reduceSub, List.replicate_succ, List.replicate_zero, mSeq, e, mRet, mC]
theorem init_p {p : Int} (hp : p ∈ primes) (h : AHeap) : F_Field___init__ [.ref h.length, .int p] (h ++ [some (.ins "Field" [] [])]) = .ok .non (h ++ [some (.ins "Field" ["prime"] [.int p])]) := by
  obtain ⟨p2, p97⟩ := pr_rng p hp
  have q1 := fun h => is_whole2_ev p 2 97 h
  have q2 := is_prime_ev hp
  have z1 : decide (2 ≤ p) = true := by simpa using p2
  have z2 : decide (p ≤ 97) = true := by simpa using p97
  rw [z1, z2] at q1
  have e1 : (h ++ [some (MO.ins "Field" [] [])])[h.length]? = some (some (MO.ins "Field" [] [])) := by
    rw [List.getElem?_append_right (Nat.le_refl _), Nat.sub_self] <;> rfl
  have e2 : ∀ x, (h ++ [some (MO.ins "Field" [] [])]).set h.length x = h ++ [x] := fun x => by
    rw [List.set_append_right _ _ (Nat.le_refl _), Nat.sub_self] <;> rfl
  unfold F_Field___init__ m_Field___init__
  clear hp p2 p97
  walk_at "ev"
  simp [putK, putL]
theorem init_n (h : AHeap) : F_Field___init__ [.ref h.length, .non] (h ++ [some (.ins "Field" [] [])]) = .ok .non (h ++ [some (.ins "Field" ["prime"] [.non])]) := by
  have e1 : (h ++ [some (MO.ins "Field" [] [])])[h.length]? = some (some (MO.ins "Field" [] [])) := by
    rw [List.getElem?_append_right (Nat.le_refl _), Nat.sub_self] <;> rfl
  have e2 : ∀ x, (h ++ [some (MO.ins "Field" [] [])]).set h.length x = h ++ [x] := fun x => by
    rw [List.set_append_right _ _ (Nat.le_refl _), Nat.sub_self] <;> rfl
  unfold F_Field___init__ m_Field___init__
  walk_at "ev"
  simp [putK, putL]
end W

set_option maxRecDepth 100000
set_option maxHeartbeats 4000000
namespace W
open PySem PySem.Spec L2 Mi
local macro_rules | `(tactic| walk_at "ev") => `(tactic| simp only [noX, fnOf, mSeq, mNext, mAsg, gNm, mIfS, mTst, mTru, mOp, mUn, mVar, mC, mCons, mNil, mTup, mLst, mRet, mCall, mMeth, mCB, mIf, mAnd, mOr, mNot, mAndV, mOrV, mNotV, mNotT, mPar, mDrop, gTp, gsCons, gsNil, mSetAt, mSetIx, mApp, mExt, mFrz, mChain, mFor, iSq, frzL, forL, at_f0, List.map_cons, List.map_nil, List.length_cons, List.length_nil, List.cons_append, List.nil_append, List.append_nil, List.replicate_succ, List.replicate_zero, Nat.reduceAdd, Nat.reduceSub, List.getElem?_cons_zero, List.getElem?_cons_succ, List.set_cons_zero, List.set_cons_succ, aAt_0, aAt_1, aAt_2, aEq_int, aNe_int, aEq_t2, aNe_t2, aNe_ni, aNe_in, aNe_nn, aIx_t, aIx_l, aAdd_int, aSub_int, aMul_int, aMod_int, aFdiv_int, aCmp_int, aIs_n, aIsNot_n, aIsNot_b, tr_bl, tr_lst, isi_ii, isi_ib, isi_tt, aInt_int, aAbs_int, aLen_tup, aLen_lst, isN, sizeLine_eq, Nat.reduceLeDiff, ↓reduceIte, decide_true, decide_false, eq_self, if_true, Bool.false_eq_true, Bool.not_true, Bool.not_false, Bool.true_and, Bool.and_true, Bool.false_and, Bool.and_false, *])

theorem law_make_p {p b i : Int} (t : Int) (hp : p ∈ primes) (hi : IsInv p b i) (h : AHeap) : F__law_make [.int p, .int t, .int b] h = .ok (.tup [.int (t * i % p), .int 1]) h := by
  obtain ⟨p2, p97⟩ := pr_rng p hp
  have ei : iR1 (mCons (mVar 0) (mNil)) [some (.int p), some (.int t), some (.int b), some (.int 0), none, none] h = .ok (rng 0 p.toNat) h := iR1_ev rfl (by omega) (by omega)
  obtain ⟨ρ', h', e, ⟨z, m, n, hρ, hm0, hmn, hz⟩, hh⟩ := mFor_run (g := gNm 4) (b := b0__law_make) (I := fun l ρ k => (∃ (z : Option AV) (m : Int) (n : Nat), ρ = [some (.int p), some (.int t), some (.int b), some (.int (if i < m then i else 0)), z, none] ∧ 0 ≤ m ∧ m + n = p ∧ l = rng m n) ∧ k = h) ei
    ⟨⟨none, 0, _, by rw [if_neg (by have := hi.1; omega)], by omega, by omega, rfl⟩, rfl⟩
    (by
      rintro d l ρ k ⟨⟨z, m, n, rfl, hm, hn, el⟩, rfl⟩
      obtain ⟨rfl, n', rfl, rfl⟩ := rng_cons el
      have f1 : (b * m).fmod p = b * m % p := fmod_pos (by omega)
      have np : ¬ p = 0 := by omega
      have a2 : mulOk b m = true := mul_r (by omega) (by omega)
      refine ⟨[some (.int p), some (.int t), some (.int b), some (.int (if i < m + 1 then i else 0)), some (.int m), none], k, ⟨[some (.int p), some (.int t), some (.int b), some (.int (if i < m then i else 0)), some (.int m), none], k, rfl, .inl ?_⟩, ⟨some (.int m), m + 1, n', rfl, by omega, by omega, rfl⟩, rfl⟩
      unfold b0__law_make
      by_cases c : b * m % p = 1
      · have e : i = m := hi.uniq ⟨hm, by omega, (dvd1 p2).mpr c⟩
        rw [if_pos (show i < m + 1 by omega)]
        have cb : (b * m % p == 1) = true := by simpa using c
        clear c hi hp p2 p97 ei hn el
        walk_at "ev"
      · have ne : i ≠ m := fun z => c (by rw [← z]; exact (dvd1 p2).mp hi.2.2)
        have e3 : (if i < m + 1 then i else 0) = if i < m then i else 0 := by
          by_cases q : i < m
          · rw [if_pos q, if_pos (by omega)]
          · rw [if_neg q, if_neg (by omega)]
        rw [e3]
        have cb : (b * m % p == 1) = false := by simpa using c
        clear c hi hp p2 p97 ei hn el e3
        walk_at "ev")
  have n0 : n = 0 := rng_nil hz.symm
  subst n0
  have e2 : m = p := by omega
  subst e2
  rw [if_pos hi.2.1] at hρ
  subst hρ hh
  have c1 : decide (0 < m) = true := by
    rw [decide_eq_true_eq]
    omega
  have a3 : mulOk t i = true := mul_r (by have := hi.1; omega) (by have := hi.2.1; omega)
  have f2 : (t * i).fmod m = t * i % m := fmod_pos (by omega)
  have np : ¬ m = 0 := by omega
  unfold F__law_make m__law_make
  simp only [mFor] at e
  clear hi hp p2 p97 hm0 hmn hz ei
  simp only [noX, fnOf, mSeq, mNext, mAsg, gNm, mIfS, mTst, mOp, mVar, mC, mCons, mNil, mTup, mRet, mCB, aInt_int, List.map_cons, List.map_nil, List.length_cons, List.length_nil, List.cons_append, List.nil_append, List.replicate_succ, List.replicate_zero, Nat.reduceAdd, Nat.reduceSub, List.getElem?_cons_zero, List.getElem?_cons_succ, List.set_cons_zero, List.set_cons_succ, aMul_int, aMod_int, aCmp_int, sizeLine_eq, Nat.reduceLeDiff, ↓reduceIte, mFor, if_true, *]
/-- a number of the field of p -/
def Np (p a : Int) : Prop := 0 ≤ a ∧ a < p
theorem np_mod {p : Int} (hp : p ∈ primes) (x : Int) : Np p (x % p) := by
  have := pr_rng p hp
  exact ⟨Int.emod_nonneg _ (by omega), Int.emod_lt_of_pos _ (by omega)⟩
section
variable {p a c : Int} (hp : p ∈ primes) (x : Np p a) (y : Np p c) (h : AHeap)
include hp
theorem pr_ne : ¬ p = 0 := by
  have := pr_rng p hp
  omega
theorem pr_pos : decide (0 < p) = true := by
  have := pr_rng p hp
  rw [decide_eq_true_eq]
  omega
theorem pr_f (x : Int) : x.fmod p = x % p := fmod_pos (by have := pr_rng p hp; omega)
theorem isn_p (x : Np p a) (h : AHeap) : F__law_is_number [.int p, .tup [.int a, .int 1]] h = .ok (.bl true) h := by
  have z1 : decide (0 ≤ a) = true := by
    rw [decide_eq_true_eq]
    exact x.1
  have z2 : decide (a < p) = true := by
    rw [decide_eq_true_eq]
    exact x.2
  have z3 : ((1 : Int) == 1) = true := rfl
  have z4 : ((2 : Int) == 2) = true := rfl
  have z5 := pr_pos hp
  have e2 : ((([AV.int a, AV.int 1].length : Nat) : Int)) = 2 := rfl
  unfold F__law_is_number m__law_is_number b0__law_is_number
  simp only [List.length_cons, List.length_nil] at e2
  walk_at "ev"
theorem law_plus_p : F__law_plus [.int p, .tup [.int a, .int 1], .tup [.int c, .int 1]] h = .ok (.tup [.int ((a + c) % p), .int 1]) h := by
  have z5 := pr_pos hp
  have z6 := pr_ne hp
  have z7 := pr_f hp
  unfold F__law_plus m__law_plus
  walk_at "ev"
theorem fn_plus_p : F_Field_plus [fld (.int p), .tup [.int a, .int 1], .tup [.int c, .int 1]] h = .ok (.tup [.int ((a + c) % p), .int 1]) h := by
  have z6 := pr_ne hp
  have z7 := pr_f hp
  unfold F_Field_plus m_Field_plus
  walk_at "ev"
theorem fn_minus_p : F_Field_minus [fld (.int p), .tup [.int a, .int 1], .tup [.int c, .int 1]] h = .ok (.tup [.int ((a - c) % p), .int 1]) h := by
  have z6 := pr_ne hp
  have z7 := pr_f hp
  unfold F_Field_minus m_Field_minus
  walk_at "ev"
theorem fn_negative_p : F_Field_negative [fld (.int p), .tup [.int a, .int 1]] h = .ok (.tup [.int ((0 - a) % p), .int 1]) h := by
  have z6 := pr_ne hp
  have z7 := pr_f hp
  unfold F_Field_negative m_Field_negative
  walk_at "ev"
include x
theorem np_mul : mulOk a c = true := mul_l (by have := x.1; omega) (by have := x.2; have := pr_rng p hp; omega)
theorem law_times_p : F__law_times [.int p, .tup [.int a, .int 1], .tup [.int c, .int 1]] h = .ok (.tup [.int (a * c % p), .int 1]) h := by
  have z5 := pr_pos hp
  have z6 := pr_ne hp
  have z7 := pr_f hp
  have z8 := np_mul (c := c) hp x
  unfold F__law_times m__law_times
  walk_at "ev"
theorem fn_times_p : F_Field_times [fld (.int p), .tup [.int a, .int 1], .tup [.int c, .int 1]] h = .ok (.tup [.int (a * c % p), .int 1]) h := by
  have z6 := pr_ne hp
  have z7 := pr_f hp
  have z8 := np_mul (c := c) hp x
  unfold F_Field_times m_Field_times
  walk_at "ev"
theorem fn_holds_p : F_Field_holds [fld (.int p), .tup [.int a, .int 1]] h = .ok (.bl true) h := by
  have q1 := fun h => is_whole2_ev a 0 (p - 1) h
  have q2 : ∀ h, F_is_whole [.int 1, .int 1, .int 1] h = .ok (.bl true) h := fun h => is_whole2_ev 1 1 1 h
  have z1 : decide (0 ≤ a) = true := by
    rw [decide_eq_true_eq]
    exact x.1
  have z2 : decide (a ≤ p - 1) = true := by
    rw [decide_eq_true_eq]
    have := x.2
    omega
  rw [z1, z2] at q1
  have z4 : ((2 : Int) == 2) = true := rfl
  have e2 : ((([AV.int a, AV.int 1].length : Nat) : Int)) = 2 := rfl
  simp only [List.length_cons, List.length_nil] at e2
  unfold F_Field_holds m_Field_holds
  walk_at "ev"
theorem law_minus_p : F__law_minus [.int p, .tup [.int a, .int 1], .tup [.int c, .int 1]] h = .ok (.tup [.int ((a - c) % p), .int 1]) h := by
  have p2 := pr_rng p hp
  have q1 : ∀ h, F__law_make [.int p, .int (-1), .int 1] h = .ok (.tup [.int (-1 % p), .int 1]) h := fun h => law_make_p (i := 1) (-1) hp ⟨by omega, by omega, ⟨0, by omega⟩⟩ h
  have q2 := fun h => law_times_p (c := c) hp (np_mod hp (-1)) h
  have q3 := fun h => law_plus_p (a := a) (c := -1 % p * c % p) hp h
  have e : (a + -1 % p * c % p) % p = (a - c) % p := by
    rw [Int.add_emod, Int.emod_emod_of_dvd _ (Int.dvd_refl p), ← Int.add_emod, Int.add_emod, Int.mul_emod, Int.emod_emod_of_dvd _ (Int.dvd_refl p), ← Int.mul_emod, ← Int.add_emod]
    congr 1
    omega
  rw [e] at q3
  have e2 : (0 : Int) - 1 = -1 := rfl
  unfold F__law_minus m__law_minus
  clear e
  walk_at "ev"
include y
theorem np_inv (hc : c ≠ 0) : ∃ i, IsInv p c i ∧ ∀ h, F_inverse_rest [.int c, .int p] h = .ok (.int i) h := inv_rest hp (by have := y.1; omega) y.2
theorem over_p (hc : c ≠ 0) : ∃ i, Np p i ∧ (∀ h, F__law_over [.int p, .tup [.int a, .int 1], .tup [.int c, .int 1]] h = .ok (.tup [.int (a * i % p), .int 1]) h) ∧ ∀ h, F_Field_over [fld (.int p), .tup [.int a, .int 1], .tup [.int c, .int 1]] h = .ok (.tup [.int (a * i % p), .int 1]) h := by
  obtain ⟨i, hi, q⟩ := np_inv hp x y hc
  have z5 := pr_pos hp
  have z6 := pr_ne hp
  have z7 := pr_f hp
  have z8 := np_mul (c := i) hp x
  have q2 := fun h => law_make_p a hp hi h
  refine ⟨i, ⟨hi.1, hi.2.1⟩, fun h => ?_, fun h => ?_⟩
  · unfold F__law_over m__law_over
    walk_at "ev"
  · unfold F_Field_over m_Field_over
    walk_at "ev"
end
theorem number_p {p : Int} (hp : p ∈ primes) (t b : Int) (hb : b % p ≠ 0) : ∃ i, (∀ h, F__law_make [.int p, .int t, .int b] h = .ok (.tup [.int (t * i % p), .int 1]) h) ∧ ∀ h, F_Field_number [fld (.int p), .int t, .int b] h = .ok (.tup [.int (t * i % p), .int 1]) h := by
  have p2 := pr_rng p hp
  have r0 := Int.emod_nonneg b (show p ≠ 0 by omega)
  have r1 := Int.emod_lt_of_pos b (show 0 < p by omega)
  obtain ⟨i, hi, q⟩ := inv_rest hp (show 0 < b % p by omega) r1
  have q2 := fun h => law_make_p t hp hi.of_mod h
  refine ⟨i, q2, fun h => ?_⟩
  have z6 := pr_ne hp
  have z7 := pr_f hp
  have z8 : mulOk t i = true := mul_r (by have := hi.1; omega) (by have := hi.2.1; omega)
  have z9 := is_whole_ev
  have hb' : (b % p == 0) = false := by simpa using hb
  unfold F_Field_number m_Field_number
  clear hi
  walk_at "ev"
end W

set_option maxRecDepth 100000
set_option maxHeartbeats 4000000
namespace W
open PySem PySem.Spec L2 Mi
theorem ixN3_1 : ixN 3 1 = some 1 := rfl
theorem ixN3_2 : ixN 3 2 = some 2 := rfl
theorem pow18 {h : AHeap} : aPow (.int 10) (.int 18) h = some (.int 1000000000000000000) := rfl
theorem pow30 {h : AHeap} : aPow (.int 10) (.int 30) h = some (.int 1000000000000000000000000000000) := rfl
theorem pow6 {h : AHeap} : aPow (.int 10) (.int 6) h = some (.int 1000000) := rfl
local macro_rules | `(tactic| walk_at "ev") => `(tactic| simp only [noX, fnOf, mSeq, mNext, mAsg, gNm, mIfS, mTst, mTru, mOp, mUn, mVar, mC, mCons, mNil, mTup, mLst, mRet, mCall, mMeth, mCB, mIf, mAnd, mOr, mNot, mAndV, mOrV, mNotV, mNotT, mPar, mDrop, ixN3_1, ixN3_2, pow18, pow30, pow6, List.set_set, gTp, gsCons, gsNil, mSetAt, mSetIx, mApp, mExt, mFrz, mChain, mFor, iSq, frzL, forL, at_f0, List.map_cons, List.map_nil, List.length_cons, List.length_nil, List.cons_append, List.nil_append, List.append_nil, List.replicate_succ, List.replicate_zero, Nat.reduceAdd, Nat.reduceSub, List.getElem?_cons_zero, List.getElem?_cons_succ, List.set_cons_zero, List.set_cons_succ, aAt_0, aAt_1, aAt_2, aEq_int, aNe_int, aEq_t2, aNe_t2, aNe_ni, aNe_in, aNe_nn, aIx_t, aIx_l, aAdd_int, aSub_int, aMul_int, aMod_int, aFdiv_int, aCmp_int, aIs_n, aIsNot_n, aIsNot_b, tr_bl, tr_lst, isi_ii, isi_ib, isi_tt, aInt_int, aAbs_int, aLen_tup, aLen_lst, isN, sizeLine_eq, Nat.reduceLeDiff, ↓reduceIte, decide_true, decide_false, eq_self, if_true, Bool.false_eq_true, Bool.not_true, Bool.not_false, Bool.true_and, Bool.and_true, Bool.false_and, Bool.and_false, *])
/-- the bag at the cell c, after at most n draws -/
def Bag (n : Nat) (h : AHeap) (c : Nat) : Prop := ∃ (C : List AV) (T r : Int), h[c]? = some (some (.lst [.lst C, .int T, .int r])) ∧ C ≠ [] ∧ (∀ v ∈ C, ∃ x, v = .int x ∧ 0 ≤ x) ∧ 0 ≤ T ∧ T ≤ n ∧ 0 ≤ r
theorem Bag.more {n m : Nat} {h : AHeap} {c : Nat} (b : Bag n h c) (hm : n ≤ m) : Bag m h c := by
  obtain ⟨C, T, r, e, h1, h2, h3, h4, h5⟩ := b
  exact ⟨C, T, r, e, h1, h2, h3, by omega, h5⟩
theorem Bag.lt {n : Nat} {h : AHeap} {c : Nat} (b : Bag n h c) : c < h.length := by
  obtain ⟨C, T, r, e, _⟩ := b
  exact (List.getElem?_eq_some_iff.mp e).1
theorem set_at {h : AHeap} {c : Nat} {x : Option MO} (hc : c < h.length) : (h.set c x)[c]? = some x := List.getElem?_set_self hc
theorem mod_at {C : List AV} (hC : C ≠ []) (all : ∀ v ∈ C, ∃ x, v = .int x ∧ 0 ≤ x) (T : Int) : ((C.length : Int) ≠ 0) ∧ ∃ x, aAt C (T.fmod (C.length : Int)) = some (.int x) ∧ 0 ≤ x := by
  have l0 : 0 < C.length := List.length_pos_iff.mpr hC
  refine ⟨by omega, ?_⟩
  rw [fmod_pos (show 0 < (C.length : Int) by omega)]
  have r0 := Int.emod_nonneg T (show (C.length : Int) ≠ 0 by omega)
  have r1 := Int.emod_lt_of_pos T (show 0 < (C.length : Int) by omega)
  obtain ⟨k, hk⟩ := Int.eq_ofNat_of_zero_le r0
  have hk2 : k < C.length := by omega
  obtain ⟨x, hx, h0⟩ := all C[k] (List.getElem_mem hk2)
  exact ⟨x, by rw [hk]; exact aAt_nat (by rw [List.getElem?_eq_getElem hk2, hx]), h0⟩
theorem draw_ev {n : Nat} {h : AHeap} {c : Nat} {L : Int} (b : Bag n h c) (hn : n < 1000) (hL : 0 < L) (sL : Sm L) : ∃ v X, F__law_draw [.ref c, .int L] h = .ok (.int v) (h.set c X) ∧ 0 ≤ v ∧ v < L ∧ Bag (n + 1) (h.set c X) c := by
  have hc := b.lt
  obtain ⟨C, T, r, e, h1, h2, h3, h4, h5⟩ := b
  have nL : ¬ L = 0 := by omega
  have fL : ∀ x : Int, x.fmod L = x % L := fun x => fmod_pos hL
  have dL : ∀ x : Int, divOk x L = true := fun x => div_sm nL sL
  have qL : ∀ x : Int, x.fdiv L = x / L := fun x => fdiv_pos hL
  by_cases r0 : 0 < r
  · have r1 : decide (0 < r) = true := by simpa using r0
    have g2 : aIx (.ref c) (.int 2) h = some (.int r) := by
      unfold aIx getL
      dsimp only
      rw [e]
      exact aAt_2
    refine ⟨r % L, some (.lst [.lst C, .int T, .int (r / L)]), ?_, Int.emod_nonneg _ nL, Int.emod_lt_of_pos _ hL, C, T, r / L, set_at hc, h1, h2, h3, by omega, Int.ediv_nonneg h5 (by omega)⟩
    unfold F__law_draw m__law_draw
    clear h1 h2 h3 h4 h5 hL sL hn hc
    walk_at "ev"
  · have r1 : decide (0 < r) = false := by simpa using r0
    have g2 : aIx (.ref c) (.int 2) h = some (.int r) := by
      unfold aIx getL
      dsimp only
      rw [e]
      exact aAt_2
    have g1 : aIx (.ref c) (.int 1) h = some (.int T) := by
      unfold aIx getL
      dsimp only
      rw [e]
      exact aAt_1
    have e2 : (h.set c (some (.lst [.lst C, .int (T + 1), .int r])))[c]? = some (some (.lst [.lst C, .int (T + 1), .int r])) := set_at hc
    have g0 : aIx (.ref c) (.int 0) (h.set c (some (.lst [.lst C, .int (T + 1), .int r]))) = some (.lst C) := by
      unfold aIx getL
      dsimp only
      rw [e2]
      exact aAt_0
    obtain ⟨l0, x, ex, x0⟩ := mod_at h1 h2 T
    have g3 : ∀ h, aIx (.lst C) (.int (T.fmod (C.length : Int))) h = some (.int x) := fun h => ex
    by_cases z : T < (C.length : Int) ∧ 1000000000000000000 ≤ x
    · have z1 : decide (T < (C.length : Int)) = true := by simpa using z.1
      have z2 : decide (1000000000000000000 ≤ x) = true := by simpa using z.2
      refine ⟨x % L, some (.lst [.lst C, .int (T + 1), .int (x / L)]), ?_, Int.emod_nonneg _ nL, Int.emod_lt_of_pos _ hL, C, T + 1, x / L, set_at hc, h1, h2, by omega, by omega, Int.ediv_nonneg x0 (by omega)⟩
      unfold F__law_draw m__law_draw
      clear h1 h2 h3 h4 h5 hL sL hn hc x0 z
      walk_at "ev"
    · have m1 : mulOk (x + 17) 48271 = true := mul_r (by decide) (by decide)
      have m2 : mulOk T T = true := mul_l (by omega) (by omega)
      have m3 : mulOk (T * T) 7919 = true := mul_r (by decide) (by decide)
      have m4 : mulOk T 104729 = true := mul_r (by decide) (by decide)
      have m5 : ∀ y, mulOk y 69621 = true := fun y => mul_r (by decide) (by decide)
      have m6 : mulOk (T + 3) 40692 = true := mul_r (by decide) (by decide)
      have m7 : ∀ y, divOk y 8 = true := fun y => div_sm (by decide) (sm_small (by decide) (by decide))
      have k1 : ¬ ((2147483647 : Int) = 0) := by decide
      have k2 : ¬ ((2147483399 : Int) = 0) := by decide
      let m : Int := (((x + 17) * 48271 + T * T * 7919 + T * 104729).fmod 2147483647 * 69621 + (T + 3) * 40692).fmod 2147483399
      refine ⟨(m.fdiv 8) % L, some (.lst [.lst C, .int (T + 1), .int r]), ?_, Int.emod_nonneg _ nL, Int.emod_lt_of_pos _ hL, C, T + 1, r, set_at hc, h1, h2, by omega, by omega, h5⟩
      unfold F__law_draw m__law_draw
      by_cases z3 : T < (C.length : Int)
      · have z1 : decide (T < (C.length : Int)) = true := by simpa using z3
        have z2 : decide (1000000000000000000 ≤ x) = false := by
          rw [decide_eq_false_iff_not]
          exact fun w => z ⟨z3, w⟩
        clear h1 h2 h3 h4 h5 hL sL hn hc x0 z z3
        walk_at "ev"
        rfl
      · have z1 : decide (T < (C.length : Int)) = false := by simpa using z3
        clear h1 h2 h3 h4 h5 hL sL hn hc x0 z z3
        walk_at "ev"
        rfl
theorem wide_ev {n : Nat} {h : AHeap} {c : Nat} (b : Bag n h c) (hn : n < 900) : ∃ v X, F__law_wide [.ref c] h = .ok (.int v) (h.set c X) ∧ v.natAbs < 2 ^ 100 ∧ Bag (n + 3) (h.set c X) c := by
  obtain ⟨k, X, q1, k0, k4, b1⟩ := draw_ev (L := 4) b (by omega) (by decide) (sm_small (by decide) (by decide))
  have step : ∀ L : Int, 0 < L → L ≤ 1000000000000000000000000000000 → ∃ v Y w Z, F__law_draw [.ref c, .int L] (h.set c X) = .ok (.int v) (h.set c Y) ∧ F__law_draw [.ref c, .int 2] (h.set c Y) = .ok (.int w) (h.set c Z) ∧ v.natAbs < 2 ^ 100 ∧ Bag (n + 3) (h.set c Z) c := by
    intro L h0 h1
    obtain ⟨v, Y, q2, v0, v1, b2⟩ := draw_ev (L := L) b1 (by omega) h0 (sm_of (n := 100) (by omega) (by decide))
    obtain ⟨w, Z, q3, w0, w1, b3⟩ := draw_ev (L := 2) b2 (by omega) (by decide) (sm_small (by decide) (by decide))
    simp only [List.set_set] at q2 q3 b3
    exact ⟨v, Y, w, Z, q2, q3, by omega, b3⟩
  unfold F__law_wide m__law_wide
  by_cases c0 : k = 0
  · have c1 : (k == 0) = true := by simpa using c0
    obtain ⟨v, Y, w, Z, q2, q3, hv, hb⟩ := step 1000000000000000000000000000000 (by decide) (by decide)
    by_cases d0 : w = 1
    · have d1 : (w == 1) = true := by simpa using d0
      refine ⟨0 - v, Z, ?_, by omega, hb⟩
      clear hb hv step b1 b hn c0 d0 k0 k4
      walk_at "ev"
    · have d1 : (w == 1) = false := by simpa using d0
      refine ⟨v, Z, ?_, by omega, hb⟩
      clear hb hv step b1 b hn c0 d0 k0 k4
      walk_at "ev"
  · have c1 : (k == 0) = false := by simpa using c0
    by_cases c2 : k = 1
    · have c3 : (k == 1) = true := by simpa using c2
      obtain ⟨v, Y, w, Z, q2, q3, hv, hb⟩ := step 1000000 (by decide) (by decide)
      by_cases d0 : w = 1
      · have d1 : (w == 1) = true := by simpa using d0
        refine ⟨0 - v, Z, ?_, by omega, hb⟩
        clear hb hv step b1 b hn c0 c2 d0 k0 k4
        walk_at "ev"
      · have d1 : (w == 1) = false := by simpa using d0
        refine ⟨v, Z, ?_, by omega, hb⟩
        clear hb hv step b1 b hn c0 c2 d0 k0 k4
        walk_at "ev"
    · have c3 : (k == 1) = false := by simpa using c2
      obtain ⟨v, Y, w, Z, q2, q3, hv, hb⟩ := step 12 (by decide) (by decide)
      by_cases d0 : w = 1
      · have d1 : (w == 1) = true := by simpa using d0
        refine ⟨0 - v, Z, ?_, by omega, hb⟩
        clear hb hv step b1 b hn c0 c2 d0 k0 k4
        walk_at "ev"
      · have d1 : (w == 1) = false := by simpa using d0
        refine ⟨v, Z, ?_, by omega, hb⟩
        clear hb hv step b1 b hn c0 c2 d0 k0 k4
        walk_at "ev"
end W

set_option maxRecDepth 100000
set_option maxHeartbeats 4000000
namespace W
open PySem PySem.Spec L2 Mi
local macro_rules | `(tactic| walk_at "ev") => `(tactic| simp only [noX, fnOf, mSeq, mNext, mAsg, gNm, mIfS, mTst, mTru, mOp, mUn, mVar, mC, mCons, mNil, mTup, mLst, mRet, mCall, mMeth, mCB, mIf, mAnd, mOr, mNot, mAndV, mOrV, mNotV, mNotT, mPar, mDrop, mLstC, ixN3_1, ixN3_2, pow18, pow30, pow6, List.set_set, gTp, gsCons, gsNil, mSetAt, mSetIx, mApp, mExt, mFrz, mChain, mFor, iSq, frzL, forL, at_f0, List.map_cons, List.map_nil, List.length_cons, List.length_nil, List.cons_append, List.nil_append, List.append_nil, List.replicate_succ, List.replicate_zero, Nat.reduceAdd, Nat.reduceSub, List.getElem?_cons_zero, List.getElem?_cons_succ, List.set_cons_zero, List.set_cons_succ, aAt_0, aAt_1, aAt_2, aEq_int, aNe_int, aEq_t2, aNe_t2, aNe_ni, aNe_in, aNe_nn, aIx_t, aIx_l, aAdd_int, aSub_int, aMul_int, aMod_int, aFdiv_int, aCmp_int, aIs_n, aIsNot_n, aIsNot_b, tr_bl, tr_lst, isi_ii, isi_ib, isi_tt, aInt_int, aAbs_int, aLen_tup, aLen_lst, isN, sizeLine_eq, Nat.reduceLeDiff, ↓reduceIte, decide_true, decide_false, eq_self, if_true, Bool.false_eq_true, Bool.not_true, Bool.not_false, Bool.true_and, Bool.and_true, Bool.false_and, Bool.and_false, *])
theorem cut63 (l : List AV) (hl : l.length ≤ 63) : cutA l none (some 63) = l := by
  unfold cutA
  rw [HT.sIx_none, show (63 : Int) = ((63 : Nat) : Int) from rfl, HT.sIx_nat, List.drop_zero, Nat.sub_zero, List.take_of_length_le (by omega)]
theorem bag_ev (ns : List Int) (hn : ns.length ≤ 63) : ∃ X, F__law_bag [.lstR (ns.map .int)] [] = .ok (.ref 0) [X] ∧ Bag 0 [X] 0 := by
  have ei : (iSq (mSl (mVar 0) oNone (oSome (mC (.int 63))))) [some (.lstR (ns.map .int)), none, none] [] = .ok (ns.map .int) [] := by
    simp only [iSq, mSl, mVar, List.getElem?_cons_zero, oNone, oSome, mC, aSl, getL, isT, Bool.false_eq_true, ↓reduceIte, cut63 (ns.map AV.int) (by rw [List.length_map]; exact hn), frzL]
  have lc := mLc_pure (own := [2]) (g := gNm 2) (tt := mYes) (e := e0__law_bag) ei (fun _ => true) (fun v => match v with
      | .int i => .int (i.natAbs : Int)
      | v => v) (by
    intro x hx acc
    obtain ⟨i, _, rfl⟩ := List.mem_map.mp hx
    refine ⟨_, rfl, rfl, fun _ => ?_⟩
    unfold e0__law_bag
    simp only [mCB, mCons, mNil, mVar, wipeA, List.set_cons_succ, List.set_cons_zero, List.getElem?_cons_succ, List.getElem?_cons_zero, aAbs_int]) (by
    intro x hx _
    obtain ⟨i, _, rfl⟩ := List.mem_map.mp hx
    rfl) (by rw [List.length_map, sizeLine_eq]; omega)
  have all : ∀ v ∈ ((ns.map AV.int).filter fun _ => true).map (fun v => match v with
      | .int i => .int (i.natAbs : Int)
      | v => v), ∃ x, v = AV.int x ∧ 0 ≤ x := by
    intro v hv
    obtain ⟨x, hx, rfl⟩ := List.mem_map.mp hv
    obtain ⟨i, _, rfl⟩ := List.mem_map.mp (List.mem_filter.mp hx).1
    exact ⟨_, rfl, by omega⟩
  generalize ((ns.map AV.int).filter fun _ => true).map (fun v => match v with
      | .int i => AV.int (i.natAbs : Int)
      | v => v) = C at lc all
  unfold F__law_bag m__law_bag
  by_cases z : C = []
  · subst z
    have z2 : ((0 : Int) == 0) = true := rfl
    refine ⟨some (.lst [.lst [.int 5], .int 0, .int 0]), ?_, [.int 5], 0, 0, rfl, by simp, ?_, by omega, by omega, by omega⟩
    · have e0 : (([] : List AV).length : Int) = 0 := rfl
      simp only [List.length_nil] at e0
      clear all ei
      walk_at "ev"
    · intro v hv
      have : v = .int 5 := by simpa using hv
      exact ⟨5, this, by decide⟩
  · have z1 : ((C.length : Int) == 0) = false := by
      have := List.length_pos_iff.mpr z
      rw [beq_eq_false_iff_ne]
      omega
    refine ⟨some (.lst [.lst C, .int 0, .int 0]), ?_, C, 0, 0, rfl, z, all, by omega, by omega, by omega⟩
    clear all ei z
    walk_at "ev"
end W

set_option maxRecDepth 100000
set_option maxHeartbeats 4000000
namespace W
open PySem PySem.Spec L2 Mi
local macro_rules | `(tactic| walk_at "ev") => `(tactic| simp only [noX, fnOf, mSeq, mNext, mAsg, gNm, mIfS, mTst, mTru, mOp, mUn, mVar, mC, mCons, mNil, mTup, mLst, mRet, mCall, mMeth, mCB, mIf, mAnd, mOr, mNot, mAndV, mOrV, mNotV, mNotT, mPar, mDrop, mLstC, ixN3_1, ixN3_2, pow18, pow30, pow6, List.set_set, gTp, gsCons, gsNil, mSetAt, mSetIx, mApp, mExt, mFrz, mChain, mFor, iSq, frzL, forL, at_f0, List.map_cons, List.map_nil, List.length_cons, List.length_nil, List.cons_append, List.nil_append, List.append_nil, List.replicate_succ, List.replicate_zero, Nat.reduceAdd, Nat.reduceSub, List.getElem?_cons_zero, List.getElem?_cons_succ, List.set_cons_zero, List.set_cons_succ, aAt_0, aAt_1, aAt_2, aEq_int, aNe_int, aEq_t2, aNe_t2, aNe_ni, aNe_in, aNe_nn, aIx_t, aIx_l, aAdd_int, aSub_int, aMul_int, aMod_int, aFdiv_int, aCmp_int, aIs_n, aIsNot_n, aIsNot_b, tr_bl, tr_lst, isi_ii, isi_ib, isi_tt, aInt_int, aAbs_int, aLen_tup, aLen_lst, isN, sizeLine_eq, Nat.reduceLeDiff, ↓reduceIte, decide_true, decide_false, eq_self, if_true, Bool.false_eq_true, Bool.not_true, Bool.not_false, Bool.true_and, Bool.and_true, Bool.false_and, Bool.and_false, *])
/-- a number of the field of p -/
def NUM (p : Int) (a b : Int) : Prop := (p = 0 ∧ N0 a b) ∨ (p ∈ primes ∧ Np p a ∧ b = 1)
/-- what a field's number is told to be -/
abbrev ISN (p : Int) (u : AV) : Prop := ∀ h, F__law_is_number [.int p, u] h = .ok (.bl true) h
def fv (p : Int) : AV := if p = 0 then fld .non else fld (.int p)
theorem fv0 : fv 0 = fld .non := rfl
theorem fvp {p : Int} (hp : p ∈ primes) : fv p = fld (.int p) := if_neg (pr_ne hp)
/-- a pair of whole numbers -/
def PA (u : AV) : Prop := ∃ a b, u = pA (a, b)
theorem isn_rt (t : Int) {b : Int} (hb : 0 < b) : ISN 0 (rat t b) := fun h => is_number_ev _ _ h (rt_pos t hb) (rt_gcd t hb)
theorem isn_mk (t : Int) {b : Int} (hb : b ≠ 0) : ISN 0 (mk t b) := by
  unfold mk
  split
  · exact isn_rt _ (by omega)
  · exact isn_rt _ (by omega)
theorem pa_rt (t b : Int) : PA (rat t b) := ⟨_, _, rfl⟩
theorem pa_mk (t b : Int) : PA (mk t b) := by
  unfold mk
  split <;> exact pa_rt _ _
section
variable {p a b c d : Int}
theorem NUM.isn (x : NUM p a b) : ISN p (.tup [.int a, .int b]) := by
  rcases x with ⟨rfl, x⟩ | ⟨hp, x, rfl⟩
  · exact fun h => is_number_ev a b h x.1 x.2.1
  · exact fun h => isn_p hp x h
theorem NUM.holds (x : NUM p a b) (h : AHeap) : F_Field_holds [fv p, .tup [.int a, .int b]] h = .ok (.bl true) h := by
  rcases x with ⟨rfl, x⟩ | ⟨hp, x, rfl⟩
  · exact fn_holds0 h x.1 x.2.1
  · rw [fvp hp]
    exact fn_holds_p hp x h
theorem NUM.neg (x : NUM p a b) : ∃ u, ISN p u ∧ PA u ∧ (∀ h, F_Field_negative [fv p, .tup [.int a, .int b]] h = .ok u h) ∧ ∀ h, F__law_minus [.int p, .tup [.int 0, .int 1], .tup [.int a, .int b]] h = .ok u h := by
  rcases x with ⟨rfl, x⟩ | ⟨hp, x, rfl⟩
  · refine ⟨.tup [.int (0 - a), .int b], fun h => is_number_ev _ _ h x.neg.1 x.neg.2.1, ⟨_, _, rfl⟩, fun h => fn_negative0 h, fun h => ?_⟩
    rw [law_minus_ev N0.z1 x h, Int.zero_mul, Int.mul_one, Int.one_mul, rat_pA, rt_self x.neg.2.1]
    rfl
  · rw [fvp hp]
    exact ⟨_, isn_p hp (np_mod hp _), ⟨_, _, rfl⟩, fun h => fn_negative_p hp h, fun h => law_minus_p hp ⟨by decide, by have := pr_rng p hp; omega⟩ h⟩
theorem NUM.plus (x : NUM p a b) (y : NUM p c d) : ∃ u, ISN p u ∧ PA u ∧ (∀ h, F_Field_plus [fv p, .tup [.int a, .int b], .tup [.int c, .int d]] h = .ok u h) ∧ ∀ h, F__law_plus [.int p, .tup [.int a, .int b], .tup [.int c, .int d]] h = .ok u h := by
  rcases x with ⟨rfl, x⟩ | ⟨hp, x, rfl⟩
  · rcases y with ⟨_, y⟩ | ⟨hp, _, _⟩
    · exact ⟨_, isn_rt _ (p_bd x y), pa_rt _ _, fun h => fn_plus0 h x y, fun h => law_plus_ev x y h⟩
    · exact absurd rfl (pr_ne hp)
  · rcases y with ⟨rfl, _⟩ | ⟨_, y, rfl⟩
    · exact absurd rfl (pr_ne hp)
    · rw [fvp hp]
      exact ⟨_, isn_p hp (np_mod hp _), ⟨_, _, rfl⟩, fun h => fn_plus_p hp h, fun h => law_plus_p hp h⟩
theorem NUM.minus (x : NUM p a b) (y : NUM p c d) : ∃ u, ISN p u ∧ PA u ∧ (∀ h, F_Field_minus [fv p, .tup [.int a, .int b], .tup [.int c, .int d]] h = .ok u h) ∧ ∀ h, F__law_minus [.int p, .tup [.int a, .int b], .tup [.int c, .int d]] h = .ok u h := by
  rcases x with ⟨rfl, x⟩ | ⟨hp, x, rfl⟩
  · rcases y with ⟨_, y⟩ | ⟨hp, _, _⟩
    · exact ⟨_, isn_rt _ (p_bd x y), pa_rt _ _, fun h => fn_minus0 h x y, fun h => law_minus_ev x y h⟩
    · exact absurd rfl (pr_ne hp)
  · rcases y with ⟨rfl, _⟩ | ⟨_, y, rfl⟩
    · exact absurd rfl (pr_ne hp)
    · rw [fvp hp]
      exact ⟨_, isn_p hp (np_mod hp _), ⟨_, _, rfl⟩, fun h => fn_minus_p hp h, fun h => law_minus_p hp x h⟩
theorem NUM.times (x : NUM p a b) (y : NUM p c d) : ∃ u, ISN p u ∧ PA u ∧ (∀ h, F_Field_times [fv p, .tup [.int a, .int b], .tup [.int c, .int d]] h = .ok u h) ∧ ∀ h, F__law_times [.int p, .tup [.int a, .int b], .tup [.int c, .int d]] h = .ok u h := by
  rcases x with ⟨rfl, x⟩ | ⟨hp, x, rfl⟩
  · rcases y with ⟨_, y⟩ | ⟨hp, _, _⟩
    · exact ⟨_, isn_rt _ (p_bd x y), pa_rt _ _, fun h => fn_times0 h x y, fun h => law_times_ev x y h⟩
    · exact absurd rfl (pr_ne hp)
  · rcases y with ⟨rfl, _⟩ | ⟨_, y, rfl⟩
    · exact absurd rfl (pr_ne hp)
    · rw [fvp hp]
      exact ⟨_, isn_p hp (np_mod hp _), ⟨_, _, rfl⟩, fun h => fn_times_p hp x h, fun h => law_times_p hp x h⟩
theorem NUM.over (x : NUM p a b) (y : NUM p c d) (hc : c ≠ 0) : ∃ u, ISN p u ∧ PA u ∧ (∀ h, F_Field_over [fv p, .tup [.int a, .int b], .tup [.int c, .int d]] h = .ok u h) ∧ ∀ h, F__law_over [.int p, .tup [.int a, .int b], .tup [.int c, .int d]] h = .ok u h := by
  rcases x with ⟨rfl, x⟩ | ⟨hp, x, rfl⟩
  · rcases y with ⟨_, y⟩ | ⟨hp, _, _⟩
    · exact ⟨_, isn_mk _ (Int.mul_ne_zero (by have := x.1; omega) hc), pa_mk _ _, fun h => fn_over0 h x y hc, fun h => law_over_ev x y h hc⟩
    · exact absurd rfl (pr_ne hp)
  · rcases y with ⟨rfl, _⟩ | ⟨_, y, rfl⟩
    · exact absurd rfl (pr_ne hp)
    · rw [fvp hp]
      obtain ⟨i, _, q1, q2⟩ := over_p hp x y hc
      exact ⟨_, isn_p hp (np_mod hp _), ⟨_, _, rfl⟩, q2, q1⟩
end
theorem N0.of_mk {t b : Int} (hb : b ≠ 0) (ht : t.natAbs < 2 ^ 100) (hb2 : b.natAbs < 2 ^ 100) : ∃ a d, mk t b = .tup [.int a, .int d] ∧ N0 a d := by
  unfold mk
  split
  · have := rt_1 (0 - t) (b := 0 - b) (by omega)
    have := rt_2 (0 - t) (b := 0 - b) (by omega)
    exact ⟨_, _, rfl, rt_pos (0 - t) (b := 0 - b) (by omega), rt_gcd (0 - t) (b := 0 - b) (by omega), by show (rt (0 - t) (0 - b)).1.natAbs < _; omega, by show (rt (0 - t) (0 - b)).2.natAbs < _; omega⟩
  · have := rt_1 t (b := b) (by omega)
    have := rt_2 t (b := b) (by omega)
    exact ⟨_, _, rfl, rt_pos t (b := b) (by omega), rt_gcd t (b := b) (by omega), by show (rt t b).1.natAbs < _; omega, by show (rt t b).2.natAbs < _; omega⟩
/-- p is a field's -/
def Fld (p : Int) : Prop := p = 0 ∨ p ∈ primes
theorem number_ev {p t b : Int} (hp : Fld p) (ht : t.natAbs < 2 ^ 100) (hb2 : b.natAbs < 2 ^ 100) (h0 : p = 0 → b ≠ 0) (h1 : p ∈ primes → b % p ≠ 0) : ∃ a d, NUM p a d ∧ (∀ h, F__law_make [.int p, .int t, .int b] h = .ok (.tup [.int a, .int d]) h) ∧ (∀ h, F_Field_number [fv p, .int t, .int b] h = .ok (.tup [.int a, .int d]) h) ∧ (p = 0 → ∀ h, F_make_ratio [.int t, .int b] h = .ok (.tup [.int a, .int d]) h) := by
  rcases hp with rfl | hp
  · have sb : Sm b := sm_b hb2 (by decide)
    have nb := h0 rfl
    obtain ⟨a, d, e, n⟩ := N0.of_mk nb ht hb2
    refine ⟨a, d, .inl ⟨rfl, n⟩, fun h => ?_, fun h => ?_, fun _ h => ?_⟩
    · rw [law_make0 t b h nb sb, e]
    · rw [fv0, fn_number0 h t b nb sb, e]
    · rw [make_ratio_ev t b h nb sb, e]
  · obtain ⟨i, q1, q2⟩ := number_p hp t b (h1 hp)
    rw [fvp hp]
    exact ⟨_, _, .inr ⟨hp, np_mod hp _, rfl⟩, q1, q2, fun z => absurd z (pr_ne hp)⟩
end W

set_option maxRecDepth 100000
set_option maxHeartbeats 4000000
namespace W
open PySem PySem.Spec L2 Mi
local macro_rules | `(tactic| walk_at "ev") => `(tactic| simp only [noX, fnOf, mSeq, mNext, mAsg, gNm, mIfS, mTst, mTru, mOp, mUn, mVar, mC, mCons, mNil, mTup, mLst, mRet, mCall, mMeth, mCB, mIf, mAnd, mOr, mNot, mAndV, mOrV, mNotV, mNotT, mPar, mDrop, isLc, mYes, beq_self_eq_true, mLstC, ixN3_1, ixN3_2, pow18, pow30, pow6, List.set_set, gTp, gsCons, gsNil, mSetAt, mSetIx, mApp, mExt, mFrz, mChain, mFor, iSq, frzL, forL, at_f0, List.map_cons, List.map_nil, List.length_cons, List.length_nil, List.cons_append, List.nil_append, List.append_nil, List.replicate_succ, List.replicate_zero, Nat.reduceAdd, Nat.reduceSub, List.getElem?_cons_zero, List.getElem?_cons_succ, List.set_cons_zero, List.set_cons_succ, aAt_0, aAt_1, aAt_2, aEq_int, aNe_int, aEq_t2, aNe_t2, aNe_ni, aNe_in, aNe_nn, aIx_t, aIx_l, aAdd_int, aSub_int, aMul_int, aMod_int, aFdiv_int, aCmp_int, aIs_n, aIsNot_n, aIsNot_b, tr_bl, tr_lst, isi_ii, isi_ib, isi_tt, aInt_int, aAbs_int, aLen_tup, aLen_lst, isN, sizeLine_eq, Nat.reduceLeDiff, ↓reduceIte, decide_true, decide_false, eq_self, if_true, Bool.false_eq_true, Bool.not_true, Bool.not_false, Bool.true_and, Bool.and_true, Bool.false_and, Bool.and_false, *])
def le2 (x y : Int × Int) : Prop := x.1 * y.2 ≤ y.1 * x.2
abbrev N2 (x : Int × Int) : Prop := N0 x.1 x.2
theorem le2_trans {x y z : Int × Int} (hy : N2 y) (hx : N2 x) (hz : N2 z) (h1 : le2 x y) (h2 : le2 y z) : le2 x z := by
  unfold le2 at *
  have a1 : x.1 * y.2 * z.2 ≤ y.1 * x.2 * z.2 := Int.mul_le_mul_of_nonneg_right h1 (by have := hz.1; omega)
  have a2 : y.1 * z.2 * x.2 ≤ z.1 * y.2 * x.2 := Int.mul_le_mul_of_nonneg_right h2 (by have := hx.1; omega)
  have e1 : x.1 * y.2 * z.2 = x.1 * z.2 * y.2 := by rw [Int.mul_assoc, Int.mul_comm y.2, ← Int.mul_assoc]
  have e2 : y.1 * x.2 * z.2 = y.1 * z.2 * x.2 := by rw [Int.mul_assoc, Int.mul_comm x.2, ← Int.mul_assoc]
  have e3 : z.1 * y.2 * x.2 = z.1 * x.2 * y.2 := by rw [Int.mul_assoc, Int.mul_comm y.2, ← Int.mul_assoc]
  exact Int.le_of_mul_le_mul_right (a := y.2) (by omega) hy.1
theorem cmp_neg {l r : Int} : decide (cmp3 l r < 0) = decide (l < r) := by
  unfold cmp3
  by_cases h : l < r
  · rw [if_pos h, decide_eq_true h]
    rfl
  · rw [if_neg h, decide_eq_false h]
    split <;> rfl
theorem cmp_pos {l r : Int} : decide (0 < cmp3 l r) = decide (r < l) := by
  unfold cmp3
  by_cases h : l < r
  · rw [if_pos h, decide_eq_false (show ¬ r < l by omega)]
    rfl
  · rw [if_neg h]
    by_cases q : r < l
    · rw [if_pos q, decide_eq_true q]
      rfl
    · rw [if_neg q, decide_eq_false q]
      rfl
theorem least_ev {l : List (Int × Int)} (hl : l ≠ []) (all : ∀ x ∈ l, N2 x) (h : AHeap) : ∃ m ∈ l, (∀ x ∈ l, le2 m x) ∧ F_least_ratio [.lst (l.map pA)] h = .ok (pA m) h := by
  obtain ⟨x0, l0, e0⟩ : ∃ x r, l = x :: r := by
    cases l with
    | nil => exact absurd rfl hl
    | cons x r => exact ⟨x, r, rfl⟩
  have m0 : x0 ∈ l := by rw [e0]; exact List.mem_cons_self
  obtain ⟨ρ', h', e, ⟨done, rest, m, z, el, er, hρ, hm, hle⟩, hh⟩ := mFor_run (it := iSq (mVar 0)) (g := gNm 2) (b := b0_least_ratio) (ρ := [some (.lst (l.map pA)), some (pA x0), none]) (h := h) (h1 := h) (l := l.map pA)
    (I := fun t ρ k => (∃ (done rest : List (Int × Int)) (m : Int × Int) (z : Option AV), l = done ++ rest ∧ t = rest.map pA ∧ ρ = [some (.lst (l.map pA)), some (pA m), z] ∧ m ∈ l ∧ ∀ x ∈ done, le2 m x) ∧ k = h) rfl
    ⟨⟨[], l, x0, none, rfl, rfl, rfl, m0, fun x hx => by cases hx⟩, rfl⟩
    (by
      rintro d t ρ k ⟨⟨done, rest, m, z, el, er, rfl, hm, hle⟩, rfl⟩
      cases rest with
      | nil => cases er
      | cons y rest =>
        rw [List.map_cons] at er
        cases er
        have hy : y ∈ l := by rw [el]; simp
        have q := fun h => compare_ev (all y hy) (all m hm) h
        by_cases c : y.1 * m.2 < m.1 * y.2
        · refine ⟨[some (.lst (l.map pA)), some (pA y), some (pA y)], k, ⟨[some (.lst (l.map pA)), some (pA m), some (pA y)], k, rfl, .inl ?_⟩, ⟨done ++ [y], rest, y, some (pA y), by rw [List.append_assoc]; exact el, rfl, rfl, hy, fun x hx => ?_⟩, rfl⟩
          · have c1 := @cmp_neg (y.1 * m.2) (m.1 * y.2)
            rw [decide_eq_true c] at c1
            unfold b0_least_ratio pA
            clear c el
            walk_at "ev"
          · rcases List.mem_append.mp hx with q | q
            · exact le2_trans (all m hm) (all y hy) (all x (by rw [el]; exact List.mem_append.mpr (.inl q))) (by unfold le2; omega) (hle x q)
            · have : x = y := by simpa using q
              subst this
              unfold le2
              omega
        · refine ⟨[some (.lst (l.map pA)), some (pA m), some (pA y)], k, ⟨[some (.lst (l.map pA)), some (pA m), some (pA y)], k, rfl, .inl ?_⟩, ⟨done ++ [y], rest, m, some (pA y), by rw [List.append_assoc]; exact el, rfl, rfl, hm, fun x hx => ?_⟩, rfl⟩
          · have c1 := @cmp_neg (y.1 * m.2) (m.1 * y.2)
            rw [decide_eq_false c] at c1
            unfold b0_least_ratio pA
            clear c el
            walk_at "ev"
          · rcases List.mem_append.mp hx with q | q
            · exact hle x q
            · have : x = y := by simpa using q
              subst this
              unfold le2
              omega)
  have hr : rest = [] := by
    cases rest with
    | nil => rfl
    | cons y r => cases er
  subst hr hh hρ
  rw [List.append_nil] at el
  refine ⟨m, hm, fun x hx => hle x (by rw [← el]; exact hx), ?_⟩
  have i0 : ∀ h, aIx (.lst (l.map pA)) (.int 0) h = some (pA x0) := fun h => by
    rw [e0, List.map_cons, aIx_l, aAt_0]
  unfold F_least_ratio m_least_ratio
  simp only [noX, fnOf, mSeq, mAsg, gNm, mOp, mVar, mC, mRet, List.map_cons, List.map_nil, List.length_cons, List.length_nil, List.cons_append, List.nil_append, List.replicate_succ, List.replicate_zero, Nat.reduceAdd, Nat.reduceSub, List.getElem?_cons_zero, List.getElem?_cons_succ, List.set_cons_zero, List.set_cons_succ, i0, e]
theorem greatest_ev {l : List (Int × Int)} (hl : l ≠ []) (all : ∀ x ∈ l, N2 x) (h : AHeap) : ∃ m ∈ l, (∀ x ∈ l, le2 x m) ∧ F_greatest_ratio [.tup (l.map pA)] h = .ok (pA m) h := by
  obtain ⟨x0, l0, e0⟩ : ∃ x r, l = x :: r := by
    cases l with
    | nil => exact absurd rfl hl
    | cons x r => exact ⟨x, r, rfl⟩
  have m0 : x0 ∈ l := by rw [e0]; exact List.mem_cons_self
  obtain ⟨ρ', h', e, ⟨done, rest, m, z, el, er, hρ, hm, hle⟩, hh⟩ := mFor_run (it := iSq (mVar 0)) (g := gNm 2) (b := b0_greatest_ratio) (ρ := [some (.tup (l.map pA)), some (pA x0), none]) (h := h) (h1 := h) (l := l.map pA)
    (I := fun t ρ k => (∃ (done rest : List (Int × Int)) (m : Int × Int) (z : Option AV), l = done ++ rest ∧ t = rest.map pA ∧ ρ = [some (.tup (l.map pA)), some (pA m), z] ∧ m ∈ l ∧ ∀ x ∈ done, le2 x m) ∧ k = h) rfl
    ⟨⟨[], l, x0, none, rfl, rfl, rfl, m0, fun x hx => by cases hx⟩, rfl⟩
    (by
      rintro d t ρ k ⟨⟨done, rest, m, z, el, er, rfl, hm, hle⟩, rfl⟩
      cases rest with
      | nil => cases er
      | cons y rest =>
        rw [List.map_cons] at er
        cases er
        have hy : y ∈ l := by rw [el]; simp
        have q := fun h => compare_ev (all y hy) (all m hm) h
        by_cases c : m.1 * y.2 < y.1 * m.2
        · refine ⟨[some (.tup (l.map pA)), some (pA y), some (pA y)], k, ⟨[some (.tup (l.map pA)), some (pA m), some (pA y)], k, rfl, .inl ?_⟩, ⟨done ++ [y], rest, y, some (pA y), by rw [List.append_assoc]; exact el, rfl, rfl, hy, fun x hx => ?_⟩, rfl⟩
          · have c1 := @cmp_pos (y.1 * m.2) (m.1 * y.2)
            rw [decide_eq_true c] at c1
            unfold b0_greatest_ratio pA
            clear c el
            walk_at "ev"
          · rcases List.mem_append.mp hx with q | q
            · exact le2_trans (all m hm) (all x (by rw [el]; exact List.mem_append.mpr (.inl q))) (all y hy) (hle x q) (by unfold le2; omega)
            · have : x = y := by simpa using q
              subst this
              unfold le2
              omega
        · refine ⟨[some (.tup (l.map pA)), some (pA m), some (pA y)], k, ⟨[some (.tup (l.map pA)), some (pA m), some (pA y)], k, rfl, .inl ?_⟩, ⟨done ++ [y], rest, m, some (pA y), by rw [List.append_assoc]; exact el, rfl, rfl, hm, fun x hx => ?_⟩, rfl⟩
          · have c1 := @cmp_pos (y.1 * m.2) (m.1 * y.2)
            rw [decide_eq_false c] at c1
            unfold b0_greatest_ratio pA
            clear c el
            walk_at "ev"
          · rcases List.mem_append.mp hx with q | q
            · exact hle x q
            · have : x = y := by simpa using q
              subst this
              unfold le2
              omega)
  have hr : rest = [] := by
    cases rest with
    | nil => rfl
    | cons y r => cases er
  subst hr hh hρ
  rw [List.append_nil] at el
  refine ⟨m, hm, fun x hx => hle x (by rw [← el]; exact hx), ?_⟩
  have i0 : ∀ h, aIx (.tup (l.map pA)) (.int 0) h = some (pA x0) := fun h => by
    rw [e0, List.map_cons, aIx_t, aAt_0]
  unfold F_greatest_ratio m_greatest_ratio
  simp only [noX, fnOf, mSeq, mAsg, gNm, mOp, mVar, mC, mRet, List.map_cons, List.map_nil, List.length_cons, List.length_nil, List.cons_append, List.nil_append, List.replicate_succ, List.replicate_zero, Nat.reduceAdd, Nat.reduceSub, List.getElem?_cons_zero, List.getElem?_cons_succ, List.set_cons_zero, List.set_cons_succ, i0, e]
end W

set_option maxRecDepth 100000
set_option maxHeartbeats 4000000
namespace W
open PySem PySem.Spec L2 Mi
local macro_rules | `(tactic| walk_at "ev") => `(tactic| simp only [noX, fnOf, mSeq, mNext, mAsg, gNm, mIfS, mTst, mTru, mOp, mUn, mVar, mC, mCons, mNil, mTup, mLst, mRet, mCall, mMeth, mCB, mIf, mAnd, mOr, mNot, mAndV, mOrV, mNotV, mNotT, mPar, mDrop, isLc, mYes, beq_self_eq_true, mLstC, ixN3_1, ixN3_2, pow18, pow30, pow6, List.set_set, gTp, gsCons, gsNil, mSetAt, mSetIx, mApp, mExt, mFrz, mChain, mFor, iSq, frzL, forL, at_f0, List.map_cons, List.map_nil, List.length_cons, List.length_nil, List.cons_append, List.nil_append, List.append_nil, List.replicate_succ, List.replicate_zero, Nat.reduceAdd, Nat.reduceSub, List.getElem?_cons_zero, List.getElem?_cons_succ, List.set_cons_zero, List.set_cons_succ, aAt_0, aAt_1, aAt_2, aEq_int, aNe_int, aEq_t2, aNe_t2, aNe_ni, aNe_in, aNe_nn, aIx_t, aIx_l, aAdd_int, aSub_int, aMul_int, aMod_int, aFdiv_int, aCmp_int, aIs_n, aIsNot_n, aIsNot_b, tr_bl, tr_lst, isi_ii, isi_ib, isi_tt, aInt_int, aAbs_int, aLen_tup, aLen_lst, isN, sizeLine_eq, Nat.reduceLeDiff, ↓reduceIte, decide_true, decide_false, eq_self, if_true, Bool.false_eq_true, Bool.not_true, Bool.not_false, Bool.true_and, Bool.and_true, Bool.false_and, Bool.and_false, *])
/-- a list of numbers told -/
def OKL (p : Int) (T : List (Int × Int)) : Prop := ∀ u ∈ T, ISN p (pA u)
theorem at0 {H : AHeap} {k : Nat} (hk : H.length = k) (A B : Option MO) : (H ++ [A, B])[k]? = some A := by
  rw [List.getElem?_append_right (by omega), hk, Nat.sub_self] <;> rfl
theorem at1 {H : AHeap} {k : Nat} (hk : H.length = k) (A B : Option MO) : (H ++ [A, B])[k + 1]? = some B := by
  rw [List.getElem?_append_right (by omega), show k + 1 - H.length = 1 by omega] <;> rfl
theorem st0 {H : AHeap} {k : Nat} (hk : H.length = k) (A B C : Option MO) : (H ++ [A, B]).set k C = H ++ [C, B] := by
  rw [List.set_append_right _ _ (by omega), hk, Nat.sub_self] <;> rfl
theorem st1 {H : AHeap} {k : Nat} (hk : H.length = k) (A B C : Option MO) : (H ++ [A, B]).set (k + 1) C = H ++ [A, C] := by
  rw [List.set_append_right _ _ (by omega), show k + 1 - H.length = 1 by omega] <;> rfl
theorem map3 (T : List (Int × Int)) (u v w : Int × Int) : T.map pA ++ [pA u, pA v, pA w] = (T ++ [u, v, w]).map pA := by
  rw [List.map_append] <;> rfl
theorem map1 (T : List (Int × Int)) (u : Int × Int) : T.map pA ++ [pA u] = (T ++ [u]).map pA := by
  rw [List.map_append] <;> rfl
theorem mk_pA (t b : Int) : ∃ u, mk t b = pA u := by
  obtain ⟨x, y, e⟩ := pa_mk t b
  exact ⟨_, e⟩
theorem b3_ev {H : AHeap} {k : Nat} (hk : H.length = k) {a b c d : Int} (x : N0 a b) (y : N0 c d) (L : AV) (o i7 i8 i9 : Option AV) {T : List (Int × Int)} (hT : OKL 0 T) (lT : T.length + 4 < 1000) :
    ∃ o' T', b3__law_ratios_right [some L, some (.tup [.int a, .int b]), some (.ref k), some (.ref (k + 1)), some (.tup [.int c, .int d]), o, i7, i8, i9] (H ++ [some (.lst (T.map pA)), some (.lst (T.map pA))]) = .ok .nx [some L, some (.tup [.int a, .int b]), some (.ref k), some (.ref (k + 1)), some (.tup [.int c, .int d]), o', i7, i8, i9] (H ++ [some (.lst (T'.map pA)), some (.lst (T'.map pA))]) ∧ OKL 0 T' ∧ T'.length ≤ T.length + 4 := by
  have g0 := at0 hk
  have g1 := at1 hk
  have s0 := st0 hk
  have s1 := st1 hk
  have q1 := fun h => ratio_plus_ev x y h
  have q2 := fun h => ratio_minus_ev x y h
  have q3 := fun h => ratio_times_ev x y h
  have q4 := fun h => law_plus_ev x y h
  have q5 := fun h => law_minus_ev x y h
  have q6 := fun h => law_times_ev x y h
  have q7 := fun h => compare_ev x y h
  have q8 := fun h => law_order_ev x y h
  have z1 : (T.map pA).length + 3 ≤ sizeLine := by
    rw [List.length_map, sizeLine_eq]
    omega
  rw [sizeLine_eq] at z1
  have e1 : T.map pA ++ [rat (a * d + c * b) (b * d), rat (a * d - c * b) (b * d), rat (a * c) (b * d)] = (T ++ [rt (a * d + c * b) (b * d), rt (a * d - c * b) (b * d), rt (a * c) (b * d)]).map pA := map3 T (rt (a * d + c * b) (b * d)) (rt (a * d - c * b) (b * d)) (rt (a * c) (b * d))
  have ok3 : OKL 0 (T ++ [rt (a * d + c * b) (b * d), rt (a * d - c * b) (b * d), rt (a * c) (b * d)]) := by
    intro u hu
    rcases List.mem_append.mp hu with z | z
    · exact hT u z
    · rcases List.mem_cons.mp z with rfl | z
      · exact isn_rt _ (p_bd x y)
      · rcases List.mem_cons.mp z with rfl | z
        · exact isn_rt _ (p_bd x y)
        · rcases List.mem_cons.mp z with rfl | z
          · exact isn_rt _ (p_bd x y)
          · cases z
  generalize hT3 : T ++ [rt (a * d + c * b) (b * d), rt (a * d - c * b) (b * d), rt (a * c) (b * d)] = T3 at e1 ok3
  have l3 : T3.length = T.length + 3 := by rw [← hT3, List.length_append] <;> rfl
  by_cases hc : c = 0
  · have c1 : (c == 0) = true := by simpa using hc
    refine ⟨some (.int (cmp3 (a * d) (c * b))), T3, ?_, ok3, by omega⟩
    unfold b3__law_ratios_right
    clear hc hT lT ok3 l3 hk
    walk_at "ev"
  · have c1 : (c == 0) = false := by simpa using hc
    have q9 := fun h => ratio_over_ev x y h hc
    have q10 := fun h => law_over_ev x y h hc
    have i1 : ISN 0 (mk (a * d) (b * c)) := isn_mk _ (Int.mul_ne_zero (by have := x.1; omega) hc)
    obtain ⟨u, eu⟩ := mk_pA (a * d) (b * c)
    rw [eu] at q9 q10 i1
    have e2 := map1 T3 u
    have z2 : (T3.map pA).length < sizeLine := by
      rw [List.length_map, sizeLine_eq]
      omega
    rw [sizeLine_eq] at z2
    refine ⟨some (.int (cmp3 (a * d) (c * b))), T3 ++ [u], ?_, fun v hv => ?_, by rw [List.length_append]; simp; omega⟩
    · unfold b3__law_ratios_right
      clear hc hT lT ok3 l3 hk eu
      walk_at "ev"
    · rcases List.mem_append.mp hv with z | z
      · exact ok3 v z
      · have : v = u := by simpa using z
        rw [this]
        exact i1
end W

set_option maxRecDepth 100000
set_option maxHeartbeats 4000000
namespace W
open PySem PySem.Spec L2 Mi
local macro_rules | `(tactic| walk_at "ev") => `(tactic| simp only [noX, fnOf, mSeq, mNext, mAsg, gNm, mIfS, mTst, mTru, mOp, mUn, mVar, mC, mCons, mNil, mTup, mLst, mRet, mCall, mMeth, mCB, mIf, mAnd, mOr, mNot, mAndV, mOrV, mNotV, mNotT, mPar, mDrop, isLc, beq_self_eq_true, mLstC, ixN3_1, ixN3_2, pow18, pow30, pow6, List.set_set, gTp, gsCons, gsNil, mSetAt, mSetIx, mApp, mExt, mFrz, mChain, at_f0, List.map_cons, List.map_nil, List.length_cons, List.length_nil, List.cons_append, List.nil_append, List.append_nil, List.replicate_succ, List.replicate_zero, Nat.reduceAdd, Nat.reduceSub, List.getElem?_cons_zero, List.getElem?_cons_succ, List.set_cons_zero, List.set_cons_succ, aAt_0, aAt_1, aAt_2, aEq_int, aNe_int, aEq_t2, aNe_t2, aNe_ni, aNe_in, aNe_nn, aIx_t, aIx_l, aAdd_int, aSub_int, aMul_int, aMod_int, aFdiv_int, aCmp_int, aIs_n, aIsNot_n, aIsNot_b, tr_bl, tr_lst, isi_ii, isi_ib, isi_tt, aInt_int, aAbs_int, aLen_tup, aLen_lst, isN, sizeLine_eq, Nat.reduceLeDiff, ↓reduceIte, decide_true, decide_false, eq_self, if_true, Bool.false_eq_true, Bool.not_true, Bool.not_false, Bool.true_and, Bool.and_true, Bool.false_and, Bool.and_false, *])
theorem okl_bools {p : Int} {T : List (Int × Int)} : bools ((T.map pA).map fun _ => AV.bl true) = some (T.map fun _ => true) := by
  induction T with
  | nil => rfl
  | cons u T ih =>
    rw [List.map_cons, List.map_cons]
    unfold bools
    rw [ih] <;> rfl
theorem all_true (T : List (Int × Int)) : ((T.map fun _ => true).all id) = true := by
  induction T with
  | nil => rfl
  | cons u T ih => rw [List.map_cons, List.all_cons, ih] <;> rfl
theorem ne_lc {T : List (Int × Int)} {h : AHeap} {c : Nat} (e : h[c]? = some (some (.lst (T.map pA)))) : aNe (.lst (T.map pA)) (.ref c) h = some (.bl false) := by
  have e1 : py h (.lst (T.map pA)) = some (.list (T.map pD)) := by
    show (match py0L (T.map pA) with
      | some d => some (PyData.list d)
      | none => none) = _
    rw [py0L_pairs]
  have e2 : py h (.ref c) = some (.list (T.map pD)) := by
    unfold py
    dsimp only
    rw [e]
    dsimp only
    rw [py0L_pairs]
  exact aNe_same e1 e2 (shaped_pairs T)
theorem filter_yes : ∀ l : List AV, (l.filter fun _ => true) = l
  | [] => rfl
  | x :: l => by rw [List.filter_cons_of_pos rfl, filter_yes l]
theorem b4_ev {H : AHeap} {l : List (Int × Int)} (all : ∀ y ∈ l, N2 y) (len : l.length ≤ 100) {a b : Int} (x : N0 a b) (i2 i3 i4 i5 i6 i7 i8 : Option AV) :
    ∃ j2 j3 j4 j5 A, b4__law_ratios_right [some (.lst (l.map pA)), some (.tup [.int a, .int b]), i2, i3, i4, i5, i6, i7, i8] H = .ok .nx [some (.lst (l.map pA)), some (.tup [.int a, .int b]), j2, j3, j4, j5, i6, i7, i8] (H ++ A) := by
  obtain ⟨k, hk⟩ : ∃ k, H.length = k := ⟨_, rfl⟩
  let T0 : List (Int × Int) := [(0 - a, b), ((a.natAbs : Int), b), (a, b)]
  have ok0 : OKL 0 T0 := by
    intro u hu
    rcases List.mem_cons.mp hu with rfl | hu
    · exact fun h => is_number_ev _ _ h x.neg.1 x.neg.2.1
    · rcases List.mem_cons.mp hu with rfl | hu
      · exact fun h => is_number_ev _ _ h x.1 (by rw [gcdI_abs]; exact x.2.1)
      · rcases List.mem_cons.mp hu with rfl | hu
        · exact fun h => is_number_ev _ _ h x.1 x.2.1
        · cases hu
  obtain ⟨ρ', h', e, ⟨z4, o', T, hρ, hh, hT, lT⟩⟩ := mFor_run (it := iSq (mVar 0)) (g := gNm 4) (b := b3__law_ratios_right) (ρ := [some (.lst (l.map pA)), some (.tup [.int a, .int b]), some (.ref k), some (.ref (k + 1)), i4, i5, i6, i7, i8]) (h := H ++ [some (.lst (T0.map pA)), some (.lst (T0.map pA))]) (h1 := H ++ [some (.lst (T0.map pA)), some (.lst (T0.map pA))]) (l := l.map pA)
    (I := fun t ρ kk => ∃ (z4 o' : Option AV) (T : List (Int × Int)), ρ = [some (.lst (l.map pA)), some (.tup [.int a, .int b]), some (.ref k), some (.ref (k + 1)), z4, o', i6, i7, i8] ∧ kk = H ++ [some (.lst (T.map pA)), some (.lst (T.map pA))] ∧ OKL 0 T ∧ ∃ rest : List (Int × Int), t = rest.map pA ∧ (∀ y ∈ rest, y ∈ l) ∧ T.length + 4 * rest.length ≤ 3 + 4 * l.length) rfl
    ⟨i4, i5, T0, rfl, rfl, ok0, l, rfl, fun y hy => hy, Nat.le_refl _⟩
    (by
      rintro d t ρ kk ⟨z4, o', T, rfl, rfl, hT, rest, er, hr, lT⟩
      cases rest with
      | nil => cases er
      | cons y rest =>
        rw [List.map_cons] at er
        cases er
        rw [List.length_cons] at lT
        obtain ⟨o2, T2, q, hT2, lT2⟩ := b3_ev hk x (all y (hr y List.mem_cons_self)) (.lst (l.map pA)) o' i6 i7 i8 hT (by omega)
        exact ⟨_, _, ⟨_, _, rfl, .inl q⟩, some (.tup [.int y.1, .int y.2]), o2, T2, rfl, rfl, hT2, rest, rfl, fun z hz => hr z (List.mem_cons_of_mem _ hz), by omega⟩)
  replace lT : T.length ≤ 3 + 4 * l.length := by
    obtain ⟨_, _, _, lT⟩ := lT
    omega
  subst hh hρ
  have g0 := at0 hk
  have g1 := at1 hk
  have s0 := st0 hk
  have p1 : ∀ A, (H ++ [A]).length = k + 1 := fun A => by rw [List.length_append, hk] <;> rfl
  have p2 : ∀ A B, H ++ [A] ++ [B] = H ++ [A, B] := fun A B => by rw [List.append_assoc] <;> rfl
  have q1 := ratio_negative_ev a b
  have q2 := ratio_size_ev a b
  have q3 : ∀ h, F_make_ratio [.int a, .int b] h = .ok (.tup [.int a, .int b]) h := fun h => by
    rw [make_ratio_ev a b h (by have := x.1; omega) (sm_b x.2.2.2 (by decide)), mk_pos x.1, rat_pA, rt_self x.2.1] <;> rfl
  have lc := mLc_pure (own := [8]) (it := iSq (mVar 2)) (g := gNm 8) (tt := mYes) (e := e2__law_ratios_right) (ρ := [some (.lst (l.map pA)), some (.tup [.int a, .int b]), some (.lst (T.map pA)), some (.ref (k + 1)), z4, o', i6, i7, i8]) (h := H ++ [none, some (.lst (T.map pA))]) (l := T.map pA) rfl (fun _ => true) (fun _ => .bl true) (by
    intro u hu acc
    obtain ⟨v, hv, rfl⟩ := List.mem_map.mp hu
    refine ⟨_, rfl, rfl, fun _ => ?_⟩
    have q := hT v hv
    unfold e2__law_ratios_right
    simp only [mCall, mCons, mNil, mC, mVar, wipeA, List.set_cons_succ, List.set_cons_zero, List.getElem?_cons_succ, List.getElem?_cons_zero, List.append_nil, List.length_cons, List.length_nil, Nat.reduceAdd, ↓reduceIte, q]) (fun _ _ _ => rfl) (by rw [List.length_map, sizeLine_eq]; omega)
  rw [filter_yes] at lc
  have fa : ∀ h, onL fAll [.lst ((T.map pA).map fun _ => AV.bl true)] h = some (.bl true) := fun h => by
    show fAll _ = _
    unfold fAll
    rw [okl_bools (p := 0)]
    dsimp only
    rw [all_true]
  have ne := ne_lc (T := T) (h := H ++ [none, some (.lst (T.map pA))]) (c := k + 1) (g1 _ _)
  have et : T0.map pA = [.tup [.int (0 - a), .int b], .tup [.int (a.natAbs : Int), .int b], .tup [.int a, .int b]] := rfl
  rw [et] at e
  refine ⟨some (.lst (T.map pA)), some (.ref (k + 1)), z4, o', [none, some (.lst (T.map pA))], ?_⟩
  unfold b4__law_ratios_right
  clear hT lT ok0 len all
  walk_at "ev"
theorem notin {l : List (Int × Int)} {m : Int × Int} (hm : m ∈ l) (h : AHeap) : aNotIn (pA m) (.lst (l.map pA)) h = some (.bl false) := by
  have e1 : py h (pA m) = some (pD m) := rfl
  have e2 : pyL h (.lst (l.map pA)) = some (l.map pD) := by
    unfold pyL
    have : py h (.lst (l.map pA)) = some (.list (l.map pD)) := by
      show (match py0L (l.map pA) with
        | some d => some (PyData.list d)
        | none => none) = _
      rw [py0L_pairs]
    rw [this]
  have sm : SeqAt.shaped (pD m) = true := by
    unfold SeqAt.shaped
    have h2 : PyData.depth (pD m) ≤ 64 := by
      unfold pD
      simp [PyData.depth, PyData.depthAll]
    rw [decide_eq_true h2]
    rfl
  unfold aNotIn
  rw [e1, e2]
  dsimp only
  rw [if_pos ⟨sm, shaped_pairs l⟩]
  have : ((l.map pD).any fun z => PyData.eqv z (pD m)) = true := List.any_eq_true.mpr ⟨pD m, List.mem_map.mpr ⟨m, hm, rfl⟩, SeqAt.eqv_refl _ (SeqAt.canLay_of_shaped sm)⟩
  rw [this]
  rfl
theorem filter_no : ∀ l : List AV, (l.filter fun _ => false) = []
  | [] => rfl
  | x :: l => by rw [List.filter_cons_of_neg (by decide), filter_no l]
theorem ratios_right_ev {l : List (Int × Int)} (hl : l ≠ []) (all : ∀ y ∈ l, N2 y) (len : l.length ≤ 100) (h : AHeap) : ∃ h', F__law_ratios_right [.lst (l.map pA)] h = .ok (.bl true) h' := by
  obtain ⟨ρ', h', e, ⟨j1, j2, j3, j4, j5, A, hρ, hh, _⟩⟩ := mFor_run (it := iSq (mVar 0)) (g := gNm 1) (b := b4__law_ratios_right) (ρ := [some (.lst (l.map pA)), none, none, none, none, none, none, none, none]) (h := h) (h1 := h) (l := l.map pA)
    (I := fun t ρ kk => ∃ (j1 j2 j3 j4 j5 : Option AV) (A : AHeap), ρ = [some (.lst (l.map pA)), j1, j2, j3, j4, j5, none, none, none] ∧ kk = h ++ A ∧ ∃ rest : List (Int × Int), t = rest.map pA ∧ ∀ y ∈ rest, y ∈ l) rfl
    ⟨none, none, none, none, none, [], rfl, (List.append_nil h).symm, l, rfl, fun y hy => hy⟩
    (by
      rintro d t ρ kk ⟨j1, j2, j3, j4, j5, A, rfl, rfl, rest, er, hr⟩
      cases rest with
      | nil => cases er
      | cons y rest =>
        rw [List.map_cons] at er
        cases er
        obtain ⟨k2, k3, k4, k5, B, q⟩ := b4_ev (H := h ++ A) all len (all y (hr y List.mem_cons_self)) j2 j3 j4 j5 none none none
        exact ⟨_, _, ⟨_, _, rfl, .inl q⟩, some (.tup [.int y.1, .int y.2]), k2, k3, k4, k5, A ++ B, rfl, List.append_assoc _ _ _, rest, rfl, fun z hz => hr z (List.mem_cons_of_mem _ hz)⟩)
  subst hh hρ
  obtain ⟨m, hm, hle, q1⟩ := least_ev hl all (h ++ A)
  obtain ⟨g, hg, hge, q2⟩ := greatest_ev hl all (h ++ A)
  have n1 : ISN 0 (pA m) := fun h => is_number_ev _ _ h (all m hm).1 (all m hm).2.1
  have n2 : ISN 0 (pA g) := fun h => is_number_ev _ _ h (all g hg).1 (all g hg).2.1
  have t1 := notin hm (h ++ A)
  have t2 := notin hg (h ++ A)
  have li : ∀ h, aList [.lst (l.map pA)] h = some (.lst (l.map pA)) := fun _ => rfl
  have tu : ∀ h, aTuple [.lst (l.map pA)] h = some (.tup (l.map pA)) := fun _ => rfl
  have lc := mLc_pure (own := [1]) (it := iSq (mVar 0)) (g := gNm 1) (tt := q0__law_ratios_right) (e := e1__law_ratios_right) (ρ := [some (.lst (l.map pA)), j1, j2, j3, j4, j5, some (pA m), some (pA g), none]) (h := h ++ A) (l := l.map pA) rfl (fun _ => false) (fun u => u) (by
    intro u hu acc
    obtain ⟨v, hv, rfl⟩ := List.mem_map.mp hu
    refine ⟨_, rfl, ?_, fun w => by cases w⟩
    have r1 := fun h => law_order_ev (all v hv) (all m hm) h
    have r2 := fun h => law_order_ev (all v hv) (all g hg) h
    have c1 : decide (cmp3 (v.1 * m.2) (m.1 * v.2) < 0) = false := by
      have := hle v hv
      unfold le2 at this
      rw [cmp_neg, decide_eq_false (show ¬ _ by omega)]
    have c2 : decide (0 < cmp3 (v.1 * g.2) (g.1 * v.2)) = false := by
      have := hge v hv
      unfold le2 at this
      rw [cmp_pos, decide_eq_false (show ¬ _ by omega)]
    unfold q0__law_ratios_right pA
    simp only [mCall, mCons, mNil, mC, mVar, mOr, mTst, mOp, aCmp_int, wipeA, List.set_cons_succ, List.set_cons_zero, List.getElem?_cons_succ, List.getElem?_cons_zero, List.append_nil, List.length_cons, List.length_nil, Nat.reduceAdd, ↓reduceIte, r1, r2, c1, c2, Bool.false_eq_true]) (fun _ _ w => by cases w) (by rw [List.length_map, sizeLine_eq]; omega)
  rw [filter_no, List.map_nil] at lc
  have tn : ∀ h, truth h (.lst []) = some false := fun _ => rfl
  refine ⟨h ++ A, ?_⟩
  unfold F__law_ratios_right m__law_ratios_right
  clear all hle hge hl len
  walk_at "ev"
end W

set_option maxRecDepth 100000
set_option maxHeartbeats 4000000
namespace W
open PySem PySem.Spec L2 Mi
local macro_rules | `(tactic| walk_at "ev") => `(tactic| simp only [noX, fnOf, mSeq, mNext, mAsg, gNm, mIfS, mTst, mTru, mOp, mUn, mVar, mC, mCons, mNil, mTup, mLst, mRet, mCall, mMeth, mCB, mIf, mAnd, mOr, mNot, mAndV, mOrV, mNotV, mNotT, mPar, mDrop, isLc, beq_self_eq_true, mLstC, ixN3_1, ixN3_2, pow18, pow30, pow6, List.set_set, gTp, gsCons, gsNil, mSetAt, mSetIx, mApp, mExt, mFrz, mChain, at_f0, List.map_cons, List.map_nil, List.length_cons, List.length_nil, List.cons_append, List.nil_append, List.append_nil, List.replicate_succ, List.replicate_zero, Nat.reduceAdd, Nat.reduceSub, List.getElem?_cons_zero, List.getElem?_cons_succ, List.set_cons_zero, List.set_cons_succ, aAt_0, aAt_1, aAt_2, aEq_int, aNe_int, aEq_t2, aNe_t2, aNe_ni, aNe_in, aNe_nn, aIx_t, aIx_l, aAdd_int, aSub_int, aMul_int, aMod_int, aFdiv_int, aCmp_int, aIs_n, aIsNot_n, aIsNot_b, tr_bl, tr_lst, isi_ii, isi_ib, isi_tt, aInt_int, aAbs_int, aLen_tup, aLen_lst, isN, sizeLine_eq, Nat.reduceLeDiff, ↓reduceIte, decide_true, decide_false, eq_self, if_true, Bool.false_eq_true, Bool.not_true, Bool.not_false, Bool.true_and, Bool.and_true, Bool.false_and, Bool.and_false, *])
theorem seq_nx {a b : MS} {ρ ρ1 : Env2} {h h1 : AHeap} (e : a ρ h = .ok .nx ρ1 h1) : mSeq a b ρ h = b ρ1 h1 := by
  unfold mSeq
  rw [e]
theorem bag_cons {n : Nat} {A : Option MO} {r s : AHeap} (b : Bag n (A :: r) 0) : Bag n (A :: s) 0 := b
theorem isC_fv {p : Int} {m : Str} (hm : m ≠ "prime") (h : AHeap) : isC "Field" m h (fv p) = true := by
  have e : ∀ x, isC "Field" m h (fld x) = true := fun x => by
    unfold fld isC
    simp [hm]
  unfold fv
  split <;> exact e _
theorem fix_ev {p b : Int} (hp : Fld p) (hb : b.natAbs < 2 ^ 100) (i0 i1 i3 i4 i5 i6 : Option AV) (r : Env2) (h : AHeap) : ∃ b', (mIfS (mOr (mAnd (mTst (mOp aEq (mVar 2) (mC (.int 0)))) (mTst (mOp aEq (mVar 7) (mC (.int 0))))) (mAnd (mTst (mOp aGt (mVar 2) (mC (.int 0)))) (mTst (mOp aEq (mOp aMod (mCB aInt (mCons (mVar 7) (mNil))) (mVar 2)) (mC (.int 0)))))) (mAsg (mC (.int 1)) (gNm 7)) (mNext)) (i0 :: i1 :: some (.int p) :: i3 :: i4 :: i5 :: i6 :: some (.int b) :: r) h = .ok .nx (i0 :: i1 :: some (.int p) :: i3 :: i4 :: i5 :: i6 :: some (.int b') :: r) h ∧ b'.natAbs < 2 ^ 100 ∧ (p = 0 → b' ≠ 0) ∧ (p ∈ primes → b' % p ≠ 0) := by
  rcases hp with rfl | hp
  · have c1 : ((0 : Int) == 0) = true := rfl
    have c2 : decide ((0 : Int) < 0) = false := rfl
    by_cases z : b = 0
    · subst z
      refine ⟨1, ?_, by decide, fun _ => by decide, fun q => absurd rfl (pr_ne q)⟩
      clear hb
      walk_at "ev"
    · have z1 : (b == 0) = false := by simpa using z
      refine ⟨b, ?_, hb, fun _ => z, fun q => absurd rfl (pr_ne q)⟩
      clear hb z
      walk_at "ev"
  · have c1 : (p == 0) = false := by simpa using pr_ne hp
    have c2 := pr_pos hp
    have z6 := pr_ne hp
    have z7 := pr_f hp
    by_cases z : b % p = 0
    · have z1 : (b % p == 0) = true := by simpa using z
      refine ⟨1, ?_, by decide, fun _ => by decide, fun q => ?_⟩
      · clear hb z hp
        walk_at "ev"
      · rw [Int.emod_eq_of_lt (by decide) (by have := pr_rng p q; omega)]
        decide
    · have z1 : (b % p == 0) = false := by simpa using z
      refine ⟨b, ?_, hb, fun q => absurd q z6, fun _ => z⟩
      clear hb z hp
      walk_at "ev"
theorem b4_law_ev {p : Int} (hp : Fld p) {n : Nat} {A : Option MO} {l : List (Int × Int)} (bg : Bag n [A] 0) (hn : n < 800) (len : l.length < 100) (i0 i5 i6 i7 i8 i9 : Option AV) (r : Env2) :
    ∃ j6 j7 j8 j9 A2 a d, b4_law (i0 :: some (.ref 0) :: some (.int p) :: some (fv p) :: some (.ref 1) :: i5 :: i6 :: i7 :: i8 :: i9 :: r) [A, some (.lst (l.map pA))] = .ok .nx (i0 :: some (.ref 0) :: some (.int p) :: some (fv p) :: some (.ref 1) :: i5 :: j6 :: j7 :: j8 :: j9 :: r) [A2, some (.lst ((l ++ [(a, d)]).map pA))] ∧ NUM p a d ∧ Bag (n + 6) [A2] 0 := by
  obtain ⟨t, X, q1, ht, b1⟩ := wide_ev (h := [A, some (.lst (l.map pA))]) (bag_cons bg) (by omega)
  rw [List.set_cons_zero] at q1 b1
  obtain ⟨b, Y, q2, hb, b2⟩ := wide_ev b1 (by omega)
  rw [List.set_cons_zero] at q2 b2
  obtain ⟨b', q3, hb', h0, h1⟩ := fix_ev hp hb i0 (some (.ref 0)) (some (fv p)) (some (.ref 1)) i5 (some (.int t)) (i8 :: i9 :: r) [Y, some (.lst (l.map pA))]
  obtain ⟨a, d, num, q4, q5, q6⟩ := number_ev hp ht hb' h0 h1
  obtain ⟨a1, d1, num1, q7, q8, q9⟩ := number_ev (b := 1) hp ht (by decide) (fun _ => by decide) (fun q => by
    rw [Int.emod_eq_of_lt (by decide) (by have := pr_rng p q; omega)]
    decide)
  have n1 := num.isn
  have n2 := num1.isn
  have hd := num.holds
  have c1 : ∀ h, isC "Field" "number" h (fv p) = true := fun h => isC_fv (by decide +kernel) h
  have c2 : ∀ h, isC "Field" "holds" h (fv p) = true := fun h => isC_fv (by decide +kernel) h
  have e1 : l.map pA ++ [.tup [.int a, .int d]] = (l ++ [(a, d)]).map pA := map1 l (a, d)
  have z1 : (l.map pA).length < sizeLine := by
    rw [List.length_map, sizeLine_eq]
    omega
  rw [sizeLine_eq] at z1
  refine ⟨some (.int t), some (.int b'), some (.tup [.int a, .int d]), some (.tup [.int a, .int d]), Y, a, d, ?_, num, b2⟩
  let E (x6 x7 x8 x9 : Option AV) : Env2 := i0 :: some (.ref 0) :: some (.int p) :: some (fv p) :: some (.ref 1) :: i5 :: x6 :: x7 :: x8 :: x9 :: r
  let G (Z : Option MO) : AHeap := [Z, some (.lst (l.map pA))]
  unfold b4_law
  refine (seq_nx (ρ1 := E (some (.int t)) i7 i8 i9) (h1 := G X) ?_).trans ?_
  · dsimp only [E, G]
    clear q6 q9 h0 h1 num num1 hp ht hb hb' b1 b2 bg len hn
    walk_at "ev"
  refine (seq_nx (ρ1 := E (some (.int t)) (some (.int b)) i8 i9) (h1 := G Y) ?_).trans ?_
  · dsimp only [E, G]
    clear q6 q9 h0 h1 num num1 hp ht hb hb' b1 b2 bg len hn
    walk_at "ev"
  refine (seq_nx (ρ1 := E (some (.int t)) (some (.int b')) i8 i9) (h1 := G Y) q3).trans ?_
  refine (seq_nx (ρ1 := E (some (.int t)) (some (.int b')) (some (.tup [.int a, .int d])) i9) (h1 := G Y) ?_).trans ?_
  · dsimp only [E, G]
    clear q3 q6 q9 h0 h1 num num1 hp ht hb hb' b1 b2 bg len hn
    walk_at "ev"
  refine (seq_nx (ρ1 := E (some (.int t)) (some (.int b')) (some (.tup [.int a, .int d])) (some (.tup [.int a, .int d]))) (h1 := G Y) ?_).trans ?_
  · dsimp only [E, G]
    clear q3 q6 q9 h0 h1 num num1 hp ht hb hb' b1 b2 bg len hn
    walk_at "ev"
  refine (seq_nx (ρ1 := E (some (.int t)) (some (.int b')) (some (.tup [.int a, .int d])) (some (.tup [.int a, .int d]))) (h1 := G Y) ?_).trans ?_
  · dsimp only [E, G]
    clear q3 q6 q9 h0 h1 num num1 hp ht hb hb' b1 b2 bg len hn
    walk_at "ev"
  refine (seq_nx (ρ1 := E (some (.int t)) (some (.int b')) (some (.tup [.int a, .int d])) (some (.tup [.int a, .int d]))) (h1 := G Y) ?_).trans ?_
  · dsimp only [E, G]
    by_cases z : p = 0
    · subst z
      have q6' := q6 rfl
      have q9' := q9 rfl
      have c3 : ((0 : Int) == 0) = true := rfl
      clear q3 q6 q9 h0 h1 num num1 hp ht hb hb' b1 b2 bg len hn
      walk_at "ev"
    · have c3 : (p == 0) = false := by simpa using z
      clear q3 q6 q9 h0 h1 num num1 hp ht hb hb' b1 b2 bg len hn
      walk_at "ev"
  refine (seq_nx (ρ1 := E (some (.int t)) (some (.int b')) (some (.tup [.int a, .int d])) (some (.tup [.int a, .int d]))) (h1 := G Y) ?_).trans ?_
  · dsimp only [E, G]
    clear q3 q6 q9 h0 h1 num num1 hp ht hb hb' b1 b2 bg len hn
    walk_at "ev"
  dsimp only [E, G]
  clear q3 q6 q9 h0 h1 num num1 hp ht hb hb' b1 b2 bg len hn
  walk_at "ev"
end W

set_option maxRecDepth 100000
set_option maxHeartbeats 4000000
namespace W
open PySem PySem.Spec L2 Mi
local macro_rules | `(tactic| walk_at "ev") => `(tactic| simp only [noX, fnOf, mSeq, mNext, mAsg, gNm, mIfS, mTst, mTru, mOp, mUn, mVar, mC, mCons, mNil, mTup, mLst, mRet, mCall, mMeth, mCB, mIf, mAnd, mOr, mNot, mAndV, mOrV, mNotV, mNotT, mPar, mDrop, isLc, beq_self_eq_true, mLstC, ixN3_1, ixN3_2, pow18, pow30, pow6, List.set_set, gTp, gsCons, gsNil, mSetAt, mSetIx, mApp, mExt, mFrz, mChain, at_f0, List.map_cons, List.map_nil, List.length_cons, List.length_nil, List.cons_append, List.nil_append, List.append_nil, List.replicate_succ, List.replicate_zero, Nat.reduceAdd, Nat.reduceSub, List.getElem?_cons_zero, List.getElem?_cons_succ, List.set_cons_zero, List.set_cons_succ, aAt_0, aAt_1, aAt_2, aEq_int, aNe_int, aEq_t2, aNe_t2, aNe_ni, aNe_in, aNe_nn, aIx_t, aIx_l, aAdd_int, aSub_int, aMul_int, aMod_int, aFdiv_int, aCmp_int, aIs_n, aIsNot_n, aIsNot_b, tr_bl, tr_lst, isi_ii, isi_ib, isi_tt, aInt_int, aAbs_int, aLen_tup, aLen_lst, isN, sizeLine_eq, Nat.reduceLeDiff, Nat.reduceLT, ↓reduceIte, decide_true, decide_false, eq_self, if_true, Bool.false_eq_true, Bool.not_true, Bool.not_false, Bool.true_and, Bool.and_true, Bool.false_and, Bool.and_false, *])
theorem len0 {H : AHeap} {k : Nat} (hk : H.length = k) (A : Option MO) : (H ++ [A]).length = k + 1 := by rw [List.length_append, hk] <;> rfl
theorem two {H : AHeap} (A B : Option MO) : H ++ [A] ++ [B] = H ++ [A, B] := by rw [List.append_assoc] <;> rfl
theorem b2_law_ev {p : Int} {H : AHeap} {a b c d : Int} (x : NUM p a b) (y : NUM p c d) (i0 i1 i4 i5 i6 i7 i8 i9 i12 i13 : Option AV) :
    ∃ j8 j12 A, b2_law [i0, i1, some (.int p), some (fv p), i4, i5, i6, i7, i8, i9, some (.tup [.int a, .int b]), some (.tup [.int c, .int d]), i12, i13] H = .ok .nx [i0, i1, some (.int p), some (fv p), i4, i5, i6, i7, j8, i9, some (.tup [.int a, .int b]), some (.tup [.int c, .int d]), j12, i13] (H ++ A) := by
  obtain ⟨k, hk⟩ : ∃ k, H.length = k := ⟨_, rfl⟩
  obtain ⟨u, nu, ⟨u1, u2, rfl⟩, q1, q2⟩ := x.plus y
  obtain ⟨v, nv, ⟨v1, v2, rfl⟩, q3, q4⟩ := x.minus y
  obtain ⟨w, nw, ⟨w1, w2, rfl⟩, q5, q6⟩ := x.times y
  have c1 : ∀ h, isC "Field" "plus" h (fv p) = true := fun h => isC_fv (by decide +kernel) h
  have c2 : ∀ h, isC "Field" "minus" h (fv p) = true := fun h => isC_fv (by decide +kernel) h
  have c3 : ∀ h, isC "Field" "times" h (fv p) = true := fun h => isC_fv (by decide +kernel) h
  have c4 : ∀ h, isC "Field" "over" h (fv p) = true := fun h => isC_fv (by decide +kernel) h
  have g0 := at0 hk
  have g1 := at1 hk
  have s0 := st0 hk
  have s1 := st1 hk
  have p1 := len0 hk
  have p2 := @two H
  have ok3 : OKL p [(u1, u2), (v1, v2), (w1, w2)] := by
    intro z hz
    rcases List.mem_cons.mp hz with rfl | hz
    · exact nu
    · rcases List.mem_cons.mp hz with rfl | hz
      · exact nv
      · rcases List.mem_cons.mp hz with rfl | hz
        · exact nw
        · cases hz
  have m3 : [pA (u1, u2), pA (v1, v2), pA (w1, w2)] = [(u1, u2), (v1, v2), (w1, w2)].map pA := rfl
  have tn : ∀ h, truth h (.lst []) = some false := fun _ => rfl
  -- the end of the round
  have fin : ∀ (T : List (Int × Int)), OKL p T → T.length ≤ 10 → ∀ j8, (mSeq (mFrz 12) (mIfS (mOr (mTst (mOp aNe (mVar 12) (mVar 8))) (mTru (mLc [13] (iSq (mVar 12)) (gNm 13) q0_law e1_law))) (mRet (mC (.bl false))) (mNext))) [i0, i1, some (.int p), some (fv p), i4, i5, i6, i7, some (.ref (k + 1)), i9, some (.tup [.int a, .int b]), some (.tup [.int c, .int d]), some (.ref k), j8] (H ++ [some (.lst (T.map pA)), some (.lst (T.map pA))]) = .ok .nx [i0, i1, some (.int p), some (fv p), i4, i5, i6, i7, some (.ref (k + 1)), i9, some (.tup [.int a, .int b]), some (.tup [.int c, .int d]), some (.lst (T.map pA)), j8] (H ++ [none, some (.lst (T.map pA))]) := by
    intro T hT lT j8
    have ne := ne_lc (T := T) (h := H ++ [none, some (.lst (T.map pA))]) (c := k + 1) (g1 _ _)
    have lc := mLc_pure (own := [13]) (it := iSq (mVar 12)) (g := gNm 13) (tt := q0_law) (e := e1_law) (ρ := [i0, i1, some (.int p), some (fv p), i4, i5, i6, i7, some (.ref (k + 1)), i9, some (.tup [.int a, .int b]), some (.tup [.int c, .int d]), some (.lst (T.map pA)), j8]) (h := H ++ [none, some (.lst (T.map pA))]) (l := T.map pA) rfl (fun _ => false) (fun u => u) (by
      intro u hu acc
      obtain ⟨v, hv, rfl⟩ := List.mem_map.mp hu
      refine ⟨_, rfl, ?_, fun w => by cases w⟩
      have q := hT v hv
      unfold q0_law
      simp only [mCall, mCons, mNil, mC, mVar, mNot, mTru, tr_bl, wipeA, List.set_cons_succ, List.set_cons_zero, List.getElem?_cons_succ, List.getElem?_cons_zero, List.append_nil, List.length_cons, List.length_nil, Nat.reduceAdd, ↓reduceIte, q, Bool.not_true]) (fun _ _ w => by cases w) (by rw [List.length_map, sizeLine_eq]; omega)
    rw [filter_no, List.map_nil] at lc
    clear q1 q2 q3 q4 q5 q6 nu nv nw ok3 x y m3
    walk_at "ev"
  by_cases hc : c = 0
  · have z1 : (c == 0) = true := by simpa using hc
    have fin3 := fin _ ok3 (by simp) i13
    rw [← m3] at fin3
    refine ⟨some (.ref (k + 1)), some (.lst [pA (u1, u2), pA (v1, v2), pA (w1, w2)]), [none, some (.lst [pA (u1, u2), pA (v1, v2), pA (w1, w2)])], ?_⟩
    · unfold b2_law
      refine (seq_nx (ρ1 := [i0, i1, some (.int p), some (fv p), i4, i5, i6, i7, i8, i9, some (.tup [.int a, .int b]), some (.tup [.int c, .int d]), some (.ref k), i13]) (h1 := H ++ [some (.lst [pA (u1, u2), pA (v1, v2), pA (w1, w2)])]) ?_).trans ?_
      · clear fin fin3 hc x y ok3 m3
        walk_at "ev"
      refine (seq_nx (ρ1 := [i0, i1, some (.int p), some (fv p), i4, i5, i6, i7, some (.ref (k + 1)), i9, some (.tup [.int a, .int b]), some (.tup [.int c, .int d]), some (.ref k), i13]) (h1 := H ++ [some (.lst [pA (u1, u2), pA (v1, v2), pA (w1, w2)]), some (.lst [pA (u1, u2), pA (v1, v2), pA (w1, w2)])]) ?_).trans ?_
      · clear fin fin3 hc x y ok3 m3
        walk_at "ev"
      refine (seq_nx (ρ1 := [i0, i1, some (.int p), some (fv p), i4, i5, i6, i7, some (.ref (k + 1)), i9, some (.tup [.int a, .int b]), some (.tup [.int c, .int d]), some (.ref k), i13]) (h1 := H ++ [some (.lst [pA (u1, u2), pA (v1, v2), pA (w1, w2)]), some (.lst [pA (u1, u2), pA (v1, v2), pA (w1, w2)])]) ?_).trans ?_
      · clear fin fin3 hc x y ok3 m3
        walk_at "ev"
      exact fin3
  · have z1 : (c == 0) = false := by simpa using hc
    obtain ⟨o, no, ⟨o1, o2, rfl⟩, q7, q8⟩ := x.over y hc
    have ok4 : OKL p ([(u1, u2), (v1, v2), (w1, w2)] ++ [(o1, o2)]) := by
      intro z hz
      rcases List.mem_append.mp hz with q | q
      · exact ok3 z q
      · have : z = (o1, o2) := by simpa using q
        rw [this]
        exact no
    have fin4 := fin _ ok4 (by simp) i13
    have m4 : ([(u1, u2), (v1, v2), (w1, w2)] ++ [(o1, o2)]).map pA = [pA (u1, u2), pA (v1, v2), pA (w1, w2), pA (o1, o2)] := rfl
    rw [m4] at fin4
    refine ⟨some (.ref (k + 1)), some (.lst [pA (u1, u2), pA (v1, v2), pA (w1, w2), pA (o1, o2)]), [none, some (.lst [pA (u1, u2), pA (v1, v2), pA (w1, w2), pA (o1, o2)])], ?_⟩
    · unfold b2_law
      refine (seq_nx (ρ1 := [i0, i1, some (.int p), some (fv p), i4, i5, i6, i7, i8, i9, some (.tup [.int a, .int b]), some (.tup [.int c, .int d]), some (.ref k), i13]) (h1 := H ++ [some (.lst [pA (u1, u2), pA (v1, v2), pA (w1, w2)])]) ?_).trans ?_
      · clear fin fin4 hc x y ok3 m3 m4
        walk_at "ev"
      refine (seq_nx (ρ1 := [i0, i1, some (.int p), some (fv p), i4, i5, i6, i7, some (.ref (k + 1)), i9, some (.tup [.int a, .int b]), some (.tup [.int c, .int d]), some (.ref k), i13]) (h1 := H ++ [some (.lst [pA (u1, u2), pA (v1, v2), pA (w1, w2)]), some (.lst [pA (u1, u2), pA (v1, v2), pA (w1, w2)])]) ?_).trans ?_
      · clear fin fin4 hc x y ok3 m3 m4
        walk_at "ev"
      refine (seq_nx (ρ1 := [i0, i1, some (.int p), some (fv p), i4, i5, i6, i7, some (.ref (k + 1)), i9, some (.tup [.int a, .int b]), some (.tup [.int c, .int d]), some (.ref k), i13]) (h1 := H ++ [some (.lst [pA (u1, u2), pA (v1, v2), pA (w1, w2), pA (o1, o2)]), some (.lst [pA (u1, u2), pA (v1, v2), pA (w1, w2), pA (o1, o2)])]) ?_).trans ?_
      · clear fin fin4 hc x y ok3 m3 m4
        walk_at "ev"
      exact fin4
theorem b3_law_ev {p : Int} {H : AHeap} {l : List (Int × Int)} (all : ∀ y ∈ l, NUM p y.1 y.2) {a b : Int} (x : NUM p a b) (i0 i1 i5 i6 i7 i8 i9 i11 i12 i13 : Option AV) :
    ∃ j8 j11 j12 A, b3_law [i0, i1, some (.int p), some (fv p), some (.lst (l.map pA)), i5, i6, i7, i8, i9, some (.tup [.int a, .int b]), i11, i12, i13] H = .ok .nx [i0, i1, some (.int p), some (fv p), some (.lst (l.map pA)), i5, i6, i7, j8, i9, some (.tup [.int a, .int b]), j11, j12, i13] (H ++ A) := by
  obtain ⟨ρ', h', e, ⟨j8, j11, j12, A, hρ, hh, _⟩⟩ := mFor_run (it := iSq (mVar 4)) (g := gNm 11) (b := b2_law) (ρ := [i0, i1, some (.int p), some (fv p), some (.lst (l.map pA)), i5, i6, i7, i8, i9, some (.tup [.int a, .int b]), i11, i12, i13]) (h := H) (h1 := H) (l := l.map pA)
    (I := fun t ρ kk => ∃ (j8 j11 j12 : Option AV) (A : AHeap), ρ = [i0, i1, some (.int p), some (fv p), some (.lst (l.map pA)), i5, i6, i7, j8, i9, some (.tup [.int a, .int b]), j11, j12, i13] ∧ kk = H ++ A ∧ ∃ rest : List (Int × Int), t = rest.map pA ∧ ∀ y ∈ rest, y ∈ l) rfl
    ⟨i8, i11, i12, [], rfl, (List.append_nil H).symm, l, rfl, fun y hy => hy⟩
    (by
      rintro d t ρ kk ⟨j8, j11, j12, A, rfl, rfl, rest, er, hr⟩
      cases rest with
      | nil => cases er
      | cons y rest =>
        rw [List.map_cons] at er
        cases er
        obtain ⟨k8, k12, B, q⟩ := b2_law_ev (H := H ++ A) x (all y (hr y List.mem_cons_self)) i0 i1 (some (.lst (l.map pA))) i5 i6 i7 j8 i9 j12 i13
        exact ⟨_, _, ⟨_, _, rfl, .inl q⟩, k8, some (.tup [.int y.1, .int y.2]), k12, A ++ B, rfl, List.append_assoc _ _ _, rest, rfl, fun z hz => hr z (List.mem_cons_of_mem _ hz)⟩)
  subst hh hρ
  obtain ⟨u, nu, ⟨u1, u2, rfl⟩, q1, q2⟩ := x.neg
  have c1 : ∀ h, isC "Field" "negative" h (fv p) = true := fun h => isC_fv (by decide +kernel) h
  have t2 : aNe (pA (u1, u2)) (pA (u1, u2)) H = some (.bl false) := by
    show aNe (.tup [.int u1, .int u2]) (.tup [.int u1, .int u2]) H = _
    rw [aNe_t2]
    simp
  refine ⟨j8, j11, j12, A, ?_⟩
  unfold b3_law
  clear all x
  walk_at "ev"
end W

set_option maxRecDepth 100000
set_option maxHeartbeats 4000000
namespace W
open PySem PySem.Spec L2 Mi
local macro_rules | `(tactic| walk_at "ev") => `(tactic| simp only [noX, fnOf, mSeq, mNext, mAsg, gNm, mIfS, mTst, mTru, mOp, mUn, mVar, mC, mCons, mNil, mTup, mLst, mRet, mCall, mMeth, mCB, mIf, mAnd, mOr, mNot, mAndV, mOrV, mNotV, mNotT, mPar, mDrop, isLc, beq_self_eq_true, mLstC, ixN3_1, ixN3_2, pow18, pow30, pow6, List.set_set, gTp, gsCons, gsNil, mSetAt, mSetIx, mApp, mExt, mFrz, mChain, at_f0, List.map_cons, List.map_nil, List.length_cons, List.length_nil, List.cons_append, List.nil_append, List.append_nil, List.replicate_succ, List.replicate_zero, Nat.reduceAdd, Nat.reduceSub, List.getElem?_cons_zero, List.getElem?_cons_succ, List.set_cons_zero, List.set_cons_succ, aAt_0, aAt_1, aAt_2, aEq_int, aNe_int, aEq_t2, aNe_t2, aNe_ni, aNe_in, aNe_nn, aIx_t, aIx_l, aAdd_int, aSub_int, aMul_int, aMod_int, aFdiv_int, aCmp_int, aIs_n, aIsNot_n, aIsNot_b, tr_bl, tr_lst, isi_ii, isi_ib, isi_tt, aInt_int, aAbs_int, aLen_tup, aLen_lst, isN, sizeLine_eq, Nat.reduceLeDiff, Nat.reduceLT, ↓reduceIte, decide_true, decide_false, eq_self, if_true, Bool.false_eq_true, Bool.not_true, Bool.not_false, Bool.true_and, Bool.and_true, Bool.false_and, Bool.and_false, *])
theorem mk_fn (ρ : Env2) (h : AHeap) : mMake "Field" 2 F_Field___init__ [.non] mNil ρ h = .ok (fld .non) h := mMake_of (l := []) (h1 := h) rfl rfl (init_n h) rfl
theorem mk_fp {p : Int} (hp : p ∈ primes) {ρ : Env2} (e : ρ[2]? = some (some (.int p))) (h : AHeap) : mMake "Field" 2 F_Field___init__ [] (mCons (mVar 2) mNil) ρ h = .ok (fld (.int p)) h := mMake_of (l := [.int p]) (h1 := h) (by simp only [mCons, mVar, mNil, e]) rfl (init_p hp h) rfl
theorem at_f3 (x : AV) {a b c : Option AV} {r : Env2} {h : AHeap} : mAt ["Field"] "prime" (mVar 3) (a :: b :: c :: some (fld x) :: r) h = .ok x h := by
  unfold mAt mVar
  simp [fld]
theorem prime_at {v : Int} (h0 : 0 ≤ v) (h1 : v < 25) : ∃ p ∈ primes, aAt (primes.map AV.int) v = some (.int p) := by
  obtain ⟨k, rfl⟩ := Int.eq_ofNat_of_zero_le h0
  have hk : k < primes.length := by
    show k < 25
    omega
  refine ⟨primes[k], List.getElem_mem hk, aAt_nat ?_⟩
  rw [List.getElem?_map, List.getElem?_eq_getElem hk]
  rfl
theorem law_ev (ns : List Int) (hn : ns.length ≤ 63) : ∃ z, F_law [.lstR (ns.map .int)] [] = .ok (.bl true) z := by
  obtain ⟨X, q1, b0⟩ := bag_ev ns hn
  obtain ⟨v, X1, q2, v0, v1, b1⟩ := draw_ev (L := 3) b0 (by decide) (by decide) (sm_small (by decide) (by decide))
  rw [List.set_cons_zero] at q2 b1
  generalize AV.lstR (ns.map .int) = s at q1
  -- the field's number
  have ep : ∃ p X2, Fld p ∧ Bag 2 [X2] 0 ∧ (mIfS (mTst (mOp aGt (mCall 2 F__law_draw [] (mCons (mVar 1) (mCons (mC (.int 3)) (mNil)))) (mC (.int 0)))) (mAsg (mOp aIx (mLst (mCons (mC (.int 2)) (mCons (mC (.int 3)) (mCons (mC (.int 5)) (mCons (mC (.int 7)) (mCons (mC (.int 11)) (mCons (mC (.int 13)) (mCons (mC (.int 17)) (mCons (mC (.int 19)) (mCons (mC (.int 23)) (mCons (mC (.int 29)) (mCons (mC (.int 31)) (mCons (mC (.int 37)) (mCons (mC (.int 41)) (mCons (mC (.int 43)) (mCons (mC (.int 47)) (mCons (mC (.int 53)) (mCons (mC (.int 59)) (mCons (mC (.int 61)) (mCons (mC (.int 67)) (mCons (mC (.int 71)) (mCons (mC (.int 73)) (mCons (mC (.int 79)) (mCons (mC (.int 83)) (mCons (mC (.int 89)) (mCons (mC (.int 97)) (mNil))))))))))))))))))))))))))) (mCall 2 F__law_draw [] (mCons (mVar 1) (mCons (mC (.int 25)) (mNil))))) (gNm 2)) (mNext)) [some s, some (.ref 0), some (.int 0), none, none, none, none, none, none, none, none, none, none, none] [X] = .ok .nx [some s, some (.ref 0), some (.int p), none, none, none, none, none, none, none, none, none, none, none] [X2] := by
    by_cases z : 0 < v
    · have z1 : decide (0 < v) = true := by simpa using z
      obtain ⟨i, X2, q3, i0, i1, b2⟩ := draw_ev (L := 25) b1 (by decide) (by decide) (sm_small (by decide) (by decide))
      rw [List.set_cons_zero] at q3 b2
      obtain ⟨p, hp, ea⟩ := prime_at i0 i1
      have ix : ∀ h, aIx (.lst (primes.map AV.int)) (.int i) h = some (.int p) := fun _ => ea
      have el : primes.map AV.int = [.int 2, .int 3, .int 5, .int 7, .int 11, .int 13, .int 17, .int 19, .int 23, .int 29, .int 31, .int 37, .int 41, .int 43, .int 47, .int 53, .int 59, .int 61, .int 67, .int 71, .int 73, .int 79, .int 83, .int 89, .int 97] := rfl
      rw [el] at ix
      refine ⟨p, X2, .inr hp, b2, ?_⟩
      clear b0 b1 b2 hn z v0 v1 i0 i1 hp ea el
      simp only [aIx_l] at ix
      have ix' := ix []
      clear ix
      walk_at "ev"
    · have z1 : decide (0 < v) = false := by simpa using z
      refine ⟨0, X1, .inl rfl, b1.more (by decide), ?_⟩
      clear b0 b1 hn z v0 v1
      walk_at "ev"
  obtain ⟨p, X2, hp, b2, q3⟩ := ep
  have hf : (mAsg (mIf (mTst (mOp aEq (mVar 2) (mC (.int 0)))) (mMake "Field" 2 F_Field___init__ [.non] (mNil)) (mMake "Field" 2 F_Field___init__ [] (mCons (mVar 2) (mNil)))) (gNm 3)) [some s, some (.ref 0), some (.int p), none, none, none, none, none, none, none, none, none, none, none] [X2] = .ok .nx [some s, some (.ref 0), some (.int p), some (fv p), none, none, none, none, none, none, none, none, none, none] [X2] := by
    rcases hp with rfl | hp
    · have q := mk_fn
      have c1 : ((0 : Int) == 0) = true := rfl
      have e : fv 0 = fld .non := rfl
      clear q3 q1 q2
      walk_at "ev"
    · have q := mk_fp hp (ρ := [some s, some (.ref 0), some (.int p), none, none, none, none, none, none, none, none, none, none, none]) rfl
      have c1 : (p == 0) = false := by simpa using pr_ne hp
      have e := fvp hp
      clear q3 q1 q2 hp
      simp only [mAsg, mIf, mTst, mOp, mVar, mC, gNm, aEq_int, List.getElem?_cons_zero, List.getElem?_cons_succ, List.set_cons_zero, List.set_cons_succ, c1, Bool.false_eq_true, ↓reduceIte, q, e]
  have hc : (mIfS (mOr (mTst (mOp aNe (mAt ["Field"] "prime" (mVar 3)) (mIf (mTst (mOp aEq (mVar 2) (mC (.int 0)))) (mC .non) (mVar 2)))) (mOr (mTst (mOp aNe (mC (.tup [.int 0, .int 1])) (mTup (mCons (mC (.int 0)) (mCons (mC (.int 1)) (mNil)))))) (mTst (mOp aNe (mC (.tup [.int 1, .int 1])) (mTup (mCons (mC (.int 1)) (mCons (mC (.int 1)) (mNil)))))))) (mRet (mC (.bl false))) (mNext)) [some s, some (.ref 0), some (.int p), some (fv p), none, none, none, none, none, none, none, none, none, none] [X2] = .ok .nx [some s, some (.ref 0), some (.int p), some (fv p), none, none, none, none, none, none, none, none, none, none] [X2] := by
    rcases hp with rfl | hp
    · have c1 : ((0 : Int) == 0) = true := rfl
      have e : fv 0 = fld .non := rfl
      have q := @at_f3
      clear q3 q1 q2 hf
      walk_at "ev"
    · have c1 : (p == 0) = false := by simpa using pr_ne hp
      have e := fvp hp
      have q := @at_f3
      clear q3 q1 q2 hp hf
      walk_at "ev"
  have ei : (iR1 (mCons (mC (.int 3)) (mNil))) [some s, some (.ref 0), some (.int p), some (fv p), some (.ref 1), none, none, none, none, none, none, none, none, none] [X2, some (.lst [])] = .ok (rng 0 3) [X2, some (.lst [])] := iR1_ev (j := 3) rfl (by decide) (by decide)
  obtain ⟨ρ', h', e1, ⟨j5, j6, j7, j8, j9, l, A, n, k, hρ, hh, hb, hnum, hlen, hn2, hk, m, hm⟩⟩ := mFor_run (g := gNm 5) (b := b4_law)
    (I := fun t ρ kk => ∃ (j5 j6 j7 j8 j9 : Option AV) (l : List (Int × Int)) (A : Option MO) (n k : Nat), ρ = [some s, some (.ref 0), some (.int p), some (fv p), some (.ref 1), j5, j6, j7, j8, j9, none, none, none, none] ∧ kk = [A, some (.lst (l.map pA))] ∧ Bag n [A] 0 ∧ (∀ y ∈ l, NUM p y.1 y.2) ∧ l.length + k = 3 ∧ n + 6 * k ≤ 20 ∧ (k = 0 → l ≠ []) ∧ ∃ m, t = rng m k) ei
    ⟨none, none, none, none, none, [], X2, 2, 3, rfl, rfl, b2, fun y hy => (by cases hy), rfl, by decide, fun z => absurd z (by decide), 0, rfl⟩
    (by
      rintro d t ρ kk ⟨j5, j6, j7, j8, j9, l, A, n, k, rfl, rfl, hb, hnum, hlen, hn2, hk, m, hm⟩
      obtain ⟨rfl, k', rfl, rfl⟩ := rng_cons hm
      obtain ⟨k6, k7, k8, k9, A2, a, c, q, nn, b6⟩ := b4_law_ev hp (l := l) hb (by omega) (by omega) (some s) (some (.int m)) j6 j7 j8 j9 [none, none, none, none]
      refine ⟨_, _, ⟨_, _, rfl, .inl q⟩, some (.int m), k6, k7, k8, k9, l ++ [(a, c)], A2, n + 6, k', rfl, rfl, b6, fun y hy => ?_, by rw [List.length_append]; simp; omega, by omega, fun _ => by simp, m + 1, rfl⟩
      rcases List.mem_append.mp hy with z | z
      · exact hnum y z
      · have : y = (a, c) := by simpa using z
        rw [this]
        exact nn)
  have hk0 : k = 0 := rng_nil hm.symm
  subst hk0 hρ hh
  have hl := hk rfl
  obtain ⟨ρ', h', e2, ⟨m8, m10, m11, m12, B, hρ, hh, _⟩⟩ := mFor_run (it := iSq (mVar 4)) (g := gNm 10) (b := b3_law) (ρ := [some s, some (.ref 0), some (.int p), some (fv p), some (.lst (l.map pA)), j5, j6, j7, j8, j9, none, none, none, none]) (h := [A, none]) (h1 := [A, none]) (l := l.map pA)
    (I := fun t ρ kk => ∃ (m8 m10 m11 m12 : Option AV) (B : AHeap), ρ = [some s, some (.ref 0), some (.int p), some (fv p), some (.lst (l.map pA)), j5, j6, j7, m8, j9, m10, m11, m12, none] ∧ kk = [A, none] ++ B ∧ ∃ rest : List (Int × Int), t = rest.map pA ∧ ∀ y ∈ rest, y ∈ l) rfl
    ⟨j8, none, none, none, [], rfl, rfl, l, rfl, fun y hy => hy⟩
    (by
      rintro d t ρ kk ⟨m8, m10, m11, m12, B, rfl, rfl, rest, er, hr⟩
      cases rest with
      | nil => cases er
      | cons y rest =>
        rw [List.map_cons] at er
        cases er
        obtain ⟨k8, k11, k12, C, q⟩ := b3_law_ev (H := [A, none] ++ B) hnum (hnum y (hr y List.mem_cons_self)) (some s) (some (.ref 0)) j5 j6 j7 m8 j9 m11 m12 none
        exact ⟨_, _, ⟨_, _, rfl, .inl q⟩, k8, some (.tup [.int y.1, .int y.2]), k11, k12, B ++ C, rfl, List.append_assoc _ _ _, rest, rfl, fun z hz => hr z (List.mem_cons_of_mem _ hz)⟩)
  subst hρ hh
  -- the last answer
  have fin : ∃ z, (mRet (mOrV (mOp aGt (mVar 2) (mC (.int 0))) (mCall 1 F__law_ratios_right [] (mCons (mVar 4) (mNil))))) [some s, some (.ref 0), some (.int p), some (fv p), some (.lst (l.map pA)), j5, j6, j7, m8, j9, m10, m11, m12, none] ([A, none] ++ B) = .ok (.rt (.bl true)) [some s, some (.ref 0), some (.int p), some (fv p), some (.lst (l.map pA)), j5, j6, j7, m8, j9, m10, m11, m12, none] z := by
    rcases hp with rfl | hp
    · obtain ⟨z, q⟩ := ratios_right_ev hl (fun y hy => by
        rcases hnum y hy with ⟨_, x⟩ | ⟨w, _⟩
        · exact x
        · exact absurd rfl (pr_ne w)) (by omega) ([A, none] ++ B)
      have c2 : decide ((0 : Int) < 0) = false := rfl
      refine ⟨z, ?_⟩
      simp only [mRet, mOrV, mOp, mVar, mC, mCall, mCons, mNil, List.append_nil, List.length_cons, List.length_nil, Nat.reduceAdd, List.getElem?_cons_zero, List.getElem?_cons_succ, aCmp_int, c2, Bool.false_eq_true, ↓reduceIte, q]
    · have c2 := pr_pos hp
      refine ⟨[A, none] ++ B, ?_⟩
      simp only [mRet, mOrV, mOp, mVar, mC, List.getElem?_cons_zero, List.getElem?_cons_succ, aCmp_int, c2, ↓reduceIte]
  obtain ⟨z, fin⟩ := fin
  have run : m_law [some s, none, none, none, none, none, none, none, none, none, none, none, none, none] [] = .ok (.rt (.bl true)) [some s, some (.ref 0), some (.int p), some (fv p), some (.lst (l.map pA)), j5, j6, j7, m8, j9, m10, m11, m12, none] z := by
    unfold m_law
    refine (seq_nx (ρ1 := [some s, some (.ref 0), none, none, none, none, none, none, none, none, none, none, none, none]) (h1 := [X]) (by
      clear q2 q3 hf hc e1 e2 fin hm hk hlen hn2
      walk_at "ev")).trans ?_
    refine (seq_nx (ρ1 := [some s, some (.ref 0), some (.int 0), none, none, none, none, none, none, none, none, none, none, none]) (h1 := [X]) rfl).trans ?_
    refine (seq_nx q3).trans ?_
    refine (seq_nx hf).trans ?_
    refine (seq_nx hc).trans ?_
    refine (seq_nx (ρ1 := [some s, some (.ref 0), some (.int p), some (fv p), some (.ref 1), none, none, none, none, none, none, none, none, none]) (h1 := [X2, some (.lst [])]) rfl).trans ?_
    refine (seq_nx e1).trans ?_
    refine (seq_nx (ρ1 := [some s, some (.ref 0), some (.int p), some (fv p), some (.lst (l.map pA)), j5, j6, j7, j8, j9, none, none, none, none]) (h1 := [A, none]) rfl).trans ?_
    refine (seq_nx e2).trans ?_
    refine (seq_nx (ρ1 := [some s, some (.ref 0), some (.int p), some (fv p), some (.lst (l.map pA)), j5, j6, j7, m8, j9, m10, m11, m12, none]) (h1 := [A, none] ++ B) rfl).trans ?_
    exact fin
  refine ⟨[], ?_⟩
  unfold F_law dropF
  have run2 : noX (fnOf m_law 14) [s] [] = .ok (.bl true) z := by
    unfold noX fnOf
    simp only [List.map_cons, List.map_nil, List.length_cons, List.length_nil, List.cons_append, List.nil_append, Nat.reduceAdd, Nat.reduceSub, List.replicate_succ, List.replicate_zero, run]
  rw [run2]
  dsimp only
  rw [if_pos ⟨rfl, Nat.zero_le _, fun i mo hi _ => absurd hi (Nat.not_lt_zero i)⟩]
  rfl
end W

set_option maxRecDepth 100000
set_option maxHeartbeats 4000000
theorem room65 {k : Nat} {A : PySem.Around} (hr : L2.Room k A) : A.units + 65 < PySem.cLine := by have := hr.un; omega
/-! printed by gen.py: the ties -/
namespace W
open PySem PySem.Spec L2 Mi
theorem sc__law_gcd : FnScope N__law_gcd ["one", "other"] (defScope s__law_gcd) := ⟨rfl, rfl, rfl, by decide +kernel, rfl, by decide +kernel, by decide +kernel⟩
theorem sc_inverse_rest : FnScope N_inverse_rest ["rest", "prime"] (defScope s_inverse_rest) := ⟨rfl, rfl, rfl, by decide +kernel, rfl, by decide +kernel, by decide +kernel⟩
theorem sc_lowest : FnScope N_lowest ["top", "bottom"] (defScope s_lowest) := ⟨rfl, rfl, rfl, by decide +kernel, rfl, by decide +kernel, by decide +kernel⟩
theorem sc_ratio_negative : FnScope N_ratio_negative ["one"] (defScope s_ratio_negative) := ⟨rfl, rfl, rfl, by decide +kernel, rfl, by decide +kernel, by decide +kernel⟩
theorem sc_is_whole : FnScope N_is_whole ["thing", "low", "high"] (defScope s_is_whole) := ⟨rfl, rfl, rfl, by decide +kernel, rfl, by decide +kernel, by decide +kernel⟩
theorem sc__law_draw : FnScope N__law_draw ["bag", "limit"] (defScope s__law_draw) := ⟨rfl, rfl, rfl, by decide +kernel, rfl, by decide +kernel, by decide +kernel⟩
theorem sc__law_order : FnScope N__law_order ["one", "other"] (defScope s__law_order) := ⟨rfl, rfl, rfl, by decide +kernel, rfl, by decide +kernel, by decide +kernel⟩
theorem sc_compare_ratios : FnScope N_compare_ratios ["one", "other"] (defScope s_compare_ratios) := ⟨rfl, rfl, rfl, by decide +kernel, rfl, by decide +kernel, by decide +kernel⟩
theorem sc_ratio_size : FnScope N_ratio_size ["one"] (defScope s_ratio_size) := ⟨rfl, rfl, rfl, by decide +kernel, rfl, by decide +kernel, by decide +kernel⟩
theorem sc_is_prime : FnScope N_is_prime ["many"] (defScope s_is_prime) := ⟨rfl, rfl, rfl, by decide +kernel, rfl, by decide +kernel, by decide +kernel⟩
theorem sc__law_bag : FnScope N__law_bag ["script"] (defScope s__law_bag) := ⟨rfl, rfl, rfl, by decide +kernel, rfl, by decide +kernel, by decide +kernel⟩
theorem sc__law_is_number : FnScope N__law_is_number ["p", "thing"] (defScope s__law_is_number) := ⟨rfl, rfl, rfl, by decide +kernel, rfl, by decide +kernel, by decide +kernel⟩
theorem sc__law_make : FnScope N__law_make ["p", "top", "bottom"] (defScope s__law_make) := ⟨rfl, rfl, rfl, by decide +kernel, rfl, by decide +kernel, by decide +kernel⟩
theorem sc_ratio_over : FnScope N_ratio_over ["one", "other"] (defScope s_ratio_over) := ⟨rfl, rfl, rfl, by decide +kernel, rfl, by decide +kernel, by decide +kernel⟩
theorem sc_Field_negative : FnScope N_Field_negative ["self", "one"] (defScope s_Field_negative) := ⟨rfl, rfl, rfl, by decide +kernel, rfl, by decide +kernel, by decide +kernel⟩
theorem sc_make_ratio : FnScope N_make_ratio ["top", "bottom"] (defScope s_make_ratio) := ⟨rfl, rfl, rfl, by decide +kernel, rfl, by decide +kernel, by decide +kernel⟩
theorem sc_ratio_times : FnScope N_ratio_times ["one", "other"] (defScope s_ratio_times) := ⟨rfl, rfl, rfl, by decide +kernel, rfl, by decide +kernel, by decide +kernel⟩
theorem sc_ratio_minus : FnScope N_ratio_minus ["one", "other"] (defScope s_ratio_minus) := ⟨rfl, rfl, rfl, by decide +kernel, rfl, by decide +kernel, by decide +kernel⟩
theorem sc_ratio_plus : FnScope N_ratio_plus ["one", "other"] (defScope s_ratio_plus) := ⟨rfl, rfl, rfl, by decide +kernel, rfl, by decide +kernel, by decide +kernel⟩
theorem sc_is_ratio : FnScope N_is_ratio ["thing"] (defScope s_is_ratio) := ⟨rfl, rfl, rfl, by decide +kernel, rfl, by decide +kernel, by decide +kernel⟩
theorem sc_greatest_ratio : FnScope N_greatest_ratio ["things"] (defScope s_greatest_ratio) := ⟨rfl, rfl, rfl, by decide +kernel, rfl, by decide +kernel, by decide +kernel⟩
theorem sc_least_ratio : FnScope N_least_ratio ["things"] (defScope s_least_ratio) := ⟨rfl, rfl, rfl, by decide +kernel, rfl, by decide +kernel, by decide +kernel⟩
theorem sc__law_wide : FnScope N__law_wide ["bag"] (defScope s__law_wide) := ⟨rfl, rfl, rfl, by decide +kernel, rfl, by decide +kernel, by decide +kernel⟩
theorem sc_Field___init__ : FnScope N_Field___init__ ["self", "prime"] (defScope s_Field___init__) := ⟨rfl, rfl, rfl, by decide +kernel, rfl, by decide +kernel, by decide +kernel⟩
theorem sc__law_over : FnScope N__law_over ["p", "one", "other"] (defScope s__law_over) := ⟨rfl, rfl, rfl, by decide +kernel, rfl, by decide +kernel, by decide +kernel⟩
theorem sc_Field_over : FnScope N_Field_over ["self", "one", "other"] (defScope s_Field_over) := ⟨rfl, rfl, rfl, by decide +kernel, rfl, by decide +kernel, by decide +kernel⟩
theorem sc_Field_number : FnScope N_Field_number ["self", "top", "bottom"] (defScope s_Field_number) := ⟨rfl, rfl, rfl, by decide +kernel, rfl, by decide +kernel, by decide +kernel⟩
theorem sc__law_times : FnScope N__law_times ["p", "one", "other"] (defScope s__law_times) := ⟨rfl, rfl, rfl, by decide +kernel, rfl, by decide +kernel, by decide +kernel⟩
theorem sc__law_plus : FnScope N__law_plus ["p", "one", "other"] (defScope s__law_plus) := ⟨rfl, rfl, rfl, by decide +kernel, rfl, by decide +kernel, by decide +kernel⟩
theorem sc_Field_times : FnScope N_Field_times ["self", "one", "other"] (defScope s_Field_times) := ⟨rfl, rfl, rfl, by decide +kernel, rfl, by decide +kernel, by decide +kernel⟩
theorem sc_Field_minus : FnScope N_Field_minus ["self", "one", "other"] (defScope s_Field_minus) := ⟨rfl, rfl, rfl, by decide +kernel, rfl, by decide +kernel, by decide +kernel⟩
theorem sc_Field_plus : FnScope N_Field_plus ["self", "one", "other"] (defScope s_Field_plus) := ⟨rfl, rfl, rfl, by decide +kernel, rfl, by decide +kernel, by decide +kernel⟩
theorem sc_Field_holds : FnScope N_Field_holds ["self", "thing"] (defScope s_Field_holds) := ⟨rfl, rfl, rfl, by decide +kernel, rfl, by decide +kernel, by decide +kernel⟩
theorem sc__law_minus : FnScope N__law_minus ["p", "one", "other"] (defScope s__law_minus) := ⟨rfl, rfl, rfl, by decide +kernel, rfl, by decide +kernel, by decide +kernel⟩
theorem sc__law_ratios_right : FnScope N__law_ratios_right ["numbers"] (defScope s__law_ratios_right) := ⟨rfl, rfl, rfl, by decide +kernel, rfl, by decide +kernel, by decide +kernel⟩
theorem sc_law : FnScope N_law ["script"] (defScope s_law) := ⟨rfl, rfl, rfl, by decide +kernel, rfl, by decide +kernel, by decide +kernel⟩
def d__law_gcd : He.DefD := ⟨("_law_gcd", none), "_law_gcd", "_law_gcd", defArgs s__law_gcd, defBody s__law_gcd, defScope s__law_gcd, [], []⟩
def d_inverse_rest : He.DefD := ⟨("inverse_rest", none), "inverse_rest", "inverse_rest", defArgs s_inverse_rest, defBody s_inverse_rest, defScope s_inverse_rest, [], []⟩
def d_lowest : He.DefD := ⟨("lowest", none), "lowest", "lowest", defArgs s_lowest, defBody s_lowest, defScope s_lowest, [], []⟩
def d_ratio_negative : He.DefD := ⟨("ratio_negative", none), "ratio_negative", "ratio_negative", defArgs s_ratio_negative, defBody s_ratio_negative, defScope s_ratio_negative, [], []⟩
def d_is_whole : He.DefD := ⟨("is_whole", none), "is_whole", "is_whole", defArgs s_is_whole, defBody s_is_whole, defScope s_is_whole, [.non, .non], []⟩
def d__law_draw : He.DefD := ⟨("_law_draw", none), "_law_draw", "_law_draw", defArgs s__law_draw, defBody s__law_draw, defScope s__law_draw, [], []⟩
def d__law_order : He.DefD := ⟨("_law_order", none), "_law_order", "_law_order", defArgs s__law_order, defBody s__law_order, defScope s__law_order, [], []⟩
def d_compare_ratios : He.DefD := ⟨("compare_ratios", none), "compare_ratios", "compare_ratios", defArgs s_compare_ratios, defBody s_compare_ratios, defScope s_compare_ratios, [], []⟩
def d_ratio_size : He.DefD := ⟨("ratio_size", none), "ratio_size", "ratio_size", defArgs s_ratio_size, defBody s_ratio_size, defScope s_ratio_size, [], []⟩
def d_is_prime : He.DefD := ⟨("is_prime", none), "is_prime", "is_prime", defArgs s_is_prime, defBody s_is_prime, defScope s_is_prime, [], []⟩
def d__law_bag : He.DefD := ⟨("_law_bag", none), "_law_bag", "_law_bag", defArgs s__law_bag, defBody s__law_bag, defScope s__law_bag, [], []⟩
def d__law_is_number : He.DefD := ⟨("_law_is_number", none), "_law_is_number", "_law_is_number", defArgs s__law_is_number, defBody s__law_is_number, defScope s__law_is_number, [], []⟩
def d__law_make : He.DefD := ⟨("_law_make", none), "_law_make", "_law_make", defArgs s__law_make, defBody s__law_make, defScope s__law_make, [], []⟩
def d_ratio_over : He.DefD := ⟨("ratio_over", none), "ratio_over", "ratio_over", defArgs s_ratio_over, defBody s_ratio_over, defScope s_ratio_over, [], []⟩
def d_Field_negative : He.DefD := ⟨("Field", some "negative"), "negative", "Field.negative", defArgs s_Field_negative, defBody s_Field_negative, defScope s_Field_negative, [], []⟩
def d_make_ratio : He.DefD := ⟨("make_ratio", none), "make_ratio", "make_ratio", defArgs s_make_ratio, defBody s_make_ratio, defScope s_make_ratio, [.int 1], []⟩
def d_ratio_times : He.DefD := ⟨("ratio_times", none), "ratio_times", "ratio_times", defArgs s_ratio_times, defBody s_ratio_times, defScope s_ratio_times, [], []⟩
def d_ratio_minus : He.DefD := ⟨("ratio_minus", none), "ratio_minus", "ratio_minus", defArgs s_ratio_minus, defBody s_ratio_minus, defScope s_ratio_minus, [], []⟩
def d_ratio_plus : He.DefD := ⟨("ratio_plus", none), "ratio_plus", "ratio_plus", defArgs s_ratio_plus, defBody s_ratio_plus, defScope s_ratio_plus, [], []⟩
def d_is_ratio : He.DefD := ⟨("is_ratio", none), "is_ratio", "is_ratio", defArgs s_is_ratio, defBody s_is_ratio, defScope s_is_ratio, [], []⟩
def d_greatest_ratio : He.DefD := ⟨("greatest_ratio", none), "greatest_ratio", "greatest_ratio", defArgs s_greatest_ratio, defBody s_greatest_ratio, defScope s_greatest_ratio, [], []⟩
def d_least_ratio : He.DefD := ⟨("least_ratio", none), "least_ratio", "least_ratio", defArgs s_least_ratio, defBody s_least_ratio, defScope s_least_ratio, [], []⟩
def d__law_wide : He.DefD := ⟨("_law_wide", none), "_law_wide", "_law_wide", defArgs s__law_wide, defBody s__law_wide, defScope s__law_wide, [], []⟩
def d_Field___init__ : He.DefD := ⟨("Field", some "__init__"), "__init__", "Field.__init__", defArgs s_Field___init__, defBody s_Field___init__, defScope s_Field___init__, [.non], []⟩
def d__law_over : He.DefD := ⟨("_law_over", none), "_law_over", "_law_over", defArgs s__law_over, defBody s__law_over, defScope s__law_over, [], []⟩
def d_Field_over : He.DefD := ⟨("Field", some "over"), "over", "Field.over", defArgs s_Field_over, defBody s_Field_over, defScope s_Field_over, [], []⟩
def d_Field_number : He.DefD := ⟨("Field", some "number"), "number", "Field.number", defArgs s_Field_number, defBody s_Field_number, defScope s_Field_number, [.int 1], []⟩
def d__law_times : He.DefD := ⟨("_law_times", none), "_law_times", "_law_times", defArgs s__law_times, defBody s__law_times, defScope s__law_times, [], []⟩
def d__law_plus : He.DefD := ⟨("_law_plus", none), "_law_plus", "_law_plus", defArgs s__law_plus, defBody s__law_plus, defScope s__law_plus, [], []⟩
def d_Field_times : He.DefD := ⟨("Field", some "times"), "times", "Field.times", defArgs s_Field_times, defBody s_Field_times, defScope s_Field_times, [], []⟩
def d_Field_minus : He.DefD := ⟨("Field", some "minus"), "minus", "Field.minus", defArgs s_Field_minus, defBody s_Field_minus, defScope s_Field_minus, [], []⟩
def d_Field_plus : He.DefD := ⟨("Field", some "plus"), "plus", "Field.plus", defArgs s_Field_plus, defBody s_Field_plus, defScope s_Field_plus, [], []⟩
def d_Field_holds : He.DefD := ⟨("Field", some "holds"), "holds", "Field.holds", defArgs s_Field_holds, defBody s_Field_holds, defScope s_Field_holds, [], []⟩
def d__law_minus : He.DefD := ⟨("_law_minus", none), "_law_minus", "_law_minus", defArgs s__law_minus, defBody s__law_minus, defScope s__law_minus, [], []⟩
def d__law_ratios_right : He.DefD := ⟨("_law_ratios_right", none), "_law_ratios_right", "_law_ratios_right", defArgs s__law_ratios_right, defBody s__law_ratios_right, defScope s__law_ratios_right, [], []⟩
def d_law : He.DefD := ⟨("law", none), "law", "law", defArgs s_law, defBody s_law, defScope s_law, [], []⟩
def fn : List He.DefD := [d__law_gcd, d_inverse_rest, d_lowest, d_ratio_negative, d_is_whole, d__law_draw, d__law_order, d_compare_ratios, d_ratio_size, d_is_prime, d__law_bag, d__law_is_number, d__law_make, d_ratio_over, d_Field_negative, d_make_ratio, d_ratio_times, d_ratio_minus, d_ratio_plus, d_is_ratio, d_greatest_ratio, d_least_ratio, d__law_wide, d_Field___init__, d__law_over, d_Field_over, d_Field_number, d__law_times, d__law_plus, d_Field_times, d_Field_minus, d_Field_plus, d_Field_holds, d__law_minus, d__law_ratios_right, d_law]
def fa : List He.Fa := [.free "int",
  .free "isinstance",
  .free "bool",
  .free "len",
  .free "abs",
  .free "range",
  .glo "_law_gcd",
  .free "tuple",
  .glo "lowest",
  .cls "Field",
  .noat "Field" "prime",
  .glo "ratio_negative",
  .glo "is_whole",
  .glo "compare_ratios",
  .glo "_law_draw",
  .glo "is_prime",
  .glo "_law_make",
  .glo "inverse_rest",
  .glo "ratio_over",
  .glo "make_ratio",
  .glo "ratio_times",
  .glo "ratio_minus",
  .glo "ratio_plus",
  .glo "is_ratio",
  .glo "_law_times",
  .glo "_law_plus",
  .glo "_law_order",
  .glo "_law_is_number",
  .glo "greatest_ratio",
  .free "list",
  .glo "least_ratio",
  .free "all",
  .glo "_law_over",
  .glo "_law_minus",
  .glo "ratio_size",
  .glo "_law_ratios_right",
  .meth "Field" "over",
  .meth "Field" "times",
  .meth "Field" "minus",
  .meth "Field" "plus",
  .meth "Field" "negative",
  .meth "Field" "number",
  .meth "Field" "holds",
  .glo "_law_wide",
  .mkr "Field",
  .glo "Field",
  .glo "_law_bag",
  .glo "law"]
def xf : List XFa := [.blt "gcd" "math.gcd",
  .tup "ZERO" [.int 0, .int 1],
  .tup "ONE" [.int 1, .int 1]]
section
variable {P : Program} {w : World} {K : PySem.W.Frag} {mg : Str → Option Value} {base : Heap}
theorem fk__law_gcd (T : TX fa fn xf K mg) : ∃ fd, FunD K "_law_gcd" "_law_gcd" (defArgs s__law_gcd) (defBody s__law_gcd) (defScope s__law_gcd) [] [] (He.ga K "_law_gcd") fd ∧ FnK P w K mg base 2 (He.ga K "_law_gcd") fd ["one", "other"] F__law_gcd := by
  obtain ⟨fd, F⟩ := T.c.1.def_ 0 (d := d__law_gcd) rfl
  refine ⟨fd, F, fn_ok (N := N__law_gcd) (m := m__law_gcd) F sc__law_gcd fun cdv A outer s H E hr => ?_⟩
  exact (sm_cons (st_while PassesOwn.never (tm_cmp (op_neD (hr.units)) sr_ne (em_var 1) em_int) (sm_one (st_par 0 1 rfl sc__law_gcd.nd (am_cons (em_var 1) (am_cons (em_op op_modN sr_mod (em_Ty call_int1 sc_int rfl (T.free 0) (by decide +kernel) (am_cons (em_var 0) am_nil)) (em_var 1)) am_nil)))))
      (sm_one (st_ret (em_var 0))))
theorem df__law_gcd_2 (T : TX fa fn xf K mg) : Df P w K mg base 2 (He.ga K "_law_gcd") 2 0 [] F__law_gcd := by
  obtain ⟨fd, F, OK⟩ := fk__law_gcd T
  exact ⟨⟨fd, ["one", "other"], [], [], rfl, OK, F.bindsN (fun _ _ _ _ _ _ us hl => match us, hl with | [_, _], _ => rfl), .nil, fun _ _ => RL.nil⟩, F.kp⟩
theorem fk_inverse_rest (T : TX fa fn xf K mg) : ∃ fd, FunD K "inverse_rest" "inverse_rest" (defArgs s_inverse_rest) (defBody s_inverse_rest) (defScope s_inverse_rest) [] [] (He.ga K "inverse_rest") fd ∧ FnK P w K mg base 2 (He.ga K "inverse_rest") fd ["rest", "prime"] F_inverse_rest := by
  obtain ⟨fd, F⟩ := T.c.1.def_ 1 (d := d_inverse_rest) rfl
  refine ⟨fd, F, fn_ok (N := N_inverse_rest) (m := m_inverse_rest) F sc_inverse_rest fun cdv A outer s H E hr => ?_⟩
  exact (sm_cons (st_asg (em_tup (am_cons (em_var 1) (am_cons (em_var 0) (am_cons em_int (am_cons em_int am_nil))))) (gm_tp 4 rfl (gsm_cons (gm_nm 2 sc_inverse_rest.nd) (gsm_cons (gm_nm 3 sc_inverse_rest.nd) (gsm_cons (gm_nm 4 sc_inverse_rest.nd) (gsm_cons (gm_nm 5 sc_inverse_rest.nd) gsm_nil))))))
      (sm_cons (st_while PassesOwn.never (tm_cmp (op_neD (hr.units)) sr_ne (em_var 3) em_int) (sm_cons (st_set 6 sc_inverse_rest.nd (em_op op_fdivX sr_fdiv (em_var 2) (em_var 3)))
      (sm_cons (st_par 2 3 rfl sc_inverse_rest.nd (am_cons (em_var 3) (am_cons (em_op op_sub sr_sub (em_var 2) (em_op op_mulX' sr_mul (em_var 6) (em_var 3))) am_nil)))
      (sm_one (st_par 4 5 rfl sc_inverse_rest.nd (am_cons (em_var 5) (am_cons (em_op op_sub sr_sub (em_var 4) (em_op op_mulX' sr_mul (em_var 6) (em_var 5))) am_nil)))))))
      (sm_one (st_ret (em_op op_modN sr_mod (em_var 4) (em_var 1))))))
theorem df_inverse_rest_2 (T : TX fa fn xf K mg) : Df P w K mg base 2 (He.ga K "inverse_rest") 2 0 [] F_inverse_rest := by
  obtain ⟨fd, F, OK⟩ := fk_inverse_rest T
  exact ⟨⟨fd, ["rest", "prime"], [], [], rfl, OK, F.bindsN (fun _ _ _ _ _ _ us hl => match us, hl with | [_, _], _ => rfl), .nil, fun _ _ => RL.nil⟩, F.kp⟩
theorem fk_lowest (T : TX fa fn xf K mg) : ∃ fd, FunD K "lowest" "lowest" (defArgs s_lowest) (defBody s_lowest) (defScope s_lowest) [] [] (He.ga K "lowest") fd ∧ FnK P w K mg base 2 (He.ga K "lowest") fd ["top", "bottom"] F_lowest := by
  obtain ⟨fd, F⟩ := T.c.1.def_ 2 (d := d_lowest) rfl
  refine ⟨fd, F, fn_ok (N := N_lowest) (m := m_lowest) F sc_lowest fun cdv A outer s H E hr => ?_⟩
  exact (sm_cons (st_if (tm_cmp (op_eqD (hr.units)) sr_eq (em_var 1) em_int) (sm_one (st_ret (em_tup (am_cons (em_var 0) (am_cons em_int am_nil))))) sm_nil)
      (sm_cons (st_set 2 sc_lowest.nd (em_Bf cr_gcd sc_gcd rfl (T.blt 0) (am_cons (em_var 0) (am_cons (em_var 1) am_nil))))
      (sm_one (st_ret (em_tup (am_cons (em_op op_fdivX sr_fdiv (em_var 0) (em_var 2)) (am_cons (em_op op_fdivX sr_fdiv (em_var 1) (em_var 2)) am_nil)))))))
theorem df_lowest_2 (T : TX fa fn xf K mg) : Df P w K mg base 2 (He.ga K "lowest") 2 0 [] F_lowest := by
  obtain ⟨fd, F, OK⟩ := fk_lowest T
  exact ⟨⟨fd, ["top", "bottom"], [], [], rfl, OK, F.bindsN (fun _ _ _ _ _ _ us hl => match us, hl with | [_, _], _ => rfl), .nil, fun _ _ => RL.nil⟩, F.kp⟩
theorem fk_ratio_negative (T : TX fa fn xf K mg) : ∃ fd, FunD K "ratio_negative" "ratio_negative" (defArgs s_ratio_negative) (defBody s_ratio_negative) (defScope s_ratio_negative) [] [] (He.ga K "ratio_negative") fd ∧ FnK P w K mg base 2 (He.ga K "ratio_negative") fd ["one"] F_ratio_negative := by
  obtain ⟨fd, F⟩ := T.c.1.def_ 3 (d := d_ratio_negative) rfl
  refine ⟨fd, F, fn_ok (N := N_ratio_negative) (m := m_ratio_negative) F sc_ratio_negative fun cdv A outer s H E hr => ?_⟩
  exact (sm_one (st_ret (em_tup (am_cons (em_op op_sub sr_sub em_int (em_ix (em_var 0) em_int (fun _ _ => rfl))) (am_cons (em_ix (em_var 0) em_int (fun _ _ => rfl)) am_nil)))))
theorem df_ratio_negative_1 (T : TX fa fn xf K mg) : Df P w K mg base 2 (He.ga K "ratio_negative") 1 0 [] F_ratio_negative := by
  obtain ⟨fd, F, OK⟩ := fk_ratio_negative T
  exact ⟨⟨fd, ["one"], [], [], rfl, OK, F.bindsN (fun _ _ _ _ _ _ us hl => match us, hl with | [_], _ => rfl), .nil, fun _ _ => RL.nil⟩, F.kp⟩
theorem fk_is_whole (T : TX fa fn xf K mg) : ∃ fd, FunD K "is_whole" "is_whole" (defArgs s_is_whole) (defBody s_is_whole) (defScope s_is_whole) [.non, .non] [] (He.ga K "is_whole") fd ∧ FnK P w K mg base 2 (He.ga K "is_whole") fd ["thing", "low", "high"] F_is_whole := by
  obtain ⟨fd, F⟩ := T.c.1.def_ 4 (d := d_is_whole) rfl
  refine ⟨fd, F, fn_ok (N := N_is_whole) (m := m_is_whole) F sc_is_whole fun cdv A outer s H E hr => ?_⟩
  exact (sm_cons (st_if (tm_w (wm_or (tm_not (tm_tru (em_B call_isi (sc_isi "int") rfl (T.free 1) (by decide +kernel) (am_cons (em_var 0) (am_cons (em_ty rfl (T.free 0) (by decide +kernel)) am_nil))))) (wm_or1 (tm_tru (em_B call_isi (sc_isi "bool") rfl (T.free 1) (by decide +kernel) (am_cons (em_var 0) (am_cons (em_ty rfl (T.free 2) (by decide +kernel)) am_nil))))))) (sm_one (st_ret em_bl)) sm_nil)
      (sm_one (st_ret (em_and (em_or (em_cmp op_isX sr_is (em_var 1) em_non) (em_one (em_cmp op_ge sr_cmp (em_var 0) (em_var 1)))) (em_one (em_or (em_cmp op_isX sr_is (em_var 2) em_non) (em_one (em_cmp op_le sr_cmp (em_var 0) (em_var 2)))))))))
theorem df_is_whole_1 (T : TX fa fn xf K mg) : Df P w K mg base 2 (He.ga K "is_whole") 3 2 [.non, .non] F_is_whole := by
  obtain ⟨fd, F, OK⟩ := fk_is_whole T
  obtain ⟨ds, hv, hb⟩ := F.binds1 (ps := ["thing", "low", "high"]) 1 0 (List.cons_ne_nil _ _) rfl (fun T kV doc pm an cdv ct us its hl hl2 => match us, its, hl, hl2 with | [_], [_, _], _, _ => ⟨_, rfl, rfl⟩)
  exact ⟨⟨fd, ["thing", "low", "high"], _, ds, rfl, OK, hb, hv, fun _ _ => (RL.cons (x := .non) rfl (RL.cons (x := .non) rfl RL.nil))⟩, F.kp⟩
theorem df_is_whole_2 (T : TX fa fn xf K mg) : Df P w K mg base 2 (He.ga K "is_whole") 3 1 [.non] F_is_whole := by
  obtain ⟨fd, F, OK⟩ := fk_is_whole T
  obtain ⟨ds, hv, hb⟩ := F.binds1 (ps := ["thing", "low", "high"]) 2 1 (List.cons_ne_nil _ _) rfl (fun T kV doc pm an cdv ct us its hl hl2 => match us, its, hl, hl2 with | [_, _], [_, _], _, _ => ⟨_, rfl, rfl⟩)
  exact ⟨⟨fd, ["thing", "low", "high"], _, ds, rfl, OK, hb, hv, fun _ _ => (RL.cons (x := .non) rfl RL.nil)⟩, F.kp⟩
theorem df_is_whole_3 (T : TX fa fn xf K mg) : Df P w K mg base 2 (He.ga K "is_whole") 3 0 [] F_is_whole := by
  obtain ⟨fd, F, OK⟩ := fk_is_whole T
  obtain ⟨ds, hv, hb⟩ := F.binds1 (ps := ["thing", "low", "high"]) 3 2 (List.cons_ne_nil _ _) rfl (fun T kV doc pm an cdv ct us its hl hl2 => match us, its, hl, hl2 with | [_, _, _], [_, _], _, _ => ⟨_, rfl, rfl⟩)
  exact ⟨⟨fd, ["thing", "low", "high"], _, ds, rfl, OK, hb, hv, fun _ _ => RL.nil⟩, F.kp⟩
theorem fk__law_draw (T : TX fa fn xf K mg) : ∃ fd, FunD K "_law_draw" "_law_draw" (defArgs s__law_draw) (defBody s__law_draw) (defScope s__law_draw) [] [] (He.ga K "_law_draw") fd ∧ FnK P w K mg base 2 (He.ga K "_law_draw") fd ["bag", "limit"] F__law_draw := by
  obtain ⟨fd, F⟩ := T.c.1.def_ 5 (d := d__law_draw) rfl
  refine ⟨fd, F, fn_ok (N := N__law_draw) (m := m__law_draw) F sc__law_draw fun cdv A outer s H E hr => ?_⟩
  exact (sm_cons (st_if (tm_cmp op_gt sr_cmp (em_ix (em_var 0) em_int (fun _ _ => rfl)) em_int) (sm_cons (st_set 2 sc__law_draw.nd (em_op op_modN sr_mod (em_Ty call_int1 sc_int rfl (T.free 0) (by decide +kernel) (am_cons (em_ix (em_var 0) em_int (fun _ _ => rfl)) am_nil)) (em_var 1)))
      (sm_cons (st_setIx (em_var 0) em_int (em_op op_fdivX sr_fdiv (em_ix (em_var 0) em_int (fun _ _ => rfl)) (em_var 1)))
      (sm_one (st_ret (em_var 2))))) sm_nil)
      (sm_cons (st_set 3 sc__law_draw.nd (em_ix (em_var 0) em_int (fun _ _ => rfl)))
      (sm_cons (st_setIx (em_var 0) em_int (em_op op_addX sr_add (em_var 3) em_int))
      (sm_cons (st_set 4 sc__law_draw.nd (em_ix (em_var 0) em_int (fun _ _ => rfl)))
      (sm_cons (st_set 5 sc__law_draw.nd (em_ix (em_var 4) (em_op op_modN sr_mod (em_Ty call_int1 sc_int rfl (T.free 0) (by decide +kernel) (am_cons (em_var 3) am_nil)) (em_B call_len_seq sc_len rfl (T.free 3) (by decide +kernel) (am_cons (em_var 4) am_nil))) (fun _ _ => rfl)))
      (sm_cons (st_if (tm_w (wm_and (tm_cmp op_lt sr_cmp (em_var 3) (em_B call_len_seq sc_len rfl (T.free 3) (by decide +kernel) (am_cons (em_var 4) am_nil))) (wm_and1 (tm_cmp op_ge sr_cmp (em_var 5) (em_op op_pow sr_pow em_int em_int))))) (sm_cons (st_setIx (em_var 0) em_int (em_op op_fdivX sr_fdiv (em_var 5) (em_var 1)))
      (sm_one (st_ret (em_op op_modN sr_mod (em_Ty call_int1 sc_int rfl (T.free 0) (by decide +kernel) (am_cons (em_var 5) am_nil)) (em_var 1))))) sm_nil)
      (sm_cons (st_set 6 sc__law_draw.nd (em_op op_modN sr_mod (em_Ty call_int1 sc_int rfl (T.free 0) (by decide +kernel) (am_cons (em_op op_addX sr_add (em_op op_addX sr_add (em_op op_mulX' sr_mul (em_op op_addX sr_add (em_var 5) em_int) em_int) (em_op op_mulX' sr_mul (em_op op_mulX' sr_mul (em_var 3) (em_var 3)) em_int)) (em_op op_mulX' sr_mul (em_var 3) em_int)) am_nil)) em_int))
      (sm_cons (st_set 6 sc__law_draw.nd (em_op op_modN sr_mod (em_Ty call_int1 sc_int rfl (T.free 0) (by decide +kernel) (am_cons (em_op op_addX sr_add (em_op op_mulX' sr_mul (em_var 6) em_int) (em_op op_mulX' sr_mul (em_op op_addX sr_add (em_var 3) em_int) em_int)) am_nil)) em_int))
      (sm_one (st_ret (em_op op_modN sr_mod (em_Ty call_int1 sc_int rfl (T.free 0) (by decide +kernel) (am_cons (em_op op_fdivX sr_fdiv (em_var 6) em_int) am_nil)) (em_var 1))))))))))))
theorem df__law_draw_2 (T : TX fa fn xf K mg) : Df P w K mg base 2 (He.ga K "_law_draw") 2 0 [] F__law_draw := by
  obtain ⟨fd, F, OK⟩ := fk__law_draw T
  exact ⟨⟨fd, ["bag", "limit"], [], [], rfl, OK, F.bindsN (fun _ _ _ _ _ _ us hl => match us, hl with | [_, _], _ => rfl), .nil, fun _ _ => RL.nil⟩, F.kp⟩
theorem fk__law_order (T : TX fa fn xf K mg) : ∃ fd, FunD K "_law_order" "_law_order" (defArgs s__law_order) (defBody s__law_order) (defScope s__law_order) [] [] (He.ga K "_law_order") fd ∧ FnK P w K mg base 2 (He.ga K "_law_order") fd ["one", "other"] F__law_order := by
  obtain ⟨fd, F⟩ := T.c.1.def_ 6 (d := d__law_order) rfl
  refine ⟨fd, F, fn_ok (N := N__law_order) (m := m__law_order) F sc__law_order fun cdv A outer s H E hr => ?_⟩
  exact (sm_cons (st_set 2 sc__law_order.nd (em_op op_mulX' sr_mul (em_ix (em_var 0) em_int (fun _ _ => rfl)) (em_ix (em_var 1) em_int (fun _ _ => rfl))))
      (sm_cons (st_set 3 sc__law_order.nd (em_op op_mulX' sr_mul (em_ix (em_var 1) em_int (fun _ _ => rfl)) (em_ix (em_var 0) em_int (fun _ _ => rfl))))
      (sm_one (st_ret (em_ifx (tm_cmp (op_eqD (hr.units)) sr_eq (em_var 2) (em_var 3)) em_int (em_ifx (tm_cmp op_gt sr_cmp (em_var 2) (em_var 3)) em_int (em_op op_sub sr_sub em_int em_int)))))))
theorem df__law_order_2 (T : TX fa fn xf K mg) : Df P w K mg base 2 (He.ga K "_law_order") 2 0 [] F__law_order := by
  obtain ⟨fd, F, OK⟩ := fk__law_order T
  exact ⟨⟨fd, ["one", "other"], [], [], rfl, OK, F.bindsN (fun _ _ _ _ _ _ us hl => match us, hl with | [_, _], _ => rfl), .nil, fun _ _ => RL.nil⟩, F.kp⟩
theorem fk_compare_ratios (T : TX fa fn xf K mg) : ∃ fd, FunD K "compare_ratios" "compare_ratios" (defArgs s_compare_ratios) (defBody s_compare_ratios) (defScope s_compare_ratios) [] [] (He.ga K "compare_ratios") fd ∧ FnK P w K mg base 2 (He.ga K "compare_ratios") fd ["one", "other"] F_compare_ratios := by
  obtain ⟨fd, F⟩ := T.c.1.def_ 7 (d := d_compare_ratios) rfl
  refine ⟨fd, F, fn_ok (N := N_compare_ratios) (m := m_compare_ratios) F sc_compare_ratios fun cdv A outer s H E hr => ?_⟩
  exact (sm_cons (st_set 2 sc_compare_ratios.nd (em_op op_mulX' sr_mul (em_ix (em_var 0) em_int (fun _ _ => rfl)) (em_ix (em_var 1) em_int (fun _ _ => rfl))))
      (sm_cons (st_set 3 sc_compare_ratios.nd (em_op op_mulX' sr_mul (em_ix (em_var 1) em_int (fun _ _ => rfl)) (em_ix (em_var 0) em_int (fun _ _ => rfl))))
      (sm_cons (st_if (tm_cmp op_lt sr_cmp (em_var 2) (em_var 3)) (sm_one (st_ret (em_un un_neg su_neg em_int))) sm_nil)
      (sm_cons (st_if (tm_cmp op_gt sr_cmp (em_var 2) (em_var 3)) (sm_one (st_ret em_int)) sm_nil)
      (sm_one (st_ret em_int))))))
theorem df_compare_ratios_2 (T : TX fa fn xf K mg) : Df P w K mg base 2 (He.ga K "compare_ratios") 2 0 [] F_compare_ratios := by
  obtain ⟨fd, F, OK⟩ := fk_compare_ratios T
  exact ⟨⟨fd, ["one", "other"], [], [], rfl, OK, F.bindsN (fun _ _ _ _ _ _ us hl => match us, hl with | [_, _], _ => rfl), .nil, fun _ _ => RL.nil⟩, F.kp⟩
theorem fk_ratio_size (T : TX fa fn xf K mg) : ∃ fd, FunD K "ratio_size" "ratio_size" (defArgs s_ratio_size) (defBody s_ratio_size) (defScope s_ratio_size) [] [] (He.ga K "ratio_size") fd ∧ FnK P w K mg base 2 (He.ga K "ratio_size") fd ["one"] F_ratio_size := by
  obtain ⟨fd, F⟩ := T.c.1.def_ 8 (d := d_ratio_size) rfl
  refine ⟨fd, F, fn_ok (N := N_ratio_size) (m := m_ratio_size) F sc_ratio_size fun cdv A outer s H E hr => ?_⟩
  exact (sm_one (st_ret (em_tup (am_cons (em_B call_abs sc_abs rfl (T.free 4) (by decide +kernel) (am_cons (em_ix (em_var 0) em_int (fun _ _ => rfl)) am_nil)) (am_cons (em_ix (em_var 0) em_int (fun _ _ => rfl)) am_nil)))))
theorem df_ratio_size_1 (T : TX fa fn xf K mg) : Df P w K mg base 2 (He.ga K "ratio_size") 1 0 [] F_ratio_size := by
  obtain ⟨fd, F, OK⟩ := fk_ratio_size T
  exact ⟨⟨fd, ["one"], [], [], rfl, OK, F.bindsN (fun _ _ _ _ _ _ us hl => match us, hl with | [_], _ => rfl), .nil, fun _ _ => RL.nil⟩, F.kp⟩
theorem fk_is_prime (T : TX fa fn xf K mg) : ∃ fd, FunD K "is_prime" "is_prime" (defArgs s_is_prime) (defBody s_is_prime) (defScope s_is_prime) [] [] (He.ga K "is_prime") fd ∧ FnK P w K mg base 2 (He.ga K "is_prime") fd ["many"] F_is_prime := by
  obtain ⟨fd, F⟩ := T.c.1.def_ 9 (d := d_is_prime) rfl
  refine ⟨fd, F, fn_ok (N := N_is_prime) (m := m_is_prime) F sc_is_prime fun cdv A outer s H E hr => ?_⟩
  exact (sm_cons (st_for PassesOwn.never rfl (im_r2 (T.free 5) (am_cons em_int (am_cons (em_var 0) am_nil))) (gm_nm 1 sc_is_prime.nd) (sm_one (st_if (tm_cmp (op_eqD (hr.units)) sr_eq (em_op op_modN sr_mod (em_var 0) (em_var 1)) em_int) (sm_one (st_ret em_bl)) sm_nil)))
      (sm_one (st_ret em_bl)))
theorem df_is_prime_1 (T : TX fa fn xf K mg) : Df P w K mg base 2 (He.ga K "is_prime") 1 0 [] F_is_prime := by
  obtain ⟨fd, F, OK⟩ := fk_is_prime T
  exact ⟨⟨fd, ["many"], [], [], rfl, OK, F.bindsN (fun _ _ _ _ _ _ us hl => match us, hl with | [_], _ => rfl), .nil, fun _ _ => RL.nil⟩, F.kp⟩
theorem fk__law_bag (T : TX fa fn xf K mg) : ∃ fd, FunD K "_law_bag" "_law_bag" (defArgs s__law_bag) (defBody s__law_bag) (defScope s__law_bag) [] [] (He.ga K "_law_bag") fd ∧ FnK P w K mg base 2 (He.ga K "_law_bag") fd ["script"] F__law_bag := by
  obtain ⟨fd, F⟩ := T.c.1.def_ 10 (d := d__law_bag) rfl
  refine ⟨fd, F, fn_ok (N := N__law_bag) (m := m__law_bag) F sc__law_bag fun cdv A outer s H E hr => ?_⟩
  exact (sm_cons (st_setLc 1 (own := [("cell", 2)]) rfl sc__law_bag.nd (blkOk_by (N := N__law_bag) (sc := defScope s__law_bag) (by decide +kernel)) (sw_true rfl rfl rfl (by decide +kernel)) (im_seq (em_sl (em_var 0) om_none (om_some em_int))) (fun _ _ _ _ _ => (go_nm 2 sc__law_bag.nd)) (fun _ _ _ _ _ => tsm_nil) (fun _ _ _ _ _ => (em_B call_abs sc_abs rfl (T.free 4) (by decide +kernel) (am_cons (em_var 2) am_nil))))
      (sm_cons (st_if (tm_cmp (op_eqD (hr.units)) sr_eq (em_B call_len_seq sc_len rfl (T.free 3) (by decide +kernel) (am_cons (em_var 1) am_nil)) em_int) (sm_one (st_set 1 sc__law_bag.nd (em_lst (am_cons em_int am_nil)))) sm_nil)
      (sm_one (st_ret (em_lstC (am_cons (em_var 1) (am_cons em_int (am_cons em_int am_nil))))))))
theorem df__law_bag_1 (T : TX fa fn xf K mg) : Df P w K mg base 2 (He.ga K "_law_bag") 1 0 [] F__law_bag := by
  obtain ⟨fd, F, OK⟩ := fk__law_bag T
  exact ⟨⟨fd, ["script"], [], [], rfl, OK, F.bindsN (fun _ _ _ _ _ _ us hl => match us, hl with | [_], _ => rfl), .nil, fun _ _ => RL.nil⟩, F.kp⟩
theorem fk__law_is_number (T : TX fa fn xf K mg) : ∃ fd, FunD K "_law_is_number" "_law_is_number" (defArgs s__law_is_number) (defBody s__law_is_number) (defScope s__law_is_number) [] [] (He.ga K "_law_is_number") fd ∧ FnK P w K mg base 3 (He.ga K "_law_is_number") fd ["p", "thing"] F__law_is_number := by
  obtain ⟨fd, F⟩ := T.c.1.def_ 11 (d := d__law_is_number) rfl
  refine ⟨fd, F, fn_ok (N := N__law_is_number) (m := m__law_is_number) F sc__law_is_number fun cdv A outer s H E hr => ?_⟩
  exact (sm_cons (st_if (tm_w (wm_or (tm_not (tm_tru (em_B call_isi (sc_isi "tuple") rfl (T.free 1) (by decide +kernel) (am_cons (em_var 1) (am_cons (em_ty rfl (T.free 7) (by decide +kernel)) am_nil))))) (wm_or1 (tm_cmp (op_neD (hr.units)) sr_ne (em_B call_len_seq sc_len rfl (T.free 3) (by decide +kernel) (am_cons (em_var 1) am_nil)) em_int)))) (sm_one (st_ret em_bl)) sm_nil)
      (sm_cons (st_for PassesOwn.never rfl (im_seq (em_var 1)) (gm_nm 2 sc__law_is_number.nd) (sm_one (st_if (tm_w (wm_or (tm_not (tm_tru (em_B call_isi (sc_isi "int") rfl (T.free 1) (by decide +kernel) (am_cons (em_var 2) (am_cons (em_ty rfl (T.free 0) (by decide +kernel)) am_nil))))) (wm_or1 (tm_tru (em_B call_isi (sc_isi "bool") rfl (T.free 1) (by decide +kernel) (am_cons (em_var 2) (am_cons (em_ty rfl (T.free 2) (by decide +kernel)) am_nil))))))) (sm_one (st_ret em_bl)) sm_nil)))
      (sm_cons (st_if (tm_cmp op_gt sr_cmp (em_var 0) em_int) (sm_one (st_ret (em_and (em_chain op_le sr_cmp op_lt sr_cmp em_int (em_ix (em_var 1) em_int (fun _ _ => rfl)) (em_var 0)) (em_one (em_cmp (op_eqD (hr.units)) sr_eq (em_ix (em_var 1) em_int (fun _ _ => rfl)) em_int))))) sm_nil)
      (sm_one (st_ret (em_and (em_cmp op_ge sr_cmp (em_ix (em_var 1) em_int (fun _ _ => rfl)) em_int) (em_one (em_cmp (op_eqD (hr.units)) sr_eq (em_call (df__law_gcd_2 T) (hr.mono (by decide)) (T.glo 6) (am_cons (em_B call_abs sc_abs rfl (T.free 4) (by decide +kernel) (am_cons (em_ix (em_var 1) em_int (fun _ _ => rfl)) am_nil)) (am_cons (em_ix (em_var 1) em_int (fun _ _ => rfl)) am_nil))) em_int))))))))
theorem df__law_is_number_2 (T : TX fa fn xf K mg) : Df P w K mg base 3 (He.ga K "_law_is_number") 2 0 [] F__law_is_number := by
  obtain ⟨fd, F, OK⟩ := fk__law_is_number T
  exact ⟨⟨fd, ["p", "thing"], [], [], rfl, OK, F.bindsN (fun _ _ _ _ _ _ us hl => match us, hl with | [_, _], _ => rfl), .nil, fun _ _ => RL.nil⟩, F.kp⟩
theorem fk__law_make (T : TX fa fn xf K mg) : ∃ fd, FunD K "_law_make" "_law_make" (defArgs s__law_make) (defBody s__law_make) (defScope s__law_make) [] [] (He.ga K "_law_make") fd ∧ FnK P w K mg base 3 (He.ga K "_law_make") fd ["p", "top", "bottom"] F__law_make := by
  obtain ⟨fd, F⟩ := T.c.1.def_ 12 (d := d__law_make) rfl
  refine ⟨fd, F, fn_ok (N := N__law_make) (m := m__law_make) F sc__law_make fun cdv A outer s H E hr => ?_⟩
  exact (sm_cons (st_if (tm_cmp op_gt sr_cmp (em_var 0) em_int) (sm_cons (st_set 3 sc__law_make.nd em_int)
      (sm_cons (st_for PassesOwn.never rfl (im_r1 (T.free 5) (am_cons (em_var 0) am_nil)) (gm_nm 4 sc__law_make.nd) (sm_one (st_if (tm_cmp (op_eqD (hr.units)) sr_eq (em_op op_modN sr_mod (em_Ty call_int1 sc_int rfl (T.free 0) (by decide +kernel) (am_cons (em_op op_mulX' sr_mul (em_var 2) (em_var 4)) am_nil)) (em_var 0)) em_int) (sm_one (st_set 3 sc__law_make.nd (em_var 4))) sm_nil)))
      (sm_one (st_ret (em_tup (am_cons (em_op op_modN sr_mod (em_Ty call_int1 sc_int rfl (T.free 0) (by decide +kernel) (am_cons (em_op op_mulX' sr_mul (em_var 1) (em_var 3)) am_nil)) (em_var 0)) (am_cons em_int am_nil))))))) sm_nil)
      (sm_cons (st_if (tm_cmp op_lt sr_cmp (em_var 2) em_int) (sm_one (st_par 1 2 rfl sc__law_make.nd (am_cons (em_op op_sub sr_sub em_int (em_var 1)) (am_cons (em_op op_sub sr_sub em_int (em_var 2)) am_nil)))) sm_nil)
      (sm_cons (st_set 5 sc__law_make.nd (em_call (df__law_gcd_2 T) (hr.mono (by decide)) (T.glo 6) (am_cons (em_B call_abs sc_abs rfl (T.free 4) (by decide +kernel) (am_cons (em_var 1) am_nil)) (am_cons (em_var 2) am_nil))))
      (sm_one (st_ret (em_tup (am_cons (em_op op_fdivX sr_fdiv (em_var 1) (em_var 5)) (am_cons (em_op op_fdivX sr_fdiv (em_var 2) (em_var 5)) am_nil))))))))
theorem df__law_make_3 (T : TX fa fn xf K mg) : Df P w K mg base 3 (He.ga K "_law_make") 3 0 [] F__law_make := by
  obtain ⟨fd, F, OK⟩ := fk__law_make T
  exact ⟨⟨fd, ["p", "top", "bottom"], [], [], rfl, OK, F.bindsN (fun _ _ _ _ _ _ us hl => match us, hl with | [_, _, _], _ => rfl), .nil, fun _ _ => RL.nil⟩, F.kp⟩
theorem fk_ratio_over (T : TX fa fn xf K mg) : ∃ fd, FunD K "ratio_over" "ratio_over" (defArgs s_ratio_over) (defBody s_ratio_over) (defScope s_ratio_over) [] [] (He.ga K "ratio_over") fd ∧ FnK P w K mg base 3 (He.ga K "ratio_over") fd ["one", "other"] F_ratio_over := by
  obtain ⟨fd, F⟩ := T.c.1.def_ 13 (d := d_ratio_over) rfl
  refine ⟨fd, F, fn_ok (N := N_ratio_over) (m := m_ratio_over) F sc_ratio_over fun cdv A outer s H E hr => ?_⟩
  exact (sm_cons (st_if (tm_cmp op_lt sr_cmp (em_ix (em_var 1) em_int (fun _ _ => rfl)) em_int) (sm_one (st_ret (em_call (df_lowest_2 T) (hr.mono (by decide)) (T.glo 8) (am_cons (em_op op_sub sr_sub em_int (em_op op_mulX' sr_mul (em_ix (em_var 0) em_int (fun _ _ => rfl)) (em_ix (em_var 1) em_int (fun _ _ => rfl)))) (am_cons (em_op op_sub sr_sub em_int (em_op op_mulX' sr_mul (em_ix (em_var 0) em_int (fun _ _ => rfl)) (em_ix (em_var 1) em_int (fun _ _ => rfl)))) am_nil))))) sm_nil)
      (sm_one (st_ret (em_call (df_lowest_2 T) (hr.mono (by decide)) (T.glo 8) (am_cons (em_op op_mulX' sr_mul (em_ix (em_var 0) em_int (fun _ _ => rfl)) (em_ix (em_var 1) em_int (fun _ _ => rfl))) (am_cons (em_op op_mulX' sr_mul (em_ix (em_var 0) em_int (fun _ _ => rfl)) (em_ix (em_var 1) em_int (fun _ _ => rfl))) am_nil))))))
theorem df_ratio_over_2 (T : TX fa fn xf K mg) : Df P w K mg base 3 (He.ga K "ratio_over") 2 0 [] F_ratio_over := by
  obtain ⟨fd, F, OK⟩ := fk_ratio_over T
  exact ⟨⟨fd, ["one", "other"], [], [], rfl, OK, F.bindsN (fun _ _ _ _ _ _ us hl => match us, hl with | [_, _], _ => rfl), .nil, fun _ _ => RL.nil⟩, F.kp⟩
theorem fk_Field_negative (T : TX fa fn xf K mg) : ∃ fd, FunD K "negative" "Field.negative" (defArgs s_Field_negative) (defBody s_Field_negative) (defScope s_Field_negative) [] [] (He.ma K (He.ga K "Field") "negative") fd ∧ FnK P w K mg base 3 (He.ma K (He.ga K "Field") "negative") fd ["self", "one"] F_Field_negative := by
  obtain ⟨fd, F⟩ := T.c.1.def_ 14 (d := d_Field_negative) rfl
  refine ⟨fd, F, fn_ok (N := N_Field_negative) (m := m_Field_negative) F sc_Field_negative fun cdv A outer s H E hr => ?_⟩
  exact (sm_cons (st_if (tm_cmp op_isX sr_is (em_at (all1 (T.ca 9 10)) (em_var 0)) em_non) (sm_one (st_ret (em_call (df_ratio_negative_1 T) (hr.mono (by decide)) (T.glo 11) (am_cons (em_var 1) am_nil)))) sm_nil)
      (sm_one (st_ret (em_tup (am_cons (em_op op_modN sr_mod (em_op op_sub sr_sub em_int (em_ix (em_var 1) em_int (fun _ _ => rfl))) (em_at (all1 (T.ca 9 10)) (em_var 0))) (am_cons em_int am_nil))))))
theorem df_Field_negative_2 (T : TX fa fn xf K mg) : Df P w K mg base 3 (He.ma K (He.ga K "Field") "negative") 2 0 [] F_Field_negative := by
  obtain ⟨fd, F, OK⟩ := fk_Field_negative T
  exact ⟨⟨fd, ["self", "one"], [], [], rfl, OK, F.bindsN (fun _ _ _ _ _ _ us hl => match us, hl with | [_, _], _ => rfl), .nil, fun _ _ => RL.nil⟩, F.kp⟩
theorem fk_make_ratio (T : TX fa fn xf K mg) : ∃ fd, FunD K "make_ratio" "make_ratio" (defArgs s_make_ratio) (defBody s_make_ratio) (defScope s_make_ratio) [.int 1] [] (He.ga K "make_ratio") fd ∧ FnK P w K mg base 3 (He.ga K "make_ratio") fd ["top", "bottom"] F_make_ratio := by
  obtain ⟨fd, F⟩ := T.c.1.def_ 15 (d := d_make_ratio) rfl
  refine ⟨fd, F, fn_ok (N := N_make_ratio) (m := m_make_ratio) F sc_make_ratio fun cdv A outer s H E hr => ?_⟩
  exact (sm_cons (st_if (tm_not (tm_tru (em_call (df_is_whole_1 T) (hr.mono (by decide)) (T.glo 12) (am_cons (em_var 0) am_nil)))) (sm_one st_never) sm_nil)
      (sm_cons (st_if (tm_w (wm_or (tm_not (tm_tru (em_call (df_is_whole_1 T) (hr.mono (by decide)) (T.glo 12) (am_cons (em_var 1) am_nil)))) (wm_or1 (tm_cmp (op_eqD (hr.units)) sr_eq (em_var 1) em_int)))) (sm_one st_never) sm_nil)
      (sm_cons (st_if (tm_cmp op_lt sr_cmp (em_var 1) em_int) (sm_one (st_ret (em_call (df_lowest_2 T) (hr.mono (by decide)) (T.glo 8) (am_cons (em_op op_sub sr_sub em_int (em_var 0)) (am_cons (em_op op_sub sr_sub em_int (em_var 1)) am_nil))))) sm_nil)
      (sm_one (st_ret (em_call (df_lowest_2 T) (hr.mono (by decide)) (T.glo 8) (am_cons (em_var 0) (am_cons (em_var 1) am_nil))))))))
theorem df_make_ratio_1 (T : TX fa fn xf K mg) : Df P w K mg base 3 (He.ga K "make_ratio") 2 1 [.int 1] F_make_ratio := by
  obtain ⟨fd, F, OK⟩ := fk_make_ratio T
  obtain ⟨ds, hv, hb⟩ := F.binds1 (ps := ["top", "bottom"]) 1 0 (List.cons_ne_nil _ _) rfl (fun T kV doc pm an cdv ct us its hl hl2 => match us, its, hl, hl2 with | [_], [_], _, _ => ⟨_, rfl, rfl⟩)
  exact ⟨⟨fd, ["top", "bottom"], _, ds, rfl, OK, hb, hv, fun _ _ => (RL.cons (x := .int 1) rfl RL.nil)⟩, F.kp⟩
theorem df_make_ratio_2 (T : TX fa fn xf K mg) : Df P w K mg base 3 (He.ga K "make_ratio") 2 0 [] F_make_ratio := by
  obtain ⟨fd, F, OK⟩ := fk_make_ratio T
  obtain ⟨ds, hv, hb⟩ := F.binds1 (ps := ["top", "bottom"]) 2 1 (List.cons_ne_nil _ _) rfl (fun T kV doc pm an cdv ct us its hl hl2 => match us, its, hl, hl2 with | [_, _], [_], _, _ => ⟨_, rfl, rfl⟩)
  exact ⟨⟨fd, ["top", "bottom"], _, ds, rfl, OK, hb, hv, fun _ _ => RL.nil⟩, F.kp⟩
theorem fk_ratio_times (T : TX fa fn xf K mg) : ∃ fd, FunD K "ratio_times" "ratio_times" (defArgs s_ratio_times) (defBody s_ratio_times) (defScope s_ratio_times) [] [] (He.ga K "ratio_times") fd ∧ FnK P w K mg base 3 (He.ga K "ratio_times") fd ["one", "other"] F_ratio_times := by
  obtain ⟨fd, F⟩ := T.c.1.def_ 16 (d := d_ratio_times) rfl
  refine ⟨fd, F, fn_ok (N := N_ratio_times) (m := m_ratio_times) F sc_ratio_times fun cdv A outer s H E hr => ?_⟩
  exact (sm_one (st_ret (em_call (df_lowest_2 T) (hr.mono (by decide)) (T.glo 8) (am_cons (em_op op_mulX' sr_mul (em_ix (em_var 0) em_int (fun _ _ => rfl)) (em_ix (em_var 1) em_int (fun _ _ => rfl))) (am_cons (em_op op_mulX' sr_mul (em_ix (em_var 0) em_int (fun _ _ => rfl)) (em_ix (em_var 1) em_int (fun _ _ => rfl))) am_nil)))))
theorem df_ratio_times_2 (T : TX fa fn xf K mg) : Df P w K mg base 3 (He.ga K "ratio_times") 2 0 [] F_ratio_times := by
  obtain ⟨fd, F, OK⟩ := fk_ratio_times T
  exact ⟨⟨fd, ["one", "other"], [], [], rfl, OK, F.bindsN (fun _ _ _ _ _ _ us hl => match us, hl with | [_, _], _ => rfl), .nil, fun _ _ => RL.nil⟩, F.kp⟩
theorem fk_ratio_minus (T : TX fa fn xf K mg) : ∃ fd, FunD K "ratio_minus" "ratio_minus" (defArgs s_ratio_minus) (defBody s_ratio_minus) (defScope s_ratio_minus) [] [] (He.ga K "ratio_minus") fd ∧ FnK P w K mg base 3 (He.ga K "ratio_minus") fd ["one", "other"] F_ratio_minus := by
  obtain ⟨fd, F⟩ := T.c.1.def_ 17 (d := d_ratio_minus) rfl
  refine ⟨fd, F, fn_ok (N := N_ratio_minus) (m := m_ratio_minus) F sc_ratio_minus fun cdv A outer s H E hr => ?_⟩
  exact (sm_one (st_ret (em_call (df_lowest_2 T) (hr.mono (by decide)) (T.glo 8) (am_cons (em_op op_sub sr_sub (em_op op_mulX' sr_mul (em_ix (em_var 0) em_int (fun _ _ => rfl)) (em_ix (em_var 1) em_int (fun _ _ => rfl))) (em_op op_mulX' sr_mul (em_ix (em_var 1) em_int (fun _ _ => rfl)) (em_ix (em_var 0) em_int (fun _ _ => rfl)))) (am_cons (em_op op_mulX' sr_mul (em_ix (em_var 0) em_int (fun _ _ => rfl)) (em_ix (em_var 1) em_int (fun _ _ => rfl))) am_nil)))))
theorem df_ratio_minus_2 (T : TX fa fn xf K mg) : Df P w K mg base 3 (He.ga K "ratio_minus") 2 0 [] F_ratio_minus := by
  obtain ⟨fd, F, OK⟩ := fk_ratio_minus T
  exact ⟨⟨fd, ["one", "other"], [], [], rfl, OK, F.bindsN (fun _ _ _ _ _ _ us hl => match us, hl with | [_, _], _ => rfl), .nil, fun _ _ => RL.nil⟩, F.kp⟩
theorem fk_ratio_plus (T : TX fa fn xf K mg) : ∃ fd, FunD K "ratio_plus" "ratio_plus" (defArgs s_ratio_plus) (defBody s_ratio_plus) (defScope s_ratio_plus) [] [] (He.ga K "ratio_plus") fd ∧ FnK P w K mg base 3 (He.ga K "ratio_plus") fd ["one", "other"] F_ratio_plus := by
  obtain ⟨fd, F⟩ := T.c.1.def_ 18 (d := d_ratio_plus) rfl
  refine ⟨fd, F, fn_ok (N := N_ratio_plus) (m := m_ratio_plus) F sc_ratio_plus fun cdv A outer s H E hr => ?_⟩
  exact (sm_one (st_ret (em_call (df_lowest_2 T) (hr.mono (by decide)) (T.glo 8) (am_cons (em_op op_addX sr_add (em_op op_mulX' sr_mul (em_ix (em_var 0) em_int (fun _ _ => rfl)) (em_ix (em_var 1) em_int (fun _ _ => rfl))) (em_op op_mulX' sr_mul (em_ix (em_var 1) em_int (fun _ _ => rfl)) (em_ix (em_var 0) em_int (fun _ _ => rfl)))) (am_cons (em_op op_mulX' sr_mul (em_ix (em_var 0) em_int (fun _ _ => rfl)) (em_ix (em_var 1) em_int (fun _ _ => rfl))) am_nil)))))
theorem df_ratio_plus_2 (T : TX fa fn xf K mg) : Df P w K mg base 3 (He.ga K "ratio_plus") 2 0 [] F_ratio_plus := by
  obtain ⟨fd, F, OK⟩ := fk_ratio_plus T
  exact ⟨⟨fd, ["one", "other"], [], [], rfl, OK, F.bindsN (fun _ _ _ _ _ _ us hl => match us, hl with | [_, _], _ => rfl), .nil, fun _ _ => RL.nil⟩, F.kp⟩
theorem fk_is_ratio (T : TX fa fn xf K mg) : ∃ fd, FunD K "is_ratio" "is_ratio" (defArgs s_is_ratio) (defBody s_is_ratio) (defScope s_is_ratio) [] [] (He.ga K "is_ratio") fd ∧ FnK P w K mg base 3 (He.ga K "is_ratio") fd ["thing"] F_is_ratio := by
  obtain ⟨fd, F⟩ := T.c.1.def_ 19 (d := d_is_ratio) rfl
  refine ⟨fd, F, fn_ok (N := N_is_ratio) (m := m_is_ratio) F sc_is_ratio fun cdv A outer s H E hr => ?_⟩
  exact (sm_cons (st_if (tm_w (wm_or (tm_not (tm_tru (em_B call_isi (sc_isi "tuple") rfl (T.free 1) (by decide +kernel) (am_cons (em_var 0) (am_cons (em_ty rfl (T.free 7) (by decide +kernel)) am_nil))))) (wm_or1 (tm_cmp (op_neD (hr.units)) sr_ne (em_B call_len_seq sc_len rfl (T.free 3) (by decide +kernel) (am_cons (em_var 0) am_nil)) em_int)))) (sm_one (st_ret em_bl)) sm_nil)
      (sm_cons (st_if (tm_w (wm_or (tm_not (tm_tru (em_call (df_is_whole_1 T) (hr.mono (by decide)) (T.glo 12) (am_cons (em_ix (em_var 0) em_int (fun _ _ => rfl)) am_nil)))) (wm_or1 (tm_not (tm_tru (em_call (df_is_whole_2 T) (hr.mono (by decide)) (T.glo 12) (am_cons (em_ix (em_var 0) em_int (fun _ _ => rfl)) (am_cons em_int am_nil)))))))) (sm_one (st_ret em_bl)) sm_nil)
      (sm_one (st_ret (em_cmp (op_eqD (hr.units)) sr_eq (em_Bf cr_gcd sc_gcd rfl (T.blt 0) (am_cons (em_ix (em_var 0) em_int (fun _ _ => rfl)) (am_cons (em_ix (em_var 0) em_int (fun _ _ => rfl)) am_nil))) em_int)))))
theorem df_is_ratio_1 (T : TX fa fn xf K mg) : Df P w K mg base 3 (He.ga K "is_ratio") 1 0 [] F_is_ratio := by
  obtain ⟨fd, F, OK⟩ := fk_is_ratio T
  exact ⟨⟨fd, ["thing"], [], [], rfl, OK, F.bindsN (fun _ _ _ _ _ _ us hl => match us, hl with | [_], _ => rfl), .nil, fun _ _ => RL.nil⟩, F.kp⟩
theorem fk_greatest_ratio (T : TX fa fn xf K mg) : ∃ fd, FunD K "greatest_ratio" "greatest_ratio" (defArgs s_greatest_ratio) (defBody s_greatest_ratio) (defScope s_greatest_ratio) [] [] (He.ga K "greatest_ratio") fd ∧ FnK P w K mg base 3 (He.ga K "greatest_ratio") fd ["things"] F_greatest_ratio := by
  obtain ⟨fd, F⟩ := T.c.1.def_ 20 (d := d_greatest_ratio) rfl
  refine ⟨fd, F, fn_ok (N := N_greatest_ratio) (m := m_greatest_ratio) F sc_greatest_ratio fun cdv A outer s H E hr => ?_⟩
  exact (sm_cons (st_set 1 sc_greatest_ratio.nd (em_ix (em_var 0) em_int (fun _ _ => rfl)))
      (sm_cons (st_for PassesOwn.never rfl (im_seq (em_var 0)) (gm_nm 2 sc_greatest_ratio.nd) (sm_one (st_if (tm_cmp op_gt sr_cmp (em_call (df_compare_ratios_2 T) (hr.mono (by decide)) (T.glo 13) (am_cons (em_var 2) (am_cons (em_var 1) am_nil))) em_int) (sm_one (st_set 1 sc_greatest_ratio.nd (em_var 2))) sm_nil)))
      (sm_one (st_ret (em_var 1)))))
theorem df_greatest_ratio_1 (T : TX fa fn xf K mg) : Df P w K mg base 3 (He.ga K "greatest_ratio") 1 0 [] F_greatest_ratio := by
  obtain ⟨fd, F, OK⟩ := fk_greatest_ratio T
  exact ⟨⟨fd, ["things"], [], [], rfl, OK, F.bindsN (fun _ _ _ _ _ _ us hl => match us, hl with | [_], _ => rfl), .nil, fun _ _ => RL.nil⟩, F.kp⟩
theorem fk_least_ratio (T : TX fa fn xf K mg) : ∃ fd, FunD K "least_ratio" "least_ratio" (defArgs s_least_ratio) (defBody s_least_ratio) (defScope s_least_ratio) [] [] (He.ga K "least_ratio") fd ∧ FnK P w K mg base 3 (He.ga K "least_ratio") fd ["things"] F_least_ratio := by
  obtain ⟨fd, F⟩ := T.c.1.def_ 21 (d := d_least_ratio) rfl
  refine ⟨fd, F, fn_ok (N := N_least_ratio) (m := m_least_ratio) F sc_least_ratio fun cdv A outer s H E hr => ?_⟩
  exact (sm_cons (st_set 1 sc_least_ratio.nd (em_ix (em_var 0) em_int (fun _ _ => rfl)))
      (sm_cons (st_for PassesOwn.never rfl (im_seq (em_var 0)) (gm_nm 2 sc_least_ratio.nd) (sm_one (st_if (tm_cmp op_lt sr_cmp (em_call (df_compare_ratios_2 T) (hr.mono (by decide)) (T.glo 13) (am_cons (em_var 2) (am_cons (em_var 1) am_nil))) em_int) (sm_one (st_set 1 sc_least_ratio.nd (em_var 2))) sm_nil)))
      (sm_one (st_ret (em_var 1)))))
theorem df_least_ratio_1 (T : TX fa fn xf K mg) : Df P w K mg base 3 (He.ga K "least_ratio") 1 0 [] F_least_ratio := by
  obtain ⟨fd, F, OK⟩ := fk_least_ratio T
  exact ⟨⟨fd, ["things"], [], [], rfl, OK, F.bindsN (fun _ _ _ _ _ _ us hl => match us, hl with | [_], _ => rfl), .nil, fun _ _ => RL.nil⟩, F.kp⟩
theorem fk__law_wide (T : TX fa fn xf K mg) : ∃ fd, FunD K "_law_wide" "_law_wide" (defArgs s__law_wide) (defBody s__law_wide) (defScope s__law_wide) [] [] (He.ga K "_law_wide") fd ∧ FnK P w K mg base 3 (He.ga K "_law_wide") fd ["bag"] F__law_wide := by
  obtain ⟨fd, F⟩ := T.c.1.def_ 22 (d := d__law_wide) rfl
  refine ⟨fd, F, fn_ok (N := N__law_wide) (m := m__law_wide) F sc__law_wide fun cdv A outer s H E hr => ?_⟩
  exact (sm_cons (st_set 1 sc__law_wide.nd (em_call (df__law_draw_2 T) (hr.mono (by decide)) (T.glo 14) (am_cons (em_var 0) (am_cons em_int am_nil))))
      (sm_cons (st_if (tm_cmp (op_eqD (hr.units)) sr_eq (em_var 1) em_int) (sm_one (st_set 2 sc__law_wide.nd (em_call (df__law_draw_2 T) (hr.mono (by decide)) (T.glo 14) (am_cons (em_var 0) (am_cons (em_op op_pow sr_pow em_int em_int) am_nil))))) (sm_one (st_if (tm_cmp (op_eqD (hr.units)) sr_eq (em_var 1) em_int) (sm_one (st_set 2 sc__law_wide.nd (em_call (df__law_draw_2 T) (hr.mono (by decide)) (T.glo 14) (am_cons (em_var 0) (am_cons (em_op op_pow sr_pow em_int em_int) am_nil))))) (sm_one (st_set 2 sc__law_wide.nd (em_call (df__law_draw_2 T) (hr.mono (by decide)) (T.glo 14) (am_cons (em_var 0) (am_cons em_int am_nil))))))))
      (sm_cons (st_if (tm_cmp (op_eqD (hr.units)) sr_eq (em_call (df__law_draw_2 T) (hr.mono (by decide)) (T.glo 14) (am_cons (em_var 0) (am_cons em_int am_nil))) em_int) (sm_one (st_set 2 sc__law_wide.nd (em_op op_sub sr_sub em_int (em_var 2)))) sm_nil)
      (sm_one (st_ret (em_var 2))))))
theorem df__law_wide_1 (T : TX fa fn xf K mg) : Df P w K mg base 3 (He.ga K "_law_wide") 1 0 [] F__law_wide := by
  obtain ⟨fd, F, OK⟩ := fk__law_wide T
  exact ⟨⟨fd, ["bag"], [], [], rfl, OK, F.bindsN (fun _ _ _ _ _ _ us hl => match us, hl with | [_], _ => rfl), .nil, fun _ _ => RL.nil⟩, F.kp⟩
theorem fk_Field___init__ (T : TX fa fn xf K mg) : ∃ fd, FunD K "__init__" "Field.__init__" (defArgs s_Field___init__) (defBody s_Field___init__) (defScope s_Field___init__) [.non] [] (He.ma K (He.ga K "Field") "__init__") fd ∧ FnK P w K mg base 3 (He.ma K (He.ga K "Field") "__init__") fd ["self", "prime"] F_Field___init__ := by
  obtain ⟨fd, F⟩ := T.c.1.def_ 23 (d := d_Field___init__) rfl
  refine ⟨fd, F, fn_ok (N := N_Field___init__) (m := m_Field___init__) F sc_Field___init__ fun cdv A outer s H E hr => ?_⟩
  exact (sm_cons (st_if (tm_cmp op_isNotX sr_isNot (em_var 1) em_non) (sm_one (st_if (tm_w (wm_or (tm_not (tm_tru (em_call (df_is_whole_3 T) (hr.mono (by decide)) (T.glo 12) (am_cons (em_var 1) (am_cons em_int (am_cons em_int am_nil)))))) (wm_or1 (tm_not (tm_tru (em_call (df_is_prime_1 T) (hr.mono (by decide)) (T.glo 15) (am_cons (em_var 1) am_nil))))))) (sm_one st_never) sm_nil)) sm_nil)
      (sm_one (st_setAt (all1 (T.ca 9 10)) (em_var 0) (em_var 1))))
theorem df_Field___init___1 (T : TX fa fn xf K mg) : Df P w K mg base 3 (He.ma K (He.ga K "Field") "__init__") 2 1 [.non] F_Field___init__ := by
  obtain ⟨fd, F, OK⟩ := fk_Field___init__ T
  obtain ⟨ds, hv, hb⟩ := F.binds1 (ps := ["self", "prime"]) 1 0 (List.cons_ne_nil _ _) rfl (fun T kV doc pm an cdv ct us its hl hl2 => match us, its, hl, hl2 with | [_], [_], _, _ => ⟨_, rfl, rfl⟩)
  exact ⟨⟨fd, ["self", "prime"], _, ds, rfl, OK, hb, hv, fun _ _ => (RL.cons (x := .non) rfl RL.nil)⟩, F.kp⟩
theorem df_Field___init___2 (T : TX fa fn xf K mg) : Df P w K mg base 3 (He.ma K (He.ga K "Field") "__init__") 2 0 [] F_Field___init__ := by
  obtain ⟨fd, F, OK⟩ := fk_Field___init__ T
  obtain ⟨ds, hv, hb⟩ := F.binds1 (ps := ["self", "prime"]) 2 1 (List.cons_ne_nil _ _) rfl (fun T kV doc pm an cdv ct us its hl hl2 => match us, its, hl, hl2 with | [_, _], [_], _, _ => ⟨_, rfl, rfl⟩)
  exact ⟨⟨fd, ["self", "prime"], _, ds, rfl, OK, hb, hv, fun _ _ => RL.nil⟩, F.kp⟩
theorem fk__law_over (T : TX fa fn xf K mg) : ∃ fd, FunD K "_law_over" "_law_over" (defArgs s__law_over) (defBody s__law_over) (defScope s__law_over) [] [] (He.ga K "_law_over") fd ∧ FnK P w K mg base 4 (He.ga K "_law_over") fd ["p", "one", "other"] F__law_over := by
  obtain ⟨fd, F⟩ := T.c.1.def_ 24 (d := d__law_over) rfl
  refine ⟨fd, F, fn_ok (N := N__law_over) (m := m__law_over) F sc__law_over fun cdv A outer s H E hr => ?_⟩
  exact (sm_cons (st_if (tm_cmp op_gt sr_cmp (em_var 0) em_int) (sm_one (st_ret (em_call (df__law_make_3 T) (hr.mono (by decide)) (T.glo 16) (am_cons (em_var 0) (am_cons (em_ix (em_var 1) em_int (fun _ _ => rfl)) (am_cons (em_ix (em_var 2) em_int (fun _ _ => rfl)) am_nil)))))) sm_nil)
      (sm_one (st_ret (em_call (df__law_make_3 T) (hr.mono (by decide)) (T.glo 16) (am_cons em_int (am_cons (em_op op_mulX' sr_mul (em_ix (em_var 1) em_int (fun _ _ => rfl)) (em_ix (em_var 2) em_int (fun _ _ => rfl))) (am_cons (em_op op_mulX' sr_mul (em_ix (em_var 1) em_int (fun _ _ => rfl)) (em_ix (em_var 2) em_int (fun _ _ => rfl))) am_nil)))))))
theorem df__law_over_3 (T : TX fa fn xf K mg) : Df P w K mg base 4 (He.ga K "_law_over") 3 0 [] F__law_over := by
  obtain ⟨fd, F, OK⟩ := fk__law_over T
  exact ⟨⟨fd, ["p", "one", "other"], [], [], rfl, OK, F.bindsN (fun _ _ _ _ _ _ us hl => match us, hl with | [_, _, _], _ => rfl), .nil, fun _ _ => RL.nil⟩, F.kp⟩
theorem fk_Field_over (T : TX fa fn xf K mg) : ∃ fd, FunD K "over" "Field.over" (defArgs s_Field_over) (defBody s_Field_over) (defScope s_Field_over) [] [] (He.ma K (He.ga K "Field") "over") fd ∧ FnK P w K mg base 4 (He.ma K (He.ga K "Field") "over") fd ["self", "one", "other"] F_Field_over := by
  obtain ⟨fd, F⟩ := T.c.1.def_ 25 (d := d_Field_over) rfl
  refine ⟨fd, F, fn_ok (N := N_Field_over) (m := m_Field_over) F sc_Field_over fun cdv A outer s H E hr => ?_⟩
  exact (sm_cons (st_if (tm_cmp op_isX sr_is (em_at (all1 (T.ca 9 10)) (em_var 0)) em_non) (sm_one (st_ret (em_call (df_ratio_over_2 T) (hr.mono (by decide)) (T.glo 18) (am_cons (em_var 1) (am_cons (em_var 2) am_nil))))) sm_nil)
      (sm_one (st_ret (em_tup (am_cons (em_op op_modN sr_mod (em_op op_mulX' sr_mul (em_ix (em_var 1) em_int (fun _ _ => rfl)) (em_call (df_inverse_rest_2 T) (hr.mono (by decide)) (T.glo 17) (am_cons (em_ix (em_var 2) em_int (fun _ _ => rfl)) (am_cons (em_at (all1 (T.ca 9 10)) (em_var 0)) am_nil)))) (em_at (all1 (T.ca 9 10)) (em_var 0))) (am_cons em_int am_nil))))))
theorem df_Field_over_3 (T : TX fa fn xf K mg) : Df P w K mg base 4 (He.ma K (He.ga K "Field") "over") 3 0 [] F_Field_over := by
  obtain ⟨fd, F, OK⟩ := fk_Field_over T
  exact ⟨⟨fd, ["self", "one", "other"], [], [], rfl, OK, F.bindsN (fun _ _ _ _ _ _ us hl => match us, hl with | [_, _, _], _ => rfl), .nil, fun _ _ => RL.nil⟩, F.kp⟩
theorem fk_Field_number (T : TX fa fn xf K mg) : ∃ fd, FunD K "number" "Field.number" (defArgs s_Field_number) (defBody s_Field_number) (defScope s_Field_number) [.int 1] [] (He.ma K (He.ga K "Field") "number") fd ∧ FnK P w K mg base 4 (He.ma K (He.ga K "Field") "number") fd ["self", "top", "bottom"] F_Field_number := by
  obtain ⟨fd, F⟩ := T.c.1.def_ 26 (d := d_Field_number) rfl
  refine ⟨fd, F, fn_ok (N := N_Field_number) (m := m_Field_number) F sc_Field_number fun cdv A outer s H E hr => ?_⟩
  exact (sm_cons (st_if (tm_cmp op_isX sr_is (em_at (all1 (T.ca 9 10)) (em_var 0)) em_non) (sm_one (st_ret (em_call (df_make_ratio_2 T) (hr.mono (by decide)) (T.glo 19) (am_cons (em_var 1) (am_cons (em_var 2) am_nil))))) sm_nil)
      (sm_cons (st_if (tm_not (tm_tru (em_call (df_is_whole_1 T) (hr.mono (by decide)) (T.glo 12) (am_cons (em_var 1) am_nil)))) (sm_one st_never) sm_nil)
      (sm_cons (st_if (tm_w (wm_or (tm_not (tm_tru (em_call (df_is_whole_1 T) (hr.mono (by decide)) (T.glo 12) (am_cons (em_var 2) am_nil)))) (wm_or1 (tm_cmp (op_eqD (hr.units)) sr_eq (em_op op_modN sr_mod (em_var 2) (em_at (all1 (T.ca 9 10)) (em_var 0))) em_int)))) (sm_one st_never) sm_nil)
      (sm_one (st_ret (em_tup (am_cons (em_op op_modN sr_mod (em_op op_mulX' sr_mul (em_var 1) (em_call (df_inverse_rest_2 T) (hr.mono (by decide)) (T.glo 17) (am_cons (em_op op_modN sr_mod (em_var 2) (em_at (all1 (T.ca 9 10)) (em_var 0))) (am_cons (em_at (all1 (T.ca 9 10)) (em_var 0)) am_nil)))) (em_at (all1 (T.ca 9 10)) (em_var 0))) (am_cons em_int am_nil))))))))
theorem df_Field_number_2 (T : TX fa fn xf K mg) : Df P w K mg base 4 (He.ma K (He.ga K "Field") "number") 3 1 [.int 1] F_Field_number := by
  obtain ⟨fd, F, OK⟩ := fk_Field_number T
  obtain ⟨ds, hv, hb⟩ := F.binds1 (ps := ["self", "top", "bottom"]) 2 0 (List.cons_ne_nil _ _) rfl (fun T kV doc pm an cdv ct us its hl hl2 => match us, its, hl, hl2 with | [_, _], [_], _, _ => ⟨_, rfl, rfl⟩)
  exact ⟨⟨fd, ["self", "top", "bottom"], _, ds, rfl, OK, hb, hv, fun _ _ => (RL.cons (x := .int 1) rfl RL.nil)⟩, F.kp⟩
theorem df_Field_number_3 (T : TX fa fn xf K mg) : Df P w K mg base 4 (He.ma K (He.ga K "Field") "number") 3 0 [] F_Field_number := by
  obtain ⟨fd, F, OK⟩ := fk_Field_number T
  obtain ⟨ds, hv, hb⟩ := F.binds1 (ps := ["self", "top", "bottom"]) 3 1 (List.cons_ne_nil _ _) rfl (fun T kV doc pm an cdv ct us its hl hl2 => match us, its, hl, hl2 with | [_, _, _], [_], _, _ => ⟨_, rfl, rfl⟩)
  exact ⟨⟨fd, ["self", "top", "bottom"], _, ds, rfl, OK, hb, hv, fun _ _ => RL.nil⟩, F.kp⟩
theorem fk__law_times (T : TX fa fn xf K mg) : ∃ fd, FunD K "_law_times" "_law_times" (defArgs s__law_times) (defBody s__law_times) (defScope s__law_times) [] [] (He.ga K "_law_times") fd ∧ FnK P w K mg base 4 (He.ga K "_law_times") fd ["p", "one", "other"] F__law_times := by
  obtain ⟨fd, F⟩ := T.c.1.def_ 27 (d := d__law_times) rfl
  refine ⟨fd, F, fn_ok (N := N__law_times) (m := m__law_times) F sc__law_times fun cdv A outer s H E hr => ?_⟩
  exact (sm_cons (st_if (tm_cmp op_gt sr_cmp (em_var 0) em_int) (sm_one (st_ret (em_tup (am_cons (em_op op_modN sr_mod (em_Ty call_int1 sc_int rfl (T.free 0) (by decide +kernel) (am_cons (em_op op_mulX' sr_mul (em_ix (em_var 1) em_int (fun _ _ => rfl)) (em_ix (em_var 2) em_int (fun _ _ => rfl))) am_nil)) (em_var 0)) (am_cons em_int am_nil))))) sm_nil)
      (sm_one (st_ret (em_call (df__law_make_3 T) (hr.mono (by decide)) (T.glo 16) (am_cons em_int (am_cons (em_op op_mulX' sr_mul (em_ix (em_var 1) em_int (fun _ _ => rfl)) (em_ix (em_var 2) em_int (fun _ _ => rfl))) (am_cons (em_op op_mulX' sr_mul (em_ix (em_var 1) em_int (fun _ _ => rfl)) (em_ix (em_var 2) em_int (fun _ _ => rfl))) am_nil)))))))
theorem df__law_times_3 (T : TX fa fn xf K mg) : Df P w K mg base 4 (He.ga K "_law_times") 3 0 [] F__law_times := by
  obtain ⟨fd, F, OK⟩ := fk__law_times T
  exact ⟨⟨fd, ["p", "one", "other"], [], [], rfl, OK, F.bindsN (fun _ _ _ _ _ _ us hl => match us, hl with | [_, _, _], _ => rfl), .nil, fun _ _ => RL.nil⟩, F.kp⟩
theorem fk__law_plus (T : TX fa fn xf K mg) : ∃ fd, FunD K "_law_plus" "_law_plus" (defArgs s__law_plus) (defBody s__law_plus) (defScope s__law_plus) [] [] (He.ga K "_law_plus") fd ∧ FnK P w K mg base 4 (He.ga K "_law_plus") fd ["p", "one", "other"] F__law_plus := by
  obtain ⟨fd, F⟩ := T.c.1.def_ 28 (d := d__law_plus) rfl
  refine ⟨fd, F, fn_ok (N := N__law_plus) (m := m__law_plus) F sc__law_plus fun cdv A outer s H E hr => ?_⟩
  exact (sm_cons (st_if (tm_cmp op_gt sr_cmp (em_var 0) em_int) (sm_one (st_ret (em_tup (am_cons (em_op op_modN sr_mod (em_Ty call_int1 sc_int rfl (T.free 0) (by decide +kernel) (am_cons (em_op op_addX sr_add (em_ix (em_var 1) em_int (fun _ _ => rfl)) (em_ix (em_var 2) em_int (fun _ _ => rfl))) am_nil)) (em_var 0)) (am_cons em_int am_nil))))) sm_nil)
      (sm_one (st_ret (em_call (df__law_make_3 T) (hr.mono (by decide)) (T.glo 16) (am_cons em_int (am_cons (em_op op_addX sr_add (em_op op_mulX' sr_mul (em_ix (em_var 1) em_int (fun _ _ => rfl)) (em_ix (em_var 2) em_int (fun _ _ => rfl))) (em_op op_mulX' sr_mul (em_ix (em_var 2) em_int (fun _ _ => rfl)) (em_ix (em_var 1) em_int (fun _ _ => rfl)))) (am_cons (em_op op_mulX' sr_mul (em_ix (em_var 1) em_int (fun _ _ => rfl)) (em_ix (em_var 2) em_int (fun _ _ => rfl))) am_nil)))))))
theorem df__law_plus_3 (T : TX fa fn xf K mg) : Df P w K mg base 4 (He.ga K "_law_plus") 3 0 [] F__law_plus := by
  obtain ⟨fd, F, OK⟩ := fk__law_plus T
  exact ⟨⟨fd, ["p", "one", "other"], [], [], rfl, OK, F.bindsN (fun _ _ _ _ _ _ us hl => match us, hl with | [_, _, _], _ => rfl), .nil, fun _ _ => RL.nil⟩, F.kp⟩
theorem fk_Field_times (T : TX fa fn xf K mg) : ∃ fd, FunD K "times" "Field.times" (defArgs s_Field_times) (defBody s_Field_times) (defScope s_Field_times) [] [] (He.ma K (He.ga K "Field") "times") fd ∧ FnK P w K mg base 4 (He.ma K (He.ga K "Field") "times") fd ["self", "one", "other"] F_Field_times := by
  obtain ⟨fd, F⟩ := T.c.1.def_ 29 (d := d_Field_times) rfl
  refine ⟨fd, F, fn_ok (N := N_Field_times) (m := m_Field_times) F sc_Field_times fun cdv A outer s H E hr => ?_⟩
  exact (sm_cons (st_if (tm_cmp op_isX sr_is (em_at (all1 (T.ca 9 10)) (em_var 0)) em_non) (sm_one (st_ret (em_call (df_ratio_times_2 T) (hr.mono (by decide)) (T.glo 20) (am_cons (em_var 1) (am_cons (em_var 2) am_nil))))) sm_nil)
      (sm_one (st_ret (em_tup (am_cons (em_op op_modN sr_mod (em_op op_mulX' sr_mul (em_ix (em_var 1) em_int (fun _ _ => rfl)) (em_ix (em_var 2) em_int (fun _ _ => rfl))) (em_at (all1 (T.ca 9 10)) (em_var 0))) (am_cons em_int am_nil))))))
theorem df_Field_times_3 (T : TX fa fn xf K mg) : Df P w K mg base 4 (He.ma K (He.ga K "Field") "times") 3 0 [] F_Field_times := by
  obtain ⟨fd, F, OK⟩ := fk_Field_times T
  exact ⟨⟨fd, ["self", "one", "other"], [], [], rfl, OK, F.bindsN (fun _ _ _ _ _ _ us hl => match us, hl with | [_, _, _], _ => rfl), .nil, fun _ _ => RL.nil⟩, F.kp⟩
theorem fk_Field_minus (T : TX fa fn xf K mg) : ∃ fd, FunD K "minus" "Field.minus" (defArgs s_Field_minus) (defBody s_Field_minus) (defScope s_Field_minus) [] [] (He.ma K (He.ga K "Field") "minus") fd ∧ FnK P w K mg base 4 (He.ma K (He.ga K "Field") "minus") fd ["self", "one", "other"] F_Field_minus := by
  obtain ⟨fd, F⟩ := T.c.1.def_ 30 (d := d_Field_minus) rfl
  refine ⟨fd, F, fn_ok (N := N_Field_minus) (m := m_Field_minus) F sc_Field_minus fun cdv A outer s H E hr => ?_⟩
  exact (sm_cons (st_if (tm_cmp op_isX sr_is (em_at (all1 (T.ca 9 10)) (em_var 0)) em_non) (sm_one (st_ret (em_call (df_ratio_minus_2 T) (hr.mono (by decide)) (T.glo 21) (am_cons (em_var 1) (am_cons (em_var 2) am_nil))))) sm_nil)
      (sm_one (st_ret (em_tup (am_cons (em_op op_modN sr_mod (em_op op_sub sr_sub (em_ix (em_var 1) em_int (fun _ _ => rfl)) (em_ix (em_var 2) em_int (fun _ _ => rfl))) (em_at (all1 (T.ca 9 10)) (em_var 0))) (am_cons em_int am_nil))))))
theorem df_Field_minus_3 (T : TX fa fn xf K mg) : Df P w K mg base 4 (He.ma K (He.ga K "Field") "minus") 3 0 [] F_Field_minus := by
  obtain ⟨fd, F, OK⟩ := fk_Field_minus T
  exact ⟨⟨fd, ["self", "one", "other"], [], [], rfl, OK, F.bindsN (fun _ _ _ _ _ _ us hl => match us, hl with | [_, _, _], _ => rfl), .nil, fun _ _ => RL.nil⟩, F.kp⟩
theorem fk_Field_plus (T : TX fa fn xf K mg) : ∃ fd, FunD K "plus" "Field.plus" (defArgs s_Field_plus) (defBody s_Field_plus) (defScope s_Field_plus) [] [] (He.ma K (He.ga K "Field") "plus") fd ∧ FnK P w K mg base 4 (He.ma K (He.ga K "Field") "plus") fd ["self", "one", "other"] F_Field_plus := by
  obtain ⟨fd, F⟩ := T.c.1.def_ 31 (d := d_Field_plus) rfl
  refine ⟨fd, F, fn_ok (N := N_Field_plus) (m := m_Field_plus) F sc_Field_plus fun cdv A outer s H E hr => ?_⟩
  exact (sm_cons (st_if (tm_cmp op_isX sr_is (em_at (all1 (T.ca 9 10)) (em_var 0)) em_non) (sm_one (st_ret (em_call (df_ratio_plus_2 T) (hr.mono (by decide)) (T.glo 22) (am_cons (em_var 1) (am_cons (em_var 2) am_nil))))) sm_nil)
      (sm_one (st_ret (em_tup (am_cons (em_op op_modN sr_mod (em_op op_addX sr_add (em_ix (em_var 1) em_int (fun _ _ => rfl)) (em_ix (em_var 2) em_int (fun _ _ => rfl))) (em_at (all1 (T.ca 9 10)) (em_var 0))) (am_cons em_int am_nil))))))
theorem df_Field_plus_3 (T : TX fa fn xf K mg) : Df P w K mg base 4 (He.ma K (He.ga K "Field") "plus") 3 0 [] F_Field_plus := by
  obtain ⟨fd, F, OK⟩ := fk_Field_plus T
  exact ⟨⟨fd, ["self", "one", "other"], [], [], rfl, OK, F.bindsN (fun _ _ _ _ _ _ us hl => match us, hl with | [_, _, _], _ => rfl), .nil, fun _ _ => RL.nil⟩, F.kp⟩
theorem fk_Field_holds (T : TX fa fn xf K mg) : ∃ fd, FunD K "holds" "Field.holds" (defArgs s_Field_holds) (defBody s_Field_holds) (defScope s_Field_holds) [] [] (He.ma K (He.ga K "Field") "holds") fd ∧ FnK P w K mg base 4 (He.ma K (He.ga K "Field") "holds") fd ["self", "thing"] F_Field_holds := by
  obtain ⟨fd, F⟩ := T.c.1.def_ 32 (d := d_Field_holds) rfl
  refine ⟨fd, F, fn_ok (N := N_Field_holds) (m := m_Field_holds) F sc_Field_holds fun cdv A outer s H E hr => ?_⟩
  exact (sm_cons (st_if (tm_cmp op_isX sr_is (em_at (all1 (T.ca 9 10)) (em_var 0)) em_non) (sm_one (st_ret (em_call (df_is_ratio_1 T) (hr.mono (by decide)) (T.glo 23) (am_cons (em_var 1) am_nil)))) sm_nil)
      (sm_cons (st_if (tm_w (wm_or (tm_not (tm_tru (em_B call_isi (sc_isi "tuple") rfl (T.free 1) (by decide +kernel) (am_cons (em_var 1) (am_cons (em_ty rfl (T.free 7) (by decide +kernel)) am_nil))))) (wm_or1 (tm_cmp (op_neD (hr.units)) sr_ne (em_B call_len_seq sc_len rfl (T.free 3) (by decide +kernel) (am_cons (em_var 1) am_nil)) em_int)))) (sm_one (st_ret em_bl)) sm_nil)
      (sm_one (st_ret (em_and (em_call (df_is_whole_3 T) (hr.mono (by decide)) (T.glo 12) (am_cons (em_ix (em_var 1) em_int (fun _ _ => rfl)) (am_cons em_int (am_cons (em_op op_sub sr_sub (em_at (all1 (T.ca 9 10)) (em_var 0)) em_int) am_nil)))) (em_one (em_call (df_is_whole_3 T) (hr.mono (by decide)) (T.glo 12) (am_cons (em_ix (em_var 1) em_int (fun _ _ => rfl)) (am_cons em_int (am_cons em_int am_nil))))))))))
theorem df_Field_holds_2 (T : TX fa fn xf K mg) : Df P w K mg base 4 (He.ma K (He.ga K "Field") "holds") 2 0 [] F_Field_holds := by
  obtain ⟨fd, F, OK⟩ := fk_Field_holds T
  exact ⟨⟨fd, ["self", "thing"], [], [], rfl, OK, F.bindsN (fun _ _ _ _ _ _ us hl => match us, hl with | [_, _], _ => rfl), .nil, fun _ _ => RL.nil⟩, F.kp⟩
theorem fk__law_minus (T : TX fa fn xf K mg) : ∃ fd, FunD K "_law_minus" "_law_minus" (defArgs s__law_minus) (defBody s__law_minus) (defScope s__law_minus) [] [] (He.ga K "_law_minus") fd ∧ FnK P w K mg base 5 (He.ga K "_law_minus") fd ["p", "one", "other"] F__law_minus := by
  obtain ⟨fd, F⟩ := T.c.1.def_ 33 (d := d__law_minus) rfl
  refine ⟨fd, F, fn_ok (N := N__law_minus) (m := m__law_minus) F sc__law_minus fun cdv A outer s H E hr => ?_⟩
  exact (sm_one (st_ret (em_call (df__law_plus_3 T) (hr.mono (by decide)) (T.glo 25) (am_cons (em_var 0) (am_cons (em_var 1) (am_cons (em_call (df__law_times_3 T) (hr.mono (by decide)) (T.glo 24) (am_cons (em_var 0) (am_cons (em_call (df__law_make_3 T) (hr.mono (by decide)) (T.glo 16) (am_cons (em_var 0) (am_cons (em_op op_sub sr_sub em_int em_int) (am_cons em_int am_nil)))) (am_cons (em_var 2) am_nil)))) am_nil))))))
theorem df__law_minus_3 (T : TX fa fn xf K mg) : Df P w K mg base 5 (He.ga K "_law_minus") 3 0 [] F__law_minus := by
  obtain ⟨fd, F, OK⟩ := fk__law_minus T
  exact ⟨⟨fd, ["p", "one", "other"], [], [], rfl, OK, F.bindsN (fun _ _ _ _ _ _ us hl => match us, hl with | [_, _, _], _ => rfl), .nil, fun _ _ => RL.nil⟩, F.kp⟩
theorem fk__law_ratios_right (T : TX fa fn xf K mg) : ∃ fd, FunD K "_law_ratios_right" "_law_ratios_right" (defArgs s__law_ratios_right) (defBody s__law_ratios_right) (defScope s__law_ratios_right) [] [] (He.ga K "_law_ratios_right") fd ∧ FnK P w K mg base 6 (He.ga K "_law_ratios_right") fd ["numbers"] F__law_ratios_right := by
  obtain ⟨fd, F⟩ := T.c.1.def_ 34 (d := d__law_ratios_right) rfl
  refine ⟨fd, F, fn_ok (N := N__law_ratios_right) (m := m__law_ratios_right) F sc__law_ratios_right fun cdv A outer s H E hr => ?_⟩
  exact (sm_cons (st_for PassesOwn.never rfl (im_seq (em_var 0)) (gm_nm 1 sc__law_ratios_right.nd) (sm_cons (st_set 2 sc__law_ratios_right.nd (em_lstC (am_cons (em_call (df_ratio_negative_1 T) (hr.mono (by decide)) (T.glo 11) (am_cons (em_var 1) am_nil)) (am_cons (em_call (df_ratio_size_1 T) (hr.mono (by decide)) (T.glo 34) (am_cons (em_var 1) am_nil)) (am_cons (em_call (df_make_ratio_2 T) (hr.mono (by decide)) (T.glo 19) (am_cons (em_ix (em_var 1) em_int (fun _ _ => rfl)) (am_cons (em_ix (em_var 1) em_int (fun _ _ => rfl)) am_nil))) am_nil)))))
      (sm_cons (st_set 3 sc__law_ratios_right.nd (em_lstC (am_cons (em_tup (am_cons (em_op op_sub sr_sub em_int (em_ix (em_var 1) em_int (fun _ _ => rfl))) (am_cons (em_ix (em_var 1) em_int (fun _ _ => rfl)) am_nil))) (am_cons (em_tup (am_cons (em_B call_abs sc_abs rfl (T.free 4) (by decide +kernel) (am_cons (em_ix (em_var 1) em_int (fun _ _ => rfl)) am_nil)) (am_cons (em_ix (em_var 1) em_int (fun _ _ => rfl)) am_nil))) (am_cons (em_var 1) am_nil)))))
      (sm_cons (st_for PassesOwn.never rfl (im_seq (em_var 0)) (gm_nm 4 sc__law_ratios_right.nd) (sm_cons (st_expr (em_extend (em_var 2) (em_lst (am_cons (em_call (df_ratio_plus_2 T) (hr.mono (by decide)) (T.glo 22) (am_cons (em_var 1) (am_cons (em_var 4) am_nil))) (am_cons (em_call (df_ratio_minus_2 T) (hr.mono (by decide)) (T.glo 21) (am_cons (em_var 1) (am_cons (em_var 4) am_nil))) (am_cons (em_call (df_ratio_times_2 T) (hr.mono (by decide)) (T.glo 20) (am_cons (em_var 1) (am_cons (em_var 4) am_nil))) am_nil))))))
      (sm_cons (st_expr (em_extend (em_var 3) (em_lst (am_cons (em_call (df__law_plus_3 T) (hr.mono (by decide)) (T.glo 25) (am_cons em_int (am_cons (em_var 1) (am_cons (em_var 4) am_nil)))) (am_cons (em_call (df__law_minus_3 T) (hr.mono (by decide)) (T.glo 33) (am_cons em_int (am_cons (em_var 1) (am_cons (em_var 4) am_nil)))) (am_cons (em_call (df__law_times_3 T) (hr.mono (by decide)) (T.glo 24) (am_cons em_int (am_cons (em_var 1) (am_cons (em_var 4) am_nil)))) am_nil))))))
      (sm_cons (st_if (tm_cmp (op_neD (hr.units)) sr_ne (em_ix (em_var 4) em_int (fun _ _ => rfl)) em_int) (sm_cons (st_expr (em_append (em_var 2) (em_call (df_ratio_over_2 T) (hr.mono (by decide)) (T.glo 18) (am_cons (em_var 1) (am_cons (em_var 4) am_nil)))))
      (sm_one (st_expr (em_append (em_var 3) (em_call (df__law_over_3 T) (hr.mono (by decide)) (T.glo 32) (am_cons em_int (am_cons (em_var 1) (am_cons (em_var 4) am_nil)))))))) sm_nil)
      (sm_cons (st_set 5 sc__law_ratios_right.nd (em_call (df_compare_ratios_2 T) (hr.mono (by decide)) (T.glo 13) (am_cons (em_var 1) (am_cons (em_var 4) am_nil))))
      (sm_one (st_if (tm_w (wm_or (tm_not (tm_tru (em_B call_isi (sc_isi "int") rfl (T.free 1) (by decide +kernel) (am_cons (em_var 5) (am_cons (em_ty rfl (T.free 0) (by decide +kernel)) am_nil))))) (wm_or (tm_tru (em_B call_isi (sc_isi "bool") rfl (T.free 1) (by decide +kernel) (am_cons (em_var 5) (am_cons (em_ty rfl (T.free 2) (by decide +kernel)) am_nil)))) (wm_or1 (tm_cmp (op_neD (hr.units)) sr_ne (em_var 5) (em_call (df__law_order_2 T) (hr.mono (by decide)) (T.glo 26) (am_cons (em_var 1) (am_cons (em_var 4) am_nil)))))))) (sm_one (st_ret em_bl)) sm_nil)))))))
      (sm_frz 2 (sm_one (st_if (tm_w (wm_or (tm_not (tm_tru (em_B (cr_all rfl) sc_all rfl (T.free 31) (by decide +kernel) (am_cons (em_lc (own := [("part", 8)]) rfl sc__law_ratios_right.nd (blkOk_by (N := N__law_ratios_right) (sc := defScope s__law_ratios_right) (by decide +kernel)) (im_seq (em_var 2)) (fun _ _ _ _ _ => (go_nm 8 sc__law_ratios_right.nd)) (fun _ _ _ _ _ => tsm_nil) (fun _ _ _ _ _ => (em_call (df__law_is_number_2 T) (hr.mono (by decide)) (T.glo 27) (am_cons em_int (am_cons (em_var 8) am_nil))))) am_nil)))) (wm_or1 (tm_cmp (op_neD (hr.units)) sr_ne (em_var 2) (em_var 3))))) (sm_one (st_ret em_bl)) sm_nil)))))))
      (sm_cons (st_set 6 sc__law_ratios_right.nd (em_call (df_least_ratio_1 T) (hr.mono (by decide)) (T.glo 30) (am_cons (em_Ty call_list_of sc_list rfl (T.free 29) (by decide +kernel) (am_cons (em_var 0) am_nil)) am_nil)))
      (sm_cons (st_set 7 sc__law_ratios_right.nd (em_call (df_greatest_ratio_1 T) (hr.mono (by decide)) (T.glo 28) (am_cons (em_Ty call_tuple_of sc_tuple rfl (T.free 7) (by decide +kernel) (am_cons (em_var 0) am_nil)) am_nil)))
      (sm_cons (st_if (tm_w (wm_or (tm_not (tm_tru (em_call (df__law_is_number_2 T) (hr.mono (by decide)) (T.glo 27) (am_cons em_int (am_cons (em_var 6) am_nil))))) (wm_or (tm_not (tm_tru (em_call (df__law_is_number_2 T) (hr.mono (by decide)) (T.glo 27) (am_cons em_int (am_cons (em_var 7) am_nil))))) (wm_or (tm_cmp (op_notInD (room65 hr)) sr_notIn (em_var 6) (em_var 0)) (wm_or1 (tm_cmp (op_notInD (room65 hr)) sr_notIn (em_var 7) (em_var 0))))))) (sm_one (st_ret em_bl)) sm_nil)
      (sm_one (st_ret (em_notT (em_lc (own := [("one", 1)]) rfl sc__law_ratios_right.nd (blkOk_by (N := N__law_ratios_right) (sc := defScope s__law_ratios_right) (by decide +kernel)) (im_seq (em_var 0)) (fun _ _ _ _ _ => (go_nm 1 sc__law_ratios_right.nd)) (fun _ _ _ _ _ => (tsm_one (tm_w (wm_or (tm_cmp op_lt sr_cmp (em_call (df__law_order_2 T) (hr.mono (by decide)) (T.glo 26) (am_cons (em_var 1) (am_cons (em_var 6) am_nil))) em_int) (wm_or1 (tm_cmp op_gt sr_cmp (em_call (df__law_order_2 T) (hr.mono (by decide)) (T.glo 26) (am_cons (em_var 1) (am_cons (em_var 7) am_nil))) em_int)))))) (fun _ _ _ _ _ => (em_var 1))))))))))
theorem df__law_ratios_right_1 (T : TX fa fn xf K mg) : Df P w K mg base 6 (He.ga K "_law_ratios_right") 1 0 [] F__law_ratios_right := by
  obtain ⟨fd, F, OK⟩ := fk__law_ratios_right T
  exact ⟨⟨fd, ["numbers"], [], [], rfl, OK, F.bindsN (fun _ _ _ _ _ _ us hl => match us, hl with | [_], _ => rfl), .nil, fun _ _ => RL.nil⟩, F.kp⟩
theorem fk_law (T : TX fa fn xf K mg) : ∃ fd, FunD K "law" "law" (defArgs s_law) (defBody s_law) (defScope s_law) [] [] (He.ga K "law") fd ∧ FnOk P w K mg base CX0 7 (He.ga K "law") fd ["script"] (spM K 1 F_law) := by
  obtain ⟨fd, F⟩ := T.c.1.def_ 35 (d := d_law) rfl
  refine ⟨fd, F, fn_drop <| fn_ok (N := N_law) (m := m_law) F sc_law fun cdv A outer s H E hr => ?_⟩
  exact (sm_cons (st_set 1 sc_law.nd (em_call (df__law_bag_1 T) (hr.mono (by decide)) (T.glo 46) (am_cons (em_var 0) am_nil)))
      (sm_cons (st_set 2 sc_law.nd em_int)
      (sm_cons (st_if (tm_cmp op_gt sr_cmp (em_call (df__law_draw_2 T) (hr.mono (by decide)) (T.glo 14) (am_cons (em_var 1) (am_cons em_int am_nil))) em_int) (sm_one (st_set 2 sc_law.nd (em_ix (em_lst (am_cons em_int (am_cons em_int (am_cons em_int (am_cons em_int (am_cons em_int (am_cons em_int (am_cons em_int (am_cons em_int (am_cons em_int (am_cons em_int (am_cons em_int (am_cons em_int (am_cons em_int (am_cons em_int (am_cons em_int (am_cons em_int (am_cons em_int (am_cons em_int (am_cons em_int (am_cons em_int (am_cons em_int (am_cons em_int (am_cons em_int (am_cons em_int (am_cons em_int am_nil)))))))))))))))))))))))))) (em_call (df__law_draw_2 T) (hr.mono (by decide)) (T.glo 14) (am_cons (em_var 1) (am_cons em_int am_nil))) (fun _ _ => rfl)))) sm_nil)
      (sm_cons (st_set 3 sc_law.nd (em_ifx (tm_cmp (op_eqD (hr.units)) sr_eq (em_var 2) em_int) (em_make0 (df_Field___init___1 T) (hr.mono (by decide)) (T.mkr 44) (T.glo 45)) (em_make (df_Field___init___2 T) (hr.mono (by decide)) (T.mkr 44) (T.glo 45) (am_cons (em_var 2) am_nil))))
      (sm_cons (st_if (tm_w (wm_or (tm_cmp (op_neD (hr.units)) sr_ne (em_at (all1 (T.ca 9 10)) (em_var 3)) (em_ifx (tm_cmp (op_eqD (hr.units)) sr_eq (em_var 2) em_int) em_non (em_var 2))) (wm_or (tm_cmp (op_neD (hr.units)) sr_ne (em_glob (v := .ref _) (d := .tup [.int 0, .int 1]) (T.tup 1).1 rfl fun _ G => ⟨_, _, rfl, (T.tup 1).2 G, (RL.cons (x := .int 0) rfl (RL.cons (x := .int 1) rfl RL.nil))⟩) (em_tup (am_cons em_int (am_cons em_int am_nil)))) (wm_or1 (tm_cmp (op_neD (hr.units)) sr_ne (em_glob (v := .ref _) (d := .tup [.int 1, .int 1]) (T.tup 2).1 rfl fun _ G => ⟨_, _, rfl, (T.tup 2).2 G, (RL.cons (x := .int 1) rfl (RL.cons (x := .int 1) rfl RL.nil))⟩) (em_tup (am_cons em_int (am_cons em_int am_nil)))))))) (sm_one (st_ret em_bl)) sm_nil)
      (sm_cons (st_set 4 sc_law.nd (em_lstC am_nil))
      (sm_cons (st_for PassesOwn.never rfl (im_r1 (T.free 5) (am_cons em_int am_nil)) (gm_nm 5 sc_law.nd) (sm_cons (st_set 6 sc_law.nd (em_call (df__law_wide_1 T) (hr.mono (by decide)) (T.glo 43) (am_cons (em_var 1) am_nil)))
      (sm_cons (st_set 7 sc_law.nd (em_call (df__law_wide_1 T) (hr.mono (by decide)) (T.glo 43) (am_cons (em_var 1) am_nil)))
      (sm_cons (st_if (tm_w (wm_or (tm_w (wm_and (tm_cmp (op_eqD (hr.units)) sr_eq (em_var 2) em_int) (wm_and1 (tm_cmp (op_eqD (hr.units)) sr_eq (em_var 7) em_int)))) (wm_or1 (tm_w (wm_and (tm_cmp op_gt sr_cmp (em_var 2) em_int) (wm_and1 (tm_cmp (op_eqD (hr.units)) sr_eq (em_op op_modN sr_mod (em_Ty call_int1 sc_int rfl (T.free 0) (by decide +kernel) (am_cons (em_var 7) am_nil)) (em_var 2)) em_int))))))) (sm_one (st_set 7 sc_law.nd em_int)) sm_nil)
      (sm_cons (st_set 8 sc_law.nd (em_call (df__law_make_3 T) (hr.mono (by decide)) (T.glo 16) (am_cons (em_var 2) (am_cons (em_var 6) (am_cons (em_var 7) am_nil)))))
      (sm_cons (st_set 9 sc_law.nd (em_meth (df_Field_number_3 T) (hr.mono (by decide)) (T.cls 9) (T.meth 41) (em_var 3) (am_cons (em_var 6) (am_cons (em_var 7) am_nil))))
      (sm_cons (st_if (tm_w (wm_or (tm_not (tm_tru (em_call (df__law_is_number_2 T) (hr.mono (by decide)) (T.glo 27) (am_cons (em_var 2) (am_cons (em_var 9) am_nil))))) (wm_or (tm_cmp (op_neD (hr.units)) sr_ne (em_var 9) (em_var 8)) (wm_or1 (tm_cmp op_isNotX sr_isNot (em_meth (df_Field_holds_2 T) (hr.mono (by decide)) (T.cls 9) (T.meth 42) (em_var 3) (am_cons (em_var 9) am_nil)) em_bl))))) (sm_one (st_ret em_bl)) sm_nil)
      (sm_cons (st_if (tm_w (wm_and (tm_cmp (op_eqD (hr.units)) sr_eq (em_var 2) em_int) (wm_and1 (tm_w (wm_or (tm_cmp (op_neD (hr.units)) sr_ne (em_call (df_make_ratio_2 T) (hr.mono (by decide)) (T.glo 19) (am_cons (em_var 6) (am_cons (em_var 7) am_nil))) (em_var 8)) (wm_or1 (tm_cmp (op_neD (hr.units)) sr_ne (em_call (df_make_ratio_1 T) (hr.mono (by decide)) (T.glo 19) (am_cons (em_var 6) am_nil)) (em_call (df__law_make_3 T) (hr.mono (by decide)) (T.glo 16) (am_cons em_int (am_cons (em_var 6) (am_cons em_int am_nil))))))))))) (sm_one (st_ret em_bl)) sm_nil)
      (sm_cons (st_if (tm_w (wm_or (tm_not (tm_tru (em_call (df__law_is_number_2 T) (hr.mono (by decide)) (T.glo 27) (am_cons (em_var 2) (am_cons (em_meth (df_Field_number_2 T) (hr.mono (by decide)) (T.cls 9) (T.meth 41) (em_var 3) (am_cons (em_var 6) am_nil)) am_nil))))) (wm_or1 (tm_cmp (op_neD (hr.units)) sr_ne (em_meth (df_Field_number_2 T) (hr.mono (by decide)) (T.cls 9) (T.meth 41) (em_var 3) (am_cons (em_var 6) am_nil)) (em_call (df__law_make_3 T) (hr.mono (by decide)) (T.glo 16) (am_cons (em_var 2) (am_cons (em_var 6) (am_cons em_int am_nil)))))))) (sm_one (st_ret em_bl)) sm_nil)
      (sm_frz 8 (sm_one (st_expr (em_append (em_var 4) (em_var 8))))))))))))))
      (sm_frz 4 (sm_cons (st_for PassesOwn.never rfl (im_seq (em_var 4)) (gm_nm 10 sc_law.nd) (sm_cons (st_if (tm_w (wm_or (tm_not (tm_tru (em_call (df__law_is_number_2 T) (hr.mono (by decide)) (T.glo 27) (am_cons (em_var 2) (am_cons (em_meth (df_Field_negative_2 T) (hr.mono (by decide)) (T.cls 9) (T.meth 40) (em_var 3) (am_cons (em_var 10) am_nil)) am_nil))))) (wm_or1 (tm_cmp (op_neD (hr.units)) sr_ne (em_meth (df_Field_negative_2 T) (hr.mono (by decide)) (T.cls 9) (T.meth 40) (em_var 3) (am_cons (em_var 10) am_nil)) (em_call (df__law_minus_3 T) (hr.mono (by decide)) (T.glo 33) (am_cons (em_var 2) (am_cons (em_tup (am_cons em_int (am_cons em_int am_nil))) (am_cons (em_var 10) am_nil)))))))) (sm_one (st_ret em_bl)) sm_nil)
      (sm_frz 4 (sm_one (st_for PassesOwn.never rfl (im_seq (em_var 4)) (gm_nm 11 sc_law.nd) (sm_cons (st_set 12 sc_law.nd (em_lstC (am_cons (em_meth (df_Field_plus_3 T) (hr.mono (by decide)) (T.cls 9) (T.meth 39) (em_var 3) (am_cons (em_var 10) (am_cons (em_var 11) am_nil))) (am_cons (em_meth (df_Field_minus_3 T) (hr.mono (by decide)) (T.cls 9) (T.meth 38) (em_var 3) (am_cons (em_var 10) (am_cons (em_var 11) am_nil))) (am_cons (em_meth (df_Field_times_3 T) (hr.mono (by decide)) (T.cls 9) (T.meth 37) (em_var 3) (am_cons (em_var 10) (am_cons (em_var 11) am_nil))) am_nil)))))
      (sm_cons (st_set 8 sc_law.nd (em_lstC (am_cons (em_call (df__law_plus_3 T) (hr.mono (by decide)) (T.glo 25) (am_cons (em_var 2) (am_cons (em_var 10) (am_cons (em_var 11) am_nil)))) (am_cons (em_call (df__law_minus_3 T) (hr.mono (by decide)) (T.glo 33) (am_cons (em_var 2) (am_cons (em_var 10) (am_cons (em_var 11) am_nil)))) (am_cons (em_call (df__law_times_3 T) (hr.mono (by decide)) (T.glo 24) (am_cons (em_var 2) (am_cons (em_var 10) (am_cons (em_var 11) am_nil)))) am_nil)))))
      (sm_cons (st_if (tm_cmp (op_neD (hr.units)) sr_ne (em_ix (em_var 11) em_int (fun _ _ => rfl)) em_int) (sm_cons (st_expr (em_append (em_var 12) (em_meth (df_Field_over_3 T) (hr.mono (by decide)) (T.cls 9) (T.meth 36) (em_var 3) (am_cons (em_var 10) (am_cons (em_var 11) am_nil)))))
      (sm_one (st_expr (em_append (em_var 8) (em_call (df__law_over_3 T) (hr.mono (by decide)) (T.glo 32) (am_cons (em_var 2) (am_cons (em_var 10) (am_cons (em_var 11) am_nil)))))))) sm_nil)
      (sm_frz 12 (sm_one (st_if (tm_w (wm_or (tm_cmp (op_neD (hr.units)) sr_ne (em_var 12) (em_var 8)) (wm_or1 (tm_tru (em_lc (own := [("part", 13)]) rfl sc_law.nd (blkOk_by (N := N_law) (sc := defScope s_law) (by decide +kernel)) (im_seq (em_var 12)) (fun _ _ _ _ _ => (go_nm 13 sc_law.nd)) (fun _ _ _ _ _ => (tsm_one (tm_not (tm_tru (em_call (df__law_is_number_2 T) (hr.mono (by decide)) (T.glo 27) (am_cons (em_var 2) (am_cons (em_var 13) am_nil))))))) (fun _ _ _ _ _ => (em_var 13))))))) (sm_one (st_ret em_bl)) sm_nil)))))))))))
      (sm_frz 4 (sm_one (st_ret (em_or (em_cmp op_gt sr_cmp (em_var 2) em_int) (em_one (em_call (df__law_ratios_right_1 T) (hr.mono (by decide)) (T.glo 35) (am_cons (em_var 4) am_nil))))))))))))))))
end
end W

set_option maxRecDepth 100000
set_option maxHeartbeats 0
/-! printed by gen.py: the head and the end -/
namespace W
open PySem PySem.Spec L2 Mi
def names0 : List Str := ["_wall", "HelmError", "BadField", "BadNumber", "ZERO", "ONE", "is_whole", "is_ratio", "lowest", "make_ratio", "ratio_plus", "ratio_minus", "ratio_times", "ratio_over", "ratio_negative", "ratio_size", "compare_ratios", "least_ratio", "greatest_ratio", "is_prime", "inverse_rest", "Field", "_law_bag", "_law_draw", "_law_gcd", "_law_make", "_law_plus", "_law_times", "_law_minus", "_law_over"]
def names1 : List Str := ["_law_is_number", "_law_wide", "_law_order", "_law_ratios_right"]
def names : List Str := names0 ++ names1
abbrev R0 : PySem.W.OpenRow := PySem.W.OpenLaw.row PySem.Challenge.rw_untaughthelm_k00_numbers_of_every_field
abbrev hk : PySem.W.Hook := hookM 6 fa fn xf
def ob (s : PySem.W.SharedT) : AlM := obsM 6 fa fn xf (HandSHeadRun.getT s)
theorem ob_eq (s : PySem.W.SharedT) : ob s = hk.obs s.abs := obsM_eq (HandSHeadRun.getT_eq s)
theorem run (w : World) : HandSHeadRun.RunEqI R0 (PySem.W.view R0.prog [0, 39]) hk ob 6000 names w := by
  delta HandSHeadRun.RunEqI
  kernel_rfl
end W
open PySem PySem.W PySem.Calls PyProof.Rows
theorem W.ends (hl : ∀ ns : List Int, ns.length ≤ 63 → ∃ z, W.F_law [Mi.AV.lstR (ns.map Mi.AV.int)] [] = .ok (.bl true) z) : PySem.Challenge.rw_untaughthelm_k00_numbers_of_every_field.Holds := by
  w_on; o_law
  refine HandSHeadRun.head_imp (r := OpenLaw.row PySem.Challenge.rw_untaughthelm_k00_numbers_of_every_field) (q := view (OpenLaw.row PySem.Challenge.rw_untaughthelm_k00_numbers_of_every_field).prog [0, 39]) (H := W.hk) (ob := W.ob) (M := 6000) (loose := W.names) (d := HandSHeadRun.topDef (OpenLaw.row PySem.Challenge.rw_untaughthelm_k00_numbers_of_every_field).prog 39) (kwd := []) W.ob_eq
     W.run (by kernel_rfl) (by kernel_rfl) (by kernel_rfl) (by rfl) (by first | assumption | decide +kernel) (by decide +kernel) ⟨rfl, rfl, rfl, rfl, rfl, by decide +kernel⟩ ?hw ?hc
  case hw => w_witness2
  case hc =>
    refine L2.walk_ofE (l := PySem.Challenge.rw_untaughthelm_k00_numbers_of_every_field) (n := 63) (k := 7) (x := "script") (CX := L2.CX0) rfl (by decide) (by kernel_rfl) ⟨rfl, by decide, by decide⟩ ?F (fun _ _ _ _ z => z)
    intro w mg fa h Y G hmg0
    obtain ⟨K, KX, c⟩ := Y
    have hmg : mg ("law" : PySem.Str) = some (.ref fa) := by
      have e : (HandSHeadRun.topDef (OpenLaw.row PySem.Challenge.rw_untaughthelm_k00_numbers_of_every_field).prog 39).name = ("law" : PySem.Str) := by kernel_rfl
      rw [← e]
      exact hmg0
    have T : Mi.TX W.fa W.fn W.xf K mg := ⟨c, h, KX, G⟩
    have e := hmg.symm.trans (T.glo 47)
    cases e
    obtain ⟨fd, F, _⟩ := W.fk_law (P := (PySem.Challenge.rw_untaughthelm_k00_numbers_of_every_field).prog) (w := w) (base := h) T
    have b := L2.FunD.bindsA (ps := ["script"]) F fun _ _ _ _ _ _ us hl => match us, hl with | [_], _ => rfl
    refine ⟨K, fd, _, KX, fun s v => b s [v] rfl, fun H a ns hn _ hS => Mi.law_sp hS (hl ns hn), fun base _ _ => ?_⟩
    obtain ⟨fd2, F2, OK⟩ := W.fk_law (P := (PySem.Challenge.rw_untaughthelm_k00_numbers_of_every_field).prog) (w := w) (base := base) T
    have : fd2 = fd := Mi.fd_one F2 F
    rw [← this]
    exact OK

theorem PySem.Challenge.cw_untaughthelm_k00_numbers_of_every_field_holds : PySem.Challenge.rw_untaughthelm_k00_numbers_of_every_field.Holds :=
  W.ends W.law_ev
